import PyProof.Rows.All
import Wide.All
import OpenK.AllK
import Wide.FinOn
import PySem.Str
import HandS.ForMost
import HandS.Wide
import HandS.IsInst
import HandS.ForExc
import HandS.CallSlots
import HandS.Style
import HandS.Flow
import HandS.List
import KE.KRevSl
import PyProof.Rows.SeqMore
import HandS.New0
import HandS.Defaults
import PySem.Challenge.RW_termwide_k55_whole_manners_and_neighbour
set_option Elab.async false
set_option linter.all false
set_option maxRecDepth 100000
set_option maxHeartbeats 4000000
/-! DwA: data, slots, and what a piece of Python wants of them: transformers over data, no heap in sight. -/
namespace DW
open PySem

/-- data: what a value is worth, lists as they stand -/
inductive D where
  | non | bl (b : Bool) | int (i : Int) | str (s : Str) | tup (xs : List D) | lst (xs : List D) | obj (c : Str)
  deriving Inhabited

/-- what a slot holds: data that stands still; a list of the body's own; a list that the caller lent -/
inductive DV where
  | val (d : D) | own (xs : List D) | par (xs : List D)

abbrev DS := List (Option DV)
structure DX where
  cls : Nat
  fs : List (Str × D)
abbrev XKd := DX → DS → Prop
inductive Out where
  | ret (r : DV) | exc (x : DX)
/-- a def's promise over data -/
abbrev FS := List DV → (Out → List DV → Prop) → Prop

abbrev WE := XKd → DS → (D → DS → Prop) → Prop
abbrev WO := XKd → DS → (List D → DS → Prop) → Prop
abbrev WT := XKd → DS → (Bool → DS → Prop) → Prop
structure Post where
  nx : DS → Prop
  rt : DV → DS → Prop
  bk : DS → Prop
  ct : DS → Prop
  x : XKd
abbrev WS := DS → Post → Prop

def gt : DS → Nat → Option DV
  | [], _ => none
  | x :: _, 0 => x
  | _ :: r, i + 1 => gt r i
def st : DS → Nat → DV → DS
  | [], _, _ => []
  | _ :: r, 0, d => some d :: r
  | x :: r, i + 1, d => x :: st r i d
def er : DS → Nat → DS
  | [], _ => []
  | _ :: r, 0 => none :: r
  | x :: r, i + 1 => x :: er r i
def ers (ds : DS) : List Nat → DS
  | [] => ds
  | v :: vs => er (ers ds vs) v
/-- new items for what a slot holds -/
def fill1 (xs : List D) : Option DV → Option DV
  | some (.own _) => some (.own xs)
  | some (.par _) => some (.par xs)
  | o => o
/-- .. put back the own list at i -/
def refill : DS → Nat → List D → DS
  | [], _, _ => []
  | o :: r, 0, xs => fill1 xs o :: r
  | o :: r, i + 1, xs => o :: refill r i xs
def listAt (ds : DS) (i : Nat) : Option (List D) :=
  match gt ds i with
  | some (.own xs) => some xs
  | some (.par xs) => some xs
  | _ => none

/-! ### operations on data -/
def itemAt {α : Type} (xs : List α) (i : Int) : Option α := if 0 ≤ i then xs[i.toNat]? else if -(xs.length : Int) ≤ i then xs[(i + xs.length).toNat]? else none
def MulOk (i j : Int) : Prop := i.natAbs.log2 + j.natAbs.log2 < 1000000
def DivOk (j : Int) : Prop := j ≠ 0 ∧ j.natAbs.log2 < 9000
abbrev B2 := D → D → (D → Prop) → Prop
abbrev B1 := D → (D → Prop) → Prop
def dAdd : B2 | .int a, .int b, k => k (.int (a + b)) | _, _, _ => False
def dSub : B2 | .int a, .int b, k => k (.int (a - b)) | _, _, _ => False
def dMul : B2 | .int a, .int b, k => MulOk a b ∧ k (.int (a * b)) | _, _, _ => False
def dFdiv : B2 | .int a, .int b, k => DivOk b ∧ k (.int (a.fdiv b)) | _, _, _ => False
def dMod : B2 | .int a, .int b, k => b ≠ 0 ∧ k (.int (a.fmod b)) | _, _, _ => False
def dPow : B2 | .int a, .int b, k => (0 ≤ b ∧ b ≤ 1000000 ∧ a.natAbs < 2 ^ 64) ∧ k (.int (a ^ b.toNat)) | _, _, _ => False
def dNeg : B1 | .int a, k => k (.int (-a)) | _, _ => False
def dAbs : B1 | .int a, k => k (.int (if a < 0 then -a else a)) | _, _ => False
def dMin : B2 | .int a, .int b, k => k (.int (if b < a then b else a)) | _, _, _ => False
def dMax : B2 | .int a, .int b, k => k (.int (if b > a then b else a)) | _, _, _ => False
def dLt : B2 | .int a, .int b, k => k (.bl (decide (a < b))) | _, _, _ => False
def dLe : B2 | .int a, .int b, k => k (.bl (decide (a ≤ b))) | _, _, _ => False
def dGt : B2 | .int a, .int b, k => k (.bl (decide (b < a))) | _, _, _ => False
def dGe : B2 | .int a, .int b, k => k (.bl (decide (b ≤ a))) | _, _, _ => False
mutual
def deq : D → D → Bool
  | .non, .non => true
  | .bl a, .bl b => a == b
  | .bl a, .int j => (if a then 1 else 0) == j
  | .int i, .bl b => i == (if b then 1 else 0)
  | .int i, .int j => i == j
  | .str x, .str y => x == y
  | .lst xs, .lst ys => deqs xs ys
  | .tup xs, .tup ys => deqs xs ys
  | .obj _, .obj _ => true
  | _, _ => false
def deqs : List D → List D → Bool
  | [], [] => true
  | x :: xs, y :: ys => deq x y && deqs xs ys
  | _, _ => false
end
mutual
/-- how deep -/
def dep : D → Nat
  | .lst xs => deps xs + 1
  | .tup xs => deps xs + 1
  | .obj _ => 1
  | _ => 0
def deps : List D → Nat
  | [] => 0
  | x :: xs => max (dep x) (deps xs)
end
mutual
def shp : D → Bool
  | .str s => s.cps.all (· < 0x110000)
  | .lst xs => shps xs
  | .tup xs => shps xs
  | .obj _ => false
  | _ => true
def shps : List D → Bool
  | [] => true
  | x :: xs => shp x && shps xs
end
/-- what may be compared: signs as signs are, not too deep -/
def Shp (x : D) : Prop := shp x = true ∧ dep x ≤ 64
def dEq : B2 := fun x y k => (Shp x ∧ Shp y) ∧ k (.bl (deq x y))
def dNe : B2 := fun x y k => (Shp x ∧ Shp y) ∧ k (.bl (!deq x y))
def isNon : D → Bool | .non => true | _ => false
def dIsN : B1 := fun x k => k (.bl (isNon x))
def dNotN : B1 := fun x k => k (.bl (!isNon x))
def dIx : B2
  | .tup xs, .int i, k => match itemAt xs i with | some v => k v | none => False
  | .lst xs, .int i, k => match itemAt xs i with | some v => k v | none => False
  | _, _, _ => False
def dLen : B1
  | .tup xs, k => k (.int xs.length)
  | .lst xs, k => k (.int xs.length)
  | _, _ => False
/-- the built-in types that are asked for -/
inductive Ty where
  | int | bool | str | tuple | list | dict
def isTy : Ty → D → Bool
  | .int, .int _ => true
  | .int, .bl _ => true
  | .bool, .bl _ => true
  | .str, .str _ => true
  | .tuple, .tup _ => true
  | .list, .lst _ => true
  | _, _ => false
def dIsTy (t : Ty) : B1
  | .obj _, _ => False
  | x, k => k (.bl (isTy t x))
def dIsTys (ts : List Ty) : B1
  | .obj _, _ => False
  | x, k => k (.bl (ts.any fun t => isTy t x))
def boolsD : List D → Option (List Bool)
  | [] => some []
  | .bl b :: r => (boolsD r).map (b :: ·)
  | _ => none
def intsD : List D → Option (List Int)
  | [] => some []
  | .int b :: r => (intsD r).map (b :: ·)
  | _ => none
def dAll : B1 | .lst xs, k => (match boolsD xs with | some bs => k (.bl (bs.all id)) | none => False) | _, _ => False
def dAny : B1 | .lst xs, k => (match boolsD xs with | some bs => k (.bl (bs.any id)) | none => False) | _, _ => False
def dSum : B1 | .lst xs, k => (match intsD xs with | some ns => k (.int ns.sum) | none => False) | _, _ => False
def dInt : B1 | .int a, k => k (.int a) | .bl b, k => k (.int (if b then 1 else 0)) | _, _ => False

def items : D → Option (List D)
  | .lst xs => some xs
  | .tup xs => some xs
  | _ => none
/-- x in xs, not in: items that are no lists themselves -/
def flatD : D → Bool
  | .non => true
  | .bl _ => true
  | .int _ => true
  | .str _ => true
  | _ => false
def dIn : B2 := fun x y k => match items y with
  | some xs => (flatD x = true ∧ xs.all flatD = true) ∧ k (.bl (xs.any fun z => deq z x))
  | none => False
def dNin : B2 := fun x y k => match items y with
  | some xs => (flatD x = true ∧ xs.all flatD = true) ∧ k (.bl (!xs.any fun z => deq z x))
  | none => False

/-! ### expressions -/
def wC (d : D) : WE := fun _ ds k => k d ds
def wVar (i : Nat) : WE := fun _ ds k =>
  match gt ds i with
  | some (.val d) => k d ds
  | some (.own xs) => k (.lst xs) (st ds i (.val (.lst xs)))
  | _ => False
def wBin (f : B2) (a b : WE) : WE := fun x ds k => a x ds fun u ds1 => b x ds1 fun v ds2 => f u v fun z => k z ds2
def wUn (f : B1) (a : WE) : WE := fun x ds k => a x ds fun u ds1 => f u fun z => k z ds1
def wArgs : List WE → XKd → DS → (List D → DS → Prop) → Prop
  | [], _, ds, k => k [] ds
  | a :: r, x, ds, k => a x ds fun d ds1 => wArgs r x ds1 fun l ds2 => k (d :: l) ds2
def wTup (as : List WE) : WE := fun x ds k => wArgs as x ds fun l ds1 => k (.tup l) ds1
def wLst (as : List WE) : WO := fun x ds k => wArgs as x ds fun l ds1 => k l ds1
/-- an own list stands still from here on -/
def wFrz (o : WO) : WE := fun x ds k => o x ds fun xs ds1 => k (.lst xs) ds1
/-- an item of the own list in slot i -/
def wIxO (i : Nat) (b : WE) : WE := fun x ds k => (listAt ds i).isSome = true ∧ b x ds fun v ds1 =>
  match v, listAt ds1 i with
  | .int n, some xs => (match itemAt xs n with | some z => k z ds1 | none => False)
  | _, _ => False
def wLenO (i : Nat) : WE := fun _ ds k => match listAt ds i with | some xs => k (.int xs.length) ds | none => False
def wIf (t : WT) (a b : WE) : WE := fun x ds k => t x ds fun c ds1 => if c = true then a x ds1 k else b x ds1 k
def wAndV (a b : WE) : WE := fun x ds k => a x ds fun u ds1 => match u with | .bl c => (if c = true then b x ds1 k else k (.bl false) ds1) | _ => False
def wOrV (a b : WE) : WE := fun x ds k => a x ds fun u ds1 => match u with | .bl c => (if c = true then k (.bl true) ds1 else b x ds1 k) | _ => False
def wNotV (a : WE) : WE := fun x ds k => a x ds fun u ds1 => match u with | .bl c => k (.bl (!c)) ds1 | _ => False
/-! tests -/
def wTst (a : WE) : WT := fun x ds k => a x ds fun u ds1 => match u with | .bl c => k c ds1 | _ => False
def wAnd (a b : WT) : WT := fun x ds k => a x ds fun c ds1 => if c = true then b x ds1 k else k false ds1
def wOr (a b : WT) : WT := fun x ds k => a x ds fun c ds1 => if c = true then k true ds1 else b x ds1 k
def wNot (a : WT) : WT := fun x ds k => a x ds fun c ds1 => k (!c) ds1
def wYes : WT := fun _ ds k => k true ds
/-! calls -/
inductive DA where
  | v (e : WE) | s (i : Nat)
inductive AV where
  | v (d : D) | s (i : Nat)
def wCArgs : List DA → XKd → DS → (List AV → DS → Prop) → Prop
  | [], _, ds, k => k [] ds
  | .v a :: r, x, ds, k => a x ds fun d ds1 => wCArgs r x ds1 fun l ds2 => k (.v d :: l) ds2
  | .s i :: r, x, ds, k => (listAt ds i).isSome = true ∧ wCArgs r x ds fun l ds2 => k (.s i :: l) ds2
def argDv (ds : DS) : List AV → Option (List DV)
  | [] => some []
  | .v d :: r => (argDv ds r).map (.val d :: ·)
  | .s i :: r => match listAt ds i with | some xs => (argDv ds r).map (.par xs :: ·) | none => none
def backs : DS → List AV → List DV → DS
  | ds, .s i :: r, .par ys :: q => backs (refill ds i ys) r q
  | ds, _ :: r, _ :: q => backs ds r q
  | ds, _, _ => ds
def slotsOf : List AV → List Nat
  | [] => []
  | .v _ :: r => slotsOf r
  | .s i :: r => i :: slotsOf r
def wCallB (sp : FS) (as : List DA) (dvs : List D) : XKd → DS → (DV → DS → Prop) → Prop := fun x ds k => wCArgs as x ds fun avs ds1 =>
  match argDv ds1 avs with
  | some vs => (slotsOf avs).Nodup ∧ sp (vs ++ dvs.map .val) fun out vs' => match out with
    | .ret r => k r (backs ds1 avs vs')
    | .exc e => x e (backs ds1 avs vs')
  | none => False
/-- a call that hands back data | a list of the caller's own -/
def wCall (sp : FS) (as : List DA) (dvs : List D := []) : WE := fun x ds k => wCallB sp as dvs x ds fun r ds1 => match r with | .val d => k d ds1 | .own xs => k (.lst xs) ds1 | _ => False
def wCallO (sp : FS) (as : List DA) (dvs : List D := []) : WO := fun x ds k => wCallB sp as dvs x ds fun r ds1 => match r with | .own xs => k xs ds1 | _ => False
/-- parts of a list -/
def cutAt (n d : Nat) : Option Int → Nat
  | none => d
  | some i => if 0 ≤ i then min i.toNat n else (n + i).toNat
def cutD {α : Type} (xs : List α) (lo hi : Option Int) : List α := (xs.drop (cutAt xs.length 0 lo)).take (cutAt xs.length xs.length hi - cutAt xs.length 0 lo)
abbrev WPt := XKd → DS → (Option Int → DS → Prop) → Prop
def wNoP : WPt := fun _ ds k => k none ds
def wP (a : WE) : WPt := fun x ds k => a x ds fun u ds1 => match u with | .int i => k (some i) ds1 | _ => False
/-- xs[lo:hi] | xs[::-1] | xs[-2::-1] | xs + ys of lists that stand still -/
def wCut (a : WE) (lo hi : WPt) : WO := fun x ds k => a x ds fun u ds1 => lo x ds1 fun l ds2 => hi x ds2 fun h ds3 => match u with | .lst xs => k (cutD xs l h) ds3 | _ => False
def wRev (a : WE) : WO := fun x ds k => a x ds fun u ds1 => match u with | .lst xs => k xs.reverse ds1 | _ => False
def wRev2 (a : WE) : WO := fun x ds k => a x ds fun u ds1 => match u with | .lst xs => k xs.dropLast.reverse ds1 | _ => False
def wCat (a b : WE) : WO := fun x ds k => a x ds fun u ds1 => b x ds1 fun v ds2 => match u, v with | .lst xs, .lst ys => xs.length + ys.length ≤ 10000000 ∧ k (xs ++ ys) ds2 | _, _ => False
/-- a < b < c -/
def wChain (f g : B2) (a b c : WE) : WE := fun x ds k => a x ds fun u ds1 => b x ds1 fun v ds2 => f u v fun z => match z with
  | .bl t => if t = true then c x ds2 fun w ds3 => g v w fun y => k y ds3 else k (.bl false) ds2
  | _ => False
/-- f(a list made for it) -/
def wCallT (sp : FS) (o : WO) : WE := fun x ds k => o x ds fun xs ds1 => sp [.par xs] fun out _ => match out with
  | .ret (.val d) => k d ds1
  | .ret (.own ys) => k (.lst ys) ds1
  | .ret (.par _) => False
  | .exc e => x e ds1
/-- a call by place and by name: the values as they are written, the defaults, and where each parameter's one stands among them -/
def pick {α : Type} (ix : List Nat) (l : List α) : List α := ix.filterMap fun i => l[i]?
def wCallK (sp : FS) (as : List WE) (more : List D) (ix : List Nat) : WE := fun x ds k => wArgs as x ds fun l ds1 => sp ((pick ix (l ++ more)).map .val) fun out _ => match out with
  | .ret (.val d) => k d ds1
  | .ret (.own ys) => k (.lst ys) ds1
  | .ret (.par _) => False
  | .exc e => x e ds1
/-- C() of a class without fields | o.m(..), o such an instance: the class tells whose promise it is -/
def wNew0 (c : Str) : WE := fun _ ds k => k (.obj c) ds
def wMeth (sps : List (Str × FS)) (o : WE) (as : List WE) : WE := fun x ds k => o x ds fun u ds0 => match u with
  | .obj c => ∃ sp : FS, (c, sp) ∈ sps ∧ wArgs as x ds0 fun l ds1 => sp ((.obj c :: l).map .val) fun out _ => match out with
    | .ret (.val d) => k d ds1
    | .ret (.own ys) => k (.lst ys) ds1
    | .ret (.par _) => False
    | .exc e => x e ds1
  | _ => False
/-! targets -/
inductive Tg where
  | nm (i : Nat) | tp (ts : List Tg)
mutual
def tga : Tg → D → DS → (DS → Prop) → Prop
  | .nm i, d, ds, k => k (st ds i (.val d))
  | .tp ts, .tup xs, ds, k => tgas ts xs ds k
  | .tp _, _, _, _ => False
def tgas : List Tg → List D → DS → (DS → Prop) → Prop
  | [], [], ds, k => k ds
  | t :: ts, d :: r, ds, k => tga t d ds fun ds1 => tgas ts r ds1 k
  | _, _, _, _ => False
end
/-! comprehensions -/
/-- nothing may be raised -/
def nox : XKd := fun _ _ => False
/-- one comprehension, by what holds ahead of each turn: how far, what is made, the slots -/
def compI (g : Tg) (vs : List Nat) (t : WT) (e : WE) (x : XKd) (xs : List D) (ds : DS) (k : List D → DS → Prop) : Prop :=
  ∃ I : Nat → List D → DS → Prop, I 0 [] (ers ds vs) ∧ (∀ i d acc ds, xs[i]? = some d → I i acc ds → tga g d (ers ds vs) fun ds1 => t x ds1 fun b ds2 =>
    if b = true then e x ds2 fun v ds3 => acc.length < 10000000 ∧ I (i + 1) (acc ++ [v]) ds3 else I (i + 1) acc ds2) ∧ ∀ acc ds, I xs.length acc ds → k acc (ers ds vs)
/-- .. turn by turn -/
def compD (g : Tg) (vs : List Nat) (t : WT) (e : WE) (x : XKd) (k : List D → DS → Prop) : List D → List D → DS → Prop
  | [], acc, ds => k acc (ers ds vs)
  | d :: r, acc, ds => tga g d (ers ds vs) fun ds1 => t x ds1 fun b ds2 =>
    if b = true then e x ds2 fun v ds3 => acc.length < 10000000 ∧ compD g vs t e x k r (acc ++ [v]) ds3 else compD g vs t e x k r acc ds2
def wLc (src : WE) (g : Tg) (vs : List Nat) (t : WT) (e : WE) : WO := fun x ds k => src x ds fun u ds1 => match items u with | some xs => compI g vs t e nox xs ds1 k | none => False
def rangeD (lo hi : Int) : List D := (List.range (hi - lo).toNat).map fun i => .int (lo + (i : Nat))
def RngOk (lo hi : Int) : Prop := (-(2 ^ 62) ≤ lo ∧ lo < 2 ^ 62) ∧ (-(2 ^ 62) ≤ hi ∧ hi < 2 ^ 62)
/-- range(a), range(a, b) as what is walked -/
def wRng (as : List WE) : XKd → DS → (List D → DS → Prop) → Prop := fun x ds k => wArgs as x ds fun l ds1 => match l with
  | [.int n] => RngOk 0 n ∧ k (rangeD 0 n) ds1
  | [.int a, .int b] => RngOk a b ∧ k (rangeD a b) ds1
  | _ => False
def wLcR (as : List WE) (g : Tg) (vs : List Nat) (t : WT) (e : WE) : WO := fun x ds k => wRng as x ds fun xs ds1 => compI g vs t e nox xs ds1 k

/-! ### statements -/
def wSeq (a b : WS) : WS := fun ds P => a ds { P with nx := fun ds1 => b ds1 P }
def wNext : WS := fun ds P => P.nx ds
def wAsg (e : WE) (g : Tg) : WS := fun ds P => e P.x ds fun d ds1 => tga g d ds1 P.nx
def wAsgO (o : WO) (i : Nat) : WS := fun ds P => o P.x ds fun xs ds1 => P.nx (st ds1 i (.own xs))
/-- x, y = a, b -/
def wPar (i j : Nat) (a b : WE) : WS := fun ds P => a P.x ds fun u ds1 => b P.x ds1 fun v ds2 => P.nx (st (st ds2 i (.val u)) j (.val v))
/-- x, y = a, [..] -/
def wParO (i j : Nat) (a : WE) (o : WO) : WS := fun ds P => a P.x ds fun u ds1 => o P.x ds1 fun xs ds2 => P.nx (st (st ds2 i (.val u)) j (.own xs))
def wPar3 (i j l : Nat) (a b c : WE) : WS := fun ds P => a P.x ds fun u ds1 => b P.x ds1 fun v ds2 => c P.x ds2 fun w ds3 => P.nx (st (st (st ds3 i (.val u)) j (.val v)) l (.val w))
def wRet (e : WE) : WS := fun ds P => e P.x ds fun d ds1 => P.rt (.val d) ds1
def wRetN : WS := fun ds P => P.rt (.val .non) ds
def wRetO (o : WO) : WS := fun ds P => o P.x ds fun xs ds1 => P.rt (.own xs) ds1
def wRetS (i : Nat) : WS := fun ds P => match gt ds i with | some (.own xs) => P.rt (.own xs) (er ds i) | _ => False
def wIfS (t : WT) (a b : WS) : WS := fun ds P => t P.x ds fun c ds1 => if c = true then a ds1 P else b ds1 P
def wDrop (e : WE) : WS := fun ds P => e P.x ds fun _ ds1 => P.nx ds1
def wBrk : WS := fun ds P => P.bk ds
def wCont : WS := fun ds P => P.ct ds
def wNever : WS := fun _ _ => False
/-- purse[e] = v, the list in slot i -/
def wSet (i : Nat) (b v : WE) : WS := fun ds P => v P.x ds fun z ds1 => (listAt ds1 i).isSome = true ∧ b P.x ds1 fun n ds2 =>
  match n, listAt ds2 i with
  | .int n, some xs => (0 ≤ n ∧ n < xs.length) ∧ P.nx (refill ds2 i (xs.set n.toNat z))
  | _, _ => False
def wApp (i : Nat) (v : WE) : WS := fun ds P => (listAt ds i).isSome = true ∧ v P.x ds fun z ds1 =>
  match listAt ds1 i with
  | some xs => xs.length < 10000000 ∧ P.nx (refill ds1 i (xs ++ [z]))
  | none => False
def wAug (i : Nat) (f : B2) (e : WE) : WS := fun ds P => match gt ds i with
  | some (.val u) => e P.x ds fun v ds1 => f u v fun z => P.nx (st ds1 i (.val z))
  | _ => False
def wWhile (t : WT) (b : WS) : WS := fun ds P => ∃ I : Nat → DS → Prop, (∃ m, I m ds) ∧ ∀ m ds, I m ds → t P.x ds fun c ds1 =>
  if c = true then b ds1 { nx := fun ds2 => ∃ m', m' < m ∧ I m' ds2, ct := fun ds2 => ∃ m', m' < m ∧ I m' ds2, bk := P.nx, rt := P.rt, x := P.x } else P.nx ds1
def forI (g : Tg) (b : WS) (P : Post) (xs : List D) (ds : DS) : Prop :=
  ∃ I : Nat → DS → Prop, I 0 ds ∧ (∀ i d ds, xs[i]? = some d → I i ds → tga g d ds fun ds1 => b ds1 { nx := I (i + 1), ct := I (i + 1), bk := P.nx, rt := P.rt, x := P.x }) ∧ ∀ ds, I xs.length ds → P.nx ds
def forD (g : Tg) (b : WS) (P : Post) : List D → DS → Prop
  | [], ds => P.nx ds
  | d :: r, ds => tga g d ds fun ds1 => b ds1 { nx := fun ds2 => forD g b P r ds2, ct := fun ds2 => forD g b P r ds2, bk := P.nx, rt := P.rt, x := P.x }
def wFor (src : WE) (g : Tg) (b : WS) : WS := fun ds P => src P.x ds fun u ds1 => match items u with | some xs => forI g b P xs ds1 | none => False
def wForR (as : List WE) (g : Tg) (b : WS) : WS := fun ds P => wRng as P.x ds fun xs ds1 => forI g b P xs ds1

/-- a body against a promise: the parameters' slots, then the other ones -/
def outs : List DV → DS → Option (List DV)
  | [], _ => some []
  | .par _ :: r, some (.par ys) :: s => (outs r s).map (.par ys :: ·)
  | .par _ :: _, _ => none
  | d :: r, _ :: s => (outs r s).map (d :: ·)
  | _ :: _, [] => none
def entry (n : Nat) (dvs : List DV) : DS := dvs.map some ++ List.replicate (n - dvs.length) none
/-- what is wanted of a body that is called with dvs -/
def ends (dvs : List DV) (k : Out → List DV → Prop) : Post where
  nx := fun ds => match outs dvs ds with | some o => k (.ret (.val .non)) o | none => False
  rt := fun r ds => match outs dvs ds with | some o => k (.ret r) o | none => False
  bk := fun _ => False
  ct := fun _ => False
  x := fun e ds => match outs dvs ds with | some o => k (.exc e) o | none => False
/-- .. where nothing is raised -/
def ends0 (dvs : List DV) (k : Out → List DV → Prop) : Post := { ends dvs k with x := nox }
/-- the body w of n slots keeps the promise -/
def Keeps (n : Nat) (w : WS) (fs : FS) : Prop := ∀ dvs k, fs dvs k → w (entry n dvs) (ends dvs k)
def Keeps0 (n : Nat) (w : WS) (fs : FS) : Prop := ∀ dvs k, fs dvs k → w (entry n dvs) (ends0 dvs k)

/-! ### short loops, turn by turn -/
theorem drop_of {α : Type} : ∀ {xs : List α} {i : Nat} {d : α}, xs[i]? = some d → xs.drop i = d :: xs.drop (i + 1)
  | [], i, d, h => by simp at h
  | a :: l, 0, d, h => by
    have e : a = d := Option.some.inj h
    subst e
    rfl
  | a :: l, i + 1, d, h => drop_of (xs := l) (i := i) h
theorem forI_of {g : Tg} {b : WS} {P : Post} {xs : List D} {ds : DS} (h : forD g b P xs ds) : forI g b P xs ds := by
  refine ⟨fun i ds => forD g b P (xs.drop i) ds, h, fun i d ds e q => ?_, fun ds q => ?_⟩
  · have q : forD g b P (xs.drop i) ds := q
    rw [drop_of e] at q
    exact q
  · have q : forD g b P (xs.drop xs.length) ds := q
    rw [List.drop_length] at q
    exact q
theorem compI_of {g : Tg} {vs : List Nat} {t : WT} {e : WE} {x : XKd} {xs : List D} {ds : DS} {k : List D → DS → Prop} (h : compD g vs t e x k xs [] (ers ds vs)) : compI g vs t e x xs ds k := by
  refine ⟨fun i acc ds => compD g vs t e x k (xs.drop i) acc ds, h, fun i d acc ds e q => ?_, fun acc ds q => ?_⟩
  · have q : compD g vs t _ x k (xs.drop i) acc ds := q
    rw [drop_of e] at q
    exact q
  · have q : compD g vs t _ x k (xs.drop xs.length) acc ds := q
    rw [List.drop_length] at q
    exact q
end DW

/-! DwB: data in the heap, the slots' word, what a reading is worth over data. -/
namespace DW
open PySem PySem.Spec PyProof.Rows L2

mutual
def Rep (K : PySem.W.Frag) (G : Hp) : D → V → Prop
  | .non, v => v = .non
  | .bl b, v => v = .bl b
  | .int i, v => v = .int i
  | .str s, v => v = .str s
  | .tup ds, v => ∃ a xs, v = .ref a ∧ SqT K G a xs ∧ Reps K G ds xs
  | .lst ds, v => ∃ a xs, v = .ref a ∧ SqL K G a xs ∧ Reps K G ds xs
  | .obj c, v => ∃ C a dx, PySem.W.nsIn K mainGlobals c = some (some (.ref C)) ∧ v = .ref a ∧ G a = some (.ins C dx [])
def Reps (K : PySem.W.Frag) (G : Hp) : List D → List V → Prop
  | [], vs => vs = []
  | d :: ds, vs => ∃ x xs, vs = x :: xs ∧ Rep K G d x ∧ Reps K G ds xs
end

section
variable {K : PySem.W.Frag} {G H H' G' : Hp}
theorem Same.t {H H' : Hp} {a : Addr} {xs : List V} (e : Same H H') (h : SqT K H a xs) : SqT K H' a xs := by
  rcases h with (h | ⟨o, h⟩) | h
  · exact .inl (.inl (e _ _ h))
  · exact .inl (.inr ⟨o, e _ _ h⟩)
  · exact .inr h
mutual
theorem Rep.mono (e : Same G G') : ∀ {d : D} {v : V}, Rep K G d v → Rep K G' d v
  | .non, _, h => h
  | .bl _, _, h => h
  | .int _, _, h => h
  | .str _, _, h => h
  | .tup ds, v, h => by
    obtain ⟨a, xs, e1, h1, h2⟩ := h
    exact ⟨a, xs, e1, Same.t e h1, Reps.mono e h2⟩
  | .lst ds, v, h => by
    obtain ⟨a, xs, e1, h1, h2⟩ := h
    exact ⟨a, xs, e1, L2.Same.seq e h1, Reps.mono e h2⟩
  | .obj c, v, h => by
    obtain ⟨C, a, dx, e0, e1, h1⟩ := h
    exact ⟨C, a, dx, e0, e1, e _ _ h1⟩
theorem Reps.mono (e : Same G G') : ∀ {ds : List D} {vs : List V}, Reps K G ds vs → Reps K G' ds vs
  | [], _, h => h
  | d :: ds, vs, h => by
    obtain ⟨x, xs, e1, h1, h2⟩ := h
    exact ⟨x, xs, e1, Rep.mono e h1, Reps.mono e h2⟩
end
theorem Reps.len : ∀ {ds : List D} {vs : List V}, Reps K G ds vs → ds.length = vs.length
  | [], vs, h => by
    have h : vs = [] := h
    rw [h]
    rfl
  | d :: ds, vs, h => by
    obtain ⟨x, xs, e1, h1, h2⟩ := h
    rw [e1, List.length_cons, List.length_cons, Reps.len h2]
theorem Reps.get : ∀ {ds : List D} {vs : List V} {i : Nat} {d : D}, Reps K G ds vs → ds[i]? = some d → ∃ v, vs[i]? = some v ∧ Rep K G d v
  | [], _, i, d, h, e => by simp at e
  | d0 :: ds, vs, 0, d, h, e => by
    obtain ⟨x, xs, e1, h1, h2⟩ := h
    have e : d0 = d := Option.some.inj e
    rw [e1, ← e]
    exact ⟨x, rfl, h1⟩
  | d0 :: ds, vs, i + 1, d, h, e => by
    obtain ⟨x, xs, e1, h1, h2⟩ := h
    rw [e1]
    exact Reps.get (i := i) h2 e
theorem Reps.gev : ∀ {ds : List D} {vs : List V} {i : Nat} {v : V}, Reps K G ds vs → vs[i]? = some v → ∃ d, ds[i]? = some d ∧ Rep K G d v
  | [], vs, i, v, h, e => by
    have h : vs = [] := h
    rw [h] at e
    simp at e
  | d0 :: ds, vs, 0, v, h, e => by
    obtain ⟨x, xs, e1, h1, h2⟩ := h
    rw [e1] at e
    have e : x = v := Option.some.inj e
    rw [← e]
    exact ⟨d0, rfl, h1⟩
  | d0 :: ds, vs, i + 1, v, h, e => by
    obtain ⟨x, xs, e1, h1, h2⟩ := h
    rw [e1] at e
    exact Reps.gev (i := i) h2 e
theorem Reps.app : ∀ {ds : List D} {vs : List V} {d : D} {v : V}, Reps K G ds vs → Rep K G d v → Reps K G (ds ++ [d]) (vs ++ [v])
  | [], vs, d, v, h, r => by
    have h : vs = [] := h
    rw [h]
    exact ⟨v, [], rfl, r, rfl⟩
  | d0 :: ds, vs, d, v, h, r => by
    obtain ⟨x, xs, e1, h1, h2⟩ := h
    rw [e1]
    exact ⟨x, xs ++ [v], rfl, h1, Reps.app h2 r⟩
theorem Reps.cat : ∀ {ds es : List D} {vs ws : List V}, Reps K G ds vs → Reps K G es ws → Reps K G (ds ++ es) (vs ++ ws)
  | [], _, vs, ws, h, r => by
    have h : vs = [] := h
    rw [h]
    exact r
  | d0 :: ds, es, vs, ws, h, r => by
    obtain ⟨x, xs, e1, h1, h2⟩ := h
    rw [e1]
    exact ⟨x, xs ++ ws, rfl, h1, Reps.cat h2 r⟩
theorem Reps.set : ∀ {ds : List D} {vs : List V} {d : D} {v : V} (i : Nat), Reps K G ds vs → Rep K G d v → Reps K G (ds.set i d) (vs.set i v)
  | [], vs, d, v, i, h, r => by
    have h : vs = [] := h
    rw [h]
    exact rfl
  | d0 :: ds, vs, d, v, 0, h, r => by
    obtain ⟨x, xs, e1, h1, h2⟩ := h
    rw [e1]
    exact ⟨v, xs, rfl, r, h2⟩
  | d0 :: ds, vs, d, v, i + 1, h, r => by
    obtain ⟨x, xs, e1, h1, h2⟩ := h
    rw [e1]
    exact ⟨x, xs.set i v, rfl, h1, Reps.set i h2 r⟩
theorem ix_at {α : Type} {xs : List α} {i : Int} {v : α} (h : itemAt xs i = some v) : ∃ j : Nat, j < xs.length ∧ xs[j]? = some v ∧ ixN xs.length i = some j := by
  unfold itemAt at h
  by_cases h0 : 0 ≤ i
  · rw [if_pos h0] at h
    have hl := (List.getElem?_eq_some_iff.mp h).1
    exact ⟨i.toNat, hl, h, by unfold ixN; rw [if_pos h0, if_pos (by omega)]⟩
  · rw [if_neg h0] at h
    by_cases h1 : -(xs.length : Int) ≤ i
    · rw [if_pos h1] at h
      have hl := (List.getElem?_eq_some_iff.mp h).1
      exact ⟨_, hl, h, by unfold ixN; rw [if_neg h0, if_pos h1]⟩
    · rw [if_neg h1] at h
      cases h
theorem Reps.item {ds : List D} {vs : List V} {i : Int} {d : D} (h : Reps K G ds vs) (e : itemAt ds i = some d) : ∃ v, atI vs i = some v ∧ Rep K G d v := by
  obtain ⟨j, h1, h2, h3⟩ := ix_at e
  obtain ⟨v, e1, r⟩ := h.get h2
  refine ⟨v, ?_, r⟩
  unfold atI
  rw [← h.len, h3]
  exact e1
end

/-! ### slots -/
def isO : DV → Bool
  | .val _ => false
  | _ => true
theorem gt_st : ∀ (ds : DS) (i j : Nat) (d : DV), gt (st ds i d) j = if j = i ∧ i < ds.length then some d else gt ds j
  | [], i, j, d => by
    have e : ¬ (j = i ∧ i < ([] : DS).length) := fun h => Nat.not_lt_zero _ h.2
    rw [if_neg e]
    rfl
  | x :: r, 0, 0, d => by
    rw [if_pos ⟨rfl, Nat.succ_pos _⟩]
    rfl
  | x :: r, 0, j + 1, d => by
    rw [if_neg (fun h => Nat.noConfusion h.1)]
    rfl
  | x :: r, i + 1, 0, d => by
    rw [if_neg (fun h => Nat.noConfusion h.1)]
    rfl
  | x :: r, i + 1, j + 1, d => by
    show gt (st r i d) j = _
    rw [gt_st r i j d]
    by_cases h : j = i ∧ i < r.length
    · rw [if_pos h, if_pos ⟨by omega, by rw [List.length_cons]; omega⟩]
    · rw [if_neg h, if_neg (fun q => h ⟨by omega, by have := q.2; rw [List.length_cons] at this; omega⟩)]
      rfl
theorem gt_er : ∀ (ds : DS) (i j : Nat), gt (er ds i) j = if j = i then none else gt ds j
  | [], i, j => by
    show none = _
    split <;> rfl
  | x :: r, 0, 0 => by
    rw [if_pos rfl]
    rfl
  | x :: r, 0, j + 1 => by
    rw [if_neg (fun h => Nat.noConfusion h)]
    rfl
  | x :: r, i + 1, 0 => by
    rw [if_neg (fun h => Nat.noConfusion h)]
    rfl
  | x :: r, i + 1, j + 1 => by
    show gt (er r i) j = _
    rw [gt_er r i j]
    by_cases h : j = i
    · rw [if_pos h, if_pos (by omega)]
    · rw [if_neg h, if_neg (by omega)]
      rfl
theorem len_st : ∀ (ds : DS) (i : Nat) (d : DV), (st ds i d).length = ds.length
  | [], _, _ => rfl
  | _ :: _, 0, _ => rfl
  | _ :: r, i + 1, d => by
    show (st r i d).length + 1 = _
    rw [len_st r i d, List.length_cons]
theorem len_er : ∀ (ds : DS) (i : Nat), (er ds i).length = ds.length
  | [], _ => rfl
  | _ :: _, 0 => rfl
  | _ :: r, i + 1 => by
    show (er r i).length + 1 = _
    rw [len_er r i, List.length_cons]
theorem gt_lt : ∀ {ds : DS} {i : Nat} {d : DV}, gt ds i = some d → i < ds.length
  | [], _, _, h => by cases h
  | _ :: _, 0, _, _ => Nat.succ_pos _
  | _ :: r, i + 1, d, h => Nat.succ_lt_succ (gt_lt (ds := r) h)

/-- a call's ground: the heap at the entry, what stood still there, what may be written -/
structure C0 where
  H0 : Hp
  G0 : Hp
  W : Addr → Prop
  P : Nat → Addr

def SlotOk (K : PySem.W.Frag) (c : C0) (G H : Hp) (p : Addr) (o : Option (Option V)) : DV → Prop
  | .val d => ∃ v, o = some (some v) ∧ Rep K G d v
  | .own xs => o = some (some (.ref p)) ∧ G p = none ∧ c.H0 p = none ∧ ∃ vs, H p = some (.lst vs) ∧ Reps K G xs vs
  | .par xs => o = some (some (.ref p)) ∧ G p = none ∧ c.W p ∧ ∃ vs, H p = some (.lst vs) ∧ Reps K G xs vs

structure Env (K : PySem.W.Frag) (c : C0) (pa : Nat → Addr) (G H : Hp) (σ : L2.St) (ds : DS) : Prop where
  ex : Same G H
  fr : ∀ a o, c.H0 a = some o → ¬ c.W a → H a = some o
  dom : ∀ a, c.H0 a ≠ none → H a ≠ none
  ge : Same c.G0 G
  gf : ∀ a, c.H0 a ≠ none → G a = c.G0 a
  len : ds.length = σ.length
  sl : ∀ i dv, gt ds i = some dv → SlotOk K c G H (pa i) σ[i]? dv
  inj : ∀ i j dv dv', gt ds i = some dv → gt ds j = some dv' → isO dv = true → isO dv' = true → i ≠ j → pa i ≠ pa j
  ps : ∀ i xs, gt ds i = some (.par xs) → pa i = c.P i

/-- a list that the body made and no slot holds yet -/
structure Tmp (K : PySem.W.Frag) (c : C0) (pa : Nat → Addr) (G H : Hp) (ds : DS) (p : Addr) (xs : List D) : Prop where
  g : G p = none
  h0 : c.H0 p = none
  here : ∃ vs, H p = some (.lst vs) ∧ Reps K G xs vs
  ne : ∀ i dv, gt ds i = some dv → isO dv = true → pa i ≠ p

section
variable {K : PySem.W.Frag} {c : C0} {pa : Nat → Addr} {G H H' : Hp} {σ : L2.St} {ds : DS}
theorem Env.val (E : Env K c pa G H σ ds) {i : Nat} {d : D} (h : gt ds i = some (.val d)) : ∃ v, σ[i]? = some (some v) ∧ Rep K G d v := E.sl i _ h
theorem Env.lst (E : Env K c pa G H σ ds) {i : Nat} {xs : List D} (h : listAt ds i = some xs) :
    ∃ dv, gt ds i = some dv ∧ isO dv = true ∧ (dv = .own xs ∨ dv = .par xs) ∧ σ[i]? = some (some (.ref (pa i))) ∧ G (pa i) = none ∧ (c.H0 (pa i) = none ∨ c.W (pa i)) ∧ ∃ vs, H (pa i) = some (.lst vs) ∧ Reps K G xs vs := by
  unfold listAt at h
  cases e : gt ds i with
  | none => rw [e] at h; cases h
  | some dv =>
    rw [e] at h
    have s := E.sl i dv e
    cases dv with
    | val d => cases h
    | own ys =>
      have h : ys = xs := Option.some.inj h
      subst h
      obtain ⟨h1, h2, h3, h4⟩ := s
      exact ⟨_, rfl, rfl, .inl rfl, h1, h2, .inl h3, h4⟩
    | par ys =>
      have h : ys = xs := Option.some.inj h
      subst h
      obtain ⟨h1, h2, h3, h4⟩ := s
      exact ⟨_, rfl, rfl, .inr rfl, h1, h2, .inr h3, h4⟩
theorem Env.ownNe (E : Env K c pa G H σ ds) {i : Nat} {dv : DV} (h : gt ds i = some dv) (o : isO dv = true) : H (pa i) ≠ none := by
  have s := E.sl i dv h
  cases dv with
  | val d => cases o
  | own xs =>
    obtain ⟨_, _, _, vs, e, _⟩ := s
    rw [e]
    exact fun q => nomatch q
  | par xs =>
    obtain ⟨_, _, _, vs, e, _⟩ := s
    rw [e]
    exact fun q => nomatch q
theorem SlotOk.up {p : Addr} {o : Option (Option V)} {dv : DV} {G' : Hp} (s : SlotOk K c G H p o dv) (e : Same H H') (g : Same G G') (n : G' p = none ∨ isO dv = false) : SlotOk K c G' H' p o dv := by
  cases dv with
  | val d =>
    obtain ⟨v, e1, r⟩ := s
    exact ⟨v, e1, r.mono g⟩
  | own xs =>
    obtain ⟨h1, h2, h3, vs, h4, h5⟩ := s
    exact ⟨h1, n.resolve_right (fun q => nomatch q), h3, vs, e _ _ h4, h5.mono g⟩
  | par xs =>
    obtain ⟨h1, h2, h3, vs, h4, h5⟩ := s
    exact ⟨h1, n.resolve_right (fun q => nomatch q), h3, vs, e _ _ h4, h5.mono g⟩
theorem SlotOk.gn {p : Addr} {o : Option (Option V)} {dv : DV} (s : SlotOk K c G H p o dv) (h : isO dv = true) : G p = none := by
  cases dv with
  | val d => cases h
  | own xs => exact s.2.1
  | par xs => exact s.2.1
/-- new things come beside -/
theorem Env.heap (E : Env K c pa G H σ ds) (e : Same H H') : Env K c pa G H' σ ds where
  ex := E.ex.trans e
  fr := fun a o h w => e _ _ (E.fr a o h w)
  dom := fun a h => by
    cases q : H a with
    | none => exact absurd q (E.dom a h)
    | some o =>
      rw [e _ _ q]
      exact fun z => nomatch z
  ge := E.ge
  gf := E.gf
  len := E.len
  sl := fun i dv h => by
    have s := E.sl i dv h
    cases o : isO dv with
    | true => exact s.up e (fun _ _ q => q) (.inl (s.gn o))
    | false => exact s.up e (fun _ _ q => q) (.inr o)
  inj := E.inj
  ps := E.ps
theorem same_new {H : Hp} {p : Addr} {o : HO} (h : H p = none) : Same H (upd H p o) := fun b x e => by
  rw [upd_ne (ne_of_none e h)]
  exact e
theorem same_both {G H : Hp} {p : Addr} {o : HO} (e : Same G H) (h : H p = some o) : Same (upd G p o) H := fun b x q => by
  by_cases hb : b = p
  · rw [hb, upd_same] at q
    rw [hb, h]
    exact q
  · rw [upd_ne hb] at q
    exact e _ _ q
theorem upd_none {H : Hp} {p q : Addr} {o : HO} (h : H q = none) (n : q ≠ p) : upd H p o q = none := by
  rw [upd_ne n]
  exact h
/-- what stands at p, made by the body, stands still from here on -/
theorem Env.still (E : Env K c pa G H σ ds) {p : Addr} {o : HO} (hp : H p = some o) (hg : G p = none) (h0 : c.H0 p = none) (ne : ∀ i dv, gt ds i = some dv → isO dv = true → pa i ≠ p) :
    Env K c pa (upd G p o) H σ ds where
  ex := same_both E.ex hp
  fr := E.fr
  dom := E.dom
  ge := E.ge.trans (same_new hg)
  gf := fun a h => by
    have n : a ≠ p := fun q => by
      rw [q] at h
      exact h h0
    rw [upd_ne n]
    exact E.gf a h
  len := E.len
  sl := fun i dv h => by
    have s := E.sl i dv h
    cases o : isO dv with
    | true => exact s.up (fun _ _ q => q) (same_new hg) (.inl (upd_none (s.gn o) (ne i dv h o)))
    | false => exact s.up (fun _ _ q => q) (same_new hg) (.inr o)
  inj := E.inj
  ps := E.ps
theorem Env.free (E : Env K c pa G H σ ds) {p : Addr} (h : H p = none) : G p = none ∧ c.H0 p = none ∧ ∀ i dv, gt ds i = some dv → isO dv = true → pa i ≠ p :=
  ⟨L2.Same.free E.ex h, by
    cases q : c.H0 p with
    | none => rfl
    | some o => exact absurd h (E.dom p (by rw [q]; exact fun z => nomatch z)), fun i dv hi o q => E.ownNe hi o (q ▸ h)⟩
/-- a new object, standing still at once -/
theorem Env.new (E : Env K c pa G H σ ds) {p : Addr} {o : HO} (h : H p = none) : Env K c pa (upd G p o) (upd H p o) σ ds ∧ Same G (upd G p o) := by
  obtain ⟨h1, h2, h3⟩ := E.free h
  exact ⟨(E.heap (same_new h)).still upd_same h1 h2 h3, same_new h1⟩
/-- a new list of the body's own -/
theorem Env.newOwn (E : Env K c pa G H σ ds) {p : Addr} {vs : List V} {xs : List D} (h : H p = none) (r : Reps K G xs vs) : Env K c pa G (upd H p (.lst vs)) σ ds ∧ Tmp K c pa G (upd H p (.lst vs)) ds p xs := by
  obtain ⟨h1, h2, h3⟩ := E.free h
  exact ⟨E.heap (same_new h), h1, h2, ⟨vs, upd_same, r⟩, h3⟩
theorem Tmp.freeze {p : Addr} {xs : List D} (t : Tmp K c pa G H ds p xs) (E : Env K c pa G H σ ds) : ∃ G', Env K c pa G' H σ ds ∧ Same G G' ∧ Rep K G' (.lst xs) (.ref p) := by
  obtain ⟨vs, h1, h2⟩ := t.here
  exact ⟨_, E.still h1 t.g t.h0 t.ne, same_new t.g, p, vs, rfl, SqL.of upd_same, h2.mono (same_new t.g)⟩
theorem set_get {α : Type} {σ : List α} {i j : Nat} {v : α} (h : i ≠ j) : (σ.set i v)[j]? = σ[j]? := List.getElem?_set_ne h
theorem Env.setVal (E : Env K c pa G H σ ds) {v : V} {d : D} (i : Nat) (r : Rep K G d v) : Env K c pa G H (σ.set i (some v)) (st ds i (.val d)) where
  ex := E.ex
  fr := E.fr
  dom := E.dom
  ge := E.ge
  gf := E.gf
  len := by rw [len_st, List.length_set]; exact E.len
  sl := fun j dv h => by
    rw [gt_st] at h
    by_cases q : j = i ∧ i < ds.length
    · rw [if_pos q] at h
      have h : DV.val d = dv := Option.some.inj h
      subst h
      obtain ⟨e, q⟩ := q
      subst e
      rw [E.len] at q
      exact ⟨v, List.getElem?_set_self q, r⟩
    · rw [if_neg q] at h
      have hj := gt_lt h
      have n : i ≠ j := fun e => q ⟨e.symm, e ▸ hj⟩
      rw [set_get n]
      exact E.sl j dv h
  inj := fun a b dv dv' h h' o o' n => by
    rw [gt_st] at h h'
    by_cases q : a = i ∧ i < ds.length
    · rw [if_pos q] at h
      have h : DV.val d = dv := Option.some.inj h
      subst h
      cases o
    · by_cases q' : b = i ∧ i < ds.length
      · rw [if_pos q'] at h'
        have h' : DV.val d = dv' := Option.some.inj h'
        subst h'
        cases o'
      · rw [if_neg q] at h
        rw [if_neg q'] at h'
        exact E.inj a b dv dv' h h' o o' n
  ps := fun j xs h => by
    rw [gt_st] at h
    by_cases q : j = i ∧ i < ds.length
    · rw [if_pos q] at h
      cases (Option.some.inj h : DV.val d = DV.par xs)
    · rw [if_neg q] at h
      exact E.ps j xs h
theorem Env.setOwn (E : Env K c pa G H σ ds) {p : Addr} {xs : List D} (i : Nat) (t : Tmp K c pa G H ds p xs) : Env K c (fun j => if j = i then p else pa j) G H (σ.set i (some (.ref p))) (st ds i (.own xs)) where
  ex := E.ex
  fr := E.fr
  dom := E.dom
  ge := E.ge
  gf := E.gf
  len := by rw [len_st, List.length_set]; exact E.len
  sl := fun j dv h => by
    rw [gt_st] at h
    by_cases q : j = i ∧ i < ds.length
    · rw [if_pos q] at h
      have h : DV.own xs = dv := Option.some.inj h
      subst h
      obtain ⟨e, q⟩ := q
      subst e
      rw [E.len] at q
      rw [if_pos rfl]
      exact ⟨List.getElem?_set_self q, t.g, t.h0, t.here⟩
    · rw [if_neg q] at h
      have hj := gt_lt h
      have n : i ≠ j := fun e => q ⟨e.symm, e ▸ hj⟩
      rw [set_get n, if_neg n.symm]
      exact E.sl j dv h
  inj := fun a b dv dv' h h' o o' n => by
    rw [gt_st] at h h'
    by_cases q : a = i ∧ i < ds.length
    · by_cases q' : b = i ∧ i < ds.length
      · exact absurd (q.1.trans q'.1.symm) n
      · rw [if_neg q'] at h'
        have nb : b ≠ i := fun e => n (q.1.trans e.symm)
        show (if a = i then p else pa a) ≠ (if b = i then p else pa b)
        rw [if_pos q.1, if_neg nb]
        exact (t.ne b dv' h' o').symm
    · rw [if_neg q] at h
      have ha := gt_lt h
      have na : a ≠ i := fun e => q ⟨e, e ▸ ha⟩
      by_cases q' : b = i ∧ i < ds.length
      · show (if a = i then p else pa a) ≠ (if b = i then p else pa b)
        rw [if_pos q'.1, if_neg na]
        exact t.ne a dv h o
      · rw [if_neg q'] at h'
        have hb := gt_lt h'
        have nb : b ≠ i := fun e => q' ⟨e, e ▸ hb⟩
        show (if a = i then p else pa a) ≠ (if b = i then p else pa b)
        rw [if_neg na, if_neg nb]
        exact E.inj a b dv dv' h h' o o' n
  ps := fun j ys h => by
    rw [gt_st] at h
    by_cases q : j = i ∧ i < ds.length
    · rw [if_pos q] at h
      cases (Option.some.inj h : DV.own xs = DV.par ys)
    · rw [if_neg q] at h
      have hj := gt_lt h
      have n : j ≠ i := fun e => q ⟨e, e ▸ hj⟩
      show (if j = i then p else pa j) = c.P j
      rw [if_neg n]
      exact E.ps j ys h
/-- the slot's word is forgotten; the slot itself may be wiped -/
theorem Env.forget (E : Env K c pa G H σ ds) (i : Nat) (o : Option V) : Env K c pa G H (σ.set i o) (er ds i) where
  ex := E.ex
  fr := E.fr
  dom := E.dom
  ge := E.ge
  gf := E.gf
  len := by rw [len_er, List.length_set]; exact E.len
  sl := fun j dv h => by
    rw [gt_er] at h
    by_cases q : j = i
    · rw [if_pos q] at h
      cases h
    · rw [if_neg q] at h
      rw [set_get (Ne.symm q)]
      exact E.sl j dv h
  inj := fun a b dv dv' h h' o o' n => by
    rw [gt_er] at h h'
    by_cases q : a = i
    · rw [if_pos q] at h
      cases h
    · rw [if_neg q] at h
      by_cases q' : b = i
      · rw [if_pos q'] at h'
        cases h'
      · rw [if_neg q'] at h'
        exact E.inj a b dv dv' h h' o o' n
  ps := fun j ys h => by
    rw [gt_er] at h
    by_cases q : j = i
    · rw [if_pos q] at h
      cases h
    · rw [if_neg q] at h
      exact E.ps j ys h
theorem Env.drop (E : Env K c pa G H σ ds) (i : Nat) : Env K c pa G H σ (er ds i) where
  ex := E.ex
  fr := E.fr
  dom := E.dom
  ge := E.ge
  gf := E.gf
  len := by rw [len_er]; exact E.len
  sl := fun j dv h => by
    rw [gt_er] at h
    by_cases q : j = i
    · rw [if_pos q] at h
      cases h
    · rw [if_neg q] at h
      exact E.sl j dv h
  inj := fun a b dv dv' h h' o o' n => by
    rw [gt_er] at h h'
    by_cases q : a = i
    · rw [if_pos q] at h
      cases h
    · rw [if_neg q] at h
      by_cases q' : b = i
      · rw [if_pos q'] at h'
        cases h'
      · rw [if_neg q'] at h'
        exact E.inj a b dv dv' h h' o o' n
  ps := fun j ys h => by
    rw [gt_er] at h
    by_cases q : j = i
    · rw [if_pos q] at h
      cases h
    · rw [if_neg q] at h
      exact E.ps j ys h
theorem Env.drops (E : Env K c pa G H σ ds) : ∀ vs : List Nat, Env K c pa G H σ (ers ds vs)
  | [] => E
  | v :: vs => (E.drops vs).drop v
theorem Env.wipes (E : Env K c pa G H σ ds) : ∀ vs : List Nat, Env K c pa G H (wipe σ vs) (ers ds vs)
  | [] => E
  | v :: vs => (E.wipes vs).forget v none
theorem gt_refill : ∀ {ds : DS} {i j : Nat} {xs : List D}, gt (refill ds i xs) j = (match gt ds j with
    | some (.own ys) => if j = i then some (.own xs) else some (.own ys)
    | some (.par ys) => if j = i then some (.par xs) else some (.par ys)
    | o => o)
  | [], i, j, xs => rfl
  | o :: r, 0, 0, xs => by
    show fill1 xs o = (match o with
      | some (.own ys) => if 0 = 0 then some (.own xs) else some (.own ys)
      | some (.par ys) => if 0 = 0 then some (.par xs) else some (.par ys)
      | o => o)
    cases o with
    | none => rfl
    | some d => cases d <;> rfl
  | o :: r, 0, j + 1, xs => by
    show gt r j = (match gt r j with
      | some (.own ys) => if j + 1 = 0 then some (.own xs) else some (.own ys)
      | some (.par ys) => if j + 1 = 0 then some (.par xs) else some (.par ys)
      | o => o)
    cases gt r j with
    | none => rfl
    | some d => cases d <;> rfl
  | o :: r, i + 1, 0, xs => by
    show o = (match o with
      | some (.own ys) => if 0 = i + 1 then some (.own xs) else some (.own ys)
      | some (.par ys) => if 0 = i + 1 then some (.par xs) else some (.par ys)
      | o => o)
    cases o with
    | none => rfl
    | some d => cases d <;> rfl
  | o :: r, i + 1, j + 1, xs => by
    show gt (refill r i xs) j = (match gt r j with
      | some (.own ys) => if j + 1 = i + 1 then some (.own xs) else some (.own ys)
      | some (.par ys) => if j + 1 = i + 1 then some (.par xs) else some (.par ys)
      | o => o)
    rw [gt_refill (ds := r) (i := i) (j := j)]
    simp only [Nat.add_right_cancel_iff]
theorem len_refill : ∀ {ds : DS} {i : Nat} {xs : List D}, (refill ds i xs).length = ds.length
  | [], _, _ => rfl
  | o :: r, 0, xs => rfl
  | o :: r, i + 1, xs => by
    show (refill r i xs).length + 1 = r.length + 1
    rw [len_refill]
theorem isO_gt_refill {ds : DS} {i j : Nat} {xs : List D} {dv : DV} (h : gt (refill ds i xs) j = some dv) : ∃ dv', gt ds j = some dv' ∧ isO dv' = isO dv := by
  rw [gt_refill] at h
  cases e : gt ds j with
  | none => rw [e] at h; cases h
  | some d0 =>
    rw [e] at h
    refine ⟨d0, rfl, ?_⟩
    cases d0 with
    | val d =>
      have h : DV.val d = dv := Option.some.inj h
      rw [← h]
    | own ys =>
      simp only at h
      split at h <;> (have h := Option.some.inj h; rw [← h]; try rfl)
    | par ys =>
      simp only at h
      split at h <;> (have h := Option.some.inj h; rw [← h]; try rfl)
/-- the list in slot i is written -/
theorem Env.write (E : Env K c pa G H σ ds) {i : Nat} {xs ys : List D} {ws : List V} (h : listAt ds i = some xs) (r : Reps K G ys ws) : Env K c pa G (upd H (pa i) (.lst ws)) σ (refill ds i ys) := by
  obtain ⟨dv, h1, h2, h3, h4, h5, h6, vs, h7, h8⟩ := E.lst h
  have gne : ∀ a o, G a = some o → a ≠ pa i := fun a o q => ne_of_none q h5
  refine ⟨fun a o q => ?_, fun a o q w => ?_, fun a q => ?_, E.ge, E.gf, ?_, fun j dj q => ?_, fun a b d d' q q' o o' n => ?_, fun j zs q => ?_⟩
  · rw [upd_ne (gne a o q)]
    exact E.ex a o q
  · have n : a ≠ pa i := fun e => by
      subst e
      rcases h6 with z | z
      · rw [z] at q; cases q
      · exact w z
    rw [upd_ne n]
    exact E.fr a o q w
  · by_cases n : a = pa i
    · rw [n, upd_same]
      exact fun z => nomatch z
    · rw [upd_ne n]
      exact E.dom a q
  · rw [len_refill]
    exact E.len
  · by_cases hj : j = i
    · subst hj
      rw [gt_refill, h1] at q
      have s := E.sl j dv h1
      rcases h3 with z | z
      · subst z
        simp only [if_true] at q
        have q := Option.some.inj q
        subst q
        obtain ⟨s1, s2, s3, _⟩ := s
        exact ⟨s1, s2, s3, ws, upd_same, r⟩
      · subst z
        simp only [if_true] at q
        have q := Option.some.inj q
        subst q
        obtain ⟨s1, s2, s3, _⟩ := s
        exact ⟨s1, s2, s3, ws, upd_same, r⟩
    · have q0 : gt ds j = some dj := by
        rw [gt_refill] at q
        cases e : gt ds j with
        | none => rw [e] at q; exact q
        | some d0 =>
          rw [e] at q
          cases d0 with
          | val d => exact q
          | own zs => simpa only [if_neg hj] using q
          | par zs => simpa only [if_neg hj] using q
      have s := E.sl j dj q0
      cases o : isO dj with
      | false =>
        cases dj with
        | val d => exact s
        | own _ => cases o
        | par _ => cases o
      | true =>
        have n : pa j ≠ pa i := E.inj j i dj dv q0 h1 o h2 hj
        cases dj with
        | val d => exact s
        | own zs =>
          obtain ⟨s1, s2, s3, zvs, s4, s5⟩ := s
          exact ⟨s1, s2, s3, zvs, by rw [upd_ne n]; exact s4, s5⟩
        | par zs =>
          obtain ⟨s1, s2, s3, zvs, s4, s5⟩ := s
          exact ⟨s1, s2, s3, zvs, by rw [upd_ne n]; exact s4, s5⟩
  · obtain ⟨d1, e1, o1⟩ := isO_gt_refill q
    obtain ⟨d2, e2, o2⟩ := isO_gt_refill q'
    exact E.inj a b d1 d2 e1 e2 (o1.trans o) (o2.trans o') n
  · rw [gt_refill] at q
    cases e : gt ds j with
    | none => rw [e] at q; cases q
    | some d0 =>
      rw [e] at q
      cases d0 with
      | val d => cases (Option.some.inj q : DV.val d = DV.par zs)
      | own us =>
        simp only at q
        split at q <;> cases q
      | par us => exact E.ps j us e
end
end DW

/-! DwC: readings against transformers: expressions, tests, arguments. -/
namespace DW
open PySem PySem.Spec PyProof.Rows L2

/-- an expression's step: the slots' word again, what stood still stands, all but the body's own lists is as it was -/
structure Stp (K : PySem.W.Frag) (c : C0) (pa : Nat → Addr) (σ : L2.St) (G H : Hp) (ds : DS) (G' H' : Hp) (ds' : DS) : Prop where
  env : Env K c pa G' H' σ ds'
  sg : Same G G'
  fr : ∀ a o, H a = some o → (∀ i dv, gt ds i = some dv → isO dv = true → a ≠ pa i) → H' a = some o ∧ G' a = G a
  sub : ∀ i dv, gt ds' i = some dv → isO dv = true → ∃ dv0, gt ds i = some dv0 ∧ isO dv0 = true
  dom : ∀ a, H a ≠ none → H' a ≠ none
section
variable {K : PySem.W.Frag} {c : C0} {pa : Nat → Addr} {G H G' H' G2 H2 : Hp} {σ : L2.St} {ds ds' ds2 : DS}
theorem Stp.refl (E : Env K c pa G H σ ds) : Stp K c pa σ G H ds G H ds := ⟨E, fun _ _ q => q, fun _ _ h _ => ⟨h, rfl⟩, fun _ dv h o => ⟨dv, h, o⟩, fun _ h => h⟩
theorem Stp.trans (a : Stp K c pa σ G H ds G' H' ds') (b : Stp K c pa σ G' H' ds' G2 H2 ds2) : Stp K c pa σ G H ds G2 H2 ds2 where
  env := b.env
  sg := a.sg.trans b.sg
  fr := fun x o h n => by
    obtain ⟨h1, g1⟩ := a.fr x o h n
    obtain ⟨h2, g2⟩ := b.fr x o h1 fun i dv q oo => by
      obtain ⟨dv0, q0, o0⟩ := a.sub i dv q oo
      exact n i dv0 q0 o0
    exact ⟨h2, g2.trans g1⟩
  sub := fun i dv h o => by
    obtain ⟨d1, h1, o1⟩ := b.sub i dv h o
    exact a.sub i d1 h1 o1
  dom := fun x h => b.dom x (a.dom x h)
/-- a new object -/
theorem Stp.new (E : Env K c pa G H σ ds) {p : Addr} {o : HO} (h : H p = none) : Stp K c pa σ G H ds (upd G p o) (upd H p o) ds :=
  ⟨(E.new h).1, (E.new h).2, fun a u q _ => ⟨by rw [upd_ne (ne_of_none q h)]; exact q, by rw [upd_ne (ne_of_none q h)]⟩, fun _ dv h o => ⟨dv, h, o⟩, fun a q => by
    have n : a ≠ p := fun e => by
      rw [e] at q
      exact q h
    rw [upd_ne n]
    exact q⟩
theorem Stp.newOwn (E : Env K c pa G H σ ds) {p : Addr} {vs : List V} {xs : List D} (h : H p = none) (r : Reps K G xs vs) : Stp K c pa σ G H ds G (upd H p (.lst vs)) ds ∧ Tmp K c pa G (upd H p (.lst vs)) ds p xs :=
  ⟨⟨(E.newOwn h r).1, fun _ _ q => q, fun a u q _ => ⟨by rw [upd_ne (ne_of_none q h)]; exact q, rfl⟩, fun _ dv h o => ⟨dv, h, o⟩, fun a q => by
    have n : a ≠ p := fun e => by
      rw [e] at q
      exact q h
    rw [upd_ne n]
    exact q⟩, (E.newOwn h r).2⟩
/-- a list that was made and that no slot holds stands still from here on -/
theorem Stp.freeze {p : Addr} {xs : List D} (S : Stp K c pa σ G H ds G' H' ds') (t : Tmp K c pa G' H' ds' p xs) (h : H p = none) : ∃ G2, Stp K c pa σ G H ds G2 H' ds' ∧ Rep K G2 (.lst xs) (.ref p) := by
  obtain ⟨vs, h1, h2⟩ := t.here
  refine ⟨upd G' p (.lst vs), ⟨S.env.still h1 t.g t.h0 t.ne, S.sg.trans (same_new t.g), fun a o q n => ?_, S.sub, S.dom⟩, p, vs, rfl, SqL.of upd_same, h2.mono (same_new t.g)⟩
  obtain ⟨e1, e2⟩ := S.fr a o q n
  exact ⟨e1, by rw [upd_ne (ne_of_none q h)]; exact e2⟩
/-- such a list stays as it is meanwhile -/
theorem Tmp.stay {p : Addr} {xs : List D} (t : Tmp K c pa G H ds p xs) (S : Stp K c pa σ G H ds G' H' ds') : Tmp K c pa G' H' ds' p xs := by
  obtain ⟨vs, h1, h2⟩ := t.here
  obtain ⟨e1, e2⟩ := S.fr p _ h1 fun i dv h o e => t.ne i dv h o e.symm
  refine ⟨e2.trans t.g, t.h0, ⟨vs, e1, h2.mono S.sg⟩, fun i dv h o => ?_⟩
  obtain ⟨d0, h0, o0⟩ := S.sub i dv h o
  exact t.ne i d0 h0 o0
end
/-- how an exception lies: its class, its own dict -/
structure ExcAt (K : PySem.W.Frag) (G H : Hp) (e : DX) (cls : Value) (d : Option Addr) : Prop where
  cls : cls = .ref e.cls
  fs : ∃ (dd : Addr) (vs : List V), d = some dd ∧ H dd = some (.xd ((e.fs.map (·.1)).zip vs)) ∧ Reps K G (e.fs.map (·.2)) vs
/-- every exception that is told is what the reading wants of exceptions -/
def XOk (K : PySem.W.Frag) (c : C0) (W : WX) (xk : XKd) : Prop := ∀ e ds, xk e ds → ∀ pa G H σ cls d, Env K c pa G H σ ds → ExcAt K G H e cls d → W cls d σ H

def EW (K : PySem.W.Frag) (W : WX) (te : TE) (w : WE) : Prop := ∀ (c : C0) pa G H σ ds xk (kk : D → DS → Prop) (Q : VK), Env K c pa G H σ ds → w xk ds kk → XOk K c W xk →
  (∀ v G' H' d ds', kk d ds' → Stp K c pa σ G H ds G' H' ds' → Rep K G' d v → Q v H') → te σ H Q
def EO (K : PySem.W.Frag) (W : WX) (te : TE) (w : WO) : Prop := ∀ (c : C0) pa G H σ ds xk (kk : List D → DS → Prop) (Q : VK), Env K c pa G H σ ds → w xk ds kk → XOk K c W xk →
  (∀ p G' H' xs ds', kk xs ds' → Stp K c pa σ G H ds G' H' ds' → Tmp K c pa G' H' ds' p xs → H p = none → Q (.ref p) H') → te σ H Q
def TW (K : PySem.W.Frag) (W : WX) (tt : TT) (w : WT) : Prop := ∀ (c : C0) pa G H σ ds xk (kk : Bool → DS → Prop) (Q : Bool → Hp → Prop), Env K c pa G H σ ds → w xk ds kk → XOk K c W xk →
  (∀ b G' H' ds', kk b ds' → Stp K c pa σ G H ds G' H' ds' → Q b H') → tt σ H Q
def AW (K : PySem.W.Frag) (W : WX) (ta : TA) (as : List WE) : Prop := ∀ (c : C0) pa G H σ ds xk (kk : List D → DS → Prop) (Q : List V → Hp → Prop), Env K c pa G H σ ds → wArgs as xk ds kk → XOk K c W xk →
  (∀ vs G' H' l ds', kk l ds' → Stp K c pa σ G H ds G' H' ds' → Reps K G' l vs → l.length = as.length → Q vs H') → ta σ H Q
/-- an operation on values against one on data, nothing made -/
def RW2 (K : PySem.W.Frag) (r : R2) (f : B2) : Prop := ∀ (G H : Hp) (x y : V) (d e : D) (kk : D → Prop) (Q : VK), Same G H → Rep K G d x → Rep K G e y → f d e kk → (∀ z v, kk z → Rep K G z v → Q v H) → r x y H Q
def RW1 (K : PySem.W.Frag) (r : V → Hp → VK → Prop) (f : B1) : Prop := ∀ (G H : Hp) (x : V) (d : D) (kk : D → Prop) (Q : VK), Same G H → Rep K G d x → f d kk → (∀ z v, kk z → Rep K G z v → Q v H) → r x H Q
def RWC1 (K : PySem.W.Frag) (r : List V → Hp → VK → Prop) (f : B1) : Prop := ∀ (G H : Hp) (x : V) (d : D) (kk : D → Prop) (Q : VK), Same G H → Rep K G d x → f d kk → (∀ z v, kk z → Rep K G z v → Q v H) → r [x] H Q
def RWC2 (K : PySem.W.Frag) (r : List V → Hp → VK → Prop) (f : B2) : Prop := ∀ (G H : Hp) (x y : V) (d e : D) (kk : D → Prop) (Q : VK), Same G H → Rep K G d x → Rep K G e y → f d e kk → (∀ z v, kk z → Rep K G z v → Q v H) → r [x, y] H Q

section
variable {K : PySem.W.Frag} {W : WX} {ta tb te : TE} {a b : WE} {t u : TT} {wt wu : WT}

theorem ew_c {d : D} {v : V} (h : ∀ G, Rep K G d v) : EW K W (tC v) (wC d) := fun c pa G H σ ds xk kk Q E hw hx k => k v G H d ds hw (.refl E) (h G)
theorem ew_var (i : Nat) : EW K W (tVar i) (wVar i) := fun c pa G H σ ds xk kk Q E hw hx k => by
  have hw : (match gt ds i with
    | some (.val d) => kk d ds
    | some (.own xs) => kk (.lst xs) (st ds i (.val (.lst xs)))
    | _ => False) := hw
  cases e : gt ds i with
  | none => rw [e] at hw; exact hw.elim
  | some dv =>
    rw [e] at hw
    cases dv with
    | val d =>
      obtain ⟨v, e1, r⟩ := E.val e
      exact ⟨v, e1, k v G H d ds hw (.refl E) r⟩
    | par xs => exact hw.elim
    | own xs =>
      obtain ⟨e1, g, h0, vs, e2, r⟩ := E.sl i _ e
      have hl := gt_lt e
      -- from here on it stands still
      refine ⟨.ref (pa i), e1, ?_⟩
      have ne : ∀ j dv, gt (er ds i) j = some dv → isO dv = true → pa j ≠ pa i := fun j dv q o => by
        rw [gt_er] at q
        by_cases hj : j = i
        · rw [if_pos hj] at q
          cases q
        · rw [if_neg hj] at q
          exact E.inj j i dv _ q e o rfl hj
      have E1 := (E.drop i).still e2 g h0 ne
      have sg : Same G (upd G (pa i) (.lst vs)) := same_new g
      have rr : Rep K (upd G (pa i) (.lst vs)) (.lst xs) (.ref (pa i)) := ⟨pa i, vs, rfl, SqL.of upd_same, r.mono sg⟩
      have E2 := E1.setVal (v := .ref (pa i)) (d := .lst xs) i rr
      have es : σ.set i (some (.ref (pa i))) = σ := List.ext_getElem? fun j => by
        by_cases hj : i = j
        · subst hj
          rw [E.len] at hl
          rw [List.getElem?_set_self hl, e1]
        · rw [set_get hj]
      have ed : st (er ds i) i (.val (.lst xs)) = st ds i (.val (.lst xs)) := by
        have z : ∀ (l : DS) (j : Nat) (d : DV), st (er l j) j d = st l j d := by
          intro l
          induction l with
          | nil => intro j d; rfl
          | cons x r ih =>
            intro j d
            cases j with
            | zero => rfl
            | succ j =>
              show x :: st (er r j) j d = x :: st r j d
              rw [ih]
        exact z ds i _
      rw [es, ed] at E2
      refine k _ _ H _ _ hw ⟨E2, sg, fun a o q n => ⟨q, by rw [upd_ne (n i _ e rfl)]⟩, fun j dv q o => ?_, fun _ q => q⟩ rr
      rw [gt_st] at q
      by_cases hj : j = i ∧ i < ds.length
      · rw [if_pos hj] at q
        have q : DV.val (.lst xs) = dv := Option.some.inj q
        subst q
        cases o
      · rw [if_neg hj] at q
        exact ⟨dv, q, o⟩
theorem ew_op {r : R2} {f : B2} (hr : RW2 K r f) (ha : EW K W ta a) (hb : EW K W tb b) : EW K W (tOp r ta tb) (wBin f a b) := fun c pa G H σ ds xk kk Q E hw hx k => by
  refine ha c pa G H σ ds xk _ _ E hw hx fun x G1 H1 d ds1 q S1 r1 => ?_
  refine hb c pa G1 H1 σ ds1 xk _ _ S1.env q hx fun y G2 H2 e ds2 q2 S2 r2 => ?_
  exact hr G2 H2 x y d e _ Q S2.env.ex (r1.mono S2.sg) r2 q2 fun z v hz rz => k v G2 H2 z ds2 hz (S1.trans S2) rz
theorem ew_un {r : V → Hp → VK → Prop} {f : B1} (hr : RW1 K r f) (ha : EW K W ta a) : EW K W (tUn r ta) (wUn f a) := fun c pa G H σ ds xk kk Q E hw hx k => by
  refine ha c pa G H σ ds xk _ _ E hw hx fun x G1 H1 d ds1 q S1 r1 => ?_
  exact hr G1 H1 x d _ Q S1.env.ex r1 q fun z v hz rz => k v G1 H1 z ds1 hz S1 rz
theorem aw_nil : AW K W tNil [] := fun c pa G H σ ds xk kk Q E hw hx k => k [] G H [] ds hw (.refl E) rfl rfl
theorem aw_cons {tr : TA} {r : List WE} (ha : EW K W ta a) (hr : AW K W tr r) : AW K W (tCons ta tr) (a :: r) := fun c pa G H σ ds xk kk Q E hw hx k => by
  refine ha c pa G H σ ds xk _ _ E hw hx fun x G1 H1 d ds1 q S1 r1 => ?_
  refine hr c pa G1 H1 σ ds1 xk _ _ S1.env q hx fun vs G2 H2 l ds2 q2 S2 r2 l2 => ?_
  exact k (x :: vs) G2 H2 (d :: l) ds2 q2 (S1.trans S2) ⟨x, vs, rfl, r1.mono S2.sg, r2⟩ (by rw [List.length_cons, List.length_cons, l2])
theorem ew_tup {t : TA} {as : List WE} (h : AW K W t as) (hl : as.length ≤ 100000 := by decide) : EW K W (tTup t) (wTup as) := fun c pa G H σ ds xk kk Q E hw hx k => by
  refine h c pa G H σ ds xk (fun l ds1 => kk (.tup l) ds1) _ E hw hx fun vs G1 H1 l ds1 q S1 r1 l1 => ?_
  refine ⟨?_, fun p hp => ?_⟩
  · rw [← r1.len, l1]
    exact Nat.le_trans hl (by decide)
  · have S2 := Stp.new S1.env (o := .tup vs) hp
    exact k _ _ _ _ _ q (S1.trans S2) ⟨p, vs, rfl, SqT.of upd_same, r1.mono S2.sg⟩
theorem eo_lst {t : TA} {as : List WE} (h : AW K W t as) (hl : as.length ≤ 100000 := by decide) : EO K W (tLst t) (wLst as) := fun c pa G H σ ds xk kk Q E hw hx k => by
  refine h c pa G H σ ds xk (fun l ds1 => kk l ds1) _ E hw hx fun vs G1 H1 l ds1 q S1 r1 l1 => ?_
  refine ⟨?_, fun p hp => ?_⟩
  · rw [← r1.len, l1]
    exact Nat.le_trans hl (by decide)
  · obtain ⟨S2, t2⟩ := Stp.newOwn S1.env hp r1
    refine k _ _ _ _ _ q (S1.trans S2) t2 ?_
    cases z : H p with
    | none => rfl
    | some o => exact absurd hp (S1.dom p (by rw [z]; exact fun y => nomatch y))
theorem ew_frz {o : WO} (h : EO K W te o) : EW K W te (wFrz o) := fun c pa G H σ ds xk kk Q E hw hx k => by
  refine h c pa G H σ ds xk _ _ E hw hx fun p G1 H1 xs ds1 q S1 t1 n1 => ?_
  obtain ⟨G2, S2, r2⟩ := S1.freeze t1 n1
  exact k _ _ _ _ _ q S2 r2
/-! ### the own list in a slot -/
theorem own_ref {c : C0} {pa : Nat → Addr} {G H : Hp} {σ : L2.St} {ds : DS} (E : Env K c pa G H σ ds) {i : Nat} {xs : List D} (h : listAt ds i = some xs) : σ[i]? = some (some (.ref (pa i))) := by
  obtain ⟨_, _, _, _, q, _⟩ := E.lst h
  exact q
theorem listAt_some {ds : DS} {i : Nat} {P : List D → Prop} (h : match listAt ds i with | some xs => P xs | none => False) : ∃ xs, listAt ds i = some xs ∧ P xs := by
  cases e : listAt ds i with
  | none => rw [e] at h; exact h.elim
  | some xs => rw [e] at h; exact ⟨xs, rfl, h⟩
/-! ### choices -/
theorem ew_if (ht : TW K W t wt) (ha : EW K W ta a) (hb : EW K W tb b) : EW K W (tIf t ta tb) (wIf wt a b) := fun c pa G H σ ds xk kk Q E hw hx k => by
  refine ht c pa G H σ ds xk _ _ E hw hx fun v G1 H1 ds1 q S1 => ?_
  cases v with
  | true =>
    rw [if_pos rfl] at q ⊢
    exact ha c pa G1 H1 σ ds1 xk _ _ S1.env q hx fun x G2 H2 d ds2 q2 S2 r2 => k x G2 H2 d ds2 q2 (S1.trans S2) r2
  | false =>
    rw [if_neg Bool.false_ne_true] at q ⊢
    exact hb c pa G1 H1 σ ds1 xk _ _ S1.env q hx fun x G2 H2 d ds2 q2 S2 r2 => k x G2 H2 d ds2 q2 (S1.trans S2) r2
theorem bl_some {d : D} {P : Bool → Prop} (h : match d with | .bl c => P c | _ => False) : ∃ c, d = .bl c ∧ P c := by
  cases d with
  | bl c => exact ⟨c, rfl, h⟩
  | _ => exact h.elim
theorem ew_and (ha : EW K W ta a) (hb : EW K W tb b) : EW K W (tAndV ta tb) (wAndV a b) := fun c pa G H σ ds xk kk Q E hw hx k => by
  refine ha c pa G H σ ds xk _ _ E hw hx fun x G1 H1 d ds1 q S1 r1 => ?_
  obtain ⟨v, rfl, q'⟩ := bl_some q
  have q : if v = true then b xk ds1 kk else kk (.bl false) ds1 := q'
  have r1 : x = .bl v := r1
  refine ⟨v, r1, ?_⟩
  cases v with
  | true =>
    rw [if_pos rfl] at q ⊢
    exact hb c pa G1 H1 σ ds1 xk _ _ S1.env q hx fun x G2 H2 d ds2 q2 S2 r2 => k x G2 H2 d ds2 q2 (S1.trans S2) r2
  | false =>
    rw [if_neg Bool.false_ne_true] at q ⊢
    exact k _ _ _ _ _ q S1 rfl
theorem ew_or (ha : EW K W ta a) (hb : EW K W tb b) : EW K W (tOrV ta tb) (wOrV a b) := fun c pa G H σ ds xk kk Q E hw hx k => by
  refine ha c pa G H σ ds xk _ _ E hw hx fun x G1 H1 d ds1 q S1 r1 => ?_
  obtain ⟨v, rfl, q'⟩ := bl_some q
  have q : if v = true then kk (.bl true) ds1 else b xk ds1 kk := q'
  have r1 : x = .bl v := r1
  refine ⟨v, r1, ?_⟩
  cases v with
  | true =>
    rw [if_pos rfl] at q ⊢
    exact k _ _ _ _ _ q S1 rfl
  | false =>
    rw [if_neg Bool.false_ne_true] at q ⊢
    exact hb c pa G1 H1 σ ds1 xk _ _ S1.env q hx fun x G2 H2 d ds2 q2 S2 r2 => k x G2 H2 d ds2 q2 (S1.trans S2) r2
theorem ew_not (ha : EW K W ta a) : EW K W (tNotV ta) (wNotV a) := fun c pa G H σ ds xk kk Q E hw hx k => by
  refine ha c pa G H σ ds xk _ _ E hw hx fun x G1 H1 d ds1 q S1 r1 => ?_
  obtain ⟨v, rfl, q⟩ := bl_some q
  have r1 : x = .bl v := r1
  exact ⟨v, r1, k _ _ _ _ _ q S1 rfl⟩
/-! ### tests -/
theorem tw_tst (ha : EW K W ta a) : TW K W (tTest ta) (wTst a) := fun c pa G H σ ds xk kk Q E hw hx k => by
  refine ha c pa G H σ ds xk _ _ E hw hx fun x G1 H1 d ds1 q S1 r1 => ?_
  obtain ⟨v, rfl, q⟩ := bl_some q
  have r1 : x = .bl v := r1
  exact ⟨v, r1, k _ _ _ _ q S1⟩
theorem tw_b (ha : EW K W ta a) : TW K W (tB ta) (wTst a) := tw_tst ha
theorem tw_yes : TW K W tYes wYes := fun c pa G H σ ds xk kk Q E hw hx k => k true G H ds hw (.refl E)
theorem tw_and (ha : TW K W t wt) (hb : TW K W u wu) : TW K W (tAnd t u) (wAnd wt wu) := fun c pa G H σ ds xk kk Q E hw hx k => by
  refine ha c pa G H σ ds xk _ _ E hw hx fun v G1 H1 ds1 q S1 => ?_
  cases v with
  | true =>
    rw [if_pos rfl] at q ⊢
    exact hb c pa G1 H1 σ ds1 xk _ _ S1.env q hx fun x G2 H2 ds2 q2 S2 => k x G2 H2 ds2 q2 (S1.trans S2)
  | false =>
    rw [if_neg Bool.false_ne_true] at q ⊢
    exact k _ _ _ _ q S1
theorem tw_or (ha : TW K W t wt) (hb : TW K W u wu) : TW K W (tOr t u) (wOr wt wu) := fun c pa G H σ ds xk kk Q E hw hx k => by
  refine ha c pa G H σ ds xk _ _ E hw hx fun v G1 H1 ds1 q S1 => ?_
  cases v with
  | true =>
    rw [if_pos rfl] at q ⊢
    exact k _ _ _ _ q S1
  | false =>
    rw [if_neg Bool.false_ne_true] at q ⊢
    exact hb c pa G1 H1 σ ds1 xk _ _ S1.env q hx fun x G2 H2 ds2 q2 S2 => k x G2 H2 ds2 q2 (S1.trans S2)
theorem tw_not (ha : TW K W t wt) : TW K W (tNot t) (wNot wt) := fun c pa G H σ ds xk kk Q E hw hx k => by
  refine ha c pa G H σ ds xk _ _ E hw hx fun v G1 H1 ds1 q S1 => ?_
  exact k _ _ _ _ q S1
/-! ### built-ins of values -/
theorem ew_cb1 {r : List V → Hp → VK → Prop} {f : B1} (hr : RWC1 K r f) (ha : EW K W ta a) : EW K W (tCB r (tCons ta tNil)) (wUn f a) := fun c pa G H σ ds xk kk Q E hw hx k => by
  refine ha c pa G H σ ds xk _ _ E hw hx fun x G1 H1 d ds1 q S1 r1 => ?_
  exact hr G1 H1 x d _ Q S1.env.ex r1 q fun z v hz rz => k v G1 H1 z ds1 hz S1 rz
theorem ew_cb2 {r : List V → Hp → VK → Prop} {f : B2} (hr : RWC2 K r f) (ha : EW K W ta a) (hb : EW K W tb b) : EW K W (tCB r (tCons ta (tCons tb tNil))) (wBin f a b) := fun c pa G H σ ds xk kk Q E hw hx k => by
  refine ha c pa G H σ ds xk _ _ E hw hx fun x G1 H1 d ds1 q S1 r1 => ?_
  refine hb c pa G1 H1 σ ds1 xk _ _ S1.env q hx fun y G2 H2 e ds2 q2 S2 r2 => ?_
  exact hr G2 H2 x y d e _ Q S2.env.ex (r1.mono S2.sg) r2 q2 fun z v hz rz => k v G2 H2 z ds2 hz (S1.trans S2) rz
end
end DW

/-! DwD: own lists, calls, targets, statements, loops, comprehensions. -/
namespace DW
open PySem PySem.Spec PyProof.Rows L2

/-! ### promises over data as promises over the heap -/
def ArgOk (K : PySem.W.Frag) (G H : Hp) (p : Addr) (o : Option V) : DV → Prop
  | .val d => ∃ v, o = some v ∧ Rep K G d v
  | .par xs => o = some (.ref p) ∧ G p = none ∧ ∃ vs, H p = some (.lst vs) ∧ Reps K G xs vs
  | .own _ => False
structure Args (K : PySem.W.Frag) (G H : Hp) (pa : Nat → Addr) (vs : List V) (dvs : List DV) : Prop where
  len : dvs.length = vs.length
  here : ∀ i dv, dvs[i]? = some dv → ArgOk K G H (pa i) vs[i]? dv
  inj : ∀ (i j : Nat) xs ys, dvs[i]? = some (.par xs) → dvs[j]? = some (.par ys) → i ≠ j → pa i ≠ pa j
/-- behind a call: what stood stands, the lent lists have new items -/
structure Back (K : PySem.W.Frag) (G H G' H' : Hp) (pa : Nat → Addr) (dvs dvs' : List DV) : Prop where
  ex : Same G' H'
  gg : Same G G'
  gf : ∀ a, H a ≠ none → G' a = G a
  fr : ∀ a o, H a = some o → (∀ i xs, dvs[i]? = some (.par xs) → a ≠ pa i) → H' a = some o
  dom : ∀ a, H a ≠ none → H' a ≠ none
  pars : ∀ (i : Nat) xs, dvs[i]? = some (.par xs) → ∃ ys, dvs'[i]? = some (.par ys) ∧ ∃ ws, H' (pa i) = some (.lst ws) ∧ Reps K G' ys ws
def Res (K : PySem.W.Frag) (H G' H' : Hp) (v : V) : DV → Prop
  | .val d => Rep K G' d v
  | .own xs => ∃ p, v = .ref p ∧ H p = none ∧ G' p = none ∧ ∃ vs, H' p = some (.lst vs) ∧ Reps K G' xs vs
  | .par _ => False
def spOf (K : PySem.W.Frag) (fs : FS) : Sp := fun vs H Q E => ∃ (G : Hp) (pa : Nat → Addr) (dvs : List DV) (kk : Out → List DV → Prop), Same G H ∧ Args K G H pa vs dvs ∧ fs dvs kk ∧
  (∀ v r dvs' G' H', kk (.ret r) dvs' → Back K G H G' H' pa dvs dvs' → Res K H G' H' v r → Q v H') ∧
  (∀ e cls d dvs' G' H', kk (.exc e) dvs' → Back K G H G' H' pa dvs dvs' → ExcAt K G' H' e cls d → E cls d H')
theorem spOf_len {K : PySem.W.Frag} {fs : FS} {n : Nat} (h : ∀ dvs kk, fs dvs kk → dvs.length = n) : ∀ vs H Q E, spOf K fs vs H Q E → vs.length = n := fun vs H Q E ⟨G, pa, dvs, kk, _, ha, hf, _⟩ => ha.len.symm.trans (h dvs kk hf)

/-- the arguments of a call: data, own lists -/
def ArgV (K : PySem.W.Frag) (G : Hp) (pa : Nat → Addr) : AV → V → Prop
  | .v d, v => Rep K G d v
  | .s i, v => v = .ref (pa i)
def ArgVs (K : PySem.W.Frag) (G : Hp) (pa : Nat → Addr) : List AV → List V → Prop
  | [], vs => vs = []
  | a :: as, vs => ∃ x xs, vs = x :: xs ∧ ArgV K G pa a x ∧ ArgVs K G pa as xs
theorem ArgVs.mono {K : PySem.W.Frag} {G G' : Hp} {pa : Nat → Addr} (s : Same G G') : ∀ {as : List AV} {vs : List V}, ArgVs K G pa as vs → ArgVs K G' pa as vs
  | [], _, h => h
  | a :: as, vs, h => by
    obtain ⟨x, xs, e, h1, h2⟩ := h
    refine ⟨x, xs, e, ?_, ArgVs.mono s h2⟩
    cases a with
    | v d => exact Rep.mono s (show Rep K G d x from h1)
    | s i => exact h1
theorem ArgVs.len {K : PySem.W.Frag} {G : Hp} {pa : Nat → Addr} : ∀ {as : List AV} {vs : List V}, ArgVs K G pa as vs → as.length = vs.length
  | [], vs, h => by
    have h : vs = [] := h
    rw [h]
    rfl
  | a :: as, vs, h => by
    obtain ⟨x, xs, e, h1, h2⟩ := h
    rw [e, List.length_cons, List.length_cons, ArgVs.len h2]
def CAW (K : PySem.W.Frag) (W : WX) (ta : TA) (as : List DA) : Prop := ∀ (c : C0) pa G H σ ds xk (kk : List AV → DS → Prop) (Q : List V → Hp → Prop), Env K c pa G H σ ds → wCArgs as xk ds kk → XOk K c W xk →
  (∀ vs G' H' l ds', kk l ds' → Stp K c pa σ G H ds G' H' ds' → ArgVs K G' pa l vs → Q vs H') → ta σ H Q
section
variable {K : PySem.W.Frag} {W : WX} {ta tb te : TE} {a b : WE} {t u : TT} {wt wu : WT}
theorem isSome_at {ds : DS} {i : Nat} (h : (listAt ds i).isSome = true) : ∃ xs, listAt ds i = some xs := by
  cases e : listAt ds i with
  | none => rw [e] at h; cases h
  | some xs => exact ⟨xs, rfl⟩
theorem ca_nil : CAW K W tNil [] := fun c pa G H σ ds xk kk Q E hw hx k => k [] G H [] ds hw (.refl E) rfl
theorem ca_v {tr : TA} {r : List DA} (ha : EW K W ta a) (hr : CAW K W tr r) : CAW K W (tCons ta tr) (.v a :: r) := fun c pa G H σ ds xk kk Q E hw hx k => by
  refine ha c pa G H σ ds xk _ _ E hw hx fun x G1 H1 d ds1 q S1 r1 => ?_
  refine hr c pa G1 H1 σ ds1 xk _ _ S1.env q hx fun vs G2 H2 l ds2 q2 S2 r2 => ?_
  exact k (x :: vs) G2 H2 (.v d :: l) ds2 q2 (S1.trans S2) ⟨x, vs, rfl, Rep.mono S2.sg r1, r2⟩
theorem ca_s {i : Nat} {tr : TA} {r : List DA} (hr : CAW K W tr r) : CAW K W (tCons (tVar i) tr) (.s i :: r) := fun c pa G H σ ds xk kk Q E hw hx k => by
  obtain ⟨h1, h2⟩ := hw
  obtain ⟨xs, hxs⟩ := isSome_at h1
  refine ⟨.ref (pa i), own_ref E hxs, ?_⟩
  refine hr c pa G H σ ds xk _ _ E h2 hx fun vs G2 H2 l ds2 q2 S2 r2 => ?_
  exact k (.ref (pa i) :: vs) G2 H2 (.s i :: l) ds2 q2 S2 ⟨_, vs, rfl, rfl, r2⟩
/-- where the slots stand among the arguments -/
theorem argDv_at {ds : DS} : ∀ {as : List AV} {dvs : List DV}, argDv ds as = some dvs → dvs.length = as.length ∧ (∀ (j : Nat) d, as[j]? = some (.v d) → dvs[j]? = some (.val d)) ∧
    ∀ (j : Nat) i, as[j]? = some (.s i) → ∃ xs, listAt ds i = some xs ∧ dvs[j]? = some (.par xs)
  | [], dvs, h => by
    have h : ([] : List DV) = dvs := Option.some.inj h
    rw [← h]
    exact ⟨rfl, fun j d q => by simp at q, fun j i q => by simp at q⟩
  | .v d0 :: r, dvs, h => by
    have h : (argDv ds r).map (DV.val d0 :: ·) = some dvs := h
    cases e : argDv ds r with
    | none => rw [e] at h; cases h
    | some q =>
      rw [e] at h
      have h : DV.val d0 :: q = dvs := Option.some.inj h
      obtain ⟨h1, h2, h3⟩ := argDv_at e
      rw [← h]
      refine ⟨by rw [List.length_cons, List.length_cons, h1], fun j d z => ?_, fun j i z => ?_⟩
      · cases j with
        | zero =>
          have z : AV.v d0 = AV.v d := Option.some.inj z
          injection z with z
          rw [z]
          rfl
        | succ j => exact h2 j d z
      · cases j with
        | zero => cases (show AV.v d0 = AV.s i from Option.some.inj z)
        | succ j => exact h3 j i z
  | .s i0 :: r, dvs, h => by
    have h : (match listAt ds i0 with | some xs => (argDv ds r).map (DV.par xs :: ·) | none => none) = some dvs := h
    cases e0 : listAt ds i0 with
    | none => rw [e0] at h; cases h
    | some xs =>
      rw [e0] at h
      have h : (argDv ds r).map (DV.par xs :: ·) = some dvs := h
      cases e : argDv ds r with
      | none => rw [e] at h; cases h
      | some q =>
        rw [e] at h
        have h : DV.par xs :: q = dvs := Option.some.inj h
        obtain ⟨h1, h2, h3⟩ := argDv_at e
        rw [← h]
        refine ⟨by rw [List.length_cons, List.length_cons, h1], fun j d z => ?_, fun j i z => ?_⟩
        · cases j with
          | zero => cases (show AV.s i0 = AV.v d from Option.some.inj z)
          | succ j => exact h2 j d z
        · cases j with
          | zero =>
            have z : AV.s i0 = AV.s i := Option.some.inj z
            injection z with z
            rw [← z]
            exact ⟨xs, e0, rfl⟩
          | succ j => exact h3 j i z
theorem slots_mem : ∀ {as : List AV} {j i : Nat}, as[j]? = some (.s i) → i ∈ slotsOf as
  | [], j, i, h => by simp at h
  | .v d :: r, 0, i, h => by cases (show AV.v d = AV.s i from Option.some.inj h)
  | .v d :: r, j + 1, i, h => slots_mem (as := r) (j := j) h
  | .s i0 :: r, 0, i, h => by
    have z : AV.s i0 = AV.s i := Option.some.inj h
    injection z with z
    rw [z]
    exact List.mem_cons_self
  | .s i0 :: r, j + 1, i, h => List.mem_cons_of_mem _ (slots_mem (as := r) (j := j) h)
theorem slots_inj : ∀ {as : List AV} {j j' i : Nat}, (slotsOf as).Nodup → as[j]? = some (.s i) → as[j']? = some (.s i) → j = j'
  | [], j, j', i, _, h, _ => by simp at h
  | .v d :: r, 0, _, i, _, h, _ => by cases (show AV.v d = AV.s i from Option.some.inj h)
  | .v d :: r, _ + 1, 0, i, _, _, h => by cases (show AV.v d = AV.s i from Option.some.inj h)
  | .v d :: r, j + 1, j' + 1, i, n, h, h' => by rw [slots_inj (as := r) n h h']
  | .s i0 :: r, 0, 0, i, _, _, _ => rfl
  | .s i0 :: r, 0, j' + 1, i, n, h, h' => by
    have z : AV.s i0 = AV.s i := Option.some.inj h
    injection z with z
    have n : (i0 :: slotsOf r).Nodup := n
    exact absurd (z ▸ slots_mem (as := r) (j := j') h') (List.nodup_cons.mp n).1
  | .s i0 :: r, j + 1, 0, i, n, h, h' => by
    have z : AV.s i0 = AV.s i := Option.some.inj h'
    injection z with z
    have n : (i0 :: slotsOf r).Nodup := n
    exact absurd (z ▸ slots_mem (as := r) (j := j) h) (List.nodup_cons.mp n).1
  | .s i0 :: r, j + 1, j' + 1, i, n, h, h' => by
    have n : (i0 :: slotsOf r).Nodup := n
    rw [slots_inj (as := r) (List.nodup_cons.mp n).2 h h']
theorem slots_ix : ∀ {as : List AV} {i : Nat}, i ∈ slotsOf as → ∃ j : Nat, as[j]? = some (AV.s i)
  | [], i, h => by simp [slotsOf] at h
  | .v d :: r, i, h => by
    obtain ⟨j, e⟩ := slots_ix (as := r) h
    exact ⟨j + 1, e⟩
  | .s i0 :: r, i, h => by
    rcases List.mem_cons.mp (show i ∈ i0 :: slotsOf r from h) with e | h
    · exact ⟨0, by rw [e]; rfl⟩
    · obtain ⟨j, e⟩ := slots_ix (as := r) h
      exact ⟨j + 1, e⟩
theorem len_backs : ∀ (as : List AV) (vs : List DV) (ds : DS), (backs ds as vs).length = ds.length
  | [], vs, ds => by cases vs <;> rfl
  | .v d :: r, [], ds => rfl
  | .s i :: r, [], ds => rfl
  | .v d :: r, q :: vs, ds => len_backs r vs ds
  | .s i :: r, .par ys :: vs, ds => by
    show (backs (refill ds i ys) r vs).length = _
    rw [len_backs r vs, len_refill]
  | .s i :: r, .val _ :: vs, ds => len_backs r vs ds
  | .s i :: r, .own _ :: vs, ds => len_backs r vs ds
theorem refill_at {ds : DS} {i j : Nat} {ys : List D} (h : j ≠ i) : gt (refill ds i ys) j = gt ds j := by
  rw [gt_refill]
  cases gt ds j with
  | none => rfl
  | some dv => cases dv <;> simp only [if_neg h]
theorem refill_cong {ds ds' : DS} {i : Nat} {ys : List D} (h : gt ds i = gt ds' i) : gt (refill ds i ys) i = gt (refill ds' i ys) i := by
  rw [gt_refill, gt_refill, h]
/-- what the slots hold behind a call -/
theorem backs_out : ∀ (as : List AV) (vs : List DV) (ds : DS) (i : Nat), i ∉ slotsOf as → gt (backs ds as vs) i = gt ds i
  | [], vs, ds, i, _ => by cases vs <;> rfl
  | .v d :: r, [], ds, i, _ => rfl
  | .s i0 :: r, [], ds, i, _ => rfl
  | .v d :: r, q :: vs, ds, i, h => backs_out r vs ds i h
  | .s i0 :: r, .par ys :: vs, ds, i, h => by
    have h : i ∉ i0 :: slotsOf r := h
    have n : i ≠ i0 := fun e => h (e ▸ List.mem_cons_self)
    have m : i ∉ slotsOf r := fun e => h (List.mem_cons_of_mem _ e)
    show gt (backs (refill ds i0 ys) r vs) i = _
    rw [backs_out r vs _ i m, refill_at n]
  | .s i0 :: r, .val _ :: vs, ds, i, h => backs_out r vs ds i fun e => h (List.mem_cons_of_mem _ e)
  | .s i0 :: r, .own _ :: vs, ds, i, h => backs_out r vs ds i fun e => h (List.mem_cons_of_mem _ e)
theorem backs_in : ∀ (as : List AV) (vs : List DV) (ds : DS) (i j : Nat) (ys : List D), (slotsOf as).Nodup → as[j]? = some (.s i) → vs[j]? = some (.par ys) → gt (backs ds as vs) i = gt (refill ds i ys) i
  | [], vs, ds, i, j, ys, _, h, _ => by simp at h
  | _ :: _, [], ds, i, j, ys, _, _, h => by simp at h
  | .v d :: r, q :: vs, ds, i, 0, ys, _, h, _ => by cases (show AV.v d = AV.s i from Option.some.inj h)
  | .v d :: r, q :: vs, ds, i, j + 1, ys, n, h, h' => backs_in r vs ds i j ys n h h'
  | .s i0 :: r, .par zs :: vs, ds, i, 0, ys, n, h, h' => by
    have z : AV.s i0 = AV.s i := Option.some.inj h
    injection z with z
    subst z
    have z : DV.par zs = DV.par ys := Option.some.inj h'
    injection z with z
    subst z
    have n : (i0 :: slotsOf r).Nodup := n
    show gt (backs (refill ds i0 zs) r vs) i0 = _
    rw [backs_out r vs _ i0 (List.nodup_cons.mp n).1]
  | .s i0 :: r, .par zs :: vs, ds, i, j + 1, ys, n, h, h' => by
    have n : (i0 :: slotsOf r).Nodup := n
    have ne : i ≠ i0 := fun e => (List.nodup_cons.mp n).1 (e ▸ slots_mem (as := r) (j := j) h)
    show gt (backs (refill ds i0 zs) r vs) i = _
    rw [backs_in r vs _ i j ys (List.nodup_cons.mp n).2 h h']
    exact refill_cong (refill_at ne)
  | .s i0 :: r, .val _ :: vs, ds, i, 0, ys, n, h, h' => by cases (Option.some.inj h' : DV.val _ = DV.par ys)
  | .s i0 :: r, .own _ :: vs, ds, i, 0, ys, n, h, h' => by cases (Option.some.inj h' : DV.own _ = DV.par ys)
  | .s i0 :: r, .val _ :: vs, ds, i, j + 1, ys, n, h, h' => by
    have n : (i0 :: slotsOf r).Nodup := n
    exact backs_in r vs ds i j ys (List.nodup_cons.mp n).2 h h'
  | .s i0 :: r, .own _ :: vs, ds, i, j + 1, ys, n, h, h' => by
    have n : (i0 :: slotsOf r).Nodup := n
    exact backs_in r vs ds i j ys (List.nodup_cons.mp n).2 h h'
theorem argDv_par {ds : DS} {as : List AV} {dvs : List DV} {j : Nat} {xs : List D} {more : List D} (h : argDv ds as = some dvs) (e : (dvs ++ more.map DV.val)[j]? = some (.par xs)) : ∃ i, as[j]? = some (AV.s i) ∧ listAt ds i = some xs := by
  obtain ⟨h1, h2, h3⟩ := argDv_at h
  by_cases hj : j < dvs.length
  · rw [List.getElem?_append_left hj] at e
    rw [h1] at hj
    cases ea : as[j]? with
    | none => exact absurd (List.getElem?_eq_none_iff.mp ea) (by omega)
    | some av =>
      cases av with
      | v d =>
        rw [h2 j d ea] at e
        cases (Option.some.inj e : DV.val d = DV.par xs)
      | s i =>
        obtain ⟨ys, e1, e2⟩ := h3 j i ea
        rw [e2] at e
        have z : DV.par ys = DV.par xs := Option.some.inj e
        injection z with z
        exact ⟨i, rfl, by rw [e1, z]⟩
  · rw [List.getElem?_append_right (by omega), List.getElem?_map] at e
    cases q : more[j - dvs.length]? with
    | none => rw [q] at e; cases e
    | some d =>
      rw [q] at e
      cases (Option.some.inj e : DV.val d = DV.par xs)
def padr (pa : Nat → Addr) (as : List AV) (j : Nat) : Addr := match as[j]? with | some (.s i) => pa i | _ => 0
theorem padr_s {pa : Nat → Addr} {as : List AV} {j i : Nat} (h : as[j]? = some (AV.s i)) : padr pa as j = pa i := by
  unfold padr
  rw [h]
theorem Env.called {c : C0} {pa : Nat → Addr} {G H G' H' : Hp} {σ : L2.St} {ds : DS} {as : List AV} {dvs dvs' : List DV} {more : List D} (E : Env K c pa G H σ ds) (ha : argDv ds as = some dvs) (nd : (slotsOf as).Nodup)
    (B : Back K G H G' H' (padr pa as) (dvs ++ more.map DV.val) dvs') : Stp K c pa σ G H ds G' H' (backs ds as dvs') := by
  obtain ⟨a1, a2, a3⟩ := argDv_at ha
  have par_of : ∀ (j : Nat) i, as[j]? = some (AV.s i) → ∃ xs, listAt ds i = some xs ∧ (dvs ++ more.map DV.val)[j]? = some (.par xs) := fun j i e => by
    obtain ⟨xs, e1, e2⟩ := a3 j i e
    exact ⟨xs, e1, by rw [List.getElem?_append_left (List.getElem?_eq_some_iff.mp e2).1]; exact e2⟩
  have back : ∀ i dv, gt (backs ds as dvs') i = some dv → isO dv = true → ∃ d0, gt ds i = some d0 ∧ isO d0 = true := fun i dv h o => by
    by_cases hi : i ∈ slotsOf as
    · obtain ⟨j, ej⟩ := slots_ix hi
      obtain ⟨xs, e1, _⟩ := par_of j i ej
      obtain ⟨d0, g1, g2, _⟩ := E.lst e1
      exact ⟨d0, g1, g2⟩
    · rw [backs_out as dvs' ds i hi] at h
      exact ⟨dv, h, o⟩
  refine ⟨⟨B.ex, fun a o h w => ?_, fun a h => B.dom a (E.dom a h), E.ge.trans B.gg, fun a h => (B.gf a (E.dom a h)).trans (E.gf a h), by rw [len_backs]; exact E.len, fun i dv h => ?_, fun i j dv dv' h h' o o' n => ?_, fun i zs h => ?_⟩, B.gg,
    fun a o h n => ⟨B.fr a o h fun j xs e q => ?_, B.gf a (by rw [h]; exact fun z => nomatch z)⟩, back, B.dom⟩
  · refine B.fr a o (E.fr a o h w) fun j xs e q => ?_
    obtain ⟨i, e1, e2⟩ := argDv_par ha e
    rw [padr_s e1] at q
    obtain ⟨_, _, _, _, _, _, h6, _⟩ := E.lst e2
    rw [q] at h w
    rcases h6 with z | z
    · rw [z] at h; cases h
    · exact w z
  · by_cases hi : i ∈ slotsOf as
    · obtain ⟨j, ej⟩ := slots_ix hi
      obtain ⟨xs, e1, e2⟩ := par_of j i ej
      obtain ⟨ys, y1, ws, y2, y3⟩ := B.pars j xs e2
      rw [padr_s ej] at y2
      rw [backs_in as dvs' ds i j ys nd ej y1, gt_refill] at h
      obtain ⟨d0, g1, g2, g3, g4, g5, g6, _⟩ := E.lst e1
      have gn : G' (pa i) = none := (B.gf _ (E.ownNe g1 g2)).trans g5
      have s0 := E.sl i d0 g1
      rw [g1] at h
      rcases g3 with z | z
      · subst z
        simp only [if_true] at h
        have h := Option.some.inj h
        subst h
        obtain ⟨s1, s2, s3, _⟩ := s0
        exact ⟨s1, gn, s3, ws, y2, y3⟩
      · subst z
        simp only [if_true] at h
        have h := Option.some.inj h
        subst h
        obtain ⟨s1, s2, s3, _⟩ := s0
        exact ⟨s1, gn, s3, ws, y2, y3⟩
    · rw [backs_out as dvs' ds i hi] at h
      have s := E.sl i dv h
      have away : isO dv = true → ∀ o, H (pa i) = some o → H' (pa i) = some o := fun o w hw => B.fr _ w hw fun j xs e q => by
        obtain ⟨i', e1, e2⟩ := argDv_par ha e
        rw [padr_s e1] at q
        obtain ⟨d0, g1, g2, _⟩ := E.lst e2
        exact E.inj i i' dv d0 h g1 o g2 (fun z => hi (z ▸ slots_mem e1)) q
      cases dv with
      | val d =>
        obtain ⟨v, e1, r⟩ := s
        exact ⟨v, e1, r.mono B.gg⟩
      | own xs =>
        obtain ⟨s1, s2, s3, vs, s4, s5⟩ := s
        exact ⟨s1, (B.gf _ (by rw [s4]; exact fun z => nomatch z)).trans s2, s3, vs, away rfl _ s4, s5.mono B.gg⟩
      | par xs =>
        obtain ⟨s1, s2, s3, vs, s4, s5⟩ := s
        exact ⟨s1, (B.gf _ (by rw [s4]; exact fun z => nomatch z)).trans s2, s3, vs, away rfl _ s4, s5.mono B.gg⟩
  · obtain ⟨d1, e1, o1⟩ := back i dv h o
    obtain ⟨d2, e2, o2⟩ := back j dv' h' o'
    exact E.inj i j d1 d2 e1 e2 o1 o2 n
  · by_cases hi : i ∈ slotsOf as
    · obtain ⟨j, ej⟩ := slots_ix hi
      obtain ⟨xs, e1, e2⟩ := par_of j i ej
      obtain ⟨ys, y1, _⟩ := B.pars j xs e2
      rw [backs_in as dvs' ds i j ys nd ej y1, gt_refill] at h
      obtain ⟨d0, g1, g2, g3, _⟩ := E.lst e1
      rw [g1] at h
      rcases g3 with z | z
      · subst z
        simp only [if_true] at h
        cases h
      · subst z
        exact E.ps i xs g1
    · rw [backs_out as dvs' ds i hi] at h
      exact E.ps i zs h
  · obtain ⟨i, e1, e2⟩ := argDv_par ha e
    rw [padr_s e1] at q
    obtain ⟨d0, g1, g2, _⟩ := E.lst e2
    exact n i d0 g1 g2 q
theorem ArgVs.get {G : Hp} {pa : Nat → Addr} : ∀ {as : List AV} {vs : List V} {j : Nat} {a : AV}, ArgVs K G pa as vs → as[j]? = some a → ∃ v, vs[j]? = some v ∧ ArgV K G pa a v
  | [], _, j, a, _, e => by simp at e
  | a0 :: r, vs, 0, a, h, e => by
    obtain ⟨x, xs, e1, h1, h2⟩ := h
    have e : a0 = a := Option.some.inj e
    rw [e1, ← e]
    exact ⟨x, rfl, h1⟩
  | a0 :: r, vs, j + 1, a, h, e => by
    obtain ⟨x, xs, e1, h1, h2⟩ := h
    rw [e1]
    exact ArgVs.get (j := j) h2 e
/-- the call's promise from the slots' word -/
theorem Env.args {c : C0} {pa : Nat → Addr} {G H : Hp} {σ : L2.St} {ds : DS} {as : List AV} {dvs : List DV} {more : List D} {vs mv : List V} (E : Env K c pa G H σ ds) (ha : argDv ds as = some dvs) (nd : (slotsOf as).Nodup)
    (hv : ArgVs K G pa as vs) (hm : Reps K G more mv) : Args K G H (padr pa as) (vs ++ mv) (dvs ++ more.map DV.val) := by
  obtain ⟨a1, a2, a3⟩ := argDv_at ha
  have lv := hv.len
  refine ⟨?_, fun j dv e => ?_, fun j j' xs ys e e' n => ?_⟩
  · rw [List.length_append, List.length_append, List.length_map, a1, lv, hm.len]
  · by_cases hj : j < dvs.length
    · rw [List.getElem?_append_left hj] at e
      have hj2 : j < as.length := by omega
      rw [List.getElem?_append_left (by omega)]
      have ea : as[j]? = some as[j] := List.getElem?_eq_getElem hj2
      obtain ⟨v, e1, r⟩ := hv.get ea
      cases q : as[j] with
      | v d =>
        rw [q] at ea r
        rw [a2 j d ea] at e
        have e : DV.val d = dv := Option.some.inj e
        rw [← e]
        exact ⟨v, e1, r⟩
      | s i =>
        rw [q] at ea r
        obtain ⟨xs, e2, e3⟩ := a3 j i ea
        rw [e3] at e
        have e : DV.par xs = dv := Option.some.inj e
        rw [← e]
        obtain ⟨_, _, _, _, _, g5, _, g7⟩ := E.lst e2
        have r : v = .ref (pa i) := r
        rw [padr_s ea]
        exact ⟨by rw [e1, r], g5, g7⟩
    · rw [List.getElem?_append_right (by omega), List.getElem?_map] at e
      rw [List.getElem?_append_right (by omega)]
      have es : j - dvs.length = j - vs.length := by omega
      cases q : more[j - dvs.length]? with
      | none => rw [q] at e; cases e
      | some d =>
        rw [q] at e
        have e : DV.val d = dv := Option.some.inj e
        rw [← e]
        obtain ⟨v, e1, r⟩ := hm.get q
        rw [es] at e1
        exact ⟨v, e1, r⟩
  · obtain ⟨i, e1, e2⟩ := argDv_par ha e
    obtain ⟨i', e1', e2'⟩ := argDv_par ha e'
    rw [padr_s e1, padr_s e1']
    obtain ⟨d0, g1, g2, _⟩ := E.lst e2
    obtain ⟨d0', g1', g2', _⟩ := E.lst e2'
    exact E.inj i i' d0 d0' g1 g1' g2 g2' fun z => n (slots_inj nd e1 (z ▸ e1'))
/-- a call, whatever it hands back -/
theorem call_core {fs : FS} {as : List DA} {more : List D} {mv : List V} {ta : TA} (h : CAW K W ta as) (hm : ∀ G, Reps K G more mv) {c : C0} {pa : Nat → Addr} {G H : Hp} {σ : L2.St} {ds : DS} {xk : XKd} {kk : DV → DS → Prop} {Q : VK}
    (E : Env K c pa G H σ ds) (hw : wCallB fs as more xk ds kk) (hx : XOk K c W xk)
    (k : ∀ v G' H' r ds' (H0 : Hp), kk r ds' → Stp K c pa σ G H ds G' H' ds' → Res K H0 G' H' v r → (∀ a, H a ≠ none → H0 a ≠ none) → (∀ a, c.H0 a ≠ none → H0 a ≠ none) → (∀ i dv, gt ds' i = some dv → isO dv = true → H0 (pa i) ≠ none) → Q v H') :
    tCallSD (spOf K fs) mv (L2.WE W) ta σ H Q := by
  refine h c pa G H σ ds xk _ _ E hw hx fun vs G1 H1 avs ds1 q S1 r1 => ?_
  have E1 := S1.env
  cases ea : argDv ds1 avs with
  | none => rw [ea] at q; exact q.elim
  | some dvs =>
    rw [ea] at q
    obtain ⟨nd, q⟩ := q
    refine ⟨G1, padr pa avs, dvs ++ more.map DV.val, _, E1.ex, E1.args ea nd r1 (hm G1), q, fun v r dvs' G' H' hk B R => ?_, fun e cls d dvs' G' H' hk B X => ?_⟩
    · refine k v G' H' r _ H1 hk (S1.trans (E1.called ea nd B)) R S1.dom E1.dom fun i dv hi o => ?_
      by_cases hm : i ∈ slotsOf avs
      · obtain ⟨j, ej⟩ := slots_ix hm
        obtain ⟨xs, e1, _⟩ := (argDv_at ea).2.2 j i ej
        obtain ⟨d0, g1, g2, _⟩ := E1.lst e1
        exact E1.ownNe g1 g2
      · rw [backs_out avs dvs' ds1 i hm] at hi
        exact E1.ownNe hi o
    · exact hx e _ hk pa G' H' σ cls d (E1.called ea nd B).env X
theorem dv_val {r : DV} {P : D → Prop} {P2 : List D → Prop} (h : match r with | .val d => P d | .own xs => P2 xs | .par _ => False) : (∃ d, r = .val d ∧ P d) ∨ ∃ xs, r = .own xs ∧ P2 xs := by
  cases r with
  | val d => exact .inl ⟨d, rfl, h⟩
  | own xs => exact .inr ⟨xs, rfl, h⟩
  | par _ => exact h.elim
theorem ew_call {fs : FS} {as : List DA} {more : List D} {mv : List V} {ta : TA} (h : CAW K W ta as) (hm : ∀ G, Reps K G more mv) : EW K W (tCallSD (spOf K fs) mv (L2.WE W) ta) (wCall fs as more) := fun c pa G H σ ds xk kk Q E hw hx k => by
  refine call_core h hm E hw hx fun v G' H' r ds' H0 q S R ha hd hn => ?_
  cases r with
  | val d => exact k v G' H' d ds' q S R
  | own xs =>
    obtain ⟨p, rfl, p0, p1, hp⟩ := R
    have t : Tmp K c pa G' H' ds' p xs := ⟨p1, by
      cases z : c.H0 p with
      | none => rfl
      | some o => exact absurd p0 (hd p (by rw [z]; exact fun z => nomatch z)), hp, fun i dv hi o z => hn i dv hi o (z ▸ p0)⟩
    obtain ⟨G2, S2, r2⟩ := S.freeze t (by
      cases z : H p with
      | none => rfl
      | some o => exact absurd p0 (ha p (by rw [z]; exact fun z => nomatch z)))
    exact k _ G2 H' _ ds' q S2 r2
  | par _ => exact q.elim
theorem eo_call {fs : FS} {as : List DA} {more : List D} {mv : List V} {ta : TA} (h : CAW K W ta as) (hm : ∀ G, Reps K G more mv) : EO K W (tCallSD (spOf K fs) mv (L2.WE W) ta) (wCallO fs as more) := fun c pa G H σ ds xk kk Q E hw hx k => by
  refine call_core h hm E hw hx fun v G' H' r ds' H0 q S R ha hd hn => ?_
  cases r with
  | val d => exact (show False from q).elim
  | own xs =>
    obtain ⟨p, rfl, p0, p1, hp⟩ := R
    have t : Tmp K c pa G' H' ds' p xs := ⟨p1, by
      cases z : c.H0 p with
      | none => rfl
      | some o => exact absurd p0 (hd p (by rw [z]; exact fun z => nomatch z)), hp, fun i dv hi o z => hn i dv hi o (z ▸ p0)⟩
    refine k p G' H' xs ds' q S t ?_
    cases z : H p with
    | none => rfl
    | some o => exact absurd p0 (ha p (by rw [z]; exact fun z => nomatch z))
  | par _ => exact (show False from q).elim
end
end DW

/-! DwE: targets, statements, loops, comprehensions. -/
namespace DW
open PySem PySem.Spec PyProof.Rows L2

/-! ### walking a list or a tuple, whichever it is -/
def iSeq (K : PySem.W.Frag) (tl : TE) : TI := fun σ H R => tl σ H fun x H1 => ∃ a, x = .ref a ∧ ((∃ xs, SqL K H1 a xs) ∧ R (Itl K a) H1 ∨ (∃ xs, SqT K H1 a xs) ∧ R (Itt K a) H1)
theorem pi_seq {X : Cx} {tg l : Expr} {tl : TE} (hl : PE X l tl) : PI X tg l (iSeq X.K tl) := ⟨fun pins s σ H R I hw => thn (hl.run pins s σ H _ I hw) fun v s1 hv => by
  obtain ⟨x, H1, I1, rx, a, ex, hq⟩ := hv
  rw [ex] at rx
  have ev : v = Value.ref a := rx
  rw [ev]
  have inew : ∀ (t' : Nat) (ob : Obj), Inv X pins σ H1 { s1 with heap := s1.heap.push ob, toks := t' } := fun t' ob => I1.kept (fun b u z => Heap.get?_push_of_some _ z)
  have own1 : ∀ b ∈ [s1.heap.objs.size], FpOk X pins H1 b := fun b hb => by
    rw [List.mem_singleton.mp hb]
    exact I1.fpOk (Nat.le_refl _) (I1.hok.fresh (Nat.le_refl _))
  rcases hq with ⟨⟨ys, hy⟩, hR⟩ | ⟨⟨ys, hy⟩, hR⟩
  · obtain ⟨its, _, pl, _⟩ := I1.list hy
    exact wpAny_pyIter_list pl.isList ⟨_, _, _, _, H1, rfl, inew _ _, turn_list a _, ⟨_, Heap.get?_push_size _ rfl, rfl, rfl⟩, own1, hR⟩
  · obtain ⟨its, _, pl, _⟩ := I1.tuple hy
    exact wpAny_pyIter_tuple (show s1.heap.IsTuple a its.toArray from pl) ⟨_, _, _, _, H1, rfl, inew _ _, turn_tuple a _, ⟨_, Heap.get?_push_size _ rfl, rfl, rfl⟩, own1, hR⟩⟩

/-! ### wiped slots -/
theorem wipe_at : ∀ (vs : List Nat) (σ : L2.St) (j : Nat), (wipe σ vs)[j]? = if j ∈ vs then σ[j]?.map (fun _ => none) else σ[j]?
  | [], σ, j => by
    rw [if_neg (by simp)]
    rfl
  | v :: vs, σ, j => by
    show ((wipe σ vs).set v none)[j]? = _
    by_cases hj : v = j
    · subst hj
      rw [if_pos List.mem_cons_self]
      cases e : σ[v]? with
      | none =>
        have hl : (wipe σ vs).length ≤ v := by rw [wipe_length]; exact List.getElem?_eq_none_iff.mp e
        rw [List.getElem?_eq_none_iff.mpr (by rw [List.length_set]; exact hl)]
        rfl
      | some o =>
        have hl : v < (wipe σ vs).length := by rw [wipe_length]; exact (List.getElem?_eq_some_iff.mp e).1
        rw [List.getElem?_set_self hl]
        rfl
    · rw [set_get hj, wipe_at vs σ j]
      by_cases hm : j ∈ vs
      · rw [if_pos hm, if_pos (List.mem_cons_of_mem _ hm)]
      · rw [if_neg hm, if_neg (fun z => (List.mem_cons.mp z).elim (fun e => hj e.symm) hm)]
theorem wipe_set {σ : L2.St} {vs : List Nat} {i : Nat} {o : Option V} (h : i ∈ vs) : wipe (σ.set i o) vs = wipe σ vs := List.ext_getElem? fun j => by
  rw [wipe_at, wipe_at]
  by_cases hj : j ∈ vs
  · rw [if_pos hj, if_pos hj]
    by_cases e : i = j
    · subst e
      cases q : σ[i]? with
      | none => rw [List.getElem?_eq_none_iff.mpr (by rw [List.length_set]; exact List.getElem?_eq_none_iff.mp q)]
      | some u => rw [List.getElem?_set_self (List.getElem?_eq_some_iff.mp q).1]; rfl
    · rw [set_get e]
  · have n : i ≠ j := fun e => by
      rw [e] at h
      exact hj h
    rw [if_neg hj, if_neg hj, set_get n]
theorem wipe_wipe {σ : L2.St} {vs : List Nat} : wipe (wipe σ vs) vs = wipe σ vs := List.ext_getElem? fun j => by
  rw [wipe_at, wipe_at]
  by_cases hj : j ∈ vs
  · rw [if_pos hj, if_pos hj, Option.map_map]
    rfl
  · rw [if_neg hj, if_neg hj]

/-! ### targets -/
mutual
def tgn : Tg → List Nat
  | .nm i => [i]
  | .tp ts => tgns ts
def tgns : List Tg → List Nat
  | [] => []
  | t :: ts => tgn t ++ tgns ts
end
def GW (K : PySem.W.Frag) (g : TG) (tg : Tg) : Prop := ∀ (c : C0) pa G H σ ds v d (kk : DS → Prop) (Q : L2.St → Hp → Prop), Env K c pa G H σ ds → Rep K G d v → tga tg d ds kk →
  (∀ σ' ds', kk ds' → Env K c pa G H σ' ds' → (∀ vs, (∀ i ∈ tgn tg, i ∈ vs) → wipe σ' vs = wipe σ vs) → (∀ i dv, gt ds' i = some dv → isO dv = true → gt ds i = some dv) → Q σ' H) → g v σ H Q
def GWs (K : PySem.W.Frag) (g : TGs) (ts : List Tg) : Prop := ∀ (c : C0) pa G H σ ds vs l (kk : DS → Prop) (Q : L2.St → Hp → Prop), Env K c pa G H σ ds → Reps K G l vs → tgas ts l ds kk →
  (∀ σ' ds', kk ds' → Env K c pa G H σ' ds' → (∀ vs, (∀ i ∈ tgns ts, i ∈ vs) → wipe σ' vs = wipe σ vs) → (∀ i dv, gt ds' i = some dv → isO dv = true → gt ds i = some dv) → Q σ' H) → g vs σ H Q
section
variable {K : PySem.W.Frag} {W : WX} {ta tb te : TE} {a b : WE} {t u : TT} {wt wu : WT} {o : WO} {g : TG} {tg : Tg}
theorem gw_nm {i : Nat} : GW K (gName i) (.nm i) := fun c pa G H σ ds v d kk Q E r h k =>
  k _ _ h (E.setVal i r) (fun vs hv => wipe_set (hv i (List.mem_singleton.mpr rfl))) fun j dv q o => by
    rw [gt_st] at q
    by_cases hj : j = i ∧ i < ds.length
    · rw [if_pos hj] at q
      have q : DV.val d = dv := Option.some.inj q
      subst q
      cases o
    · rw [if_neg hj] at q
      exact q
theorem gws_nil : GWs K gNil [] := fun c pa G H σ ds vs l kk Q E r h k => by
  cases l with
  | nil => exact ⟨r, k σ ds h E (fun _ _ => rfl) fun _ _ q _ => q⟩
  | cons d l => exact (show False from h).elim
theorem gws_cons {gs : TGs} {ts : List Tg} (h1 : GW K g tg) (h2 : GWs K gs ts) : GWs K (gCons g gs) (tg :: ts) := fun c pa G H σ ds vs l kk Q E r h k => by
  cases l with
  | nil => exact (show False from h).elim
  | cons d l =>
    obtain ⟨x, xs, e, r1, r2⟩ := r
    refine ⟨x, xs, e, h1 c pa G H σ ds x d _ _ E r1 h fun σ1 ds1 q E1 w1 n1 => h2 c pa G H σ1 ds1 xs l _ _ E1 r2 q fun σ2 ds2 q2 E2 w2 n2 => k σ2 ds2 q2 E2 (fun vs hv => ?_) fun i dv q o => n1 i dv (n2 i dv q o) o⟩
    rw [w2 vs fun i hi => hv i (List.mem_append_right _ hi), w1 vs fun i hi => hv i (List.mem_append_left _ hi)]
theorem tgas_len : ∀ {ts : List Tg} {l : List D} {ds : DS} {kk : DS → Prop}, tgas ts l ds kk → (∀ {t : Tg} {d : D} {ds : DS} {kk : DS → Prop}, tga t d ds kk → ∃ ds', kk ds') → l.length = ts.length
  | [], [], _, _, _, _ => rfl
  | [], _ :: _, _, _, h, _ => (show False from h).elim
  | _ :: _, [], _, _, h, _ => (show False from h).elim
  | t :: ts, d :: l, ds, kk, h, hh => by
    obtain ⟨ds1, q⟩ := hh (show tga t d ds (fun ds1 => tgas ts l ds1 kk) from h)
    rw [List.length_cons, List.length_cons, tgas_len q hh]
mutual
theorem tga_ex : ∀ {t : Tg} {d : D} {ds : DS} {kk : DS → Prop}, tga t d ds kk → ∃ ds', kk ds'
  | .nm i, d, ds, kk, h => ⟨_, h⟩
  | .tp ts, .tup xs, ds, kk, h => tgas_ex (ts := ts) h
  | .tp _, .non, _, _, h => h.elim
  | .tp _, .bl _, _, _, h => h.elim
  | .tp _, .int _, _, _, h => h.elim
  | .tp _, .str _, _, _, h => h.elim
  | .tp _, .lst _, _, _, h => h.elim
theorem tgas_ex : ∀ {ts : List Tg} {l : List D} {ds : DS} {kk : DS → Prop}, tgas ts l ds kk → ∃ ds', kk ds'
  | [], [], ds, kk, h => ⟨_, h⟩
  | [], _ :: _, _, _, h => (show False from h).elim
  | _ :: _, [], _, _, h => (show False from h).elim
  | t :: ts, d :: l, ds, kk, h => by
    obtain ⟨ds1, q⟩ := tga_ex (t := t) (show tga t d ds (fun ds1 => tgas ts l ds1 kk) from h)
    exact tgas_ex (ts := ts) q
end
theorem gw_tp {gs : TGs} {ts : List Tg} {n : Nat} (h : GWs K gs ts) (hn : ts.length = n := by rfl) : GW K (gTup K n gs) (.tp ts) := fun c pa G H σ ds v d kk Q E r hw k => by
  cases d with
  | tup xs =>
    obtain ⟨a, ys, e, h1, h2⟩ := r
    have hw : tgas ts xs ds kk := hw
    exact ⟨a, ys, e, Same.t E.ex h1, by rw [← h2.len, tgas_len hw tga_ex, hn], h c pa G H σ ds ys xs kk Q E h2 hw k⟩
  | _ => exact (show False from hw).elim

/-! ### statements -/
def ResS (K : PySem.W.Frag) (c : C0) (pa : Nat → Addr) (G H : Hp) (ds : DS) (v : V) : DV → Prop
  | .val d => Rep K G d v
  | .own xs => ∃ p, v = .ref p ∧ Tmp K c pa G H ds p xs
  | .par _ => False
structure EndsOk (K : PySem.W.Frag) (c : C0) (P : Post) (D : Ends) : Prop where
  nx : ∀ pa G H σ ds, P.nx ds → Env K c pa G H σ ds → D.nx σ H
  rt : ∀ pa G H σ ds v r, P.rt r ds → Env K c pa G H σ ds → ResS K c pa G H ds v r → D.rt v H
  bk : ∀ pa G H σ ds, P.bk ds → Env K c pa G H σ ds → D.bk σ H
  ct : ∀ pa G H σ ds, P.ct ds → Env K c pa G H σ ds → D.ct σ H
def SW (K : PySem.W.Frag) (W : WX) (ts : TS) (w : WS) : Prop := ∀ (c : C0) pa G H σ ds P D, Env K c pa G H σ ds → w ds P → XOk K c W P.x → EndsOk K c P D → ts D σ H
theorem sw_next : SW K W tNext wNext := fun c pa G H σ ds P D E hw hx he => he.nx pa G H σ ds hw E
theorem sw_seq {t1 t2 : TS} {w1 w2 : WS} (h1 : SW K W t1 w1) (h2 : SW K W t2 w2) : SW K W (tSeq t1 t2) (wSeq w1 w2) := fun c pa G H σ ds P D E hw hx he =>
  h1 c pa G H σ ds _ _ E hw hx ⟨fun pa G H σ ds q E => h2 c pa G H σ ds P D E q hx he, he.rt, he.bk, he.ct⟩
theorem sw_asg (h1 : EW K W te a) (h2 : GW K g tg) : SW K W (tAsg te g) (wAsg a tg) := fun c pa G H σ ds P D E hw hx he =>
  h1 c pa G H σ ds _ _ _ E hw hx fun v G1 H1 d ds1 q S1 r1 => h2 c pa G1 H1 σ ds1 v d _ _ S1.env r1 q fun σ2 ds2 q2 E2 _ _ => he.nx pa G1 H1 σ2 ds2 q2 E2
theorem sw_asgO {i : Nat} (h1 : EO K W te o) : SW K W (tAsg te (gName i)) (wAsgO o i) := fun c pa G H σ ds P D E hw hx he =>
  h1 c pa G H σ ds _ _ _ E hw hx fun p G1 H1 xs ds1 q S1 t1 n1 => he.nx _ G1 H1 _ _ q (S1.env.setOwn i t1)
theorem sw_par {i j : Nat} (h1 : EW K W ta a) (h2 : EW K W tb b) : SW K W (tPar i j (tCons ta (tCons tb tNil))) (wPar i j a b) := fun c pa G H σ ds P D E hw hx he =>
  h1 c pa G H σ ds _ _ _ E hw hx fun v G1 H1 d ds1 q S1 r1 => h2 c pa G1 H1 σ ds1 _ _ _ S1.env q hx fun w G2 H2 e ds2 q2 S2 r2 =>
    ⟨v, w, rfl, he.nx pa G2 H2 _ _ q2 ((S2.env.setVal i (r1.mono S2.sg)).setVal j r2)⟩
theorem sw_ret (h1 : EW K W te a) : SW K W (tRet te) (wRet a) := fun c pa G H σ ds P D E hw hx he =>
  h1 c pa G H σ ds _ _ _ E hw hx fun v G1 H1 d ds1 q S1 r1 => he.rt pa G1 H1 σ ds1 v _ q S1.env r1
theorem sw_retN : SW K W tRetN wRetN := fun c pa G H σ ds P D E hw hx he => he.rt pa G H σ ds .non _ hw E rfl
theorem sw_retO (h1 : EO K W te o) : SW K W (tRet te) (wRetO o) := fun c pa G H σ ds P D E hw hx he =>
  h1 c pa G H σ ds _ _ _ E hw hx fun p G1 H1 xs ds1 q S1 t1 n1 => he.rt pa G1 H1 σ ds1 _ _ q S1.env ⟨p, rfl, t1⟩
theorem sw_retS {i : Nat} : SW K W (tRet (tVar i)) (wRetS i) := fun c pa G H σ ds P D E hw hx he => by
  have hw : (match gt ds i with | some (.own xs) => P.rt (.own xs) (er ds i) | _ => False) := hw
  cases e : gt ds i with
  | none => rw [e] at hw; exact hw.elim
  | some dv =>
    rw [e] at hw
    cases dv with
    | own xs =>
      obtain ⟨e1, g, h0, hv⟩ := E.sl i _ e
      refine ⟨_, e1, he.rt pa G H σ _ _ _ hw (E.drop i) ⟨_, rfl, g, h0, hv, fun j dv q oo => ?_⟩⟩
      rw [gt_er] at q
      by_cases hj : j = i
      · rw [if_pos hj] at q
        cases q
      · rw [if_neg hj] at q
        exact E.inj j i dv _ q e oo rfl hj
    | _ => exact hw.elim
theorem sw_if {t1 t2 : TS} {w1 w2 : WS} (h : TW K W t wt) (h1 : SW K W t1 w1) (h2 : SW K W t2 w2) : SW K W (tIfS t t1 t2) (wIfS wt w1 w2) := fun c pa G H σ ds P D E hw hx he =>
  h c pa G H σ ds _ _ _ E hw hx fun v G1 H1 ds1 q S1 => by
    cases v with
    | true =>
      rw [if_pos rfl] at q ⊢
      exact h1 c pa G1 H1 σ ds1 P D S1.env q hx he
    | false =>
      rw [if_neg Bool.false_ne_true] at q ⊢
      exact h2 c pa G1 H1 σ ds1 P D S1.env q hx he
theorem sw_drop (h1 : EW K W te a) : SW K W (tDrop te) (wDrop a) := fun c pa G H σ ds P D E hw hx he =>
  h1 c pa G H σ ds _ _ _ E hw hx fun v G1 H1 d ds1 q S1 r1 => he.nx pa G1 H1 σ ds1 q S1.env
theorem sw_brk : SW K W tBreak wBrk := fun c pa G H σ ds P D E hw hx he => he.bk pa G H σ ds hw E
theorem sw_cont : SW K W tCont wCont := fun c pa G H σ ds P D E hw hx he => he.ct pa G H σ ds hw E
theorem sw_never {ts : TS} : SW K W ts wNever := fun c pa G H σ ds P D E hw hx he => hw.elim
theorem int_list {n : D} {m : Option (List D)} {P : Int → List D → Prop} (h : match n, m with | .int n, some xs => P n xs | _, _ => False) : ∃ i xs, n = .int i ∧ m = some xs ∧ P i xs := by
  cases n with
  | int i =>
    cases m with
    | none => exact h.elim
    | some xs => exact ⟨i, xs, rfl, rfl, h⟩
  | _ => exact h.elim
/-- xs[e] = v, the list in slot i -/
theorem sw_set {i : Nat} (h1 : EW K W ta a) (h2 : EW K W tb b) : SW K W (tAsg ta (gSub (tVar i) tb rSetL)) (wSet i b a) := fun c pa G H σ ds P D E hw hx he =>
  h1 c pa G H σ ds _ _ _ E hw hx fun v G1 H1 d ds1 q S1 r1 => by
    obtain ⟨q0, q⟩ := q
    obtain ⟨zs, hz⟩ := isSome_at q0
    refine ⟨_, own_ref S1.env hz, h2 c pa G1 H1 σ ds1 _ _ _ S1.env q hx fun y G2 H2 n ds2 q2 S2 r2 => ?_⟩
    obtain ⟨j, xs, rfl, hxs, ⟨j0, j1⟩, q2⟩ := int_list q2
    obtain ⟨_, _, _, _, _, _, _, vs, hh, rr⟩ := S2.env.lst hxs
    have r2 : y = .int j := r2
    refine ⟨pa i, vs, j, j.toNat, rfl, r2, hh, ?_, he.nx pa G2 _ σ _ q2 (S2.env.write hxs (rr.set j.toNat (r1.mono S2.sg)))⟩
    unfold ixN
    rw [if_pos j0, if_pos (by rw [← rr.len]; exact j1)]
/-- xs.append(v), the list in slot i -/
theorem sw_app {i : Nat} (h1 : EW K W ta a) : SW K W (tDrop (tBM K "list" rAppend (tVar i) (tCons ta tNil))) (wApp i a) := fun c pa G H σ ds P D E hw hx he => by
  obtain ⟨q0, hw⟩ := hw
  obtain ⟨zs, hz⟩ := isSome_at q0
  obtain ⟨_, _, _, _, _, _, _, vs0, hh0, _⟩ := E.lst hz
  refine ⟨_, own_ref E hz, .inl ⟨rfl, vs0, SqL.of hh0⟩, h1 c pa G H σ ds _ _ _ E hw hx fun v G1 H1 d ds1 q S1 r1 => ?_⟩
  obtain ⟨xs, hxs, hl, q⟩ := listAt_some q
  obtain ⟨_, _, _, _, _, _, _, vs, hh, rr⟩ := S1.env.lst hxs
  refine ⟨pa i, vs, v, rfl, rfl, hh, ?_, he.nx pa G1 _ σ _ q (S1.env.write hxs (rr.app r1))⟩
  rw [← rr.len]
  exact Nat.lt_of_lt_of_le hl (by decide)
theorem ew_ixO {i : Nat} (h : EW K W tb b) : EW K W (tOp (fun x y H Q => rIxL K x y H Q ∨ rIxT K x y H Q ∨ rIxS x y H Q) (tVar i) tb) (wIxO i b) := fun c pa G H σ ds xk kk Q E hw hx k => by
  obtain ⟨q0, hw⟩ := hw
  obtain ⟨zs, hz⟩ := isSome_at q0
  refine ⟨_, own_ref E hz, h c pa G H σ ds _ _ _ E hw hx fun y G1 H1 n ds1 q S1 r1 => ?_⟩
  obtain ⟨j, xs, rfl, hxs, q⟩ := int_list q
  obtain ⟨_, _, _, _, _, _, _, vs, hh, rr⟩ := S1.env.lst hxs
  have r1 : y = .int j := r1
  cases e : itemAt xs j with
  | none => rw [e] at q; exact q.elim
  | some z =>
    rw [e] at q
    obtain ⟨v, e1, rv⟩ := rr.item e
    exact .inl ⟨pa i, vs, j, v, rfl, r1, SqL.of hh, e1, k v G1 H1 z ds1 q S1 rv⟩
/-- len of the list in slot i -/
theorem ew_lenO {i : Nat} : EW K W (tCB (fun xs H Q => ∃ x n, xs = [x] ∧ LenV K x H n ∧ Q (.int n) H) (tCons (tVar i) tNil)) (wLenO i) := fun c pa G H σ ds xk kk Q E hw hx k => by
  obtain ⟨xs, hxs, q⟩ := listAt_some (P := fun xs => kk (.int xs.length) ds) hw
  obtain ⟨_, _, _, _, _, _, _, vs, hh, rr⟩ := E.lst hxs
  refine ⟨_, own_ref E hxs, _, vs.length, rfl, .inl ⟨vs, SqL.of hh, rfl⟩, k _ G H _ ds q (.refl E) ?_⟩
  show V.int vs.length = V.int xs.length
  rw [rr.len]
/-- x op= e -/
theorem sw_aug {i : Nat} {ti : TIp} {f : B2} (hf : RW2 K ti f) (h : EW K W te a) : SW K W (tAug i te ti) (wAug i f a) := fun c pa G H σ ds P D E hw hx he => by
  have hw : (match gt ds i with
    | some (.val u) => a P.x ds fun v ds1 => f u v fun z => P.nx (st ds1 i (.val z))
    | _ => False) := hw
  cases e : gt ds i with
  | none => rw [e] at hw; exact hw.elim
  | some dv =>
    rw [e] at hw
    cases dv with
    | val u =>
      obtain ⟨x, e1, r0⟩ := E.val e
      refine ⟨x, e1, h c pa G H σ ds _ _ _ E hw hx fun y G1 H1 v ds1 q S1 r1 => ?_⟩
      exact hf G1 H1 x y u v _ _ S1.env.ex (r0.mono S1.sg) r1 q fun z w hz rz => he.nx pa G1 H1 _ _ hz (S1.env.setVal i rz)
    | _ => exact hw.elim
/-! ### loops -/
theorem sw_while {tbd : TS} {wb : WS} (h : TW K W t wt) (hb : SW K W tbd wb) : SW K W (tWhile t tbd) (wWhile wt wb) := fun c pa G H σ ds P D E hw hx he => by
  obtain ⟨I, ⟨m0, h0⟩, hs⟩ := hw
  refine ⟨fun m σ H => ∃ pa G ds, I m ds ∧ Env K c pa G H σ ds, ⟨m0, pa, G, ds, h0, E⟩, fun m σ1 H1 ⟨pa1, G1, ds1, i1, E1⟩ => ?_⟩
  refine h c pa1 G1 H1 σ1 ds1 _ _ _ E1 (hs m ds1 i1) hx fun v G2 H2 ds2 q S2 => ?_
  cases v with
  | true =>
    rw [if_pos rfl] at q ⊢
    refine ⟨fun σ H => ∃ pa G ds, (∃ m', m' < m ∧ I m' ds) ∧ Env K c pa G H σ ds, fun σ' H' ⟨pa', G', ds', ⟨m', l, i'⟩, E'⟩ => ⟨m', l, pa', G', ds', i', E'⟩, ?_⟩
    exact hb c pa1 G2 H2 σ1 ds2 _ _ S2.env q hx ⟨fun pa G H σ ds q E => ⟨pa, G, ds, q, E⟩, he.rt, he.nx, fun pa G H σ ds q E => ⟨pa, G, ds, q, E⟩⟩
  | false =>
    rw [if_neg Bool.false_ne_true] at q ⊢
    exact he.nx pa1 G2 H2 σ1 ds2 q S2.env
theorem items_some {d : D} {P : List D → Prop} (h : match items d with | some xs => P xs | none => False) : ∃ xs, (d = .lst xs ∨ d = .tup xs) ∧ P xs := by
  cases d with
  | lst xs => exact ⟨xs, .inl rfl, h⟩
  | tup xs => exact ⟨xs, .inr rfl, h⟩
  | _ => exact (show False from h).elim
/-- the call's ground, what stands still by now taken in -/
def C0.at_ (c : C0) (G : Hp) : C0 := { c with G0 := G }
theorem Env.into {c : C0} {pa : Nat → Addr} {G H : Hp} {σ : L2.St} {ds : DS} (E : Env K c pa G H σ ds) : Env K (c.at_ G) pa G H σ ds := ⟨E.ex, E.fr, E.dom, fun _ _ q => q, fun _ _ => rfl, E.len, fun i dv h => by
  have s := E.sl i dv h
  cases dv <;> exact s, E.inj, E.ps⟩
theorem Env.out {c : C0} {pa pa' : Nat → Addr} {G G1 H H1 : Hp} {σ σ1 : L2.St} {ds ds1 : DS} (E : Env K c pa G H σ ds) (F : Env K (c.at_ G) pa' G1 H1 σ1 ds1) : Env K c pa' G1 H1 σ1 ds1 :=
  ⟨F.ex, F.fr, F.dom, E.ge.trans F.ge, fun a h => (F.gf a h).trans (E.gf a h), F.len, fun i dv h => by
    have s := F.sl i dv h
    cases dv <;> exact s, F.inj, F.ps⟩
theorem XOk.into {c : C0} {pa : Nat → Addr} {G H : Hp} {σ : L2.St} {ds : DS} {xk : XKd} (E : Env K c pa G H σ ds) (h : XOk K c W xk) : XOk K (c.at_ G) W xk := fun e ds q pa G1 H1 σ1 cls d F X => h e ds q pa G1 H1 σ1 cls d (E.out F) X
theorem EndsOk.into {c : C0} {pa : Nat → Addr} {G H : Hp} {σ : L2.St} {ds : DS} {P : Post} {D : Ends} (E : Env K c pa G H σ ds) (h : EndsOk K c P D) : EndsOk K (c.at_ G) P D where
  nx := fun pa G1 H1 σ1 ds1 q F => h.nx pa G1 H1 σ1 ds1 q (E.out F)
  bk := fun pa G1 H1 σ1 ds1 q F => h.bk pa G1 H1 σ1 ds1 q (E.out F)
  ct := fun pa G1 H1 σ1 ds1 q F => h.ct pa G1 H1 σ1 ds1 q (E.out F)
  rt := fun pa G1 H1 σ1 ds1 v r q F R => h.rt pa G1 H1 σ1 ds1 v r q (E.out F) (by
    cases r with
    | val d => exact R
    | own xs =>
      obtain ⟨p, e, t⟩ := R
      exact ⟨p, e, t.g, t.h0, t.here, t.ne⟩
    | par xs => exact R)
theorem sw_for {tbd : TS} {wb : WS} (h : EW K W te a) (hg : GW K g tg) (hb : SW K W tbd wb) : SW K W (tFor (iSeq K te) g tbd) (wFor a tg wb) := fun c pa G H σ ds P D E hw hx he =>
  h c pa G H σ ds _ _ _ E hw hx fun v G1 H1 d ds1 q S1 r1 => by
    obtain ⟨xs, hd, I, i0, is, ie⟩ := items_some q
    have E1 := S1.env
    have hx1 := hx.into E1
    have he1 := he.into E1
    have body : ∀ (vs : List V) (i : Nat) (x : V) (σ2 : L2.St) (H2 : Hp), Reps K G1 xs vs → vs[i]? = some x → (∃ pa G ds, I i ds ∧ Env K (c.at_ G1) pa G H2 σ2 ds) →
        g x σ2 H2 fun σ3 H3 => tbd { D with nx := fun σ H => ∃ pa G ds, I (i + 1) ds ∧ Env K (c.at_ G1) pa G H σ ds, ct := fun σ H => ∃ pa G ds, I (i + 1) ds ∧ Env K (c.at_ G1) pa G H σ ds, bk := D.nx } σ3 H3 := by
      rintro vs i x σ2 H2 rv ex ⟨pa2, G2, ds2, i2, E2⟩
      obtain ⟨d2, ed, rd⟩ := rv.gev ex
      refine hg _ pa2 G2 H2 σ2 ds2 x d2 _ _ E2 (rd.mono E2.ge) (is i d2 ds2 ed i2) fun σ3 ds3 q3 E3 _ _ => ?_
      exact hb _ pa2 G2 H2 σ3 ds3 _ _ E3 q3 hx1 ⟨fun pa G H σ ds q E => ⟨pa, G, ds, q, E⟩, he1.rt, he1.nx, fun pa G H σ ds q E => ⟨pa, G, ds, q, E⟩⟩
    have done : ∀ (vs : List V) (σ2 : L2.St) (H2 : Hp), Reps K G1 xs vs → (∃ pa G ds, I vs.length ds ∧ Env K (c.at_ G1) pa G H2 σ2 ds) → D.nx σ2 H2 := by
      rintro vs σ2 H2 rv ⟨pa2, G2, ds2, i2, E2⟩
      rw [← rv.len] at i2
      exact he1.nx pa2 G2 H2 σ2 ds2 (ie ds2 i2) E2
    rcases hd with z | z
    · subst z
      obtain ⟨p, vs, ev, hs, rv⟩ := r1
      refine ⟨p, ev, .inl ⟨⟨vs, L2.Same.seq E1.ex hs⟩, ?_⟩⟩
      exact for_list (xs := vs) (fun i σ H => ∃ pa G ds, I i ds ∧ Env K (c.at_ G1) pa G H σ ds) ⟨pa, G1, ds1, i0, E1.into⟩ (fun i σ2 H2 _ ⟨_, _, _, _, F⟩ => L2.Same.seq (F.ge.trans F.ex) hs)
        (fun i x σ2 H2 ex hp => body vs i x σ2 H2 rv ex hp) (fun σ2 H2 hp => done vs σ2 H2 rv hp)
    · subst z
      obtain ⟨p, vs, ev, hs, rv⟩ := r1
      refine ⟨p, ev, .inr ⟨⟨vs, Same.t E1.ex hs⟩, ?_⟩⟩
      exact for_tup (xs := vs) (fun i σ H => ∃ pa G ds, I i ds ∧ Env K (c.at_ G1) pa G H σ ds) ⟨pa, G1, ds1, i0, E1.into⟩ (fun i σ2 H2 _ ⟨_, _, _, _, F⟩ => Same.t (F.ge.trans F.ex) hs)
        (fun i x σ2 H2 ex hp => body vs i x σ2 H2 rv ex hp) (fun σ2 H2 hp => done vs σ2 H2 rv hp)
/-! ranges -/
theorem rangeD_at {lo hi : Int} {i : Nat} (h : i < (hi - lo).toNat) : (rangeD lo hi)[i]? = some (.int (lo + (i : Nat))) := by
  unfold rangeD
  rw [List.getElem?_map, List.getElem?_range h]
  rfl
theorem rangeD_len {lo hi : Int} : (rangeD lo hi).length = (hi - lo).toNat := by
  unfold rangeD
  rw [List.length_map, List.length_range]
theorem sw_range {tbd : TS} {wb : WS} {c : C0} {pa : Nat → Addr} {G H : Hp} {σ : L2.St} {ds : DS} {P : Post} {D : Ends} {lo hi : Int} (hg : GW K g tg) (hb : SW K W tbd wb) (E : Env K c pa G H σ ds) (hw : forI tg wb P (rangeD lo hi) ds) (hx : XOk K c W P.x) (he : EndsOk K c P D) :
    ∃ W : Nat → Nat → L2.St → Hp → Prop, (∃ m, W 0 m σ H) ∧ ∀ i m σ H, W i m σ H →
      ((Itr lo (hi - lo).toNat).stop i H ∧ D.nx σ H) ∨ ((Itr lo (hi - lo).toNat).go i H ∧ ∃ N : L2.St → Hp → Prop, (∀ σ' H', N σ' H' → ∃ m', m' < m ∧ W (i + 1) m' σ' H') ∧ ∀ x H', (Itr lo (hi - lo).toNat).yld i H x H' → g x σ H' fun σ2 H2 => tbd { D with nx := N, ct := N, bk := D.nx } σ2 H2) := by
  obtain ⟨I, i0, is, ie⟩ := hw
  refine for_range (lo := lo) (n := (hi - lo).toNat) (fun i σ H => ∃ pa G ds, I i ds ∧ Env K c pa G H σ ds) ⟨pa, G, ds, i0, E⟩ ?_ ?_
  · rintro i σ2 H2 hi ⟨pa2, G2, ds2, i2, E2⟩
    refine hg _ pa2 G2 H2 σ2 ds2 _ (.int (lo + (i : Nat))) _ _ E2 rfl (is i _ ds2 (rangeD_at hi) i2) fun σ3 ds3 q3 E3 _ _ => ?_
    exact hb _ pa2 G2 H2 σ3 ds3 _ _ E3 q3 hx ⟨fun pa G H σ ds q E => ⟨pa, G, ds, q, E⟩, he.rt, he.nx, fun pa G H σ ds q E => ⟨pa, G, ds, q, E⟩⟩
  · rintro σ2 H2 ⟨pa2, G2, ds2, i2, E2⟩
    rw [← rangeD_len (lo := lo) (hi := hi)] at i2
    exact he.nx pa2 G2 H2 σ2 ds2 (ie ds2 i2) E2
theorem sw_forR1 {tbd : TS} {wb : WS} (h : EW K W te a) (hg : GW K g tg) (hb : SW K W tbd wb) : SW K W (tFor (iRng1 (tCons te tNil)) g tbd) (wForR [a] tg wb) := fun c pa G H σ ds P D E hw hx he =>
  h c pa G H σ ds _ _ _ E hw hx fun v G1 H1 d ds1 q S1 r1 => by
    cases d with
    | int n =>
      obtain ⟨⟨_, h1, h2⟩, q⟩ := q
      have z := sw_range hg hb S1.env q hx he
      rw [Int.sub_zero] at z
      exact ⟨n, by rw [show v = V.int n from r1], h1, h2, z⟩
    | _ => exact (show False from q).elim
theorem sw_forR2 {tbd : TS} {wb : WS} (h : EW K W ta a) (h' : EW K W tb b) (hg : GW K g tg) (hb : SW K W tbd wb) : SW K W (tFor (iRng2 (tCons ta (tCons tb tNil))) g tbd) (wForR [a, b] tg wb) := fun c pa G H σ ds P D E hw hx he =>
  h c pa G H σ ds _ _ _ E hw hx fun v G1 H1 d ds1 q S1 r1 => h' c pa G1 H1 σ ds1 _ _ _ S1.env q hx fun v2 G2 H2 d2 ds2 q2 S2 r2 => by
    cases d with
    | int m =>
      cases d2 with
      | int n =>
        obtain ⟨⟨⟨h3, h4⟩, h1, h2⟩, q⟩ := q2
        exact ⟨m, n, by rw [show v = V.int m from r1, show v2 = V.int n from r2], ⟨h3, h4, h1, h2⟩, sw_range hg hb S2.env q hx he⟩
      | _ => exact (show False from q2).elim
    | _ => exact (show False from q2).elim
end
end DW

/-! DwF: comprehensions, operations, a def's body. -/
namespace DW
open PySem PySem.Spec PyProof.Rows L2

/-- nothing is wanted of exceptions: there are none -/
def Wn : WX := fun _ _ _ _ => False
section
variable {K : PySem.W.Frag} {W : WX} {ta tb te tx : TE} {a b e : WE} {t u : TT} {wt wu : WT} {o : WO} {g : TG} {tg : Tg}
theorem gt_ers {ds : DS} : ∀ (vs : List Nat) (i : Nat), gt (ers ds vs) i = if i ∈ vs then none else gt ds i
  | [], i => by
    rw [if_neg (by simp)]
    rfl
  | v :: vs, i => by
    show gt (er (ers ds vs) v) i = _
    rw [gt_er, gt_ers vs i]
    by_cases h : i = v
    · rw [if_pos h, if_pos (by rw [h]; exact List.mem_cons_self)]
    · by_cases h2 : i ∈ vs
      · rw [if_neg h, if_pos h2, if_pos (List.mem_cons_of_mem _ h2)]
      · rw [if_neg h, if_neg h2, if_neg (fun z => (List.mem_cons.mp z).elim h h2)]
theorem ers_len {ds : DS} : ∀ vs : List Nat, (ers ds vs).length = ds.length
  | [] => rfl
  | v :: vs => by
    show (er (ers ds vs) v).length = _
    rw [len_er, ers_len vs]
/-- the block's slots are its own: outside of it the slots are as they were -/
theorem Env.unwipe {c : C0} {pa : Nat → Addr} {G H : Hp} {σ : L2.St} {ds : DS} {vs : List Nat} (E : Env K c pa G H (wipe σ vs) (ers ds vs)) : Env K c pa G H σ (ers ds vs) := ⟨E.ex, E.fr, E.dom, E.ge, E.gf, by
    have := E.len
    rw [wipe_length] at this
    exact this, fun i dv h => by
    have s := E.sl i dv h
    rw [gt_ers] at h
    by_cases q : i ∈ vs
    · rw [if_pos q] at h
      cases h
    · rw [wipe_at, if_neg q] at s
      exact s, E.inj, E.ps⟩
/-- what one comprehension keeps between its turns -/
def CInv (K : PySem.W.Frag) (c : C0) (pa : Nat → Addr) (σ : L2.St) (vs : List Nat) (G0 H0 : Hp) (ds0 : DS) (I : Nat → List D → DS → Prop) (Dl : Addr) (i : Nat) (H : Hp) : Prop :=
  ∃ G ds acc, I i acc ds ∧ Stp K c pa (wipe σ vs) G0 H0 ds0 G H (ers ds vs) ∧ Tmp K c pa G H (ers ds vs) Dl acc
/-- a list that no slot holds is written -/
theorem Env.tmpWrite {c : C0} {pa : Nat → Addr} {G H : Hp} {σ : L2.St} {ds : DS} {p : Addr} {xs ys : List D} {ws : List V} (E : Env K c pa G H σ ds) (T : Tmp K c pa G H ds p xs) (r : Reps K G ys ws) :
    Env K c pa G (upd H p (.lst ws)) σ ds ∧ Tmp K c pa G (upd H p (.lst ws)) ds p ys := by
  refine ⟨⟨fun a o q => ?_, fun a o q w => ?_, fun a q => ?_, E.ge, E.gf, E.len, fun i dv h => ?_, E.inj, E.ps⟩, T.g, T.h0, ⟨ws, upd_same, r⟩, T.ne⟩
  · rw [upd_ne (ne_of_none q T.g)]
    exact E.ex a o q
  · rw [upd_ne (ne_of_none q T.h0)]
    exact E.fr a o q w
  · by_cases n : a = p
    · rw [n, upd_same]
      exact fun z => nomatch z
    · rw [upd_ne n]
      exact E.dom a q
  · have s := E.sl i dv h
    cases o : isO dv with
    | false =>
      cases dv with
      | val d => exact s
      | own _ => cases o
      | par _ => cases o
    | true =>
      have n : pa i ≠ p := T.ne i dv h o
      cases dv with
      | val d => exact s
      | own zs =>
        obtain ⟨s1, s2, s3, zvs, s4, s5⟩ := s
        exact ⟨s1, s2, s3, zvs, by rw [upd_ne n]; exact s4, s5⟩
      | par zs =>
        obtain ⟨s1, s2, s3, zvs, s4, s5⟩ := s
        exact ⟨s1, s2, s3, zvs, by rw [upd_ne n]; exact s4, s5⟩
theorem Tmp.less {c : C0} {pa : Nat → Addr} {G H : Hp} {ds ds' : DS} {p : Addr} {xs : List D} (T : Tmp K c pa G H ds p xs) (h : ∀ i dv, gt ds' i = some dv → isO dv = true → ∃ d0, gt ds i = some d0 ∧ isO d0 = true) : Tmp K c pa G H ds' p xs :=
  ⟨T.g, T.h0, T.here, fun i dv q o => by
    obtain ⟨d0, q0, o0⟩ := h i dv q o
    exact T.ne i d0 q0 o0⟩
theorem ers_less {ds : DS} {vs : List Nat} : ∀ i dv, gt (ers ds vs) i = some dv → isO dv = true → ∃ d0, gt ds i = some d0 ∧ isO d0 = true := fun i dv q o => by
  rw [gt_ers] at q
  by_cases h : i ∈ vs
  · rw [if_pos h] at q
    cases q
  · rw [if_neg h] at q
    exact ⟨dv, q, o⟩
/-- a turn of it -/
theorem comp_turn {c : C0} {pa : Nat → Addr} {σ : L2.St} {vs : List Nat} {G0 H0 : Hp} {ds0 : DS} {I : Nat → List D → DS → Prop} {Dl : Addr} {i : Nat} {H : Hp} {x : V} {d : D} {xk : XKd} (hg : GW K g tg) (ht : TW K Wn t wt) (he : EW K Wn te e) (hn : ∀ j ∈ tgn tg, j ∈ vs) (hx : XOk K c Wn xk)
    (hD : H0 Dl = none) (hi : CInv K c pa σ vs G0 H0 ds0 I Dl i H) (r : Rep K G0 d x)
    (hs : ∀ acc ds, I i acc ds → tga tg d (ers ds vs) fun ds1 => wt xk ds1 fun b ds2 => if b = true then e xk ds2 fun v ds3 => acc.length < 10000000 ∧ I (i + 1) (acc ++ [v]) ds3 else I (i + 1) acc ds2) :
    g x (wipe σ vs) H fun σ2 H2 => wipe σ2 vs = wipe σ vs ∧ t σ2 H2 fun b H3 =>
      if b = true then te σ2 H3 fun y H4 => ∃ acc, H4 Dl = some (.lst acc) ∧ acc.length < sizeLine ∧ CInv K c pa σ vs G0 H0 ds0 I Dl (i + 1) (upd H4 Dl (.lst (acc ++ [y]))) else CInv K c pa σ vs G0 H0 ds0 I Dl (i + 1) H3 := by
  obtain ⟨G, ds, acc, h1, S, T⟩ := hi
  refine hg c pa G H (wipe σ vs) (ers ds vs) x d _ _ S.env (r.mono S.sg) (hs acc ds h1) fun σ2 ds1 q1 E1 w1 n1 => ?_
  have ew : wipe σ2 vs = wipe σ vs := by
    rw [w1 vs hn, wipe_wipe]
  have T1 : Tmp K c pa G H ds1 Dl acc := T.less fun i dv q o => ⟨dv, n1 i dv q o, o⟩
  have close : ∀ {G5 H5 : Hp} {ds5 : DS}, Stp K c pa σ2 G H ds1 G5 H5 ds5 → Stp K c pa (wipe σ vs) G0 H0 ds0 G5 H5 (ers ds5 vs) := fun {G5 H5 ds5} S5 => by
    refine S.trans ⟨?_, S5.sg, fun a o q n => S5.fr a o q fun i dv h oo => n i dv (n1 i dv h oo) oo, fun i dv h o => ?_, S5.dom⟩
    · rw [← ew]
      exact S5.env.wipes vs
    · obtain ⟨d1, q1, o1⟩ := ers_less i dv h o
      obtain ⟨d2, q2, o2⟩ := S5.sub i d1 q1 o1
      exact ⟨d2, n1 i d2 q2 o2, o2⟩
  refine ⟨ew, ht c pa G H σ2 ds1 xk _ _ E1 q1 hx fun v G3 H3 ds2 q2 S2 => ?_⟩
  cases v with
  | false =>
    rw [if_neg Bool.false_ne_true] at q2 ⊢
    exact ⟨G3, ds2, acc, q2, close S2, (T1.stay S2).less ers_less⟩
  | true =>
    rw [if_pos rfl] at q2 ⊢
    refine he c pa G3 H3 σ2 ds2 xk _ _ S2.env q2 hx fun y G4 H4 z ds3 q3 S3 r3 => ?_
    have S4 := S2.trans S3
    have T4 := T1.stay S4
    obtain ⟨ws, hw, rw_⟩ := T4.here
    obtain ⟨hl, q3⟩ := q3
    refine ⟨ws, hw, ?_, G4, ds3, acc ++ [z], q3, ?_, ?_⟩
    · rw [← rw_.len]
      exact Nat.lt_of_lt_of_le hl (by decide)
    · have C := close S4
      have T5 : Tmp K c pa G4 H4 (ers ds3 vs) Dl acc := T4.less ers_less
      obtain ⟨E6, _⟩ := C.env.tmpWrite T5 (rw_.app r3)
      refine ⟨E6, C.sg, fun a o q n => ?_, C.sub, fun a q => ?_⟩
      · obtain ⟨e1, e2⟩ := C.fr a o q n
        exact ⟨by rw [upd_ne (ne_of_none q hD)]; exact e1, e2⟩
      · by_cases n : a = Dl
        · rw [n, upd_same]
          exact fun z => nomatch z
        · rw [upd_ne n]
          exact C.dom a q
    · exact ((close S4).env.tmpWrite (T4.less ers_less) (rw_.app r3)).2
/-- its beginning, its end -/
theorem comp_begin {c : C0} {pa : Nat → Addr} {G H : Hp} {σ : L2.St} {ds : DS} {vs : List Nat} {I : Nat → List D → DS → Prop} {Dl : Addr} (E : Env K c pa G H σ ds) (hD : H Dl = none) (h : I 0 [] (ers ds vs)) : CInv K c pa σ vs G H (ers ds vs) I Dl 0 (upd H Dl (.lst [])) := by
  have z : ers (ers ds vs) vs = ers ds vs := by
    have gg : ∀ (a b : DS), a.length = b.length → (∀ i, gt a i = gt b i) → a = b := by
      intro a
      induction a with
      | nil =>
        intro b hl _
        cases b with
        | nil => rfl
        | cons y b => simp at hl
      | cons x a ih =>
        intro b hl hh
        cases b with
        | nil => simp at hl
        | cons y b =>
          have e0 : x = y := hh 0
          rw [e0, ih b (by simpa using hl) fun i => hh (i + 1)]
    refine gg _ _ (by rw [ers_len]) fun i => ?_
    rw [gt_ers, gt_ers]
    by_cases hi : i ∈ vs
    · rw [if_pos hi, if_pos hi]
    · rw [if_neg hi]
  obtain ⟨S, T⟩ := Stp.newOwn (vs := []) (xs := []) (E.wipes vs) hD rfl
  exact ⟨G, ers ds vs, [], h, by rw [z]; exact S, by rw [z]; exact T⟩
theorem comp_done {c : C0} {pa : Nat → Addr} {G H H1 : Hp} {σ : L2.St} {ds : DS} {vs : List Nat} {I : Nat → List D → DS → Prop} {Dl : Addr} {n : Nat} {kk : List D → DS → Prop} {Q : VK} (E : Env K c pa G H σ ds) (hD : H Dl = none) (hi : CInv K c pa σ vs G H (ers ds vs) I Dl n H1)
    (he : ∀ acc ds, I n acc ds → kk acc (ers ds vs)) (k : ∀ p G' H' xs ds', kk xs ds' → Stp K c pa σ G H ds G' H' ds' → Tmp K c pa G' H' ds' p xs → H p = none → Q (.ref p) H') : Q (.ref Dl) H1 := by
  obtain ⟨G1, ds1, acc, h1, S, T⟩ := hi
  refine k Dl G1 H1 acc _ (he acc ds1 h1) ⟨S.env.unwipe, S.sg, fun a o q n => S.fr a o q fun i dv h oo => ?_, fun i dv h o => ?_, S.dom⟩ T hD
  · rw [gt_ers] at h
    by_cases hi : i ∈ vs
    · rw [if_pos hi] at h
      cases h
    · rw [if_neg hi] at h
      exact n i dv h oo
  · obtain ⟨d1, q1, o1⟩ := S.sub i dv h o
    exact ers_less i d1 q1 o1
/-- [e for g in src if t], src a list or a tuple -/
theorem eo_lc {vs : List Nat} (h : EW K W tx a) (hg : GW K g tg) (ht : TW K Wn t wt) (he : EW K Wn te e) (hn : ∀ j ∈ tgn tg, j ∈ vs := by decide) : EO K W (tLc (iSeq K tx) g t te vs) (wLc a tg vs wt e) := fun c pa G H σ ds xk kk Q E hw hx k => by
  refine h c pa G H σ ds xk _ _ E hw hx fun v G1 H1 d ds1 q S1 r1 => ?_
  obtain ⟨xs, hd, I, i0, is, ie⟩ := items_some q
  have E1 := S1.env
  have k1 : ∀ p G' H' xs ds', kk xs ds' → Stp K c pa σ G1 H1 ds1 G' H' ds' → Tmp K c pa G' H' ds' p xs → H1 p = none → Q (.ref p) H' := fun p G' H' xs ds' q S T n => k p G' H' xs ds' q (S1.trans S) T (by
    cases z : H p with
    | none => rfl
    | some o => exact absurd n (S1.dom p (by rw [z]; exact fun y => nomatch y)))
  rcases hd with z | z
  · subst z
    obtain ⟨p, ys, ev, hsq, rv⟩ := r1
    refine ⟨p, ev, .inl ⟨⟨ys, L2.Same.seq E1.ex hsq⟩, fun Dl hD => ?_⟩⟩
    refine lc_list (xs := ys) (CInv K c pa σ vs G1 H1 (ers ds1 vs) I Dl) (comp_begin E1 hD i0) (fun i H' _ ⟨G', ds', acc, _, S, _⟩ => L2.Same.seq (S.sg.trans S.env.ex) hsq) (fun i x H' ex hi => ?_) fun H' hi => comp_done E1 hD hi (fun acc ds h => ie acc ds (by rw [rv.len]; exact h)) k1
    obtain ⟨d2, ed, rd⟩ := rv.gev ex
    exact comp_turn hg ht he hn (fun _ _ z => z.elim) hD hi rd fun acc ds h => is i d2 acc ds ed h
  · subst z
    obtain ⟨p, ys, ev, hsq, rv⟩ := r1
    refine ⟨p, ev, .inr ⟨⟨ys, Same.t E1.ex hsq⟩, fun Dl hD => ?_⟩⟩
    refine lc_tup (xs := ys) (CInv K c pa σ vs G1 H1 (ers ds1 vs) I Dl) (comp_begin E1 hD i0) (fun i H' _ ⟨G', ds', acc, _, S, _⟩ => Same.t (S.sg.trans S.env.ex) hsq) (fun i x H' ex hi => ?_) fun H' hi => comp_done E1 hD hi (fun acc ds h => ie acc ds (by rw [rv.len]; exact h)) k1
    obtain ⟨d2, ed, rd⟩ := rv.gev ex
    exact comp_turn hg ht he hn (fun _ _ z => z.elim) hD hi rd fun acc ds h => is i d2 acc ds ed h
theorem comp_range {c : C0} {pa : Nat → Addr} {G H : Hp} {σ : L2.St} {ds : DS} {vs : List Nat} {lo hi : Int} {xk : XKd} {kk : List D → DS → Prop} {Q : VK} (hg : GW K g tg) (ht : TW K Wn t wt) (he : EW K Wn te e) (hn : ∀ j ∈ tgn tg, j ∈ vs) (hx : XOk K c Wn xk) (E : Env K c pa G H σ ds)
    (q : compI tg vs wt e xk (rangeD lo hi) ds kk) (k : ∀ p G' H' xs ds', kk xs ds' → Stp K c pa σ G H ds G' H' ds' → Tmp K c pa G' H' ds' p xs → H p = none → Q (.ref p) H') (Dl : Addr) (hD : H Dl = none) :
    ∃ W : Nat → Nat → Hp → Prop, (∃ m, W 0 m (upd H Dl (.lst []))) ∧ ∀ i m H, W i m H →
      ((Itr lo (hi - lo).toNat).stop i H ∧ Q (.ref Dl) H) ∨ ((Itr lo (hi - lo).toNat).go i H ∧ ∃ Nx : Hp → Prop, (∀ H', Nx H' → ∃ m', m' < m ∧ W (i + 1) m' H') ∧ ∀ x H', (Itr lo (hi - lo).toNat).yld i H x H' → g x (wipe σ vs) H' fun σ2 H2 => wipe σ2 vs = wipe σ vs ∧ t σ2 H2 fun b H3 =>
        if b = true then te σ2 H3 fun y H4 => ∃ acc, H4 Dl = some (.lst acc) ∧ acc.length < sizeLine ∧ Nx (upd H4 Dl (.lst (acc ++ [y]))) else Nx H3) := by
  obtain ⟨I, i0, is, ie⟩ := q
  refine lc_range (lo := lo) (n := (hi - lo).toNat) (CInv K c pa σ vs G H (ers ds vs) I Dl) (comp_begin E hD i0) (fun i H' hl hi => ?_) fun H' hi => comp_done E hD hi (fun acc ds h => ie acc ds (by rw [rangeD_len]; exact h)) k
  exact comp_turn (d := .int (lo + (i : Nat))) hg ht he hn hx hD hi rfl fun acc ds h => is i _ acc ds (rangeD_at hl) h
theorem eo_lcR1 {vs : List Nat} (h : EW K W tx a) (hg : GW K g tg) (ht : TW K Wn t wt) (he : EW K Wn te e) (hn : ∀ j ∈ tgn tg, j ∈ vs := by decide) : EO K W (tLc (iRng1 (tCons tx tNil)) g t te vs) (wLcR [a] tg vs wt e) := fun c pa G H σ ds xk kk Q E hw hx k => by
  refine h c pa G H σ ds xk _ _ E hw hx fun v G1 H1 d ds1 q S1 r1 => ?_
  have k1 : ∀ p G' H' xs ds', kk xs ds' → Stp K c pa σ G1 H1 ds1 G' H' ds' → Tmp K c pa G' H' ds' p xs → H1 p = none → Q (.ref p) H' := fun p G' H' xs ds' q S T n => k p G' H' xs ds' q (S1.trans S) T (by
    cases z : H p with
    | none => rfl
    | some o => exact absurd n (S1.dom p (by rw [z]; exact fun y => nomatch y)))
  cases d with
  | int n =>
    obtain ⟨⟨_, h1, h2⟩, q⟩ := q
    have z := comp_range hg ht he hn (fun _ _ z => z.elim) S1.env q k1
    rw [Int.sub_zero] at z
    exact ⟨n, by rw [show v = V.int n from r1], h1, h2, z⟩
  | _ => exact (show False from q).elim
theorem eo_lcR2 {vs : List Nat} (h : EW K W ta a) (h' : EW K W tb b) (hg : GW K g tg) (ht : TW K Wn t wt) (he : EW K Wn te e) (hn : ∀ j ∈ tgn tg, j ∈ vs := by decide) : EO K W (tLc (iRng2 (tCons ta (tCons tb tNil))) g t te vs) (wLcR [a, b] tg vs wt e) := fun c pa G H σ ds xk kk Q E hw hx k => by
  refine h c pa G H σ ds xk _ _ E hw hx fun v G1 H1 d ds1 q S1 r1 => ?_
  refine h' c pa G1 H1 σ ds1 xk _ _ S1.env q hx fun v2 G2 H2 d2 ds2 q2 S2 r2 => ?_
  have S := S1.trans S2
  have k1 : ∀ p G' H' xs ds', kk xs ds' → Stp K c pa σ G2 H2 ds2 G' H' ds' → Tmp K c pa G' H' ds' p xs → H2 p = none → Q (.ref p) H' := fun p G' H' xs ds' q S' T n => k p G' H' xs ds' q (S.trans S') T (by
    cases z : H p with
    | none => rfl
    | some o => exact absurd n (S.dom p (by rw [z]; exact fun y => nomatch y)))
  cases d with
  | int m =>
    cases d2 with
    | int n =>
      obtain ⟨⟨⟨h3, h4⟩, h1, h2⟩, q⟩ := q2
      exact ⟨m, n, by rw [show v = V.int m from r1, show v2 = V.int n from r2], ⟨h3, h4, h1, h2⟩, comp_range hg ht he hn (fun _ _ z => z.elim) S2.env q k1⟩
    | _ => exact (show False from q2).elim
  | _ => exact (show False from q2).elim

/-! ### operations -/
theorem int2 {f : D → D → (D → Prop) → Prop} {d e : D} {kk : D → Prop} {P : Int → Int → Prop} (h : match d, e with | .int a, .int b => P a b | _, _ => False) : ∃ a b, d = .int a ∧ e = .int b ∧ P a b := by
  cases d with
  | int a =>
    cases e with
    | int b => exact ⟨a, b, rfl, rfl, h⟩
    | _ => exact h.elim
  | _ => exact h.elim
theorem rw_add : RW2 K (rI0 fun i j => .int (i + j)) dAdd := fun G H x y d e kk Q s rx ry h k => by
  cases d <;> try exact (show False from h).elim
  cases e <;> try exact (show False from h).elim
  exact ⟨_, _, rx, ry, k _ _ h rfl⟩
theorem rw_sub : RW2 K (rI0 fun i j => .int (i - j)) dSub := fun G H x y d e kk Q s rx ry h k => by
  cases d <;> try exact (show False from h).elim
  cases e <;> try exact (show False from h).elim
  exact ⟨_, _, rx, ry, k _ _ h rfl⟩
theorem rw_mul : RW2 K (rI CMulW fun i j => .int (i * j)) dMul := fun G H x y d e kk Q s rx ry h k => by
  cases d <;> try exact (show False from h).elim
  cases e <;> try exact (show False from h).elim
  exact ⟨_, _, rx, ry, h.1, k _ _ h.2 rfl⟩
def CDivF (_ j : Int) : Prop := j ≠ 0 ∧ j.natAbs.log2 < 9000
theorem op_fdivF {X : Cx} : OpR X (binaryOp .FloorDiv) (rI CDivF fun i j => .int (i.fdiv j)) := opI fun _ _ _ _ _ _ _ hc q => floordiv_int hc.1 q (.inl (PyProof.noPylong_of_log2 hc.2))
theorem iop_fdivF {X : Cx} : OpR X (inplaceOp .FloorDiv) (rI CDivF fun i j => .int (i.fdiv j)) := opI fun _ _ _ _ _ _ _ hc q => ifloordiv_int hc.1 q (.inl (PyProof.noPylong_of_log2 hc.2))
theorem iop_mulF {X : Cx} : OpR X (inplaceOp .Mult) (rI CMulW fun i j => .int (i * j)) := opI fun _ _ _ _ _ _ _ hc q => imul_int q hc.ok
theorem rw_fdiv : RW2 K (rI CDivF fun i j => .int (i.fdiv j)) dFdiv := fun G H x y d e kk Q s rx ry h k => by
  cases d <;> try exact (show False from h).elim
  cases e <;> try exact (show False from h).elim
  exact ⟨_, _, rx, ry, h.1, k _ _ h.2 rfl⟩
theorem rw_mod : RW2 K (rI (fun _ j => j ≠ 0) fun i j => .int (i.fmod j)) dMod := fun G H x y d e kk Q s rx ry h k => by
  cases d <;> try exact (show False from h).elim
  cases e <;> try exact (show False from h).elim
  exact ⟨_, _, rx, ry, h.1, k _ _ h.2 rfl⟩
theorem rw_pow : RW2 K (rI CPow fun i j => .int (i ^ j.toNat)) dPow := fun G H x y d e kk Q s rx ry h k => by
  cases d <;> try exact (show False from h).elim
  cases e <;> try exact (show False from h).elim
  exact ⟨_, _, rx, ry, h.1, k _ _ h.2 rfl⟩
theorem rw_neg : RW1 K (rU fun i => .int (-i)) dNeg := fun G H x d kk Q s rx h k => by
  cases d <;> try exact (show False from h).elim
  exact ⟨_, rx, k _ _ h rfl⟩
theorem rw_lt : RW2 K (rI0 fun i j => .bl (decide (i < j))) dLt := fun G H x y d e kk Q s rx ry h k => by
  cases d <;> try exact (show False from h).elim
  cases e <;> try exact (show False from h).elim
  exact ⟨_, _, rx, ry, k _ _ h rfl⟩
theorem rw_le : RW2 K (rI0 fun i j => .bl (decide (i ≤ j))) dLe := fun G H x y d e kk Q s rx ry h k => by
  cases d <;> try exact (show False from h).elim
  cases e <;> try exact (show False from h).elim
  exact ⟨_, _, rx, ry, k _ _ h rfl⟩
theorem rw_gt : RW2 K (rI0 fun i j => .bl (decide (j < i))) dGt := fun G H x y d e kk Q s rx ry h k => by
  cases d <;> try exact (show False from h).elim
  cases e <;> try exact (show False from h).elim
  exact ⟨_, _, rx, ry, k _ _ h rfl⟩
theorem rw_ge : RW2 K (rI0 fun i j => .bl (decide (j ≤ i))) dGe := fun G H x y d e kk Q s rx ry h k => by
  cases d <;> try exact (show False from h).elim
  cases e <;> try exact (show False from h).elim
  exact ⟨_, _, rx, ry, k _ _ h rfl⟩
mutual
/-- the kit's own data for these -/
def py : D → PyData
  | .non => .none
  | .bl b => .bool b
  | .int i => .int i
  | .str x => .str x
  | .tup xs => .tuple (pys xs)
  | .lst xs => .list (pys xs)
  | .obj _ => .dict []
def pys : List D → List PyData
  | [] => []
  | x :: xs => py x :: pys xs
end
mutual
theorem rep_py {G H : Hp} (s : Same G H) : ∀ {d : D} {v : V}, shp d = true → Rep K G d v → Dp K H v (py d)
  | .non, v, _, h => by rw [show v = .non from h]; exact .non
  | .bl b, v, _, h => by rw [show v = .bl b from h]; exact .bl b
  | .int i, v, _, h => by rw [show v = .int i from h]; exact .int i
  | .str x, v, _, h => by rw [show v = .str x from h]; exact .str x
  | .tup ds, v, w, h => by
    obtain ⟨a, xs, e, h1, h2⟩ := h
    rw [e]
    exact .tup (Same.t s h1) (reps_py s w h2)
  | .lst ds, v, w, h => by
    obtain ⟨a, xs, e, h1, h2⟩ := h
    rw [e]
    exact .lst (L2.Same.seq s h1) (reps_py s w h2)
  | .obj c, v, w, h => by cases (show false = true from w)
theorem reps_py {G H : Hp} (s : Same G H) : ∀ {ds : List D} {vs : List V}, shps ds = true → Reps K G ds vs → DpAll K H vs (pys ds)
  | [], vs, _, h => by rw [show vs = [] from h]; exact .nil
  | d :: ds, vs, w, h => by
    obtain ⟨x, xs, e, h1, h2⟩ := h
    have w : (shp d && shps ds) = true := w
    rw [Bool.and_eq_true] at w
    rw [e]
    exact .cons (rep_py s w.1 h1) (reps_py s w.2 h2)
end
mutual
theorem deq_py : ∀ (a b : D), shp a = true → shp b = true → PyData.eqv (py a) (py b) = deq a b
  | .tup xs, b, h, h' => by
    cases b with
    | tup ys => exact deqs_py xs ys h h'
    | _ => rfl
  | .lst xs, b, h, h' => by
    cases b with
    | lst ys => exact deqs_py xs ys h h'
    | _ => rfl
  | .non, b, _, _ => by cases b <;> rfl
  | .bl a, b, _, _ => by cases b <;> rfl
  | .int i, b, _, _ => by cases b <;> rfl
  | .str x, b, _, _ => by cases b <;> rfl
  | .obj c, b, h, _ => by cases (show false = true from h)
theorem deqs_py : ∀ (a b : List D), shps a = true → shps b = true → PyData.eqvAll (pys a) (pys b) = deqs a b
  | [], b, _, _ => by cases b <;> rfl
  | x :: xs, [], _, _ => rfl
  | x :: xs, y :: ys, h, h' => by
    have h : (shp x && shps xs) = true := h
    have h' : (shp y && shps ys) = true := h'
    rw [Bool.and_eq_true] at h h'
    show (PyData.eqv (py x) (py y) && PyData.eqvAll (pys xs) (pys ys)) = (deq x y && deqs xs ys)
    rw [deq_py x y h.1 h'.1, deqs_py xs ys h.2 h'.2]
end
mutual
theorem shp_py : ∀ d : D, (py d).canLay0 = shp d
  | .tup xs => shps_py xs
  | .lst xs => shps_py xs
  | .non => rfl
  | .bl _ => rfl
  | .int _ => rfl
  | .str _ => rfl
  | .obj _ => rfl
theorem shps_py : ∀ ds : List D, PyData.canLayAll0 (pys ds) = shps ds
  | [] => rfl
  | x :: xs => by
    show ((py x).canLay0 && PyData.canLayAll0 (pys xs)) = (shp x && shps xs)
    rw [shp_py x, shps_py xs]
end
mutual
theorem dep_py : ∀ d : D, (py d).depth = dep d
  | .tup xs => congrArg (· + 1) (deps_py xs)
  | .lst xs => congrArg (· + 1) (deps_py xs)
  | .non => rfl
  | .bl _ => rfl
  | .int _ => rfl
  | .str _ => rfl
  | .obj _ => rfl
theorem deps_py : ∀ ds : List D, PyData.depthAll (pys ds) = deps ds
  | [] => rfl
  | x :: xs => by
    show max (py x).depth (PyData.depthAll (pys xs)) = max (dep x) (deps xs)
    rw [dep_py x, deps_py xs]
end
theorem shaped_of {d : D} (h : Shp d) : SeqAt.shaped (py d) = true := by
  unfold SeqAt.shaped
  rw [shp_py, dep_py, h.1, decide_eq_true h.2]
  rfl
theorem rw_eq : RW2 K (rEqD K) dEq := fun G H x y d e kk Q s rx ry h k =>
  ⟨py d, py e, rep_py s h.1.1.1 rx, rep_py s h.1.2.1 ry, shaped_of h.1.1, shaped_of h.1.2, by rw [deq_py _ _ h.1.1.1 h.1.2.1]; exact k _ _ h.2 rfl⟩
theorem rw_ne : RW2 K (rNeD K) dNe := fun G H x y d e kk Q s rx ry h k =>
  ⟨py d, py e, rep_py s h.1.1.1 rx, rep_py s h.1.2.1 ry, shaped_of h.1.1, shaped_of h.1.2, by rw [deq_py _ _ h.1.1.1 h.1.2.1]; exact k _ _ h.2 rfl⟩
theorem non_iff {G : Hp} : ∀ {d : D} {v : V}, Rep K G d v → decide (v = .non) = isNon d
  | .non, v, h => by rw [show v = .non from h]; rfl
  | .bl b, v, h => by rw [show v = .bl b from h]; rfl
  | .int i, v, h => by rw [show v = .int i from h]; rfl
  | .str s, v, h => by rw [show v = .str s from h]; rfl
  | .tup _, v, h => by
    obtain ⟨a, xs, e, _⟩ := h
    rw [e]
    rfl
  | .lst _, v, h => by
    obtain ⟨a, xs, e, _⟩ := h
    rw [e]
    rfl
  | .obj _, v, h => by
    obtain ⟨C, a, dx, _, e, _⟩ := h
    rw [e]
    rfl
theorem ew_isN (h : EW K W ta a) : EW K W (tIsN ta) (wUn dIsN a) := fun c pa G H σ ds xk kk Q E hw hx k => by
  refine h c pa G H σ ds xk _ _ E hw hx fun x G1 H1 d ds1 q S1 r1 => ?_
  rw [non_iff r1]
  exact k _ G1 H1 _ ds1 q S1 rfl
theorem ew_notN (h : EW K W ta a) : EW K W (tNotN ta) (wUn dNotN a) := fun c pa G H σ ds xk kk Q E hw hx k => by
  refine h c pa G H σ ds xk _ _ E hw hx fun x G1 H1 d ds1 q S1 r1 => ?_
  rw [non_iff r1]
  exact k _ G1 H1 _ ds1 q S1 rfl
theorem rw_ix : RW2 K (rIx K) dIx := fun G H x y d e kk Q s rx ry h k => by
  cases d with
  | tup xs =>
    cases e with
    | int i =>
      obtain ⟨p, vs, ev, h1, h2⟩ := rx
      have h : (match itemAt xs i with | some v => kk v | none => False) := h
      cases q : itemAt xs i with
      | none => rw [q] at h; exact h.elim
      | some z =>
        rw [q] at h
        obtain ⟨v, e1, rv⟩ := h2.item q
        exact .inr (.inl ⟨p, vs, i, v, ev, ry, Same.t s h1, e1, k z v h rv⟩)
    | _ => exact (show False from h).elim
  | lst xs =>
    cases e with
    | int i =>
      obtain ⟨p, vs, ev, h1, h2⟩ := rx
      have h : (match itemAt xs i with | some v => kk v | none => False) := h
      cases q : itemAt xs i with
      | none => rw [q] at h; exact h.elim
      | some z =>
        rw [q] at h
        obtain ⟨v, e1, rv⟩ := h2.item q
        exact .inl ⟨p, vs, i, v, ev, ry, L2.Same.seq s h1, e1, k z v h rv⟩
    | _ => exact (show False from h).elim
  | _ => exact (show False from h).elim
/-! built-ins -/
def rAbs : List V → Hp → VK → Prop := fun xs H Q => ∃ i, xs = [.int i] ∧ Q (.int (if i < 0 then -i else i)) H
theorem rc_abs : RWC1 K rAbs dAbs := fun G H x d kk Q s rx h k => by
  cases d <;> try exact (show False from h).elim
  exact ⟨_, by rw [rx], k _ _ h rfl⟩
def rMx2 : List V → Hp → VK → Prop := fun xs H Q => ∃ i j, xs = [.int i, .int j] ∧ Q (.int (if j > i then j else i)) H
theorem rc_max : RWC2 K rMx2 dMax := fun G H x y d e kk Q s rx ry h k => by
  cases d <;> try exact (show False from h).elim
  cases e <;> try exact (show False from h).elim
  exact ⟨_, _, by rw [rx, ry], k _ _ h rfl⟩
def rMn2 : List V → Hp → VK → Prop := fun xs H Q => ∃ i j, xs = [.int i, .int j] ∧ Q (.int (if j < i then j else i)) H
theorem rc_min : RWC2 K rMn2 dMin := fun G H x y d e kk Q s rx ry h k => by
  cases d <;> try exact (show False from h).elim
  cases e <;> try exact (show False from h).elim
  exact ⟨_, _, by rw [rx, ry], k _ _ h rfl⟩
def rLen (K : PySem.W.Frag) : List V → Hp → VK → Prop := fun xs H Q => ∃ x n, xs = [x] ∧ LenV K x H n ∧ Q (.int n) H
theorem rc_len : RWC1 K (rLen K) dLen := fun G H x d kk Q s rx h k => by
  cases d with
  | tup xs =>
    obtain ⟨p, vs, ev, h1, h2⟩ := rx
    subst ev
    exact ⟨_, vs.length, rfl, .inr ⟨vs, Same.t s h1, rfl⟩, k _ _ h (by show V.int vs.length = V.int xs.length; rw [h2.len])⟩
  | lst xs =>
    obtain ⟨p, vs, ev, h1, h2⟩ := rx
    subst ev
    exact ⟨_, vs.length, rfl, .inl ⟨vs, L2.Same.seq s h1, rfl⟩, k _ _ h (by show V.int vs.length = V.int xs.length; rw [h2.len])⟩
  | _ => exact (show False from h).elim
theorem bools_rep {G : Hp} : ∀ {ds : List D} {vs : List V} {bs : List Bool}, Reps K G ds vs → boolsD ds = some bs → vs = bs.map V.bl
  | [], vs, bs, h, e => by
    have e : ([] : List Bool) = bs := Option.some.inj e
    rw [← e]
    exact h
  | d :: ds, vs, bs, h, e => by
    obtain ⟨x, xs, ev, h1, h2⟩ := h
    cases d with
    | bl b =>
      have e : (boolsD ds).map (b :: ·) = some bs := e
      cases q : boolsD ds with
      | none => rw [q] at e; cases e
      | some r =>
        rw [q] at e
        have e : b :: r = bs := Option.some.inj e
        rw [ev, ← e, bools_rep h2 q, show x = V.bl b from h1]
        rfl
    | _ => cases (show (none : Option (List Bool)) = some bs from e)
theorem ints_rep {G : Hp} : ∀ {ds : List D} {vs : List V} {bs : List Int}, Reps K G ds vs → intsD ds = some bs → vs = bs.map V.int
  | [], vs, bs, h, e => by
    have e : ([] : List Int) = bs := Option.some.inj e
    rw [← e]
    exact h
  | d :: ds, vs, bs, h, e => by
    obtain ⟨x, xs, ev, h1, h2⟩ := h
    cases d with
    | int b =>
      have e : (intsD ds).map (b :: ·) = some bs := e
      cases q : intsD ds with
      | none => rw [q] at e; cases e
      | some r =>
        rw [q] at e
        have e : b :: r = bs := Option.some.inj e
        rw [ev, ← e, ints_rep h2 q, show x = V.int b from h1]
        rfl
    | _ => cases (show (none : Option (List Int)) = some bs from e)
theorem rc_all : RWC1 K (rAll K) dAll := fun G H x d kk Q s rx h k => by
  cases d with
  | lst xs =>
    obtain ⟨p, vs, ev, h1, h2⟩ := rx
    have h : (match boolsD xs with | some bs => kk (.bl (bs.all id)) | none => False) := h
    cases q : boolsD xs with
    | none => rw [q] at h; exact h.elim
    | some bs =>
      rw [q] at h
      exact ⟨p, bs, by rw [ev], by rw [← bools_rep h2 q]; exact L2.Same.seq s h1, k _ _ h rfl⟩
  | _ => exact (show False from h).elim
theorem rc_any : RWC1 K (rAny K) dAny := fun G H x d kk Q s rx h k => by
  cases d with
  | lst xs =>
    obtain ⟨p, vs, ev, h1, h2⟩ := rx
    have h : (match boolsD xs with | some bs => kk (.bl (bs.any id)) | none => False) := h
    cases q : boolsD xs with
    | none => rw [q] at h; exact h.elim
    | some bs =>
      rw [q] at h
      exact ⟨p, bs, by rw [ev], by rw [← bools_rep h2 q]; exact L2.Same.seq s h1, k _ _ h rfl⟩
  | _ => exact (show False from h).elim
theorem rc_sum : RWC1 K (rSum K) dSum := fun G H x d kk Q s rx h k => by
  cases d with
  | lst xs =>
    obtain ⟨p, vs, ev, h1, h2⟩ := rx
    have h : (match intsD xs with | some bs => kk (.int bs.sum) | none => False) := h
    cases q : intsD xs with
    | none => rw [q] at h; exact h.elim
    | some bs =>
      rw [q] at h
      exact ⟨p, bs, by rw [ev], by rw [← ints_rep h2 q]; exact L2.Same.seq s h1, k _ _ h rfl⟩
  | _ => exact (show False from h).elim
def rInt : List V → Hp → VK → Prop := fun xs H Q => (∃ i, xs = [.int i] ∧ Q (.int i) H) ∨ ∃ k, xs = [.bl k] ∧ Q (.int (if k then 1 else 0)) H
theorem rc_int : RWC1 K rInt dInt := fun G H x d kk Q s rx h k => by
  cases d with
  | int i => exact .inl ⟨i, by rw [show x = V.int i from rx], k _ _ h rfl⟩
  | bl b => exact .inr ⟨b, by rw [show x = V.bl b from rx], k _ _ h rfl⟩
  | _ => exact (show False from h).elim
/-! isinstance of a built-in type -/
def tyN : D → String
  | .non => "NoneType" | .bl _ => "bool" | .int _ => "int" | .str _ => "str" | .tup _ => "tuple" | .lst _ => "list" | .obj _ => "NoneType"
def isObj : D → Bool | .obj _ => true | _ => false
theorem rep_ty {G H : Hp} (s : Same G H) : ∀ {d : D} {v : V}, isObj d = false → Rep K G d v → TyX K H v (.type (tyN d))
  | .non, v, _, h => by rw [show v = .non from h]; exact .base .non
  | .bl b, v, _, h => by rw [show v = .bl b from h]; exact .base (.bl b)
  | .int i, v, _, h => by rw [show v = .int i from h]; exact .base (.int i)
  | .str x, v, _, h => by rw [show v = .str x from h]; exact .base (.str x)
  | .tup ds, v, _, h => by
    obtain ⟨a, xs, e, h1, _⟩ := h
    rw [e]
    rcases Same.t s h1 with (q | ⟨o, q⟩) | ⟨o, its, n, q, q2, _⟩
    · exact .base (.tup q)
    · exact .fTuple q
    · exact .kTuple q q2
  | .lst ds, v, _, h => by
    obtain ⟨a, xs, e, h1, _⟩ := h
    rw [e]
    rcases L2.Same.seq s h1 with (q | ⟨o, q⟩) | ⟨o, its, n, q, q2, _⟩
    · exact .base (.lst q)
    · exact .base (.frz q)
    · exact .kList q q2
  | .obj _, v, w, h => by cases w
def Ty.nm : Ty → String
  | .int => "int" | .bool => "bool" | .str => "str" | .tuple => "tuple" | .list => "list" | .dict => "dict"
theorem kit_of_ty (T : Ty) (d : D) : kitB (tyN d) T.nm = some (isTy T d) := by
  cases T <;> (cases d <;> first
    | exact (by decide +kernel : kitB "NoneType" "int" = some false) | exact (by decide +kernel : kitB "bool" "int" = some true) | exact (by decide +kernel : kitB "int" "int" = some true)
    | exact (by decide +kernel : kitB "str" "int" = some false) | exact (by decide +kernel : kitB "tuple" "int" = some false) | exact (by decide +kernel : kitB "list" "int" = some false)
    | exact (by decide +kernel : kitB "NoneType" "bool" = some false) | exact (by decide +kernel : kitB "bool" "bool" = some true) | exact (by decide +kernel : kitB "int" "bool" = some false)
    | exact (by decide +kernel : kitB "str" "bool" = some false) | exact (by decide +kernel : kitB "tuple" "bool" = some false) | exact (by decide +kernel : kitB "list" "bool" = some false)
    | exact (by decide +kernel : kitB "NoneType" "str" = some false) | exact (by decide +kernel : kitB "bool" "str" = some false) | exact (by decide +kernel : kitB "int" "str" = some false)
    | exact (by decide +kernel : kitB "str" "str" = some true) | exact (by decide +kernel : kitB "tuple" "str" = some false) | exact (by decide +kernel : kitB "list" "str" = some false)
    | exact (by decide +kernel : kitB "NoneType" "tuple" = some false) | exact (by decide +kernel : kitB "bool" "tuple" = some false) | exact (by decide +kernel : kitB "int" "tuple" = some false)
    | exact (by decide +kernel : kitB "str" "tuple" = some false) | exact (by decide +kernel : kitB "tuple" "tuple" = some true) | exact (by decide +kernel : kitB "list" "tuple" = some false)
    | exact (by decide +kernel : kitB "NoneType" "list" = some false) | exact (by decide +kernel : kitB "bool" "list" = some false) | exact (by decide +kernel : kitB "int" "list" = some false)
    | exact (by decide +kernel : kitB "str" "list" = some false) | exact (by decide +kernel : kitB "tuple" "list" = some false) | exact (by decide +kernel : kitB "list" "list" = some true)
    | exact (by decide +kernel : kitB "NoneType" "dict" = some false) | exact (by decide +kernel : kitB "bool" "dict" = some false) | exact (by decide +kernel : kitB "int" "dict" = some false)
    | exact (by decide +kernel : kitB "str" "dict" = some false) | exact (by decide +kernel : kitB "tuple" "dict" = some false) | exact (by decide +kernel : kitB "list" "dict" = some false))
theorem ew_isi (T : Ty) (h : EW K W ta a) : EW K W (tCB (rIsi K) (tCons ta (tCons (tC (.ty T.nm)) tNil))) (wUn (dIsTy T) a) := fun c pa G H σ ds xk kk Q E hw hx k => by
  refine h c pa G H σ ds xk _ _ E hw hx fun x G1 H1 d ds1 q S1 r1 => ?_
  obtain ⟨ho, q⟩ : isObj d = false ∧ kk (.bl (isTy T d)) ds1 := by
    cases d <;> first | exact ⟨rfl, q⟩ | exact (show False from q).elim
  exact ⟨x, .ty T.nm, _, .type T.nm, isTy T d, rfl, .ty T.nm, rep_ty S1.env.ex ho r1, kit_ty (kit_of_ty T d), k _ G1 H1 _ ds1 q S1 rfl⟩
theorem kits_any {d : D} : ∀ ts : List Ty, PySem.W.kitAny K (.type (tyN d)) (ts.map fun t => Value.type t.nm) = some (ts.any fun t => isTy t d)
  | [] => rfl
  | T :: ts => by
    refine kitAny_cons (b := isTy T d) (kit_ty (kit_of_ty T d)) (fun e => ?_) fun e => ?_
    · rw [kits_any ts, List.any_cons, e]
      rfl
    · rw [List.any_cons, e]
      rfl
theorem cls_all : ∀ ts : List Ty, Paired ClsV (ts.map fun t => V.ty t.nm) (ts.map fun t => Value.type t.nm)
  | [] => .nil
  | T :: ts => .cons (.ty T.nm) (cls_all ts)
/-- the written tuple of types -/
def tTys : List Ty → TA
  | [] => tNil
  | T :: ts => tCons (tC (.ty T.nm)) (tTys ts)
theorem tTys_run : ∀ (ts : List Ty) (σ : L2.St) (H : Hp) (Q : List V → Hp → Prop), Q (ts.map fun t => V.ty t.nm) H → tTys ts σ H Q
  | [], _, _, _, h => h
  | T :: ts, σ, H, Q, h => tTys_run ts σ H _ h
theorem ew_isis {ts : List Ty} (hl : ts.length ≤ 10) (h : EW K W ta a) : EW K W (tCB (rIsiT K) (tCons ta (tCons (tTup (tTys ts)) tNil))) (wUn (dIsTys ts) a) := fun c pa G H σ ds xk kk Q E hw hx k => by
  refine h c pa G H σ ds xk _ _ E hw hx fun x G1 H1 d ds1 q S1 r1 => ?_
  obtain ⟨ho, q⟩ : isObj d = false ∧ kk (.bl (ts.any fun t => isTy t d)) ds1 := by
    cases d <;> first | exact ⟨rfl, q⟩ | exact (show False from q).elim
  refine tTys_run ts σ H1 _ ⟨by rw [List.length_map]; exact Nat.le_trans hl (by decide), fun p hp => ?_⟩
  have S2 := Stp.new S1.env (o := .tup (ts.map fun t => V.ty t.nm)) hp
  exact ⟨x, p, _, _, _, _, rfl, upd_same, cls_all ts, rep_ty S2.env.ex ho (r1.mono S2.sg), kits_any ts, k _ _ _ _ ds1 q (S1.trans S2) rfl⟩
end
end DW

/-! DwG: pieces of Python with their transformers: what a derivation is made of. -/
namespace DW
open PySem PySem.Spec PyProof.Rows L2

/-- the places where one piece of text runs (a body: one; a comprehension's block: any entry) -/
structure Fam (P : Program) (w : World) (K : PySem.W.Frag) (mg : Str → Option Value) (base : Heap) (N : List Str) (k : Nat) (W : WX) where
  ι : Type
  X : ι → Cx
  hP : ∀ i, (X i).prog = P
  hw : ∀ i, (X i).w = w
  hK : ∀ i, (X i).K = K
  hm : ∀ i, (X i).mg = mg
  hb : ∀ i, (X i).base = base
  hN : ∀ i, (X i).N = N
  calm : ∀ i, (X i).calm = true
  room : ∀ i, Room k (X i).A
  nd : N.Nodup
  po : ∀ i, PassesOwn (model (X i).prog (X i).w) (X i).A (X i).env (X i).xe
  tk : ∀ i, Takes (X i) W

section
variable {P : Program} {w : World} {K : PySem.W.Frag} {mg : Str → Option Value} {base : Heap} {N : List Str} {k : Nat} {W : WX}

def DE (F : Fam P w K mg base N k W) (e : Expr) (q : WE) : Prop := ∃ te, (∀ i, PE (F.X i) e te) ∧ EW K W te q
def DO (F : Fam P w K mg base N k W) (e : Expr) (q : WO) : Prop := ∃ te, (∀ i, PE (F.X i) e te) ∧ EO K W te q
def DT (F : Fam P w K mg base N k W) (e : Expr) (q : WT) : Prop := ∃ tt, (∀ i, PT (F.X i) e tt) ∧ TW K W tt q
def DP (F : Fam P w K mg base N k W) (e : Expr) (q : WT) : Prop := ∃ tt, (∀ i, PW (F.X i) e tt) ∧ TW K W tt q
def DL (F : Fam P w K mg base N k W) (es : List Expr) (q : List WE) : Prop := ∃ ta, (∀ i, PA (F.X i) es ta) ∧ AW K W ta q
def DC (F : Fam P w K mg base N k W) (es : List Expr) (q : List DA) : Prop := ∃ ta, (∀ i, PA (F.X i) es ta) ∧ CAW K W ta q
def DG (F : Fam P w K mg base N k W) (e : Expr) (q : Tg) : Prop := ∃ g, (∀ i, PG (F.X i) e g) ∧ GW K g q
def DGs (F : Fam P w K mg base N k W) (e : List Expr) (q : List Tg) : Prop := ∃ g, (∀ i, PGs (F.X i) e g) ∧ GWs K g q
def DS1 (F : Fam P w K mg base N k W) (s : Stmt) (q : WS) : Prop := ∃ t, (∀ i, PS (F.X i) s t) ∧ SW K W t q
def DSs (F : Fam P w K mg base N k W) (s : List Stmt) (q : WS) : Prop := ∃ t, (∀ i, PSs (F.X i) s t) ∧ SW K W t q

variable {F : Fam P w K mg base N k W} {a b c e : Expr} {es : List Expr} {x y : Str} {pos p p2 : Pos} {qa qb qc : WE} {q r : WT}

/-! ### names and constants -/
theorem d_var (i : Nat) (h : N[i]? = some x := by rfl) (hv : ∀ j, Vis (F.X j).env.scope x := by intro _; first | exact Or.inl rfl | exact Or.inr (Or.inl rfl) | exact Or.inr (Or.inr rfl))
    (hd : (x == ("__debug__" : Str)) = false := by decide) (hcd : (x == ("__classdict__" : Str)) = false := by decide) : DE F (.Name x pos) (wVar i) :=
  ⟨_, fun j => pe_var (by rw [F.hN j]; exact h) (hv j) hd hcd, ew_var i⟩
theorem d_int {i : Int} {j} : DE F (.Constant (.int i) j pos) (wC (.int i)) := ⟨_, fun _ => pe_int, ew_c fun _ => rfl⟩
theorem d_bl {i : Bool} {j} : DE F (.Constant (.bool i) j pos) (wC (.bl i)) := ⟨_, fun _ => pe_bl, ew_c fun _ => rfl⟩
theorem d_non {j} : DE F (.Constant .none j pos) (wC .non) := ⟨_, fun _ => pe_non, ew_c fun _ => rfl⟩
theorem d_str {i : String} {j} : DE F (.Constant (.str i) j pos) (wC (.str (Str.ofString i))) := ⟨_, fun _ => pe_str, ew_c fun _ => rfl⟩
/-- a module's constant -/
theorem d_glob {d : D} {v : V} {u : Value} (hm : mg x = some u) (r : RelV v u) (hr : ∀ G, Rep K G d v) (hg : ∀ j, Gl (F.X j) x := by intro _; rfl) (hd : (x == ("__debug__" : Str)) = false := by decide) : DE F (.Name x pos) (wC d) :=
  ⟨_, fun j => pe_glob (hg j) (by rw [F.hm j]; exact hm) r hd, ew_c hr⟩
/-! ### operators -/
theorem d_op {op : Operator} {f : B2} {rr : R2} (ho : ∀ X : Cx, OpR X (binaryOp op) rr) (hr : RW2 K rr f) (ha : DE F a qa) (hb : DE F b qb) : DE F (.BinOp a op b pos) (wBin f qa qb) := by
  obtain ⟨ta, a1, a2⟩ := ha
  obtain ⟨tb, b1, b2⟩ := hb
  exact ⟨_, fun i => pe_op (ho _) (a1 i) (b1 i), ew_op hr a2 b2⟩
theorem d_add (ha : DE F a qa) (hb : DE F b qb) : DE F (.BinOp a .Add b pos) (wBin dAdd qa qb) := d_op (fun _ => op_add) rw_add ha hb
theorem d_sub (ha : DE F a qa) (hb : DE F b qb) : DE F (.BinOp a .Sub b pos) (wBin dSub qa qb) := d_op (fun _ => op_sub) rw_sub ha hb
theorem d_mul (ha : DE F a qa) (hb : DE F b qb) : DE F (.BinOp a .Mult b pos) (wBin dMul qa qb) := d_op (fun _ => op_mulW) rw_mul ha hb
theorem d_fdiv (ha : DE F a qa) (hb : DE F b qb) : DE F (.BinOp a .FloorDiv b pos) (wBin dFdiv qa qb) := d_op (fun _ => op_fdivF) rw_fdiv ha hb
theorem d_mod (ha : DE F a qa) (hb : DE F b qb) : DE F (.BinOp a .Mod b pos) (wBin dMod qa qb) := d_op (fun _ => op_modN) rw_mod ha hb
theorem d_pow (ha : DE F a qa) (hb : DE F b qb) : DE F (.BinOp a .Pow b pos) (wBin dPow qa qb) := d_op (fun _ => op_pow) rw_pow ha hb
theorem d_neg (ha : DE F a qa) : DE F (.UnaryOp .USub a pos) (wUn dNeg qa) := by
  obtain ⟨ta, a1, a2⟩ := ha
  exact ⟨_, fun i => pe_un un_neg (a1 i), ew_un rw_neg a2⟩
/-! ### comparisons -/
theorem d_cmp {op : CmpOp} {f : B2} {rr : R2} (ho : ∀ j, OpR (F.X j) (compareOp op) rr) (hr : RW2 K rr f) (ha : DE F a qa) (hb : DE F b qb) (hm : behindInMarks op b = false) : DE F (.Compare a [op] [b] pos) (wBin f qa qb) := by
  obtain ⟨ta, a1, a2⟩ := ha
  obtain ⟨tb, b1, b2⟩ := hb
  exact ⟨_, fun i => pe_cmpR (ho i) (a1 i) (b1 i) hm, ew_op hr a2 b2⟩
theorem t_cmp {op : CmpOp} {f : B2} {rr : R2} (ho : ∀ j, OpR (F.X j) (compareOp op) rr) (hr : RW2 K rr f) (ha : DE F a qa) (hb : DE F b qb) (hm : behindInMarks op b = false) : DT F (.Compare a [op] [b] pos) (wTst (wBin f qa qb)) := by
  obtain ⟨ta, a1, a2⟩ := ha
  obtain ⟨tb, b1, b2⟩ := hb
  exact ⟨_, fun i => pt_cmpR (ho i) (a1 i) (b1 i) hm, tw_tst (ew_op hr a2 b2)⟩
theorem d_lt (ha : DE F a qa) (hb : DE F b qb) : DE F (.Compare a [.Lt] [b] pos) (wBin dLt qa qb) := d_cmp (fun _ => op_lt) rw_lt ha hb (nomark _)
theorem d_le (ha : DE F a qa) (hb : DE F b qb) : DE F (.Compare a [.LtE] [b] pos) (wBin dLe qa qb) := d_cmp (fun _ => op_le) rw_le ha hb (nomark _)
theorem d_gt (ha : DE F a qa) (hb : DE F b qb) : DE F (.Compare a [.Gt] [b] pos) (wBin dGt qa qb) := d_cmp (fun _ => op_gt) rw_gt ha hb (nomark _)
theorem d_ge (ha : DE F a qa) (hb : DE F b qb) : DE F (.Compare a [.GtE] [b] pos) (wBin dGe qa qb) := d_cmp (fun _ => op_ge) rw_ge ha hb (nomark _)
theorem t_lt (ha : DE F a qa) (hb : DE F b qb) : DT F (.Compare a [.Lt] [b] pos) (wTst (wBin dLt qa qb)) := t_cmp (fun _ => op_lt) rw_lt ha hb (nomark _)
theorem t_le (ha : DE F a qa) (hb : DE F b qb) : DT F (.Compare a [.LtE] [b] pos) (wTst (wBin dLe qa qb)) := t_cmp (fun _ => op_le) rw_le ha hb (nomark _)
theorem t_gt (ha : DE F a qa) (hb : DE F b qb) : DT F (.Compare a [.Gt] [b] pos) (wTst (wBin dGt qa qb)) := t_cmp (fun _ => op_gt) rw_gt ha hb (nomark _)
theorem t_ge (ha : DE F a qa) (hb : DE F b qb) : DT F (.Compare a [.GtE] [b] pos) (wTst (wBin dGe qa qb)) := t_cmp (fun _ => op_ge) rw_ge ha hb (nomark _)
theorem eqK {X : Cx} (h : X.K = K) (hu : X.A.units + 64 < cLine) : OpR X (compareOp .Eq) (rEqD K) := by subst h; exact op_eqD hu
theorem neK {X : Cx} (h : X.K = K) (hu : X.A.units + 64 < cLine) : OpR X (compareOp .NotEq) (rNeD K) := by subst h; exact op_neD hu
theorem d_eq (ha : DE F a qa) (hb : DE F b qb) : DE F (.Compare a [.Eq] [b] pos) (wBin dEq qa qb) := d_cmp (fun j => eqK (F.hK j) (F.room j).units) rw_eq ha hb (nomark _)
theorem d_ne (ha : DE F a qa) (hb : DE F b qb) : DE F (.Compare a [.NotEq] [b] pos) (wBin dNe qa qb) := d_cmp (fun j => neK (F.hK j) (F.room j).units) rw_ne ha hb (nomark _)
theorem t_eq (ha : DE F a qa) (hb : DE F b qb) : DT F (.Compare a [.Eq] [b] pos) (wTst (wBin dEq qa qb)) := t_cmp (fun j => eqK (F.hK j) (F.room j).units) rw_eq ha hb (nomark _)
theorem t_ne (ha : DE F a qa) (hb : DE F b qb) : DT F (.Compare a [.NotEq] [b] pos) (wTst (wBin dNe qa qb)) := t_cmp (fun j => neK (F.hK j) (F.room j).units) rw_ne ha hb (nomark _)
theorem d_isN {j} (ha : DE F a qa) : DE F (.Compare a [.Is] [.Constant .none j p] pos) (wUn dIsN qa) := by
  obtain ⟨ta, a1, a2⟩ := ha
  exact ⟨_, fun i => pe_cmp (pc_isN (a1 i)), ew_isN a2⟩
theorem d_notN {j} (ha : DE F a qa) : DE F (.Compare a [.IsNot] [.Constant .none j p] pos) (wUn dNotN qa) := by
  obtain ⟨ta, a1, a2⟩ := ha
  exact ⟨_, fun i => pe_cmp (pc_notN (a1 i)), ew_notN a2⟩
/-- any expression that gives True or False, as a test -/
theorem t_val (ha : DE F a qa) (he : ∀ j, ∀ whole, isTrue a (F.X j).env whole = (do let v ← whole; standAt a.pos; holding [v] (truthy v)) := by intro _ _; rfl) : DT F a (wTst qa) := by
  obtain ⟨ta, a1, a2⟩ := ha
  exact ⟨_, fun i => pt_val (a1 i) (he i), tw_b a2⟩
theorem t_isN {j} (ha : DE F a qa) : DT F (.Compare a [.Is] [.Constant .none j p] pos) (wTst (wUn dIsN qa)) := by
  obtain ⟨ta, a1, a2⟩ := ha
  exact ⟨_, fun i => pt_cmp (pc_isN (a1 i)), tw_b (ew_isN a2)⟩
theorem t_notN {j} (ha : DE F a qa) : DT F (.Compare a [.IsNot] [.Constant .none j p] pos) (wTst (wUn dNotN qa)) := by
  obtain ⟨ta, a1, a2⟩ := ha
  exact ⟨_, fun i => pt_cmp (pc_notN (a1 i)), tw_b (ew_notN a2)⟩
/-! ### and, or, not, if -/
theorem p_pt (h : DP F a q) : DT F a q := by
  obtain ⟨t, h1, h2⟩ := h
  exact ⟨t, fun i => (h1 i).pt, h2⟩
theorem p_and1 (h : DT F a q) : DP F (.BoolOp .And [a] pos) q := by
  obtain ⟨t, h1, h2⟩ := h
  exact ⟨t, fun i => pw_and1 (h1 i), h2⟩
theorem p_or1 (h : DT F a q) : DP F (.BoolOp .Or [a] pos) q := by
  obtain ⟨t, h1, h2⟩ := h
  exact ⟨t, fun i => pw_or1 (h1 i), h2⟩
theorem p_and (h : DT F a q) (h' : DP F (.BoolOp .And (b :: es) pos) r) : DP F (.BoolOp .And (a :: b :: es) pos) (wAnd q r) := by
  obtain ⟨t, h1, h2⟩ := h
  obtain ⟨u, u1, u2⟩ := h'
  exact ⟨_, fun i => pw_and (h1 i) (u1 i), tw_and h2 u2⟩
theorem p_or (h : DT F a q) (h' : DP F (.BoolOp .Or (b :: es) pos) r) : DP F (.BoolOp .Or (a :: b :: es) pos) (wOr q r) := by
  obtain ⟨t, h1, h2⟩ := h
  obtain ⟨u, u1, u2⟩ := h'
  exact ⟨_, fun i => pw_or (h1 i) (u1 i), tw_or h2 u2⟩
theorem t_not (h : DT F a q) : DT F (.UnaryOp .Not a pos) (wNot q) := by
  obtain ⟨t, h1, h2⟩ := h
  exact ⟨_, fun i => pt_not (h1 i), tw_not h2⟩
theorem d_one {op} (h : DE F a qa) : DE F (.BoolOp op [a] pos) qa := by
  obtain ⟨t, h1, h2⟩ := h
  exact ⟨_, fun i => pe_one (h1 i), h2⟩
theorem d_and (h : DE F a qa) (h' : DE F (.BoolOp .And (b :: es) pos) qb) : DE F (.BoolOp .And (a :: b :: es) pos) (wAndV qa qb) := by
  obtain ⟨t, h1, h2⟩ := h
  obtain ⟨u, u1, u2⟩ := h'
  exact ⟨_, fun i => pe_and (h1 i) (u1 i), ew_and h2 u2⟩
theorem d_or (h : DE F a qa) (h' : DE F (.BoolOp .Or (b :: es) pos) qb) : DE F (.BoolOp .Or (a :: b :: es) pos) (wOrV qa qb) := by
  obtain ⟨t, h1, h2⟩ := h
  obtain ⟨u, u1, u2⟩ := h'
  exact ⟨_, fun i => pe_or (h1 i) (u1 i), ew_or h2 u2⟩
theorem d_not (h : DE F a qa) : DE F (.UnaryOp .Not a pos) (wNotV qa) := by
  obtain ⟨t, h1, h2⟩ := h
  exact ⟨_, fun i => pe_not (h1 i), ew_not h2⟩
theorem d_if (h : DT F c q) (ha : DE F a qa) (hb : DE F b qb) : DE F (.IfExp c a b pos) (wIf q qa qb) := by
  obtain ⟨t, h1, h2⟩ := h
  obtain ⟨u, u1, u2⟩ := ha
  obtain ⟨v, v1, v2⟩ := hb
  exact ⟨_, fun i => pe_ifExp (h1 i) (u1 i) (v1 i), ew_if h2 u2 v2⟩
/-! ### arguments, displays, items -/
theorem l_nil : DL F [] [] := ⟨_, fun _ => pa_nil, aw_nil⟩
theorem l_cons {qs : List WE} (ha : DE F a qa) (hr : DL F es qs) (hs : ∀ j, starEach (a :: es) (F.X j).env = (false, eval a (F.X j).env) :: starEach es (F.X j).env := by intro _; rfl) : DL F (a :: es) (qa :: qs) := by
  obtain ⟨t, h1, h2⟩ := ha
  obtain ⟨u, u1, u2⟩ := hr
  exact ⟨_, fun i => pa_cons (h1 i) (u1 i) (hs i), aw_cons h2 u2⟩
theorem d_tup {qs : List WE} {x1} (h : DL F es qs) (hl : qs.length ≤ 100000 := by decide) : DE F (.Tuple es x1 pos) (wTup qs) := by
  obtain ⟨u, u1, u2⟩ := h
  exact ⟨_, fun i => pe_tup (u1 i), ew_tup u2 hl⟩
theorem o_lst {qs : List WE} (h : DL F es qs) (hl : qs.length ≤ 100000 := by decide) : DO F (.List es pos) (wLst qs) := by
  obtain ⟨u, u1, u2⟩ := h
  exact ⟨_, fun i => pe_lst (u1 i), eo_lst u2 hl⟩
theorem d_frz {o : WO} (h : DO F a o) : DE F a (wFrz o) := by
  obtain ⟨u, u1, u2⟩ := h
  exact ⟨_, u1, ew_frz u2⟩
theorem ixK {X : Cx} (h : X.K = K) : IxR X (rIx K) := by subst h; exact ix_seq
theorem d_ix (ha : DE F a qa) (hb : DE F b qb) (hs : PlainIx b := by intro _ _; rfl) : DE F (.Subscript a b pos) (wBin dIx qa qb) := by
  obtain ⟨t, h1, h2⟩ := ha
  obtain ⟨u, u1, u2⟩ := hb
  exact ⟨_, fun i => pe_ix (ixK (F.hK i)) (h1 i) (u1 i) hs, ew_op rw_ix h2 u2⟩
/-- an item of the own list in slot i -/
theorem d_ixO (i : Nat) (hb : DE F b qb) (h : N[i]? = some x := by rfl) (hv : ∀ j, Vis (F.X j).env.scope x := by intro _; first | exact Or.inl rfl | exact Or.inr (Or.inl rfl) | exact Or.inr (Or.inr rfl))
    (hd : (x == ("__debug__" : Str)) = false := by decide) (hcd : (x == ("__classdict__" : Str)) = false := by decide) (hs : PlainIx b := by intro _ _; rfl) : DE F (.Subscript (.Name x p) b pos) (wIxO i qb) := by
  obtain ⟨u, u1, u2⟩ := hb
  exact ⟨_, fun j => pe_ix (ixK (F.hK j)) (pe_var (i := i) (by rw [F.hN j]; exact h) (hv j) hd hcd) (u1 j) hs, ew_ixO u2⟩
/-! ### built-ins -/
theorem d_b1 {id : String} {f : B1} {rr : List V → Hp → VK → Prop} (hc : ∀ j, CallR (F.X j) (.builtin id) rr) (hr : RWC1 K rr f) (hm : mg x = none) (hv : bootBuiltins x = some (.builtin id)) (ha : DE F a qa) (hg : ∀ j, Gl (F.X j) x := by intro _; rfl) (hn : x ≠ "__name__" := by decide)
    (hdb : (x == ("__debug__" : Str)) = false := by decide) (hs : ∀ j, starEach [a] (F.X j).env = (false, eval a (F.X j).env) :: starEach [] (F.X j).env := by intro _; rfl) (hpl : ∀ j, (backTo pos (starEach [] (F.X j).env)).any (·.1) = false := by intro _; rfl) :
    DE F (.Call (.Name x p) [a] [] pos) (wUn f qa) := by
  obtain ⟨t, h1, h2⟩ := ha
  exact ⟨_, fun j => pe_callB (hc j) (hg j) (by rw [F.hm j]; exact hm) hv (pa_cons (h1 j) pa_nil (hs j)) hn hdb (hs j) (hpl j), ew_cb1 hr h2⟩
theorem d_b2 {id : String} {f : B2} {rr : List V → Hp → VK → Prop} (hc : ∀ j, CallR (F.X j) (.builtin id) rr) (hr : RWC2 K rr f) (hm : mg x = none) (hv : bootBuiltins x = some (.builtin id)) (ha : DE F a qa) (hb : DE F b qb) (hg : ∀ j, Gl (F.X j) x := by intro _; rfl) (hn : x ≠ "__name__" := by decide)
    (hdb : (x == ("__debug__" : Str)) = false := by decide) (hs : ∀ j, starEach [a, b] (F.X j).env = (false, eval a (F.X j).env) :: starEach [b] (F.X j).env := by intro _; rfl) (hs2 : ∀ j, starEach [b] (F.X j).env = (false, eval b (F.X j).env) :: starEach [] (F.X j).env := by intro _; rfl)
    (hpl : ∀ j, (backTo pos (starEach [b] (F.X j).env)).any (·.1) = false := by intro _; rfl) : DE F (.Call (.Name x p) [a, b] [] pos) (wBin f qa qb) := by
  obtain ⟨t, h1, h2⟩ := ha
  obtain ⟨u, u1, u2⟩ := hb
  exact ⟨_, fun j => pe_callB (hc j) (hg j) (by rw [F.hm j]; exact hm) hv (pa_cons (h1 j) (pa_cons (u1 j) pa_nil (hs2 j)) (hs j)) hn hdb (hs j) (hpl j), ew_cb2 hr h2 u2⟩
theorem lenK {X : Cx} (h : X.K = K) : CallR X (.builtin "len") (rLen K) := by subst h; exact call_len
theorem allK {X : Cx} (h : X.K = K) (c : X.calm = true) : CallR X (.builtin "all") (rAll K) := by subst h; exact cr_all c
theorem anyK {X : Cx} (h : X.K = K) (c : X.calm = true) : CallR X (.builtin "any") (rAny K) := by subst h; exact cr_any c
theorem sumK {X : Cx} (h : X.K = K) (c : X.calm = true) : CallR X (.builtin "sum") (rSum K) := by subst h; exact cr_sum c
theorem isiK {X : Cx} (h : X.K = K) : CallR X (.builtin "isinstance") (rIsi K) := by subst h; exact call_isi
theorem isiTK {X : Cx} (h : X.K = K) : CallR X (.builtin "isinstance") (rIsiT K) := by subst h; exact call_isiT
theorem d_isi (T : Ty) {u : Value} (hi : mg "isinstance" = none) (hm : mg x = none) (hv : bootBuiltins x = some u) (hu : u = .type T.nm) (ha : DE F a qa) (hgi : ∀ j, Gl (F.X j) "isinstance" := by intro _; rfl) (hg : ∀ j, Gl (F.X j) x := by intro _; rfl) (hn : x ≠ "__name__" := by decide)
    (hdb : (x == ("__debug__" : Str)) = false := by decide) (hs : ∀ j, starEach [a, .Name x p2] (F.X j).env = (false, eval a (F.X j).env) :: starEach [.Name x p2] (F.X j).env := by intro _; rfl) (hs2 : ∀ j, starEach [.Name x p2] (F.X j).env = (false, eval (.Name x p2) (F.X j).env) :: starEach [] (F.X j).env := by intro _; rfl)
    (hpl : ∀ j, (backTo pos (starEach [.Name x p2] (F.X j).env)).any (·.1) = false := by intro _; rfl) : DE F (.Call (.Name "isinstance" p) [a, .Name x p2] [] pos) (wUn (dIsTy T) qa) := by
  obtain ⟨t, h1, h2⟩ := ha
  subst hu
  exact ⟨_, fun j => pe_callB (isiK (F.hK j)) (hgi j) (by rw [F.hm j]; exact hi) (by decide +kernel) (pa_cons (h1 j) (pa_cons (pe_bltn (v := .ty T.nm) (hg j) (by rw [F.hm j]; exact hm) hv rfl hn hdb) pa_nil (hs2 j)) (hs j)) (by decide) (by decide) (hs j) (hpl j), ew_isi T h2⟩
/-! ### calls of the program's own defs -/
theorem c_nil : DC F [] [] := ⟨_, fun _ => pa_nil, ca_nil⟩
theorem c_v {qs : List DA} (ha : DE F a qa) (hr : DC F es qs) (hs : ∀ j, starEach (a :: es) (F.X j).env = (false, eval a (F.X j).env) :: starEach es (F.X j).env := by intro _; rfl) : DC F (a :: es) (.v qa :: qs) := by
  obtain ⟨t, h1, h2⟩ := ha
  obtain ⟨u, u1, u2⟩ := hr
  exact ⟨_, fun i => pa_cons (h1 i) (u1 i) (hs i), ca_v h2 u2⟩
theorem c_s (i : Nat) {qs : List DA} (hr : DC F es qs) (h : N[i]? = some x := by rfl) (hv : ∀ j, Vis (F.X j).env.scope x := by intro _; first | exact Or.inl rfl | exact Or.inr (Or.inl rfl) | exact Or.inr (Or.inr rfl))
    (hd : (x == ("__debug__" : Str)) = false := by decide) (hcd : (x == ("__classdict__" : Str)) = false := by decide) (hs : ∀ j, starEach (.Name x p :: es) (F.X j).env = (false, eval (.Name x p) (F.X j).env) :: starEach es (F.X j).env := by intro _; rfl) : DC F (.Name x p :: es) (.s i :: qs) := by
  obtain ⟨u, u1, u2⟩ := hr
  exact ⟨_, fun j => pa_cons (pe_var (i := i) (by rw [F.hN j]; exact h) (hv j) hd hcd) (u1 j) (hs j), ca_s u2⟩
theorem callX {X : Cx} {CX : CXT} {kf : Nat} {f : Addr} {fd : FuncData} {ps : List Str} {fs : FS} {ta : TA} {mv : List V} {mu : List Value} (hP : X.prog = P) (hw : X.w = w) (hK : X.K = K) (hm : X.mg = mg) (hb : X.base = base) (G : FnOk P w K mg base CX kf f fd ps (spOf K fs)) (hr : Room k X.A) (hk : kf ≤ k)
    (hg : Gl X x) (gm : mg x = some (.ref f)) (kp : PySem.W.keepIn K (.ref f) = true) (bb : Binds K fd ps mu) (hd : Vals mv mu) (hx : ∀ σ, PassesAt CX X σ (L2.WE W σ)) (ha : PA X (a :: es) ta) (hdb : (x == ("__debug__" : Str)) = false)
    (he : starEach (a :: es) X.env = (false, eval a X.env) :: starEach es X.env) (hpl : (backTo pos (starEach es X.env)).any (·.1) = false) : PE X (.Call (.Name x p) (a :: es) [] pos) (tCallSD (spOf K fs) mv (L2.WE W) ta) := by
  subst hP hw hK hm hb
  exact pe_callSD G (hr.mono hk) hg gm kp bb hd hx ha hdb he hpl
/-- f(..), f a def that raises nothing -/
theorem d_call {kf : Nat} {f : Addr} {fd : FuncData} {ps : List Str} {fs : FS} {qs : List DA} (G : FnOk P w K mg base CX0 kf f fd ps (spOf K fs)) (gm : mg x = some (.ref f)) (kp : PySem.W.keepIn K (.ref f) = true) (bb : Binds K fd ps []) (ha : DC F (a :: es) qs) (hk : kf ≤ k := by decide)
    (hg : ∀ j, Gl (F.X j) x := by intro _; rfl) (hdb : (x == ("__debug__" : Str)) = false := by decide) (he : ∀ j, starEach (a :: es) (F.X j).env = (false, eval a (F.X j).env) :: starEach es (F.X j).env := by intro _; rfl)
    (hpl : ∀ j, (backTo pos (starEach es (F.X j).env)).any (·.1) = false := by intro _; rfl) : DE F (.Call (.Name x p) (a :: es) [] pos) (wCall fs qs) := by
  obtain ⟨u, u1, u2⟩ := ha
  exact ⟨_, fun j => callX (F.hP j) (F.hw j) (F.hK j) (F.hm j) (F.hb j) G (F.room j) hk (hg j) gm kp bb .nil (fun _ _ _ _ _ _ _ h => h.elim) (u1 j) hdb (he j) (hpl j), ew_call u2 fun _ => rfl⟩
theorem o_call {kf : Nat} {f : Addr} {fd : FuncData} {ps : List Str} {fs : FS} {qs : List DA} (G : FnOk P w K mg base CX0 kf f fd ps (spOf K fs)) (gm : mg x = some (.ref f)) (kp : PySem.W.keepIn K (.ref f) = true) (bb : Binds K fd ps []) (ha : DC F (a :: es) qs) (hk : kf ≤ k := by decide)
    (hg : ∀ j, Gl (F.X j) x := by intro _; rfl) (hdb : (x == ("__debug__" : Str)) = false := by decide) (he : ∀ j, starEach (a :: es) (F.X j).env = (false, eval a (F.X j).env) :: starEach es (F.X j).env := by intro _; rfl)
    (hpl : ∀ j, (backTo pos (starEach es (F.X j).env)).any (·.1) = false := by intro _; rfl) : DO F (.Call (.Name x p) (a :: es) [] pos) (wCallO fs qs) := by
  obtain ⟨u, u1, u2⟩ := ha
  exact ⟨_, fun j => callX (F.hP j) (F.hw j) (F.hK j) (F.hm j) (F.hb j) G (F.room j) hk (hg j) gm kp bb .nil (fun _ _ _ _ _ _ _ h => h.elim) (u1 j) hdb (he j) (hpl j), eo_call u2 fun _ => rfl⟩
end
end DW

/-! DwH: targets, statements, a def's body. -/
namespace DW
open PySem PySem.Spec PyProof.Rows L2

section
variable {P : Program} {w : World} {K : PySem.W.Frag} {mg : Str → Option Value} {base : Heap} {N : List Str} {k : Nat} {W : WX}
variable {F : Fam P w K mg base N k W} {a b c e : Expr} {es : List Expr} {x y z : Str} {pos p p2 p3 p4 : Pos} {qa qb qc : WE} {q r : WT} {s : Stmt} {ss s1 s2 : List Stmt} {ws wr : WS} {o : WO} {tg : Tg}

/-! ### targets -/
theorem g_nm (i : Nat) (h : N[i]? = some x := by rfl) (hx : ∀ j, Loc (F.X j).env.scope x := by intro _; first | exact Or.inl rfl | exact Or.inr rfl)
    (hf : ∀ j, (F.X j).fn x = true ∨ (F.X j).env.scope.names.lookup x = some .local := by intro _; first | exact .inl rfl | exact .inr rfl) : DG F (.Name x pos) (.nm i) :=
  ⟨_, fun j => pg_name (by rw [F.hN j]; exact F.nd) (by rw [F.hN j]; exact h) (hx j) (hf j), gw_nm⟩
theorem gs_nil : DGs F [] [] := ⟨_, fun _ => pgs_nil, gws_nil⟩
theorem gs_cons {ts : List Tg} (h : DG F e tg) (hr : DGs F es ts) (hn : ∀ j, ((assignEach (e :: es) (F.X j).env).map (·.2)) = assign e (F.X j).env :: (assignEach es (F.X j).env).map (·.2) := by intro _; rfl) : DGs F (e :: es) (tg :: ts) := by
  obtain ⟨t, h1, h2⟩ := h
  obtain ⟨u, u1, u2⟩ := hr
  exact ⟨_, fun j => pgs_cons (h1 j) (u1 j) (hn j), gws_cons h2 u2⟩
theorem gtupK {X : Cx} {g : TGs} {kk : Nat} {n : Nat} (h : X.K = K) (hc : X.calm = true) (hg : PGs X es g) (hn : (assignEach es X.env).length = n) (hst : (assignEach es X.env).findIdx? (·.1) = none) : PG X (.Tuple es kk pos) (gTup K n g) := by
  subst h
  exact pg_tup hc hg hn hst
theorem g_tp {ts : List Tg} {kk : Nat} (h : DGs F es ts) (hn : ∀ j, (assignEach es (F.X j).env).length = ts.length := by intro _; rfl) (hst : ∀ j, (assignEach es (F.X j).env).findIdx? (·.1) = none := by intro _; rfl) : DG F (.Tuple es kk pos) (.tp ts) := by
  obtain ⟨u, u1, u2⟩ := h
  exact ⟨_, fun j => gtupK (F.hK j) (F.calm j) (u1 j) (hn j) (hst j), gw_tp u2⟩
/-! ### statements -/
theorem ss_nil : DSs F [] wNext := ⟨_, fun _ => pss_nil, sw_next⟩
theorem ss_cons (h : DS1 F s ws) (h' : DSs F ss wr) : DSs F (s :: ss) (wSeq ws wr) := by
  obtain ⟨t, h1, h2⟩ := h
  obtain ⟨u, u1, u2⟩ := h'
  exact ⟨_, fun i => pss_cons (h1 i) (u1 i), sw_seq h2 u2⟩
theorem ss_one (h : DS1 F s ws) : DSs F [s] ws := by
  obtain ⟨t, h1, h2⟩ := h
  exact ⟨_, fun i => pss_one (h1 i), h2⟩
/-- name = e -/
theorem s_set (i : Nat) (he : DE F e qa) (h : N[i]? = some x := by rfl) (hx : ∀ j, Loc (F.X j).env.scope x := by intro _; first | exact Or.inl rfl | exact Or.inr rfl) (hs : ∀ j, swapsWith e (some (.Name x p)) pos.line (F.X j).env = pure false := by intro _; rfl)
    (hf : ∀ j, (F.X j).fn x = true ∨ (F.X j).env.scope.names.lookup x = some .local := by intro _; first | exact .inl rfl | exact .inr rfl) : DS1 F (.Assign [.Name x p] e pos) (wAsg qa (.nm i)) := by
  obtain ⟨t, h1, h2⟩ := he
  exact ⟨_, fun j => ps_set (i := i) (by rw [F.hN j]; exact F.nd) (by rw [F.hN j]; exact h) (hx j) (h1 j) (hs j) (hf j), sw_asg h2 gw_nm⟩
/-- name = a list of the body's own -/
theorem s_setO (i : Nat) (he : DO F e o) (h : N[i]? = some x := by rfl) (hx : ∀ j, Loc (F.X j).env.scope x := by intro _; first | exact Or.inl rfl | exact Or.inr rfl) (hs : ∀ j, swapsWith e (some (.Name x p)) pos.line (F.X j).env = pure false := by intro _; rfl)
    (hf : ∀ j, (F.X j).fn x = true ∨ (F.X j).env.scope.names.lookup x = some .local := by intro _; first | exact .inl rfl | exact .inr rfl) : DS1 F (.Assign [.Name x p] e pos) (wAsgO o i) := by
  obtain ⟨t, h1, h2⟩ := he
  exact ⟨_, fun j => ps_set (i := i) (by rw [F.hN j]; exact F.nd) (by rw [F.hN j]; exact h) (hx j) (h1 j) (hs j) (hf j), sw_asgO h2⟩
/-- any other target -/
theorem s_asg (he : DE F e qa) (hg : DG F a tg) (hs : ∀ j, swapsWithSole [a] e pos.line (F.X j).env = pure false := by intro _; rfl) (hw : ∀ j, swappedStores [a] e (F.X j).env = pure none := by intro _; rfl)
    (h1 : ∀ j, (assignEach [a] (F.X j).env).map (·.2) = [assign a (F.X j).env] := by intro _; rfl) : DS1 F (.Assign [a] e pos) (wAsg qa tg) := by
  obtain ⟨t, t1, t2⟩ := he
  obtain ⟨g, g1, g2⟩ := hg
  exact ⟨_, fun j => ps_asg (t1 j) (g1 j) (hs j) (hw j) (h1 j), sw_asg t2 g2⟩
/-- x, y = a, b -/
theorem s_par (i l : Nat) {kt k2 : Nat} (ha : DE F a qa) (hb : DE F b qb) (hi : N[i]? = some x := by rfl) (hl : N[l]? = some y := by rfl) (hn : i ≠ l := by decide) (hx : ∀ j, (F.X j).env.scope.names.lookup x = some .local := by intro _; rfl) (hy : ∀ j, (F.X j).env.scope.names.lookup y = some .local := by intro _; rfl)
    (hw : ∀ j, swappedStores [.Tuple [.Name x p, .Name y p2] kt p3] (.Tuple [a, b] k2 p4) (F.X j).env = pure (some [x, y]) := by intro _; rfl) (hs : ∀ j, swapsWithSole [.Tuple [.Name x p, .Name y p2] kt p3] (.Tuple [a, b] k2 p4) pos.line (F.X j).env = pure false := by intro _; rfl)
    (h1 : ∀ j, starEach [a, b] (F.X j).env = (false, eval a (F.X j).env) :: starEach [b] (F.X j).env := by intro _; rfl) (h2 : ∀ j, starEach [b] (F.X j).env = (false, eval b (F.X j).env) :: starEach [] (F.X j).env := by intro _; rfl) :
    DS1 F (.Assign [.Tuple [.Name x p, .Name y p2] kt p3] (.Tuple [a, b] k2 p4) pos) (wPar i l qa qb) := by
  obtain ⟨t, t1, t2⟩ := ha
  obtain ⟨u, u1, u2⟩ := hb
  exact ⟨_, fun j => ps_par (F.calm j) (by rw [F.hN j]; exact F.nd) (by rw [F.hN j]; exact hi) (by rw [F.hN j]; exact hl) hn (hx j) (hy j) (pa_cons (t1 j) (pa_cons (u1 j) pa_nil (h2 j)) (h1 j)) (hw j) (hs j), sw_par t2 u2⟩
theorem s_ret (he : DE F e qa) : DS1 F (.Return (some e) pos) (wRet qa) := by
  obtain ⟨t, t1, t2⟩ := he
  exact ⟨_, fun j => ps_ret (t1 j), sw_ret t2⟩
theorem s_retO (he : DO F e o) : DS1 F (.Return (some e) pos) (wRetO o) := by
  obtain ⟨t, t1, t2⟩ := he
  exact ⟨_, fun j => ps_ret (t1 j), sw_retO t2⟩
theorem s_retS (i : Nat) (h : N[i]? = some x := by rfl) (hv : ∀ j, Vis (F.X j).env.scope x := by intro _; first | exact Or.inl rfl | exact Or.inr (Or.inl rfl) | exact Or.inr (Or.inr rfl))
    (hd : (x == ("__debug__" : Str)) = false := by decide) (hcd : (x == ("__classdict__" : Str)) = false := by decide) : DS1 F (.Return (some (.Name x p)) pos) (wRetS i) :=
  ⟨_, fun j => ps_ret (pe_var (i := i) (by rw [F.hN j]; exact h) (hv j) hd hcd), sw_retS⟩
theorem s_retN : DS1 F (.Return none pos) wRetN := ⟨_, fun _ => ps_retN, sw_retN⟩
theorem s_if (hc : DT F c q) (h1 : DSs F s1 ws) (h2 : DSs F s2 wr) : DS1 F (.If c s1 s2 pos) (wIfS q ws wr) := by
  obtain ⟨t, t1, t2⟩ := hc
  obtain ⟨u, u1, u2⟩ := h1
  obtain ⟨v, v1, v2⟩ := h2
  exact ⟨_, fun j => ps_if (t1 j) (u1 j) (v1 j), sw_if t2 u2 v2⟩
theorem s_drop (he : DE F e qa) (hs : ∀ j, swapsWith e none pos.line (F.X j).env = pure false := by intro _; rfl) : DS1 F (.Expr e pos) (wDrop qa) := by
  obtain ⟨t, t1, t2⟩ := he
  exact ⟨_, fun j => ps_expr (t1 j) (hs j), sw_drop t2⟩
theorem s_pass : DS1 F (.Pass pos) wNext := ⟨_, fun _ => ps_pass, sw_next⟩
theorem s_brk : DS1 F (.Break pos) wBrk := ⟨_, fun _ => ps_break, sw_brk⟩
theorem s_cont : DS1 F (.Continue pos) wCont := ⟨_, fun _ => ps_continue, sw_cont⟩
theorem s_never : DS1 F s wNever := ⟨_, fun _ => ps_never, sw_never⟩
/-- xs[e] = v, the own list in slot i -/
theorem s_put (i : Nat) (ha : DE F a qa) (hb : DE F b qb) (h : N[i]? = some x := by rfl) (hv : ∀ j, Vis (F.X j).env.scope x := by intro _; first | exact Or.inl rfl | exact Or.inr (Or.inl rfl) | exact Or.inr (Or.inr rfl))
    (hd : (x == ("__debug__" : Str)) = false := by decide) (hcd : (x == ("__classdict__" : Str)) = false := by decide)
    (hs : ∀ j, swapsWithSole [.Subscript (.Name x p) b p2] a pos.line (F.X j).env = pure false := by intro _; rfl) (hw : ∀ j, swappedStores [.Subscript (.Name x p) b p2] a (F.X j).env = pure none := by intro _; rfl)
    (h1 : ∀ j, (assignEach [.Subscript (.Name x p) b p2] (F.X j).env).map (·.2) = [assign (.Subscript (.Name x p) b p2) (F.X j).env] := by intro _; rfl)
    (ha2 : ∀ j, ∀ v, assign (.Subscript (.Name x p) b p2) (F.X j).env v = (do
      let ov ← holding [v] (eval (.Name x p) (F.X j).env)
      let iv ← holding [v, ov] (eval b (F.X j).env)
      standAt p2
      holding [v, ov, iv] (setItem ov iv v)
      release [v, ov, iv] []) := by intro _ _; rfl) : DS1 F (.Assign [.Subscript (.Name x p) b p2] a pos) (wSet i qb qa) := by
  obtain ⟨t, t1, t2⟩ := ha
  obtain ⟨u, u1, u2⟩ := hb
  exact ⟨_, fun j => ps_asg (t1 j) (pg_sub (pe_var (i := i) (by rw [F.hN j]; exact h) (hv j) hd hcd) (u1 j) set_list (ha2 j)) (hs j) (hw j) (h1 j), sw_set t2 u2⟩
theorem appK {X : Cx} {to : TE} {t : TA} {apos : Pos} (h : X.K = K) (ho : PE X e to) (ha : PA X [a] t) (hbase : attributeBase e "append" X.env (eval e X.env) = eval e X.env)
    (hfew : ((backTo pos (starEach [a] X.env)).all (fun x => !x.1) && (backToKw pos (keywordEach [] X.env)).all (fun x => x.1.isSome) && decide ([a].length + ([] : List Keyword).length + (if ([] : List Keyword).isEmpty then 0 else 1) < 30)) = true)
    (hline : (apos.endLine == pos.line) = true) (hs : starEach [a] X.env = (false, eval a X.env) :: starEach [] X.env) (hplain : (backTo pos (starEach [] X.env)).any (·.1) = false) :
    PE X (.Call (.Attribute e "append" apos) [a] [] pos) (tBM K "list" rAppend to t) := by
  subst h
  exact pe_bm PySem.F.plainAttrs_list PySem.F.slot_list_append PySem.F.type_list_append mt_append ho ha hbase hfew hline hs hplain
/-- xs.append(v), the own list in slot i -/
theorem s_app (i : Nat) {apos cpos : Pos} (ha : DE F a qa) (h : N[i]? = some x := by rfl) (hv : ∀ j, Vis (F.X j).env.scope x := by intro _; first | exact Or.inl rfl | exact Or.inr (Or.inl rfl) | exact Or.inr (Or.inr rfl))
    (hd : (x == ("__debug__" : Str)) = false := by decide) (hcd : (x == ("__classdict__" : Str)) = false := by decide) (hbase : ∀ j, attributeBase (.Name x p) "append" (F.X j).env (eval (.Name x p) (F.X j).env) = eval (.Name x p) (F.X j).env := by intro _; rfl)
    (hfew : ∀ j, ((backTo cpos (starEach [a] (F.X j).env)).all (fun x => !x.1) && (backToKw cpos (keywordEach [] (F.X j).env)).all (fun x => x.1.isSome) && decide ([a].length + ([] : List Keyword).length + (if ([] : List Keyword).isEmpty then 0 else 1) < 30)) = true := by intro _; rfl)
    (hline : (apos.endLine == cpos.line) = true := by rfl) (hs : ∀ j, starEach [a] (F.X j).env = (false, eval a (F.X j).env) :: starEach [] (F.X j).env := by intro _; rfl) (hplain : ∀ j, (backTo cpos (starEach [] (F.X j).env)).any (·.1) = false := by intro _; rfl)
    (hsw : ∀ j, swapsWith (.Call (.Attribute (.Name x p) "append" apos) [a] [] cpos) none pos.line (F.X j).env = pure false := by intro _; rfl) : DS1 F (.Expr (.Call (.Attribute (.Name x p) "append" apos) [a] [] cpos) pos) (wApp i qa) := by
  obtain ⟨t, t1, t2⟩ := ha
  exact ⟨_, fun j => ps_expr (appK (F.hK j) (pe_var (i := i) (by rw [F.hN j]; exact h) (hv j) hd hcd) (pa_cons (t1 j) pa_nil (hs j)) (hbase j) (hfew j) hline (hs j) (hplain j)) (hsw j), sw_app t2⟩
/-- x op= e -/
theorem s_aug (i : Nat) {op : Operator} {ti : TIp} {f : B2} (ho : ∀ X : Cx, PIp X op ti) (hr : RW2 K ti f) (he : DE F e qa) (h : N[i]? = some x := by rfl) (hx : ∀ j, Loc (F.X j).env.scope x := by intro _; first | exact Or.inl rfl | exact Or.inr rfl)
    (hf : ∀ j, (F.X j).fn x = true ∨ (F.X j).env.scope.names.lookup x = some .local := by intro _; first | exact .inl rfl | exact .inr rfl) : DS1 F (.AugAssign (.Name x p) op e pos) (wAug i f qa) := by
  obtain ⟨t, t1, t2⟩ := he
  exact ⟨_, fun j => ps_aug (i := i) (by rw [F.hN j]; exact F.nd) (by rw [F.hN j]; exact h) (hx j) (t1 j) (ho _) (hf j), sw_aug hr t2⟩
theorem s_augAdd (i : Nat) (he : DE F e qa) (h : N[i]? = some x := by rfl) (hx : ∀ j, Loc (F.X j).env.scope x := by intro _; first | exact Or.inl rfl | exact Or.inr rfl)
    (hf : ∀ j, (F.X j).fn x = true ∨ (F.X j).env.scope.names.lookup x = some .local := by intro _; first | exact .inl rfl | exact .inr rfl) : DS1 F (.AugAssign (.Name x p) .Add e pos) (wAug i dAdd qa) := s_aug i (fun _ => ip_add) rw_add he h hx hf
theorem s_augSub (i : Nat) (he : DE F e qa) (h : N[i]? = some x := by rfl) (hx : ∀ j, Loc (F.X j).env.scope x := by intro _; first | exact Or.inl rfl | exact Or.inr rfl)
    (hf : ∀ j, (F.X j).fn x = true ∨ (F.X j).env.scope.names.lookup x = some .local := by intro _; first | exact .inl rfl | exact .inr rfl) : DS1 F (.AugAssign (.Name x p) .Sub e pos) (wAug i dSub qa) := s_aug i (fun _ => ip_sub) rw_sub he h hx hf
theorem s_while (hc : DT F c q) (h1 : DSs F s1 ws) : DS1 F (.While c s1 [] pos) (wWhile q ws) := by
  obtain ⟨t, t1, t2⟩ := hc
  obtain ⟨u, u1, u2⟩ := h1
  exact ⟨_, fun j => ps_while (F.po j) (t1 j) (u1 j), sw_while t2 u2⟩
theorem piK {X : Cx} {tl : TE} (h : X.K = K) (hl : PE X a tl) : PI X b a (iSeq K tl) := by subst h; exact pi_seq hl
theorem s_for (he : DE F e qa) (hg : DG F a tg) (h1 : DSs F s1 ws) (hs : ∀ j, ∀ x, foldedSetIterable e (F.X j).env x = pure x := by intro _ _; rfl) : DS1 F (.For a e s1 [] pos) (wFor qa tg ws) := by
  obtain ⟨t, t1, t2⟩ := he
  obtain ⟨g, g1, g2⟩ := hg
  obtain ⟨u, u1, u2⟩ := h1
  exact ⟨_, fun j => ps_for (F.po j) (F.calm j) (piK (F.hK j) (t1 j)) (g1 j) (u1 j) (hs j), sw_for t2 g2 u2⟩
theorem s_forR1 {p pp : Pos} (hm : mg "range" = none) (he : DE F e qa) (hg : DG F a tg) (h1 : DSs F s1 ws) (hgl : ∀ j, Gl (F.X j) "range" := by intro _; rfl) (hs : ∀ j, starEach [e] (F.X j).env = [(false, eval e (F.X j).env)] := by intro _; rfl)
    (hf : ∀ j, ∀ x, foldedSetIterable (.Call (.Name "range" p) [e] [] pp) (F.X j).env x = pure x := by intro _ _; rfl) : DS1 F (.For a (.Call (.Name "range" p) [e] [] pp) s1 [] pos) (wForR [qa] tg ws) := by
  obtain ⟨t, t1, t2⟩ := he
  obtain ⟨g, g1, g2⟩ := hg
  obtain ⟨u, u1, u2⟩ := h1
  exact ⟨_, fun j => ps_for (F.po j) (F.calm j) (pi_range1 (hgl j) (by rw [F.hm j]; exact hm) (pa_cons (t1 j) pa_nil (hs j)) (hs j)) (g1 j) (u1 j) (hf j), sw_forR1 t2 g2 u2⟩
end
end DW

/-! DwI: comprehensions in a derivation, a def's body keeps its promise. -/
namespace DW
open PySem PySem.Spec PyProof.Rows L2

theorem takesN {X : Cx} : Takes X Wn := fun u s' x => by
  obtain ⟨a, B, sI, pins, σ, H, cls, d, e, I, nb, up, sky, na, os, ag, w⟩ := x
  exact w.elim
section
variable {P : Program} {w : World} {K : PySem.W.Frag} {mg : Str → Option Value} {base : Heap} {N : List Str} {k : Nat} {W : WX}
/-- the blocks of a comprehension -/
def Fam.blk (F : Fam P w K mg base N k W) (scope : Scope) : Fam P w K mg base N k Wn where
  ι := F.ι × Shared × Hp × Addr × List (Str × Addr) × List Addr
  X := fun j => (F.X j.1).blk j.2.1 j.2.2.1 scope (compEnvC scope j.2.2.2.2.1 j.2.2.2.1 (F.X j.1).env) j.2.2.2.2.2
  hP := fun j => F.hP j.1
  hw := fun j => F.hw j.1
  hK := fun j => F.hK j.1
  hm := fun j => F.hm j.1
  hb := fun j => F.hb j.1
  hN := fun j => F.hN j.1
  calm := fun j => F.calm j.1
  room := fun j => F.room j.1
  nd := F.nd
  po := fun _ => PassesOwn.never
  tk := fun _ => takesN
def DTs (F : Fam P w K mg base N k W) (es : List Expr) (q : WT) : Prop := ∃ tt, (∀ i, PTs (F.X i) es tt) ∧ TW K W tt q
variable {F : Fam P w K mg base N k W} {a b c e tg it : Expr} {es : List Expr} {x y z : Str} {pos p p2 p3 p4 : Pos} {qa qb qc qe : WE} {q r : WT} {g : Tg}
theorem ts_nil : DTs F [] wYes := ⟨_, fun _ => pts_nil, tw_yes⟩
theorem ts_one (h : DT F c q) : DTs F [c] q := by
  obtain ⟨t, h1, h2⟩ := h
  exact ⟨_, fun i => pts_one (h1 i), h2⟩
/-- [e for tg in it if ..] -/
theorem o_lc (own : List (Str × Nat)) {scope : Scope} (hi : DE F it qa) (hg : DG (F.blk scope) tg g) (ht : DTs (F.blk scope) es q) (he : DE (F.blk scope) e qe) (ok : ∀ j, BlkOk N (F.X j).env.scope scope own) (hn : ∀ i ∈ tgn g, i ∈ own.map (·.2) := by decide)
    (hs : ∀ j, ∀ x, foldedSetIterable it (F.X j).env x = pure x := by intro _ _; rfl) : DO F (.ListComp e [⟨tg, it, es, 0⟩] scope pos) (wLc qa g (own.map (·.2)) q qe) := by
  obtain ⟨t, t1, t2⟩ := hi
  obtain ⟨gg, g1, g2⟩ := hg
  obtain ⟨u, u1, u2⟩ := ht
  obtain ⟨v, v1, v2⟩ := he
  exact ⟨_, fun j => pe_lc (F.calm j) (by rw [F.hN j]; exact F.nd) (piK (F.hK j) (t1 j)) (by rw [F.hN j]; exact ok j) (fun s H C cl fp => g1 (j, s, H, C, cl, fp)) (fun s H C cl fp => u1 (j, s, H, C, cl, fp)) (fun s H C cl fp => v1 (j, s, H, C, cl, fp)) (hs j), eo_lc t2 g2 u2 v2 hn⟩
theorem o_lcR1 (own : List (Str × Nat)) {scope : Scope} {p pp : Pos} (hm : mg "range" = none) (hi : DE F a qa) (hg : DG (F.blk scope) tg g) (ht : DTs (F.blk scope) es q) (he : DE (F.blk scope) e qe) (ok : ∀ j, BlkOk N (F.X j).env.scope scope own) (hn : ∀ i ∈ tgn g, i ∈ own.map (·.2) := by decide)
    (hgl : ∀ j, Gl (F.X j) "range" := by intro _; rfl) (h1 : ∀ j, starEach [a] (F.X j).env = [(false, eval a (F.X j).env)] := by intro _; rfl)
    (hs : ∀ j, ∀ x, foldedSetIterable (.Call (.Name "range" p) [a] [] pp) (F.X j).env x = pure x := by intro _ _; rfl) : DO F (.ListComp e [⟨tg, .Call (.Name "range" p) [a] [] pp, es, 0⟩] scope pos) (wLcR [qa] g (own.map (·.2)) q qe) := by
  obtain ⟨t, t1, t2⟩ := hi
  obtain ⟨gg, g1, g2⟩ := hg
  obtain ⟨u, u1, u2⟩ := ht
  obtain ⟨v, v1, v2⟩ := he
  exact ⟨_, fun j => pe_lc (F.calm j) (by rw [F.hN j]; exact F.nd) (pi_range1 (hgl j) (by rw [F.hm j]; exact hm) (pa_cons (t1 j) pa_nil (h1 j)) (h1 j)) (by rw [F.hN j]; exact ok j) (fun s H C cl fp => g1 (j, s, H, C, cl, fp)) (fun s H C cl fp => u1 (j, s, H, C, cl, fp)) (fun s H C cl fp => v1 (j, s, H, C, cl, fp)) (hs j),
    eo_lcR1 t2 g2 u2 v2 hn⟩
/-! ### a def's body -/
def Fam.body (P : Program) (w : World) (K : PySem.W.Frag) (mg : Str → Option Value) (base : Heap) (N : List Str) (k : Nat) (qual : Str) (scope : Scope) (f : Addr) (cdv : Value) (A : Around) (outer : List PySem.Env) (s : Shared) (H : Hp) (E : XK) (hr : Room k (A.deeper (envOfC qual scope s.heap.objs.size f cdv))) (nd : N.Nodup) : Fam P w K mg base N k Wn where
  ι := Unit
  X := fun _ => (cxOf CX0 P w K mg base N qual scope f cdv A outer s H E).nox
  hP := fun _ => rfl
  hw := fun _ => rfl
  hK := fun _ => rfl
  hm := fun _ => rfl
  hb := fun _ => rfl
  hN := fun _ => rfl
  calm := fun _ => rfl
  room := fun _ => hr
  nd := nd
  po := fun _ => PassesOwn.never
  tk := fun _ => takesN
theorem gt_app : ∀ (l : List DV) (m i : Nat), gt (l.map some ++ List.replicate m none) i = l[i]?
  | [], 0, i => rfl
  | [], m + 1, 0 => rfl
  | [], m + 1, i + 1 => by
    show gt ([].map some ++ List.replicate m none) i = _
    rw [gt_app [] m i]
    rfl
  | d :: l, m, 0 => rfl
  | d :: l, m, i + 1 => gt_app l m i
theorem start_at {vs : List V} {N : List Str} {i : Nat} {v : V} (h : vs[i]? = some v) : (L2.start N vs)[i]? = some (some v) := by
  unfold L2.start
  have hl := (List.getElem?_eq_some_iff.mp h).1
  rw [List.getElem?_append_left (by rw [List.length_map]; exact hl), List.getElem?_map, h]
  rfl
theorem outs_at : ∀ {dvs : List DV} {ds : DS} {o : List DV}, outs dvs ds = some o → ∀ (i : Nat) xs, dvs[i]? = some (.par xs) → ∃ ys, gt ds i = some (.par ys) ∧ o[i]? = some (.par ys)
  | [], ds, o, _, i, xs, e => by simp at e
  | .par _ :: r, some (.par ys) :: s, o, h, i, xs, e => by
    have h : (outs r s).map (DV.par ys :: ·) = some o := h
    cases q : outs r s with
    | none => rw [q] at h; cases h
    | some o' =>
      rw [q] at h
      have h : DV.par ys :: o' = o := Option.some.inj h
      rw [← h]
      cases i with
      | zero => exact ⟨ys, rfl, rfl⟩
      | succ i => exact outs_at q i xs e
  | .par _ :: r, [], o, h, i, xs, e => by cases (show (none : Option (List DV)) = some o from h)
  | .par _ :: r, none :: s, o, h, i, xs, e => by cases (show (none : Option (List DV)) = some o from h)
  | .par _ :: r, some (.val _) :: s, o, h, i, xs, e => by cases (show (none : Option (List DV)) = some o from h)
  | .par _ :: r, some (.own _) :: s, o, h, i, xs, e => by cases (show (none : Option (List DV)) = some o from h)
  | .val d :: r, [], o, h, i, xs, e => by cases (show (none : Option (List DV)) = some o from h)
  | .own d :: r, [], o, h, i, xs, e => by cases (show (none : Option (List DV)) = some o from h)
  | .val d :: r, x :: s, o, h, i, xs, e => by
    have h : (outs r s).map (DV.val d :: ·) = some o := h
    cases q : outs r s with
    | none => rw [q] at h; cases h
    | some o' =>
      rw [q] at h
      have h : DV.val d :: o' = o := Option.some.inj h
      rw [← h]
      cases i with
      | zero => cases (Option.some.inj e : DV.val d = DV.par xs)
      | succ i => exact outs_at q i xs e
  | .own d :: r, x :: s, o, h, i, xs, e => by
    have h : (outs r s).map (DV.own d :: ·) = some o := h
    cases q : outs r s with
    | none => rw [q] at h; cases h
    | some o' =>
      rw [q] at h
      have h : DV.own d :: o' = o := Option.some.inj h
      rw [← h]
      cases i with
      | zero => cases (Option.some.inj e : DV.own d = DV.par xs)
      | succ i => exact outs_at q i xs e
/-- the ground of a call -/
def ground (G H : Hp) (pa : Nat → Addr) (dvs : List DV) : C0 := ⟨H, G, fun a => ∃ i xs, dvs[i]? = some (.par xs) ∧ a = pa i, pa⟩
theorem env_start {G H : Hp} {pa : Nat → Addr} {vs : List V} {dvs : List DV} {N : List Str} (s : Same G H) (ha : Args K G H pa vs dvs) (hl : dvs.length ≤ N.length) : Env K (ground G H pa dvs) pa G H (L2.start N vs) (entry N.length dvs) := by
  have at_ : ∀ i, gt (entry N.length dvs) i = dvs[i]? := fun i => gt_app dvs _ i
  refine ⟨s, fun a o h _ => h, fun a h => h, fun _ _ q => q, fun _ _ => rfl, ?_, fun i dv h => ?_, fun i j dv dv' h h' o o' n => ?_, fun i xs h => rfl⟩
  · unfold entry L2.start
    rw [List.length_append, List.length_append, List.length_map, List.length_map, List.length_replicate, List.length_replicate, ha.len]
  · rw [at_] at h
    have q := ha.here i dv h
    cases dv with
    | val d =>
      obtain ⟨v, e, r⟩ := q
      exact ⟨v, start_at e, r⟩
    | own xs => exact q.elim
    | par xs =>
      obtain ⟨e, g, hh⟩ := q
      exact ⟨start_at e, g, ⟨i, xs, h, rfl⟩, hh⟩
  · rw [at_] at h h'
    have q := ha.here i dv h
    have q' := ha.here j dv' h'
    cases dv with
    | val d => cases o
    | own xs => exact q.elim
    | par xs =>
      cases dv' with
      | val d => cases o'
      | own xs => exact q'.elim
      | par ys => exact ha.inj i j xs ys h h' n
theorem back_of {G H G' H' : Hp} {pa pa' : Nat → Addr} {dvs o : List DV} {σ : L2.St} {ds : DS} (E : Env K (ground G H pa dvs) pa' G' H' σ ds) (ho : outs dvs ds = some o) : Back K G H G' H' pa dvs o where
  ex := E.ex
  gg := E.ge
  gf := E.gf
  fr := fun a u h n => E.fr a u h fun ⟨i, xs, e, q⟩ => n i xs e q
  dom := E.dom
  pars := fun i xs e => by
    obtain ⟨ys, g1, g2⟩ := outs_at ho i xs e
    obtain ⟨_, _, _, hh⟩ := E.sl i _ g1
    rw [E.ps i ys g1] at hh
    exact ⟨ys, g2, hh⟩
theorem out_some {o : Option (List DV)} {P : List DV → Prop} (h : match o with | some x => P x | none => False) : ∃ x, o = some x ∧ P x := by
  cases o with
  | none => exact h.elim
  | some x => exact ⟨x, rfl, h⟩
theorem ends_ok {G H : Hp} {pa : Nat → Addr} {dvs : List DV} {kk : Out → List DV → Prop} {Q : VK} {n : L2.St → Hp → Prop} {xk : XKd} (hn : ∀ σ H', Q .non H' → n σ H')
    (k1 : ∀ v r dvs' G' H', kk (.ret r) dvs' → Back K G H G' H' pa dvs dvs' → Res K H G' H' v r → Q v H') : EndsOk K (ground G H pa dvs) { ends dvs kk with x := xk } { nx := n, rt := Q } where
  nx := fun pa' G' H' σ ds h E => by
    obtain ⟨o, ho, q⟩ := out_some (P := fun o => kk (.ret (.val .non)) o) h
    exact hn σ H' (k1 .non _ o G' H' q (back_of E ho) rfl)
  rt := fun pa' G' H' σ ds v r h E R => by
    obtain ⟨o, ho, q⟩ := out_some (P := fun o => kk (.ret r) o) h
    refine k1 v r o G' H' q (back_of E ho) ?_
    cases r with
    | val d => exact R
    | own xs =>
      obtain ⟨p, e, t⟩ := R
      exact ⟨p, e, t.h0, t.g, t.here⟩
    | par xs => exact R.elim
  bk := fun _ _ _ _ _ h _ => h.elim
  ct := fun _ _ _ _ _ h _ => h.elim
/-- THE RULE: a def of the text that raises nothing keeps its promise over data -/
theorem fn_keeps0 {x qual : Str} {st : Stmt} {f : Addr} {fd : FuncData} {N ps : List Str} {k : Nat} {fs : FS} {ws : WS} (Fn : Fun K x qual st f fd) (S : FnScope N ps (defScope st)) (hl : ∀ dvs kk, fs dvs kk → dvs.length = ps.length) (hN : ps.length ≤ N.length := by decide)
    (hd : ∀ (cdv : Value) (A : Around) (outer : List PySem.Env) (s : Shared) (H : Hp) (E : XK) (hr : Room k (A.deeper (envOfC qual (defScope st) s.heap.objs.size f cdv))), DSs (Fam.body P w K mg base N k qual (defScope st) f cdv A outer s H E hr S.nd) (defBody st) ws)
    (hk : Keeps0 N.length ws fs) : FnOk P w K mg base CX0 (k + 1) f fd ps (spOf K fs) := by
  refine Fn.ok S (spOf_len hl) fun cdv A outer s H vs Q E hr hsp => ?_
  obtain ⟨G, pa, dvs, kk, sg, ha, hf, k1, k2⟩ := hsp
  obtain ⟨t, t1, t2⟩ := hd cdv A outer s H E hr
  refine ⟨t, t1 (), t2 (ground G H pa dvs) pa G H _ _ _ _ (env_start sg ha (by rw [hl dvs kk hf]; exact hN)) (hk dvs kk hf) (fun _ _ z => z.elim) (ends_ok (fun _ _ q => q) k1)⟩
end
end DW

/-! DwJ: calls by their bundles, further pieces. -/
namespace DW
open PySem PySem.Spec PyProof.Rows L2

/-- a def of the text that is called by its name: it stands there, it keeps its promise -/
structure Cal (P : Program) (w : World) (K : PySem.W.Frag) (mg : Str → Option Value) (base : Heap) (k : Nat) (x : Str) (ps : List Str) (fs : FS) : Prop where
  ex : ∃ f fd, FnOk P w K mg base CX0 k f fd ps (spOf K fs) ∧ mg x = some (.ref f) ∧ PySem.W.keepIn K (.ref f) = true ∧ Binds K fd ps []

section
variable {P : Program} {w : World} {K : PySem.W.Frag} {mg : Str → Option Value} {base : Heap} {N : List Str} {k : Nat} {W : WX}
variable {F : Fam P w K mg base N k W} {a b c e tg it : Expr} {es : List Expr} {x y z : Str} {pos p p2 p3 p4 p5 : Pos} {qa qb qc qe : WE} {q r : WT} {g : Tg} {s1 : List Stmt} {ws : WS}
theorem Cal.mk2 {qual : Str} {st : Stmt} {f : Addr} {fd : FuncData} {N ps : List Str} {fs : FS} {ws : WS} {j : Nat} (Fn : Fun K x qual st f fd) (hm : mg x = some (.ref f)) (bb : Binds K fd ps []) (S : FnScope N ps (defScope st)) (hl : ∀ dvs kk, fs dvs kk → dvs.length = ps.length) (hN : ps.length ≤ N.length)
    (hd : ∀ (cdv : Value) (A : Around) (outer : List PySem.Env) (s : Shared) (H : Hp) (E : XK) (hr : Room j (A.deeper (envOfC qual (defScope st) s.heap.objs.size f cdv))), DSs (Fam.body P w K mg base N j qual (defScope st) f cdv A outer s H E hr S.nd) (defBody st) ws)
    (hk : Keeps0 N.length ws fs) : Cal P w K mg base (j + 1) x ps fs := ⟨f, fd, fn_keeps0 Fn S hl hN hd hk, hm, Fn.kp, bb⟩
theorem d_callC {kf : Nat} {ps : List Str} {fs : FS} {qs : List DA} (C : Cal P w K mg base kf x ps fs) (ha : DC F (a :: es) qs) (hk : kf ≤ k := by decide)
    (hg : ∀ j, Gl (F.X j) x := by intro _; rfl) (hdb : (x == ("__debug__" : Str)) = false := by decide) (he : ∀ j, starEach (a :: es) (F.X j).env = (false, eval a (F.X j).env) :: starEach es (F.X j).env := by intro _; rfl)
    (hpl : ∀ j, (backTo pos (starEach es (F.X j).env)).any (·.1) = false := by intro _; rfl) : DE F (.Call (.Name x p) (a :: es) [] pos) (wCall fs qs) := by
  obtain ⟨f, fd, c1, c2, c3, c4⟩ := C.ex
  exact d_call c1 c2 c3 c4 ha hk hg hdb he hpl
theorem o_callC {kf : Nat} {ps : List Str} {fs : FS} {qs : List DA} (C : Cal P w K mg base kf x ps fs) (ha : DC F (a :: es) qs) (hk : kf ≤ k := by decide)
    (hg : ∀ j, Gl (F.X j) x := by intro _; rfl) (hdb : (x == ("__debug__" : Str)) = false := by decide) (he : ∀ j, starEach (a :: es) (F.X j).env = (false, eval a (F.X j).env) :: starEach es (F.X j).env := by intro _; rfl)
    (hpl : ∀ j, (backTo pos (starEach es (F.X j).env)).any (·.1) = false := by intro _; rfl) : DO F (.Call (.Name x p) (a :: es) [] pos) (wCallO fs qs) := by
  obtain ⟨f, fd, c1, c2, c3, c4⟩ := C.ex
  exact o_call c1 c2 c3 c4 ha hk hg hdb he hpl
/-! ### built-ins by name -/
theorem d_abs (hm : mg "abs" = none) (ha : DE F a qa) (hg : ∀ j, Gl (F.X j) "abs" := by intro _; rfl) (hs : ∀ j, starEach [a] (F.X j).env = (false, eval a (F.X j).env) :: starEach [] (F.X j).env := by intro _; rfl) (hpl : ∀ j, (backTo pos (starEach [] (F.X j).env)).any (·.1) = false := by intro _; rfl) :
    DE F (.Call (.Name "abs" p) [a] [] pos) (wUn dAbs qa) := d_b1 (fun _ => call_abs) rc_abs hm (by decide +kernel) ha hg (by decide) (by decide) hs hpl
theorem d_len (hm : mg "len" = none) (ha : DE F a qa) (hg : ∀ j, Gl (F.X j) "len" := by intro _; rfl) (hs : ∀ j, starEach [a] (F.X j).env = (false, eval a (F.X j).env) :: starEach [] (F.X j).env := by intro _; rfl) (hpl : ∀ j, (backTo pos (starEach [] (F.X j).env)).any (·.1) = false := by intro _; rfl) :
    DE F (.Call (.Name "len" p) [a] [] pos) (wUn dLen qa) := d_b1 (fun j => lenK (F.hK j)) rc_len hm (by decide +kernel) ha hg (by decide) (by decide) hs hpl
theorem d_all (hm : mg "all" = none) (ha : DE F a qa) (hg : ∀ j, Gl (F.X j) "all" := by intro _; rfl) (hs : ∀ j, starEach [a] (F.X j).env = (false, eval a (F.X j).env) :: starEach [] (F.X j).env := by intro _; rfl) (hpl : ∀ j, (backTo pos (starEach [] (F.X j).env)).any (·.1) = false := by intro _; rfl) :
    DE F (.Call (.Name "all" p) [a] [] pos) (wUn dAll qa) := d_b1 (fun j => allK (F.hK j) (F.calm j)) rc_all hm (by decide +kernel) ha hg (by decide) (by decide) hs hpl
theorem d_any (hm : mg "any" = none) (ha : DE F a qa) (hg : ∀ j, Gl (F.X j) "any" := by intro _; rfl) (hs : ∀ j, starEach [a] (F.X j).env = (false, eval a (F.X j).env) :: starEach [] (F.X j).env := by intro _; rfl) (hpl : ∀ j, (backTo pos (starEach [] (F.X j).env)).any (·.1) = false := by intro _; rfl) :
    DE F (.Call (.Name "any" p) [a] [] pos) (wUn dAny qa) := d_b1 (fun j => anyK (F.hK j) (F.calm j)) rc_any hm (by decide +kernel) ha hg (by decide) (by decide) hs hpl
theorem d_sum (hm : mg "sum" = none) (ha : DE F a qa) (hg : ∀ j, Gl (F.X j) "sum" := by intro _; rfl) (hs : ∀ j, starEach [a] (F.X j).env = (false, eval a (F.X j).env) :: starEach [] (F.X j).env := by intro _; rfl) (hpl : ∀ j, (backTo pos (starEach [] (F.X j).env)).any (·.1) = false := by intro _; rfl) :
    DE F (.Call (.Name "sum" p) [a] [] pos) (wUn dSum qa) := d_b1 (fun j => sumK (F.hK j) (F.calm j)) rc_sum hm (by decide +kernel) ha hg (by decide) (by decide) hs hpl
theorem d_max (hm : mg "max" = none) (ha : DE F a qa) (hb : DE F b qb) (hg : ∀ j, Gl (F.X j) "max" := by intro _; rfl) (hs : ∀ j, starEach [a, b] (F.X j).env = (false, eval a (F.X j).env) :: starEach [b] (F.X j).env := by intro _; rfl) (hs2 : ∀ j, starEach [b] (F.X j).env = (false, eval b (F.X j).env) :: starEach [] (F.X j).env := by intro _; rfl)
    (hpl : ∀ j, (backTo pos (starEach [b] (F.X j).env)).any (·.1) = false := by intro _; rfl) : DE F (.Call (.Name "max" p) [a, b] [] pos) (wBin dMax qa qb) := d_b2 (fun j => call_max2 (F.calm j)) rc_max hm (by decide +kernel) ha hb hg (by decide) (by decide) hs hs2 hpl
theorem d_min (hm : mg "min" = none) (ha : DE F a qa) (hb : DE F b qb) (hg : ∀ j, Gl (F.X j) "min" := by intro _; rfl) (hs : ∀ j, starEach [a, b] (F.X j).env = (false, eval a (F.X j).env) :: starEach [b] (F.X j).env := by intro _; rfl) (hs2 : ∀ j, starEach [b] (F.X j).env = (false, eval b (F.X j).env) :: starEach [] (F.X j).env := by intro _; rfl)
    (hpl : ∀ j, (backTo pos (starEach [b] (F.X j).env)).any (·.1) = false := by intro _; rfl) : DE F (.Call (.Name "min" p) [a, b] [] pos) (wBin dMin qa qb) := d_b2 (fun j => call_min2 (F.calm j)) rc_min hm (by decide +kernel) ha hb hg (by decide) (by decide) hs hs2 hpl
theorem lenRK {X : Cx} (h : X.K = K) : CallR X (.builtin "len") (fun xs H Q => ∃ x n, xs = [x] ∧ LenV K x H n ∧ Q (.int n) H) := by subst h; exact call_len
theorem d_lenO (i : Nat) (hm : mg "len" = none) (h : N[i]? = some x := by rfl) (hv : ∀ j, Vis (F.X j).env.scope x := by intro _; first | exact Or.inl rfl | exact Or.inr (Or.inl rfl) | exact Or.inr (Or.inr rfl))
    (hd : (x == ("__debug__" : Str)) = false := by decide) (hcd : (x == ("__classdict__" : Str)) = false := by decide) (hg : ∀ j, Gl (F.X j) "len" := by intro _; rfl) (hs : ∀ j, starEach [.Name x p2] (F.X j).env = (false, eval (.Name x p2) (F.X j).env) :: starEach [] (F.X j).env := by intro _; rfl) (hpl : ∀ j, (backTo pos (starEach [] (F.X j).env)).any (·.1) = false := by intro _; rfl) :
    DE F (.Call (.Name "len" p) [.Name x p2] [] pos) (wLenO i) :=
  ⟨_, fun j => pe_callB (lenRK (F.hK j)) (hg j) (by rw [F.hm j]; exact hm) (by decide +kernel) (pa_cons (pe_var (i := i) (by rw [F.hN j]; exact h) (hv j) hd hcd) pa_nil (hs j)) (by decide) (by decide) (hs j) (hpl j), ew_lenO⟩
/-! ### x, y, z = a, b, c -/
theorem sw_par3 {ta tb tc : TE} {i j l : Nat} (h1 : EW K W ta qa) (h2 : EW K W tb qb) (h3 : EW K W tc qc) : SW K W (tPar3 i j l (tCons ta (tCons tb (tCons tc tNil)))) (wPar3 i j l qa qb qc) := fun c pa G H σ ds P D E hw hx he =>
  h1 c pa G H σ ds _ _ _ E hw hx fun v G1 H1 d ds1 q S1 r1 => h2 c pa G1 H1 σ ds1 _ _ _ S1.env q hx fun w G2 H2 e ds2 q2 S2 r2 => h3 c pa G2 H2 σ ds2 _ _ _ S2.env q2 hx fun z G3 H3 f ds3 q3 S3 r3 =>
    ⟨v, w, z, rfl, he.nx pa G3 H3 _ _ q3 (((S3.env.setVal i ((r1.mono S2.sg).mono S3.sg)).setVal j (r2.mono S3.sg)).setVal l r3)⟩
theorem s_par3 (i l m : Nat) {kt k2 : Nat} (ha : DE F a qa) (hb : DE F b qb) (hc : DE F c qc) (hi : N[i]? = some x := by rfl) (hl : N[l]? = some y := by rfl) (hz0 : N[m]? = some z := by rfl) (hn : i ≠ l := by decide) (hn2 : i ≠ m := by decide) (hn3 : l ≠ m := by decide)
    (hx : ∀ j, (F.X j).env.scope.names.lookup x = some .local := by intro _; rfl) (hy : ∀ j, (F.X j).env.scope.names.lookup y = some .local := by intro _; rfl) (hz : ∀ j, (F.X j).env.scope.names.lookup z = some .local := by intro _; rfl)
    (hw : ∀ j, swappedStores [.Tuple [.Name x p, .Name y p2, .Name z p5] kt p3] (.Tuple [a, b, c] k2 p4) (F.X j).env = pure (some [x, y, z]) := by intro _; rfl) (hs : ∀ j, swapsWithSole [.Tuple [.Name x p, .Name y p2, .Name z p5] kt p3] (.Tuple [a, b, c] k2 p4) pos.line (F.X j).env = pure false := by intro _; rfl)
    (h1 : ∀ j, starEach [a, b, c] (F.X j).env = (false, eval a (F.X j).env) :: starEach [b, c] (F.X j).env := by intro _; rfl) (h2 : ∀ j, starEach [b, c] (F.X j).env = (false, eval b (F.X j).env) :: starEach [c] (F.X j).env := by intro _; rfl) (h3 : ∀ j, starEach [c] (F.X j).env = (false, eval c (F.X j).env) :: starEach [] (F.X j).env := by intro _; rfl) :
    DS1 F (.Assign [.Tuple [.Name x p, .Name y p2, .Name z p5] kt p3] (.Tuple [a, b, c] k2 p4) pos) (wPar3 i l m qa qb qc) := by
  obtain ⟨t, t1, t2⟩ := ha
  obtain ⟨u, u1, u2⟩ := hb
  obtain ⟨v, v1, v2⟩ := hc
  exact ⟨_, fun j => ps_par3 (F.calm j) (by rw [F.hN j]; exact F.nd) (by rw [F.hN j]; exact hi) (by rw [F.hN j]; exact hl) (by rw [F.hN j]; exact hz0) hn hn2 hn3 (hx j) (hy j) (hz j) (pa_cons (t1 j) (pa_cons (u1 j) (pa_cons (v1 j) pa_nil (h3 j)) (h2 j)) (h1 j)) (hw j) (hs j), sw_par3 t2 u2 v2⟩
/-! ### range(a, b) -/
theorem s_forR2 {p pp : Pos} (hm : mg "range" = none) (he : DE F a qa) (he2 : DE F b qb) (hg : DG F e g) (h1 : DSs F s1 ws) (hgl : ∀ j, Gl (F.X j) "range" := by intro _; rfl) (hs : ∀ j, starEach [a, b] (F.X j).env = [(false, eval a (F.X j).env), (false, eval b (F.X j).env)] := by intro _; rfl) (hs2 : ∀ j, starEach [b] (F.X j).env = [(false, eval b (F.X j).env)] := by intro _; rfl)
    (hf : ∀ j, ∀ x, foldedSetIterable (.Call (.Name "range" p) [a, b] [] pp) (F.X j).env x = pure x := by intro _ _; rfl) : DS1 F (.For e (.Call (.Name "range" p) [a, b] [] pp) s1 [] pos) (wForR [qa, qb] g ws) := by
  obtain ⟨t, t1, t2⟩ := he
  obtain ⟨t', t1', t2'⟩ := he2
  obtain ⟨g, g1, g2⟩ := hg
  obtain ⟨u, u1, u2⟩ := h1
  exact ⟨_, fun j => ps_for (F.po j) (F.calm j) (pi_range2 (hgl j) (by rw [F.hm j]; exact hm) (pa_cons (t1 j) (pa_cons (t1' j) pa_nil (hs2 j)) ((hs j).trans (by rw [hs2 j]))) (hs j) (hs2 j)) (g1 j) (u1 j) (hf j), sw_forR2 t2 t2' g2 u2⟩
theorem o_lcR2 (own : List (Str × Nat)) {scope : Scope} {p pp : Pos} (hm : mg "range" = none) (hi : DE F a qa) (hi2 : DE F b qb) (hg : DG (F.blk scope) tg g) (ht : DTs (F.blk scope) es q) (he : DE (F.blk scope) e qe) (ok : ∀ j, BlkOk N (F.X j).env.scope scope own) (hn : ∀ i ∈ tgn g, i ∈ own.map (·.2) := by decide)
    (hgl : ∀ j, Gl (F.X j) "range" := by intro _; rfl) (h1 : ∀ j, starEach [a, b] (F.X j).env = [(false, eval a (F.X j).env), (false, eval b (F.X j).env)] := by intro _; rfl) (h2 : ∀ j, starEach [b] (F.X j).env = [(false, eval b (F.X j).env)] := by intro _; rfl)
    (hs : ∀ j, ∀ x, foldedSetIterable (.Call (.Name "range" p) [a, b] [] pp) (F.X j).env x = pure x := by intro _ _; rfl) : DO F (.ListComp e [⟨tg, .Call (.Name "range" p) [a, b] [] pp, es, 0⟩] scope pos) (wLcR [qa, qb] g (own.map (·.2)) q qe) := by
  obtain ⟨t, t1, t2⟩ := hi
  obtain ⟨t', t1', t2'⟩ := hi2
  obtain ⟨gg, g1, g2⟩ := hg
  obtain ⟨u, u1, u2⟩ := ht
  obtain ⟨v, v1, v2⟩ := he
  exact ⟨_, fun j => pe_lc (F.calm j) (by rw [F.hN j]; exact F.nd) (pi_range2 (hgl j) (by rw [F.hm j]; exact hm) (pa_cons (t1 j) (pa_cons (t1' j) pa_nil (h2 j)) ((h1 j).trans (by rw [h2 j]))) (h1 j) (h2 j)) (by rw [F.hN j]; exact ok j) (fun s H C cl fp => g1 (j, s, H, C, cl, fp)) (fun s H C cl fp => u1 (j, s, H, C, cl, fp)) (fun s H C cl fp => v1 (j, s, H, C, cl, fp)) (hs j),
    eo_lcR2 t2 t2' g2 u2 v2 hn⟩
end
theorem ints_reps {K : PySem.W.Frag} {G : Hp} : ∀ ns : List Int, Reps K G (ns.map .int) (ns.map V.int)
  | [] => rfl
  | n :: r => ⟨_, _, rfl, rfl, ints_reps r⟩
/-- the law's call -/
theorem law_sp {K : PySem.W.Frag} {H : Hp} {a : Addr} {ns : List Int} {fs : FS} (hf : fs [.val (.lst (ns.map .int))] fun o _ => o = .ret (.val (.bl true))) (hS : SqL K H a (ns.map V.int)) : spOf K fs [.ref a] H (fun v _ => v = .bl true) fun _ _ _ => False := by
  refine ⟨H, fun _ => 0, _, _, fun _ _ q => q, ⟨rfl, fun i dv e => ?_, fun i j xs ys e => ?_⟩, hf, fun v r dvs' G' H' e _ R => ?_, fun e cls d dvs' G' H' q => by cases q⟩
  · cases i with
    | zero =>
      have e := Option.some.inj e
      subst e
      exact ⟨_, rfl, _, _, rfl, hS, ints_reps ns⟩
    | succ i => cases e
  · cases i with
    | zero => cases e
    | succ i => cases e
  · injection e with e
    subst e
    exact R
end DW

/-! DwL: plain lemmas for promises over data: bounds, choices, remainders. -/
namespace DW
open PySem

/-- below 2^n in size -/
def Bd (n : Nat) (i : Int) : Prop := i.natAbs < 2 ^ n
theorem Bd.mono {n m : Nat} {i : Int} (h : Bd n i) (l : n ≤ m) : Bd m i := Nat.lt_of_lt_of_le h (Nat.pow_le_pow_right (by decide) l)
theorem Bd.add {n : Nat} {i j : Int} (h : Bd n i) (h' : Bd n j) : Bd (n + 1) (i + j) := by
  unfold Bd at *
  have : (i + j).natAbs ≤ i.natAbs + j.natAbs := Int.natAbs_add_le i j
  rw [Nat.pow_succ]
  omega
theorem Bd.sub {n : Nat} {i j : Int} (h : Bd n i) (h' : Bd n j) : Bd (n + 1) (i - j) := by
  unfold Bd at *
  have : (i - j).natAbs ≤ i.natAbs + j.natAbs := Int.natAbs_sub_le i j
  rw [Nat.pow_succ]
  omega
theorem Bd.mul {n m : Nat} {i j : Int} (h : Bd n i) (h' : Bd m j) : Bd (n + m) (i * j) := by
  unfold Bd at *
  rw [Int.natAbs_mul, Nat.pow_add]
  exact Nat.mul_lt_mul_of_lt_of_le h (Nat.le_of_lt h') (Nat.lt_of_le_of_lt (Nat.zero_le _) h')
theorem Bd.neg {n : Nat} {i : Int} (h : Bd n i) : Bd n (-i) := by
  unfold Bd at *
  rw [Int.natAbs_neg]
  exact h
theorem Bd.of {n : Nat} {i : Int} (h : -(2 ^ n : Int) < i) (h' : i < 2 ^ n) : Bd n i := by
  unfold Bd
  have e : ((2 ^ n : Nat) : Int) = 2 ^ n := by rw [Int.natCast_pow]; rfl
  omega
theorem Bd.le {n : Nat} {i j : Int} (h : Bd n j) (l : i.natAbs ≤ j.natAbs) : Bd n i := Nat.lt_of_le_of_lt l h
theorem log2_lt {n i : Nat} (hn : 0 < n) (h : i < 2 ^ n) : i.log2 < n := by
  by_cases h0 : i = 0
  · subst h0
    simpa using hn
  · exact (Nat.log2_lt h0).mpr h
theorem mulOk {n m : Nat} {i j : Int} (h : Bd n i) (h' : Bd m j) (l : n + m ≤ 1000000 := by decide) : MulOk i j := by
  unfold MulOk
  have h1 : i.natAbs.log2 ≤ n := by
    by_cases h0 : i.natAbs = 0
    · rw [h0]
      simp
    · exact Nat.le_of_lt ((Nat.log2_lt h0).mpr h)
  by_cases h0 : j.natAbs = 0
  · by_cases h2 : i.natAbs = 0
    · rw [h0, h2]
      simp
    · have := (Nat.log2_lt h2).mpr h
      rw [h0]
      simp
      omega
  · have := (Nat.log2_lt h0).mpr h'
    omega
theorem divOk {n : Nat} {j : Int} (h0 : j ≠ 0) (h : Bd n j) (l : n ≤ 9000 := by decide) : DivOk j :=
  ⟨h0, Nat.lt_of_lt_of_le ((Nat.log2_lt (by omega)).mpr h) l⟩
theorem ite_both {c : Prop} [Decidable c] {A B : Prop} (h1 : c → A) (h2 : ¬ c → B) : if c then A else B := by
  split
  · exact h1 ‹_›
  · exact h2 ‹_›
theorem fmod_rng {a b : Int} (h : 0 < b) : 0 ≤ a.fmod b ∧ a.fmod b < b := ⟨Int.fmod_nonneg_of_pos a h, Int.fmod_lt_of_pos a h⟩
theorem fdiv_nonneg {a b : Int} (h : 0 ≤ a) (h' : 0 < b) : 0 ≤ a.fdiv b := Int.fdiv_nonneg h (Int.le_of_lt h')
theorem fdiv_le {a b : Int} (h : 0 ≤ a) (h' : 0 < b) : a.fdiv b ≤ a := by
  rw [Int.fdiv_eq_ediv_of_nonneg a (Int.le_of_lt h')]
  exact Int.ediv_le_self b h
/-! ### what may be compared -/
theorem shp_int (i : Int) : Shp (.int i) := ⟨rfl, Nat.le_of_ble_eq_true rfl⟩
theorem shp_bl (i : Bool) : Shp (.bl i) := ⟨rfl, Nat.le_of_ble_eq_true rfl⟩
theorem shp_pr (i j : Int) : Shp (.tup [.int i, .int j]) := ⟨rfl, Nat.le_of_ble_eq_true rfl⟩
theorem shp_prs (i j i' j' : Int) : Shp (.tup [.tup [.int i, .int j], .tup [.int i', .int j']]) := ⟨rfl, Nat.le_of_ble_eq_true rfl⟩
theorem deq_int (i j : Int) : deq (.int i) (.int j) = (i == j) := rfl
theorem deq_pr (i j i' j' : Int) : deq (.tup [.int i, .int j]) (.tup [.int i', .int j']) = (i == i' && (j == j' && true)) := rfl
mutual
theorem deq_refl : ∀ d : D, deq d d = true
  | .non => rfl
  | .bl b => by show (b == b) = true; simp
  | .int i => by show (i == i) = true; simp
  | .str s => by show (s == s) = true; exact BEq.rfl
  | .lst xs => deqs_refl xs
  | .tup xs => deqs_refl xs
  | .obj _ => rfl
theorem deqs_refl : ∀ ds : List D, deqs ds ds = true
  | [] => rfl
  | d :: r => by show (deq d d && deqs r r) = true; rw [deq_refl d, deqs_refl r]; rfl
end
theorem eq_int {i j : Int} (h : deq (.int i) (.int j) = true) : i = j := by simpa [deq_int] using h
theorem eq_int' {i j : Int} (h : ¬ deq (.int i) (.int j) = true) : i ≠ j := by simpa [deq_int] using h
theorem ne_int {i j : Int} (h : (!deq (.int i) (.int j)) = true) : i ≠ j := by simpa [deq_int] using h
theorem ne_int' {i j : Int} (h : ¬ (!deq (.int i) (.int j)) = true) : i = j := by simpa [deq_int] using h
theorem not_self {d : D} {A : Prop} (h : (!deq d d) = true) : A := by rw [deq_refl] at h; cases h
theorem is_lt {i j : Int} (h : decide (i < j) = true) : i < j := of_decide_eq_true h
theorem is_le {i j : Int} (h : decide (i ≤ j) = true) : i ≤ j := of_decide_eq_true h
theorem no_lt {i j : Int} (h : ¬ decide (i < j) = true) : j ≤ i := Int.not_lt.mp fun z => h (decide_eq_true z)
theorem no_le {i j : Int} (h : ¬ decide (i ≤ j) = true) : j < i := Int.not_le.mp fun z => h (decide_eq_true z)
theorem ite_yes {c : Bool} {A B : Prop} (e : c = true) (h : A) : if c = true then A else B := by rw [if_pos e]; exact h
theorem ite_no {c : Bool} {A B : Prop} (e : c = false) (h : B) : if c = true then A else B := by rw [if_neg (by rw [e]; decide)]; exact h
/-! ### the greatest common part -/
theorem abs_eq (a : Int) : (if a < 0 then -a else a) = (a.natAbs : Int) := by split <;> omega
theorem gcd_step (a b : Int) (hb : 0 ≤ b) : Int.gcd b (a.fmod b) = Int.gcd a b := by
  rw [Int.fmod_eq_emod_of_nonneg a hb]
  have e : a = a % b + b * (a / b) := (Int.emod_add_mul_ediv a b).symm
  conv => rhs; rw [e, Int.gcd_comm]
  rw [Int.gcd_add_mul_left_right]
theorem gcd_abs (a b : Int) : Int.gcd (a.natAbs : Int) (b.natAbs : Int) = Int.gcd a b := by unfold Int.gcd; simp
theorem dvd_of_gcd {k m n : Int} (h : Int.gcd k m = 1) (d : k ∣ m * n) : k ∣ n := by
  have := Nat.Coprime.dvd_of_dvd_mul_left (k := k.natAbs) (m := m.natAbs) (n := n.natAbs) h (by rw [← Int.natAbs_mul]; exact Int.natAbs_dvd_natAbs.mpr d)
  exact Int.natAbs_dvd_natAbs.mp this
end DW

/-! DwK: parts of lists, sums of lists, chains, calls by name, lists made for a call. -/
namespace DW
open PySem PySem.Spec PyProof.Rows L2

/-! ### parts of lists -/
theorem cutAt_eq (n d : Nat) : ∀ o : Option Int, HT.sIx n d o = cutAt n d o
  | none => rfl
  | some i => by
    show (if i < 0 then (i + (n : Int)).toNat else min i.toNat n) = if 0 ≤ i then min i.toNat n else ((n : Int) + i).toNat
    by_cases h : 0 ≤ i
    · rw [if_pos h, if_neg (by omega)]
    · rw [if_neg h, if_pos (by omega), Int.add_comm]
theorem cutV_eq (xs : List V) (lo hi : Option Int) : cutV xs lo hi = cutD xs lo hi := by
  unfold cutV cutD
  rw [cutAt_eq, cutAt_eq]
section
variable {K : PySem.W.Frag} {G : Hp}
theorem Reps.drop : ∀ {ds : List D} {vs : List V} (n : Nat), Reps K G ds vs → Reps K G (ds.drop n) (vs.drop n)
  | ds, vs, 0, h => h
  | [], vs, n + 1, h => by
    have h : vs = [] := h
    rw [h]
    rfl
  | d :: ds, vs, n + 1, h => by
    obtain ⟨x, xs, e, _, h2⟩ := h
    rw [e]
    exact Reps.drop n h2
theorem Reps.take : ∀ {ds : List D} {vs : List V} (n : Nat), Reps K G ds vs → Reps K G (ds.take n) (vs.take n)
  | ds, vs, 0, h => rfl
  | [], vs, n + 1, h => by
    have h : vs = [] := h
    rw [h]
    rfl
  | d :: ds, vs, n + 1, h => by
    obtain ⟨x, xs, e, h1, h2⟩ := h
    rw [e]
    exact ⟨x, _, rfl, h1, Reps.take n h2⟩
theorem Reps.append : ∀ {ds es : List D} {vs ws : List V}, Reps K G ds vs → Reps K G es ws → Reps K G (ds ++ es) (vs ++ ws)
  | [], es, vs, ws, h, q => by
    have h : vs = [] := h
    rw [h]
    exact q
  | d :: ds, es, vs, ws, h, q => by
    obtain ⟨x, xs, e, h1, h2⟩ := h
    rw [e]
    exact ⟨x, _, rfl, h1, Reps.append h2 q⟩
theorem Reps.reverse : ∀ {ds : List D} {vs : List V}, Reps K G ds vs → Reps K G ds.reverse vs.reverse
  | [], vs, h => by
    have h : vs = [] := h
    rw [h]
    rfl
  | d :: ds, vs, h => by
    obtain ⟨x, xs, e, h1, h2⟩ := h
    rw [e, List.reverse_cons, List.reverse_cons]
    exact (Reps.reverse h2).append ⟨x, [], rfl, h1, rfl⟩
theorem Reps.cut {ds : List D} {vs : List V} (lo hi : Option Int) (h : Reps K G ds vs) : Reps K G (cutD ds lo hi) (cutD vs lo hi) := by
  unfold cutD
  rw [h.len]
  exact (h.drop _).take _
theorem Reps.pick {ds : List D} {vs : List V} (h : Reps K G ds vs) : ∀ ix : List Nat, Reps K G (pick ix ds) (pick ix vs)
  | [] => rfl
  | i :: r => by
    unfold DW.pick
    cases e : ds[i]? with
    | none =>
      have e2 : vs[i]? = none := by
        rw [List.getElem?_eq_none_iff] at e ⊢
        rw [← h.len]
        exact e
      rw [List.filterMap_cons, List.filterMap_cons, e, e2]
      exact Reps.pick h r
    | some d =>
      obtain ⟨v, e2, rv⟩ := h.get e
      rw [List.filterMap_cons, List.filterMap_cons, e, e2]
      exact ⟨v, _, rfl, rv, Reps.pick h r⟩
end
/-! ### list + list, whatever lists -/
def rCatL (K : PySem.W.Frag) : R2 := fun x y H Q => ∃ a b xs ys, x = .ref a ∧ y = .ref b ∧ SqL K H a xs ∧ SqL K H b ys ∧ xs.length + ys.length ≤ sizeLine ∧ ∀ p, H p = none → Q (.ref p) (upd H p (.lst (xs ++ ys)))
theorem op_catL {X : Cx} : OpR X (binaryOp .Add) (rCatL X.K) := by
  intro pins s σ H x y v u Q I rx ry h
  obtain ⟨a, b, xs, ys, rfl, rfl, hA, hB, hz, q⟩ := h
  cases rx
  cases ry
  obtain ⟨its, r, ht, z1⟩ := I.list hA
  obtain ⟨its2, r2, ht2, z2⟩ := I.list hB
  obtain ⟨⟨cls, dd, data, sl⟩, n, ho, hc, hdd, hd⟩ := ht
  obtain ⟨⟨cls2, dd2, data2, sl2⟩, n2, ho2, hc2, hdd2, hd2⟩ := ht2
  simp only at hc hdd hd hc2 hdd2 hd2
  subst hc hdd hd hc2 hdd2 hd2
  refine concat_meets ⟨_, ho, rfl⟩ ⟨_, ho2, rfl⟩ noFill_list_add seq_list_add PySem.F.slot_list_add PySem.F.entry_list_add (PySem.F.args_list_add_2 _ _) (list_addW a b its.toArray its2.toArray n n2 _ _ sl sl2 (by rw [List.size_toArray, List.size_toArray, ← r.length, ← r2.length]; exact hz)) ⟨ho, ho2, ?_⟩
  have e : its.toArray ++ its2.toArray = (its ++ its2).toArray := by simp
  rw [e]
  refine ⟨.ref s.heap.objs.size, _, I.laid (t' := s.toks) (o := .lst (xs ++ ys)) (fun b ob q => Heap.get?_push_of_some _ q) (Nat.le_refl _) ?_, rfl, q _ (I.hok.fresh (Nat.le_refl _))⟩
  exact ⟨by rw [List.length_append]; exact hz, _, 0, r.append r2, Heap.get?_push_size _ rfl⟩
/-! ### xs[-2::-1] -/
def tRev2 (K : PySem.W.Frag) (te : TE) : TE := fun σ H Q => te σ H fun x H1 => ∃ a xs, x = .ref a ∧ SqL K H1 a xs ∧ ∀ p, H1 p = none → Q (.ref p) (upd H1 p (.lst xs.dropLast.reverse))
theorem pick_rev2 (items : Array Value) : slicePick items (some (-2)) none (some (-1)) = items.toList.dropLast.reverse.toArray := by
  have hb : sliceBounds (some (-2)) none (some (-1)) items.size = (((items.size - 1 : Nat) : Int) - 1, -1, -1) := by
    have e : sliceBounds (some (-2)) none (some (-1)) items.size = (max (-1) (min (-2 + (items.size : Int)) ((items.size : Int) - 1)), -1, -1) := by
      first
      | rfl
      | simp [sliceBounds]
    rw [e]
    have : max (-1) (min (-2 + (items.size : Int)) ((items.size : Int) - 1)) = ((items.size - 1 : Nat) : Int) - 1 := by omega
    rw [this]
  unfold slicePick
  rw [hb]
  show ((sliceRange (((items.size - 1 : Nat) : Int) - 1) (-1) (-1)).filterMap (items[·]?)).toArray = _
  rw [PySem.W.krv_sliceRange, PySem.W.krv_range, List.filterMap_reverse]
  have h := pick_run items 0 (items.size - 1)
  have e : (List.range (items.size - 1)).map (0 + ·) = List.range (items.size - 1) := by
    rw [show ((0 + ·) : Nat → Nat) = id from funext fun k => Nat.zero_add k, List.map_id]
  rw [e, List.drop_zero] at h
  rw [h, List.dropLast_eq_take, Array.length_toList]
theorem pe_rev2 {X : Cx} {e : Expr} {te : TE} {k k2 : Nat} {p1 p2 p3 p4 p5 pos : Pos} (he : PE X e te) : PE X (.Subscript e (.Slice (some (.UnaryOp .USub (.Constant (.int 2) k2 p4) p5)) none (some (.UnaryOp .USub (.Constant (.int 1) k p1) p2)) p3) pos) (tRev2 X.K te) := by
  refine ⟨fun pins s σ H Q I h => ?_⟩
  refine Subscript_ (thn (he.run pins s σ H _ I h) fun v s1 ⟨x, H1, I1, r1, q1⟩ => ?_)
  obtain ⟨a, xs, ex, hx, q⟩ := q1
  subst ex
  cases r1
  have neg : ∀ (n : Int) (k : Nat) (p1 p2 : Pos), PO X (some (.UnaryOp .USub (.Constant (.int n) k p1) p2)) (tPart (tUn (rU fun i => .int (-i)) (tC (.int n)))) := fun n k p1 p2 => po_some (pe_un un_neg pe_int)
  refine wpAny_Slice (thn ((neg 2 k2 p4 p5).run pins s1 σ H1 (fun o H2 => o = some (-2) ∧ H2 = H1) I1 ⟨2, rfl, -2, rfl, rfl, rfl⟩) fun vl s2 ⟨l, H2, I2, pl, el, e2⟩ => ?_)
  subst el e2
  refine thn (po_none.run pins s2 σ H2 (fun o H3 => o = none ∧ H3 = H2) I2 ⟨rfl, rfl⟩) fun vu s3 ⟨u, H3, I3, pu, eu, e3⟩ => ?_
  subst eu e3
  refine thn ((neg 1 k p1 p2).run pins s3 σ H3 (fun o H4 => o = some (-1) ∧ H4 = H3) I3 ⟨1, rfl, -1, rfl, rfl, rfl⟩) fun vs s4 ⟨o, H4, I4, ps, eo, e4⟩ => ?_
  subst eo e4
  have I5 : Inv X pins σ H4 { s4 with heap := s4.heap.push { cls := .type "slice", data := .fields #[vl, vu, vs] } } := I4.kept (t' := s4.toks) fun b ob q => Heap.get?_push_of_some _ q
  obtain ⟨its, r, ht, hz⟩ := I5.list hx
  have hlen := r.length
  have hd : Vals xs.dropLast its.dropLast := by
    rw [List.dropLast_eq_take, List.dropLast_eq_take, ← hlen]
    exact r.take _
  show wpAny (model X.prog X.w) X.A (subscriptTail e (.Slice (some (.UnaryOp .USub (.Constant (.int 2) k2 p4) p5)) none (some (.UnaryOp .USub (.Constant (.int 1) k p1) p2)) p3) (.ref a) (.ref s4.heap.objs.size)) (EP X pins σ Q) X.xe _
  refine tail_any (ops := [.ref a, .ref s4.heap.objs.size]) ht.isList.typeIs (PySem.slot_list_getitem.lookup) ?_ (by with_unfolding_all rfl)
  refine wpAny_getItem_list_slice ht.isList (Heap.IsSliceOf.new _ vl vu vs) pl pu ps (by decide) ?_ (by rw [List.size_toArray]; omega)
  rw [pick_rev2]
  refine ⟨.ref _, _, I5.laid (t' := s4.toks) (o := .lst xs.dropLast.reverse) (fun b ob q => Heap.get?_push_of_some _ q) (Nat.le_refl _) ?_, rfl, q _ (I5.hok.fresh (Nat.le_refl _))⟩
  exact ⟨by rw [List.length_reverse, List.length_dropLast]; omega, _, 0, hd.reverse, Heap.get?_push_size _ rfl⟩
/-! ### readings -/
section
variable {K : PySem.W.Frag} {W : WX} {ta0 : TA} {ta tb tc te : TE} {a b qc : WE} {o : WO} {c : C0} {pa : Nat → Addr} {G H G' H' : Hp} {σ : L2.St} {ds : DS}
/-- a new list behind what was run -/
theorem Stp.made {vs : List V} {xs : List D} {ds1 : DS} {G1 H1 : Hp} {p : Addr} (S1 : Stp K c pa σ G H ds G1 H1 ds1) (hp : H1 p = none) (r : Reps K G1 xs vs) : Stp K c pa σ G H ds G1 (upd H1 p (.lst vs)) ds1 ∧ Tmp K c pa G1 (upd H1 p (.lst vs)) ds1 p xs ∧ H p = none := by
  obtain ⟨S2, t2⟩ := Stp.newOwn S1.env hp r
  refine ⟨S1.trans S2, t2, ?_⟩
  cases z : H p with
  | none => rfl
  | some o => exact absurd hp (S1.dom p (by rw [z]; exact fun y => nomatch y))
theorem eo_cat (ha : EW K W ta a) (hb : EW K W tb b) : EO K W (tOp (rCatL K) ta tb) (wCat a b) := fun c pa G H σ ds xk kk Q E hw hx k => by
  refine ha c pa G H σ ds xk _ _ E hw hx fun x G1 H1 d ds1 q S1 r1 => ?_
  refine hb c pa G1 H1 σ ds1 xk _ _ S1.env q hx fun y G2 H2 e ds2 q2 S2 r2 => ?_
  cases d with
  | lst xs =>
    cases e with
    | lst ys =>
      obtain ⟨hz, q2⟩ := q2
      obtain ⟨p1, vs, e1, h1, m1⟩ := Rep.mono S2.sg r1
      obtain ⟨p2, ws, e2, h2, m2⟩ := r2
      refine ⟨p1, p2, vs, ws, e1, e2, L2.Same.seq S2.env.ex h1, L2.Same.seq S2.env.ex h2, by rw [← m1.len, ← m2.len]; exact Nat.le_trans hz (by decide), fun p hp => ?_⟩
      obtain ⟨S, t, n⟩ := (S1.trans S2).made hp (m1.append m2)
      exact k p _ _ _ _ q2 S t n
    | _ => exact (show False from q2).elim
  | _ => exact (show False from q2).elim
theorem eo_rev (ha : EW K W ta a) : EO K W (tRevL K ta) (wRev a) := fun c pa G H σ ds xk kk Q E hw hx k => by
  refine ha c pa G H σ ds xk _ _ E hw hx fun x G1 H1 d ds1 q S1 r1 => ?_
  cases d with
  | lst xs =>
    obtain ⟨p1, vs, e1, h1, m1⟩ := r1
    refine ⟨p1, vs, e1, L2.Same.seq S1.env.ex h1, fun p hp => ?_⟩
    obtain ⟨S, t, n⟩ := S1.made hp m1.reverse
    exact k p _ _ _ _ q S t n
  | _ => exact (show False from q).elim
theorem eo_rev2 (ha : EW K W ta a) : EO K W (tRev2 K ta) (wRev2 a) := fun c pa G H σ ds xk kk Q E hw hx k => by
  refine ha c pa G H σ ds xk _ _ E hw hx fun x G1 H1 d ds1 q S1 r1 => ?_
  cases d with
  | lst xs =>
    obtain ⟨p1, vs, e1, h1, m1⟩ := r1
    refine ⟨p1, vs, e1, L2.Same.seq S1.env.ex h1, fun p hp => ?_⟩
    have r2 : Reps K G1 xs.dropLast vs.dropLast := by
      rw [List.dropLast_eq_take, List.dropLast_eq_take, ← m1.len]
      exact m1.take _
    obtain ⟨S, t, n⟩ := S1.made hp r2.reverse
    exact k p _ _ _ _ q S t n
  | _ => exact (show False from q).elim
/-- a slice's part -/
def PWt (K : PySem.W.Frag) (W : WX) (tl : TO) (w : WPt) : Prop := ∀ (c : C0) pa G H σ ds xk (kk : Option Int → DS → Prop) (Q : Option Int → Hp → Prop), Env K c pa G H σ ds → w xk ds kk → XOk K c W xk →
  (∀ o G' H' ds', kk o ds' → Stp K c pa σ G H ds G' H' ds' → Q o H') → tl σ H Q
theorem pw_no : PWt K W tNoPart wNoP := fun c pa G H σ ds xk kk Q E hw hx k => k none G H ds hw (.refl E)
theorem pw_p (ha : EW K W ta a) : PWt K W (tPart ta) (wP a) := fun c pa G H σ ds xk kk Q E hw hx k => by
  refine ha c pa G H σ ds xk _ _ E hw hx fun x G1 H1 d ds1 q S1 r1 => ?_
  cases d with
  | int i => exact ⟨i, r1, k (some i) G1 H1 ds1 q S1⟩
  | _ => exact (show False from q).elim
theorem eo_cut {tl th : TO} {lo hi : WPt} (ha : EW K W ta a) (hl : PWt K W tl lo) (hh : PWt K W th hi) : EO K W (tSl (rSlL K) ta tl th) (wCut a lo hi) := fun c pa G H σ ds xk kk Q E hw hx k => by
  refine ha c pa G H σ ds xk _ _ E hw hx fun x G1 H1 d ds1 q S1 r1 => ?_
  refine hl c pa G1 H1 σ ds1 xk _ _ S1.env q hx fun l G2 H2 ds2 q2 S2 => ?_
  refine hh c pa G2 H2 σ ds2 xk _ _ S2.env q2 hx fun u G3 H3 ds3 q3 S3 => ?_
  cases d with
  | lst xs =>
    obtain ⟨p1, vs, e1, h1, m1⟩ := Rep.mono (S2.trans S3).sg r1
    refine ⟨p1, vs, e1, L2.Same.seq S3.env.ex h1, fun p hp => ?_⟩
    rw [cutV_eq]
    obtain ⟨S, t, n⟩ := (S1.trans (S2.trans S3)).made hp (m1.cut l u)
    exact k p _ _ _ _ q3 S t n
  | _ => exact (show False from q3).elim
theorem ew_chain {r r' : R2} {f g : B2} (hr : RW2 K r f) (hr' : RW2 K r' g) (ha : EW K W ta a) (hb : EW K W tb b) (hc : EW K W tc qc) : EW K W (tChain r r' ta tb tc) (wChain f g a b qc) := fun c pa G H σ ds xk kk Q E hw hx k => by
  refine ha c pa G H σ ds xk _ _ E hw hx fun x G1 H1 d ds1 q S1 r1 => ?_
  refine hb c pa G1 H1 σ ds1 xk _ _ S1.env q hx fun y G2 H2 e ds2 q2 S2 r2 => ?_
  refine hr G2 H2 x y d e _ _ S2.env.ex (r1.mono S2.sg) r2 q2 fun z v hz rz => ?_
  cases z with
  | bl t =>
    refine ⟨t, rz, ?_⟩
    cases t with
    | false =>
      rw [if_neg Bool.false_ne_true]
      exact k _ G2 H2 _ ds2 hz (S1.trans S2) rfl
    | true =>
      rw [if_pos rfl]
      refine hc c pa G2 H2 σ ds2 xk _ _ S2.env hz hx fun w G3 H3 u ds3 q3 S3 r3 => ?_
      exact hr' G3 H3 y w e u _ Q S3.env.ex (r2.mono S3.sg) r3 q3 fun z v hz rz => k v G3 H3 z ds3 hz ((S1.trans S2).trans S3) rz
  | _ => exact (show False from hz).elim
/-- behind a call that was lent a list of no slot -/
theorem Stp.calledT {p : Addr} {xs : List D} {dvs' : List DV} {ds1 : DS} {G1 H1 : Hp} (S : Stp K c pa σ G H ds G1 H1 ds1) (n : H p = none) (t : Tmp K c pa G1 H1 ds1 p xs) (B : Back K G1 H1 G' H' (fun _ => p) [.par xs] dvs') : Stp K c pa σ G H ds G' H' ds1 := by
  have E := S.env
  have away : ∀ a o, H1 a = some o → a ≠ p → H' a = some o := fun a o h n => B.fr a o h fun _ _ _ => n
  have slot : ∀ i dv, gt ds1 i = some dv → isO dv = true → ∀ o, H1 (pa i) = some o → H' (pa i) = some o := fun i dv h o u w => away _ _ w (t.ne i dv h o)
  refine ⟨⟨B.ex, fun a o h w => away a o (E.fr a o h w) fun e => ?_, fun a h => B.dom a (E.dom a h), E.ge.trans B.gg, fun a h => (B.gf a (E.dom a h)).trans (E.gf a h), E.len, fun i dv h => ?_, E.inj, E.ps⟩, S.sg.trans B.gg, fun a o h m => ?_, S.sub, fun a h => B.dom a (S.dom a h)⟩
  · have h0 := t.h0
    rw [← e, h] at h0
    cases h0
  · have s := E.sl i dv h
    cases dv with
    | val d =>
      obtain ⟨v, e1, r⟩ := s
      exact ⟨v, e1, r.mono B.gg⟩
    | own xs =>
      obtain ⟨s1, s2, s3, vs, s4, s5⟩ := s
      exact ⟨s1, (B.gf _ (by rw [s4]; exact fun z => nomatch z)).trans s2, s3, vs, slot i _ h rfl _ s4, s5.mono B.gg⟩
    | par xs =>
      obtain ⟨s1, s2, s3, vs, s4, s5⟩ := s
      exact ⟨s1, (B.gf _ (by rw [s4]; exact fun z => nomatch z)).trans s2, s3, vs, slot i _ h rfl _ s4, s5.mono B.gg⟩
  · obtain ⟨e1, e2⟩ := S.fr a o h m
    refine ⟨away a o e1 fun e => ?_, (B.gf a (by rw [e1]; exact fun z => nomatch z)).trans e2⟩
    rw [e, n] at h
    cases h
theorem args_one {p : Addr} {xs : List D} (g : G p = none) (h : ∃ vs, H p = some (.lst vs) ∧ Reps K G xs vs) : Args K G H (fun _ => p) [.ref p] [.par xs] := by
  refine ⟨rfl, fun i dv e => ?_, fun i j xs ys e e' n => ?_⟩
  · cases i with
    | zero =>
      have e := Option.some.inj e
      subst e
      exact ⟨rfl, g, h⟩
    | succ i => cases e
  · cases i with
    | zero =>
      cases j with
      | zero => exact absurd rfl n
      | succ j => cases e'
    | succ i => cases e
theorem ew_callT {fs : FS} (h : EO K W te o) : EW K W (tCallSD (spOf K fs) [] (L2.WE W) (tCons te tNil)) (wCallT fs o) := fun c pa G H σ ds xk kk Q E hw hx k => by
  refine h c pa G H σ ds xk _ _ E hw hx fun p G1 H1 xs ds1 q S1 t1 n1 => ?_
  refine ⟨G1, fun _ => p, [.par xs], _, S1.env.ex, args_one t1.g t1.here, q, fun v r dvs' G' H' hk B R => ?_, fun e cls d dvs' G' H' hk B X => ?_⟩
  · have S := S1.calledT n1 t1 B
    cases r with
    | val d => exact k v G' H' d ds1 hk S R
    | own ys =>
      obtain ⟨p2, rfl, p0, p1, hp⟩ := R
      have t : Tmp K c pa G' H' ds1 p2 ys := ⟨p1, by
        cases z : c.H0 p2 with
        | none => rfl
        | some o => exact absurd p0 (S1.env.dom p2 (by rw [z]; exact fun z => nomatch z)), hp, fun i dv hi o z => S1.env.ownNe hi o (z ▸ p0)⟩
      obtain ⟨G2, S2, r2⟩ := S.freeze t (by
        cases z : H p2 with
        | none => rfl
        | some o => exact absurd p0 (S1.dom p2 (by rw [z]; exact fun z => nomatch z)))
      exact k _ G2 H' _ ds1 hk S2 r2
    | par _ => exact (show False from hk).elim
  · exact hx e _ hk pa G' H' σ cls d (S1.calledT n1 t1 B).env X
/-! ### calls by name -/
/-- behind a call that was given data only -/
theorem Stp.calledK {l : List D} {dvs' : List DV} {ds1 : DS} {G1 H1 : Hp} (S : Stp K c pa σ G H ds G1 H1 ds1) (B : Back K G1 H1 G' H' (fun _ => 0) (l.map .val) dvs') : Stp K c pa σ G H ds G' H' ds1 := by
  have E := S.env
  have non : ∀ (i : Nat) xs, (l.map DV.val)[i]? ≠ some (.par xs) := fun i xs e => by
    rw [List.getElem?_map] at e
    cases q : l[i]? with
    | none => rw [q] at e; cases e
    | some d => rw [q] at e; cases (Option.some.inj e : DV.val d = DV.par xs)
  have away : ∀ a o, H1 a = some o → H' a = some o := fun a o h => B.fr a o h fun i xs e => (non i xs e).elim
  refine ⟨⟨B.ex, fun a o h w => away a o (E.fr a o h w), fun a h => B.dom a (E.dom a h), E.ge.trans B.gg, fun a h => (B.gf a (E.dom a h)).trans (E.gf a h), E.len, fun i dv h => ?_, E.inj, E.ps⟩, S.sg.trans B.gg, fun a o h m => ?_, S.sub, fun a h => B.dom a (S.dom a h)⟩
  · have s := E.sl i dv h
    cases dv with
    | val d =>
      obtain ⟨v, e1, r⟩ := s
      exact ⟨v, e1, r.mono B.gg⟩
    | own xs =>
      obtain ⟨s1, s2, s3, vs, s4, s5⟩ := s
      exact ⟨s1, (B.gf _ (by rw [s4]; exact fun z => nomatch z)).trans s2, s3, vs, away _ _ s4, s5.mono B.gg⟩
    | par xs =>
      obtain ⟨s1, s2, s3, vs, s4, s5⟩ := s
      exact ⟨s1, (B.gf _ (by rw [s4]; exact fun z => nomatch z)).trans s2, s3, vs, away _ _ s4, s5.mono B.gg⟩
  · obtain ⟨e1, e2⟩ := S.fr a o h m
    exact ⟨away a o e1, (B.gf a (by rw [e1]; exact fun z => nomatch z)).trans e2⟩
theorem args_vals {l : List D} {vs : List V} (r : Reps K G l vs) : Args K G H (fun _ => 0) vs (l.map .val) := by
  refine ⟨by rw [List.length_map]; exact r.len, fun i dv e => ?_, fun i j xs ys e _ _ => ?_⟩
  · rw [List.getElem?_map] at e
    cases q : l[i]? with
    | none => rw [q] at e; cases e
    | some d =>
      rw [q] at e
      have e := Option.some.inj e
      subst e
      exact r.get q
  · rw [List.getElem?_map] at e
    cases q : l[i]? with
    | none => rw [q] at e; cases e
    | some d => rw [q] at e; cases (Option.some.inj e : DV.val d = DV.par xs)
/-- the call: n values as they are written, the defaults mv, where each parameter's one stands -/
def tCallP (sp : Sp) (n : Nat) (mv : List V) (ix : List Nat) (E : L2.St → XK) (t : TA) : TE := fun σ H Q => t σ H fun vs H1 => vs.length = n ∧ sp (pick ix (vs ++ mv)) H1 Q (E σ)
theorem ew_callK {fs : FS} {as : List WE} {more : List D} {mv : List V} {ix : List Nat} (h : AW K W ta0 as) (hm : ∀ G, Reps K G more mv) : EW K W (tCallP (spOf K fs) as.length mv ix (L2.WE W) ta0) (wCallK fs as more ix) := fun c pa G H σ ds xk kk Q E hw hx k => by
  refine h c pa G H σ ds xk _ _ E hw hx fun vs G1 H1 l ds1 q S1 r1 l1 => ⟨by rw [← r1.len, l1], ?_⟩
  refine ⟨G1, fun _ => 0, _, _, S1.env.ex, args_vals ((r1.append (hm G1)).pick ix), q, fun v r dvs' G' H' hk B R => ?_, fun e cls d dvs' G' H' hk B X => ?_⟩
  · have S := S1.calledK B
    cases r with
    | val d => exact k v G' H' d ds1 hk S R
    | own ys =>
      obtain ⟨p2, rfl, p0, p1, hp⟩ := R
      have t : Tmp K c pa G' H' ds1 p2 ys := ⟨p1, by
        cases z : c.H0 p2 with
        | none => rfl
        | some o => exact absurd p0 (S1.env.dom p2 (by rw [z]; exact fun z => nomatch z)), hp, fun i dv hi o z => S1.env.ownNe hi o (z ▸ p0)⟩
      obtain ⟨G2, S2, r2⟩ := S.freeze t (by
        cases z : H p2 with
        | none => rfl
        | some o => exact absurd p0 (S1.dom p2 (by rw [z]; exact fun z => nomatch z)))
      exact k _ G2 H' _ ds1 hk S2 r2
    | par _ => exact (show False from hk).elim
  · exact hx e _ hk pa G' H' σ cls d (S1.calledK B).env X
/-- x, y = a, [..] -/
theorem sw_parO {i j : Nat} (hn : i ≠ j) (h1 : EW K W ta a) (h2 : EO K W te o) : SW K W (tPar i j (tCons ta (tCons te tNil))) (wParO i j a o) := fun c pa G H σ ds P D E hw hx he =>
  h1 c pa G H σ ds _ _ _ E hw hx fun v G1 H1 d ds1 q S1 r1 => h2 c pa G1 H1 σ ds1 _ _ _ S1.env q hx fun p G2 H2 xs ds2 q2 S2 t2 n2 =>
    ⟨v, .ref p, rfl, he.nx _ G2 H2 _ _ q2 ((S2.env.setVal i (r1.mono S2.sg)).setOwn j (t2.less fun l dv h o => by
      rw [gt_st] at h
      split at h
      · have h := Option.some.inj h
        subst h
        cases o
      · exact ⟨dv, h, o⟩))⟩
end
/-! ### in a derivation -/
/-- how a call binds: nu values by place, the keywords ks, the defaults mu, where each parameter's one stands -/
structure KB (K : PySem.W.Frag) (fd : FuncData) (ps : List Str) (nu : Nat) (ks : List Str) (mu : List Value) (ix : List Nat) : Prop where
  to : ∀ (s : Shared) (us ws : List Value), K.In s.heap → us.length = nu → ws.length = ks.length → BindsTo s fd ⟨us, ks.zip ws⟩ (ps.zip (pick ix (us ++ ws ++ mu)))
theorem Vals.pick {vs : List V} {us : List Value} (r : Vals vs us) : ∀ ix : List Nat, Vals (pick ix vs) (pick ix us)
  | [] => .nil
  | i :: ix => by
    unfold DW.pick
    have hl := r.length
    cases e : vs[i]? with
    | none =>
      have e2 : us[i]? = none := by
        rw [List.getElem?_eq_none_iff] at e ⊢
        omega
      rw [List.filterMap_cons, List.filterMap_cons, e, e2]
      exact Vals.pick r ix
    | some v =>
      have hi := (List.getElem?_eq_some_iff.mp e).1
      obtain ⟨u, e2, ru⟩ := r.get e
      rw [List.filterMap_cons, List.filterMap_cons, e, e2]
      exact .cons ru (Vals.pick r ix)
section
variable {X : Cx} {CX : CXT} {k : Nat} {f : Addr} {fd : FuncData} {ps ks : List Str} {nu : Nat} {mu : List Value} {mv : List V} {ix : List Nat} {sp : Sp} {E : L2.St → XK} {x : Str} {p pos : Pos} {e : Expr} {es : List Expr} {kws : List Keyword} {t tk ta : TA}
theorem run_P {pins : List (Addr × Obj)} {σ : L2.St} {H : Hp} {s : Shared} {Q : VK} {us ws : List Value} {vs zs : List V} (F : FnOk X.prog X.w X.K X.mg X.base CX k f fd ps sp) (hr : Room k X.A) (hb : KB X.K fd ps nu ks mu ix) (hd : Vals mv mu) (hx : ∀ σ, PassesAt CX X σ (E σ))
    (I : Inv X pins σ H s) (r : Vals vs us) (rz : Vals zs ws) (hu : us.length = nu) (hw : ws.length = ks.length) (h : sp (pick ix (vs ++ zs ++ mv)) H Q (E σ)) : wpAny (model X.prog X.w) X.A (call (.ref f) us (ks.zip ws)) (EP X pins σ Q) X.xe s := by
  have r2 := Vals.pick ((r.append rz).append hd) ix
  refine wpAny_call (codeAny_mono (F.run X.A X.stack s H ⟨us, ks.zip ws⟩ (pick ix (us ++ ws ++ mu)) _ Q (E σ) hr I.env0 (hb.to s us ws I.kIn hu hw) r2 h) fun r s' hq => ?_)
  cases r with
  | error e => exact hx σ pins H s e s' I hq
  | ok fl =>
    cases fl with
    | ret u => exact I.after hq
    | next => exact False.elim hq
    | brk => exact False.elim hq
    | cont => exact False.elim hq
/-- the values by place, then those by name -/
def tTwo (n : Nat) (t tk : TA) : TA := fun σ H Q => t σ H fun vs H1 => tk σ H1 fun zs H2 => vs.length = n ∧ Q (vs ++ zs) H2
theorem pe_callP (F : FnOk X.prog X.w X.K X.mg X.base CX k f fd ps sp) (hr : Room k X.A) (hg : Gl X x) (hm : X.mg x = some (.ref f)) (hk : PySem.W.keepIn X.K (.ref f) = true) (hb : KB X.K fd ps nu ks mu ix) (hd : Vals mv mu) (hx : ∀ σ, PassesAt CX X σ (E σ))
    (ha : PA X (e :: es) t) (hkw : PK X kws tk) (hall : (backToKw pos (keywordEach kws X.env)).all (·.1.isSome) = true := by rfl) (hks : (backToKw pos (keywordEach kws X.env)).filterMap (·.1) = ks := by rfl)
    (hdb : (x == ("__debug__" : Str)) = false := by decide) (he : starEach (e :: es) X.env = (false, eval e X.env) :: starEach es X.env := by rfl)
    (hpl : ((backTo pos (starEach (e :: es) X.env)).any (·.1) || (backToKw pos (keywordEach kws X.env)).any (·.1.isNone)) = false := by rfl) :
    PE X (.Call (.Name x p) (e :: es) kws pos) (tCallP sp (nu + ks.length) mv ix E (tTwo nu t tk)) := by
  refine ⟨fun pins s σ H Q I h => ?_⟩
  refine wpAny_Call_Name_kw (ld_glob I hg hm ?_ hdb)
  refine PySem.W.callWith_KW (h₀ := X.base) I.ok.mod.kin hk hall (thn (ha.run pos pins s σ H _ I h) fun us s1 ⟨vs, H1, I1, r, q⟩ => ?_) hpl he
  refine thn (hkw.run pos pins s1 σ H1 _ I1 q) fun ws s2 ⟨zs, H2, I2, rz, l1, l2, q2⟩ => ⟨I2.kIn, ?_⟩
  rw [hks]
  rw [List.length_append] at l2
  exact run_P (us := us) F hr hb hd hx I2 r rz (by rw [← r.length, l1]) (by rw [← rz.length]; omega) q2
theorem pe_callP0 (F : FnOk X.prog X.w X.K X.mg X.base CX k f fd ps sp) (hr : Room k X.A) (hg : Gl X x) (hm : X.mg x = some (.ref f)) (hk : PySem.W.keepIn X.K (.ref f) = true) (hb : KB X.K fd ps 0 ks mu ix) (hd : Vals mv mu) (hx : ∀ σ, PassesAt CX X σ (E σ))
    (hkw : PK X kws tk) (hall : (backToKw pos (keywordEach kws X.env)).all (·.1.isSome) = true := by rfl) (hks : (backToKw pos (keywordEach kws X.env)).filterMap (·.1) = ks := by rfl)
    (hdb : (x == ("__debug__" : Str)) = false := by decide) (hpl : ((backTo pos (starEach [] X.env)).any (·.1) || (backToKw pos (keywordEach kws X.env)).any (·.1.isNone)) = false := by rfl) :
    PE X (.Call (.Name x p) [] kws pos) (tCallP sp (0 + ks.length) mv ix E (tTwo 0 tNil tk)) := by
  refine ⟨fun pins s σ H Q I h => ?_⟩
  refine wpAny_Call_Name_kw (ld_glob I hg hm ?_ hdb)
  refine PySem.W.callWith_KW0 (h₀ := X.base) I.ok.mod.kin hk hall (thn (hkw.run pos pins s σ H _ I h) fun ws s2 ⟨zs, H2, I2, rz, l1, l2, q2⟩ => ⟨I2.kIn, ?_⟩) hpl
  rw [hks]
  rw [List.length_append] at l2
  exact run_P (us := []) (vs := []) F hr hb hd hx I2 .nil rz rfl (by rw [← rz.length]; have : ([] : List V).length = 0 := rfl; omega) q2
end
theorem wArgs_app : ∀ (as bs : List WE) (x : XKd) (ds : DS) (k : List D → DS → Prop), wArgs (as ++ bs) x ds k = wArgs as x ds fun l ds1 => wArgs bs x ds1 fun m ds2 => k (l ++ m) ds2
  | [], bs, x, ds, k => rfl
  | a :: as, bs, x, ds, k => by
    show (a x ds fun d ds1 => wArgs (as ++ bs) x ds1 fun l ds2 => k (d :: l) ds2) = a x ds fun d ds1 => wArgs as x ds1 fun l ds2 => wArgs bs x ds2 fun m ds3 => k (d :: (l ++ m)) ds3
    congr 1
    funext d ds1
    rw [wArgs_app as bs]
theorem aw_two {K : PySem.W.Frag} {W : WX} {t tk : TA} {as bs : List WE} (h : AW K W t as) (h' : AW K W tk bs) : AW K W (tTwo as.length t tk) (as ++ bs) := fun c pa G H σ ds xk kk Q E hw hx k => by
  rw [wArgs_app] at hw
  refine h c pa G H σ ds xk _ _ E hw hx fun vs G1 H1 l ds1 q S1 r1 l1 => ?_
  refine h' c pa G1 H1 σ ds1 xk _ _ S1.env q hx fun zs G2 H2 m ds2 q2 S2 r2 l2 => ⟨by rw [← r1.len, l1], ?_⟩
  exact k _ G2 H2 _ ds2 q2 (S1.trans S2) ((Reps.mono S2.sg r1).append r2) (by rw [List.length_append, List.length_append, l1, l2])
section
variable {P : Program} {w : World} {K : PySem.W.Frag} {mg : Str → Option Value} {base : Heap} {N : List Str} {k : Nat} {W : WX}
variable {F : Fam P w K mg base N k W} {a b c e tg it : Expr} {es : List Expr} {x y z : Str} {pos p p2 p3 p4 p5 : Pos} {qa qb qc qe : WE} {q r : WT} {g : Tg} {s1 : List Stmt} {ws : WS} {o : WO}
/-- a def that keeps its promise and stands under its name -/
structure CalF (P : Program) (w : World) (K : PySem.W.Frag) (mg : Str → Option Value) (base : Heap) (k : Nat) (x : Str) (ps : List Str) (fs : FS) (f : Addr) (fd : FuncData) : Prop where
  ok : FnOk P w K mg base CX0 k f fd ps (spOf K fs)
  gm : mg x = some (.ref f)
  kp : PySem.W.keepIn K (.ref f) = true
theorem CalF.mk2 {qual : Str} {st : Stmt} {f : Addr} {fd : FuncData} {N ps : List Str} {fs : FS} {ws : WS} {j : Nat} (Fn : Fun K x qual st f fd) (hm : mg x = some (.ref f)) (S : FnScope N ps (defScope st)) (hl : ∀ dvs kk, fs dvs kk → dvs.length = ps.length) (hN : ps.length ≤ N.length)
    (hd : ∀ (cdv : Value) (A : Around) (outer : List PySem.Env) (s : Shared) (H : Hp) (E : XK) (hr : Room j (A.deeper (envOfC qual (defScope st) s.heap.objs.size f cdv))), DSs (Fam.body P w K mg base N j qual (defScope st) f cdv A outer s H E hr S.nd) (defBody st) ws)
    (hk : Keeps0 N.length ws fs) : CalF P w K mg base (j + 1) x ps fs f fd := ⟨fn_keeps0 Fn S hl hN hd hk, hm, Fn.kp⟩
theorem CalF.cal {f : Addr} {fd : FuncData} {ps : List Str} {fs : FS} {j : Nat} (C : CalF P w K mg base j x ps fs f fd) (bb : Binds K fd ps []) : Cal P w K mg base j x ps fs := ⟨f, fd, C.ok, C.gm, C.kp, bb⟩
/-- .. called in a shape of its own: by name, with defaults -/
structure CalP (P : Program) (w : World) (K : PySem.W.Frag) (mg : Str → Option Value) (base : Heap) (k : Nat) (x : Str) (ps : List Str) (fs : FS) (nu : Nat) (ks : List Str) (more : List D) (ix : List Nat) : Prop where
  ex : ∃ f fd mu mv, FnOk P w K mg base CX0 k f fd ps (spOf K fs) ∧ mg x = some (.ref f) ∧ PySem.W.keepIn K (.ref f) = true ∧ KB K fd ps nu ks mu ix ∧ Vals mv mu ∧ ∀ G, Reps K G more mv
theorem CalF.calP {f : Addr} {fd : FuncData} {ps : List Str} {fs : FS} {j nu : Nat} {ks : List Str} {mu : List Value} {mv : List V} {more : List D} {ix : List Nat} (C : CalF P w K mg base j x ps fs f fd) (bb : KB K fd ps nu ks mu ix) (hd : Vals mv mu) (hm : ∀ G, Reps K G more mv) : CalP P w K mg base j x ps fs nu ks more ix :=
  ⟨f, fd, mu, mv, C.ok, C.gm, C.kp, bb, hd, hm⟩
def DKw (F : Fam P w K mg base N k W) (kws : List Keyword) (q : List WE) : Prop := ∃ tk, (∀ i, PK (F.X i) kws tk) ∧ AW K W tk q
theorem kw_nil : DKw F [] [] := ⟨_, fun _ => pk_nil, aw_nil⟩
theorem kw_cons {nm : Option Str} {kws : List Keyword} {qs : List WE} (ha : DE F a qa) (hr : DKw F kws qs) : DKw F (⟨nm, a, p⟩ :: kws) (qa :: qs) := by
  obtain ⟨t, h1, h2⟩ := ha
  obtain ⟨u, u1, u2⟩ := hr
  exact ⟨_, fun i => pk_cons (h1 i) (u1 i), aw_cons h2 u2⟩
theorem callP {X : Cx} {kf nu : Nat} {f : Addr} {fd : FuncData} {ps ks : List Str} {fs : FS} {t tk : TA} {mv : List V} {mu : List Value} {ix : List Nat} {kws : List Keyword} (hP : X.prog = P) (hw : X.w = w) (hK : X.K = K) (hm : X.mg = mg) (hb : X.base = base) (G : FnOk P w K mg base CX0 kf f fd ps (spOf K fs)) (hr : Room k X.A) (hk : kf ≤ k)
    (hg : Gl X x) (gm : mg x = some (.ref f)) (kp : PySem.W.keepIn K (.ref f) = true) (bb : KB K fd ps nu ks mu ix) (hd : Vals mv mu) (ha : PA X (a :: es) t) (hkw : PK X kws tk)
    (hall : (backToKw pos (keywordEach kws X.env)).all (·.1.isSome) = true) (hks : (backToKw pos (keywordEach kws X.env)).filterMap (·.1) = ks) (hdb : (x == ("__debug__" : Str)) = false)
    (he : starEach (a :: es) X.env = (false, eval a X.env) :: starEach es X.env) (hpl : ((backTo pos (starEach (a :: es) X.env)).any (·.1) || (backToKw pos (keywordEach kws X.env)).any (·.1.isNone)) = false) :
    PE X (.Call (.Name x p) (a :: es) kws pos) (tCallP (spOf K fs) (nu + ks.length) mv ix (L2.WE W) (tTwo nu t tk)) := by
  subst hP hw hK hm hb
  exact pe_callP G (hr.mono hk) hg gm kp bb hd (fun _ _ _ _ _ _ _ h => h.elim) ha hkw hall hks hdb he hpl
theorem callP0 {X : Cx} {kf : Nat} {f : Addr} {fd : FuncData} {ps ks : List Str} {fs : FS} {tk : TA} {mv : List V} {mu : List Value} {ix : List Nat} {kws : List Keyword} (hP : X.prog = P) (hw : X.w = w) (hK : X.K = K) (hm : X.mg = mg) (hb : X.base = base) (G : FnOk P w K mg base CX0 kf f fd ps (spOf K fs)) (hr : Room k X.A) (hk : kf ≤ k)
    (hg : Gl X x) (gm : mg x = some (.ref f)) (kp : PySem.W.keepIn K (.ref f) = true) (bb : KB K fd ps 0 ks mu ix) (hd : Vals mv mu) (hkw : PK X kws tk)
    (hall : (backToKw pos (keywordEach kws X.env)).all (·.1.isSome) = true) (hks : (backToKw pos (keywordEach kws X.env)).filterMap (·.1) = ks) (hdb : (x == ("__debug__" : Str)) = false)
    (hpl : ((backTo pos (starEach [] X.env)).any (·.1) || (backToKw pos (keywordEach kws X.env)).any (·.1.isNone)) = false) :
    PE X (.Call (.Name x p) [] kws pos) (tCallP (spOf K fs) (0 + ks.length) mv ix (L2.WE W) (tTwo 0 tNil tk)) := by
  subst hP hw hK hm hb
  exact pe_callP0 G (hr.mono hk) hg gm kp bb hd (fun _ _ _ _ _ _ _ h => h.elim) hkw hall hks hdb hpl
/-- f(a, .., k = v, ..) -/
theorem d_callP {kf nu : Nat} {ps ks : List Str} {fs : FS} {qs rs : List WE} {more : List D} {ix : List Nat} {kws : List Keyword} (C : CalP P w K mg base kf x ps fs nu ks more ix) (ha : DL F (a :: es) qs) (hkw : DKw F kws rs) (hnu : qs.length = nu := by rfl) (hnk : rs.length = ks.length := by rfl) (hk : kf ≤ k := by decide)
    (hg : ∀ j, Gl (F.X j) x := by intro _; rfl) (hdb : (x == ("__debug__" : Str)) = false := by decide) (he : ∀ j, starEach (a :: es) (F.X j).env = (false, eval a (F.X j).env) :: starEach es (F.X j).env := by intro _; rfl)
    (hall : ∀ j, (backToKw pos (keywordEach kws (F.X j).env)).all (·.1.isSome) = true := by intro _; rfl) (hks : ∀ j, (backToKw pos (keywordEach kws (F.X j).env)).filterMap (·.1) = ks := by intro _; rfl)
    (hpl : ∀ j, ((backTo pos (starEach (a :: es) (F.X j).env)).any (·.1) || (backToKw pos (keywordEach kws (F.X j).env)).any (·.1.isNone)) = false := by intro _; rfl) : DE F (.Call (.Name x p) (a :: es) kws pos) (wCallK fs (qs ++ rs) more ix) := by
  obtain ⟨f, fd, mu, mv, c1, c2, c3, c4, c5, c6⟩ := C.ex
  obtain ⟨t, h1, h2⟩ := ha
  obtain ⟨u, u1, u2⟩ := hkw
  subst hnu
  refine ⟨_, fun j => callP (W := W) (F.hP j) (F.hw j) (F.hK j) (F.hm j) (F.hb j) c1 (F.room j) hk (hg j) c2 c3 c4 c5 (h1 j) (u1 j) (hall j) (hks j) hdb (he j) (hpl j), ?_⟩
  have e : qs.length + ks.length = (qs ++ rs).length := by rw [List.length_append, hnk]
  rw [e]
  exact ew_callK (aw_two h2 u2) c6
theorem d_callP0 {kf : Nat} {ps ks : List Str} {fs : FS} {rs : List WE} {more : List D} {ix : List Nat} {kws : List Keyword} (C : CalP P w K mg base kf x ps fs 0 ks more ix) (hkw : DKw F kws rs) (hnk : rs.length = ks.length := by rfl) (hk : kf ≤ k := by decide)
    (hg : ∀ j, Gl (F.X j) x := by intro _; rfl) (hdb : (x == ("__debug__" : Str)) = false := by decide)
    (hall : ∀ j, (backToKw pos (keywordEach kws (F.X j).env)).all (·.1.isSome) = true := by intro _; rfl) (hks : ∀ j, (backToKw pos (keywordEach kws (F.X j).env)).filterMap (·.1) = ks := by intro _; rfl)
    (hpl : ∀ j, ((backTo pos (starEach [] (F.X j).env)).any (·.1) || (backToKw pos (keywordEach kws (F.X j).env)).any (·.1.isNone)) = false := by intro _; rfl) : DE F (.Call (.Name x p) [] kws pos) (wCallK fs rs more ix) := by
  obtain ⟨f, fd, mu, mv, c1, c2, c3, c4, c5, c6⟩ := C.ex
  obtain ⟨u, u1, u2⟩ := hkw
  refine ⟨_, fun j => callP0 (W := W) (F.hP j) (F.hw j) (F.hK j) (F.hm j) (F.hb j) c1 (F.room j) hk (hg j) c2 c3 c4 c5 (u1 j) (hall j) (hks j) hdb (hpl j), ?_⟩
  have e : 0 + ks.length = rs.length := by rw [hnk, Nat.zero_add]
  rw [e]
  exact ew_callK (aw_two (as := []) aw_nil u2) c6
/-- f([..]): a list made for the call -/
theorem d_callT {kf : Nat} {ps : List Str} {fs : FS} (C : Cal P w K mg base kf x ps fs) (ha : DO F a o) (hk : kf ≤ k := by decide)
    (hg : ∀ j, Gl (F.X j) x := by intro _; rfl) (hdb : (x == ("__debug__" : Str)) = false := by decide) (he : ∀ j, starEach [a] (F.X j).env = (false, eval a (F.X j).env) :: starEach [] (F.X j).env := by intro _; rfl)
    (hpl : ∀ j, (backTo pos (starEach [] (F.X j).env)).any (·.1) = false := by intro _; rfl) : DE F (.Call (.Name x p) [a] [] pos) (wCallT fs o) := by
  obtain ⟨f, fd, c1, c2, c3, c4⟩ := C.ex
  obtain ⟨u, u1, u2⟩ := ha
  exact ⟨_, fun j => callX (F.hP j) (F.hw j) (F.hK j) (F.hm j) (F.hb j) c1 (F.room j) hk (hg j) c2 c3 c4 .nil (fun _ _ _ _ _ _ _ h => h.elim) (pa_cons (u1 j) pa_nil (he j)) hdb (he j) (hpl j), ew_callT u2⟩
/-! lists -/
theorem catK {X : Cx} (h : X.K = K) : OpR X (binaryOp .Add) (rCatL K) := by subst h; exact op_catL
theorem o_cat (ha : DE F a qa) (hb : DE F b qb) : DO F (.BinOp a .Add b pos) (wCat qa qb) := by
  obtain ⟨t, h1, h2⟩ := ha
  obtain ⟨u, u1, u2⟩ := hb
  exact ⟨_, fun i => pe_op (catK (F.hK i)) (h1 i) (u1 i), eo_cat h2 u2⟩
theorem revLK {X : Cx} {ta : TE} {kk : Nat} (h : X.K = K) (ha : PE X a ta) : PE X (.Subscript a (.Slice none none (some (.UnaryOp .USub (.Constant (.int 1) kk p) p2)) p3) pos) (tRevL K ta) := by subst h; exact pe_revL ha
theorem rev2K {X : Cx} {ta : TE} {kk k2 : Nat} (h : X.K = K) (ha : PE X a ta) : PE X (.Subscript a (.Slice (some (.UnaryOp .USub (.Constant (.int 2) k2 p4) p5)) none (some (.UnaryOp .USub (.Constant (.int 1) kk p) p2)) p3) pos) (tRev2 K ta) := by subst h; exact pe_rev2 ha
theorem o_rev {kk : Nat} (ha : DE F a qa) : DO F (.Subscript a (.Slice none none (some (.UnaryOp .USub (.Constant (.int 1) kk p) p2)) p3) pos) (wRev qa) := by
  obtain ⟨t, h1, h2⟩ := ha
  exact ⟨_, fun i => revLK (F.hK i) (h1 i), eo_rev h2⟩
theorem o_rev2 {kk k2 : Nat} (ha : DE F a qa) : DO F (.Subscript a (.Slice (some (.UnaryOp .USub (.Constant (.int 2) k2 p4) p5)) none (some (.UnaryOp .USub (.Constant (.int 1) kk p) p2)) p3) pos) (wRev2 qa) := by
  obtain ⟨t, h1, h2⟩ := ha
  exact ⟨_, fun i => rev2K (F.hK i) (h1 i), eo_rev2 h2⟩
def DPt (F : Fam P w K mg base N k W) (e : Option Expr) (q : WPt) : Prop := ∃ tl, (∀ i, PO (F.X i) e tl) ∧ PWt K W tl q
theorem sp_no : DPt F none wNoP := ⟨_, fun _ => po_none, pw_no⟩
theorem sp_at (ha : DE F a qa) : DPt F (some a) (wP qa) := by
  obtain ⟨t, h1, h2⟩ := ha
  exact ⟨_, fun i => po_some (h1 i), pw_p h2⟩
theorem slLK {X : Cx} (h : X.K = K) : SlR X (rSlL K) := by subst h; exact sl_list
theorem o_cut {lo hi : Option Expr} {ql qh : WPt} (ha : DE F a qa) (hl : DPt F lo ql) (hh : DPt F hi qh) : DO F (.Subscript a (.Slice lo hi none p) pos) (wCut qa ql qh) := by
  obtain ⟨t, h1, h2⟩ := ha
  obtain ⟨u, u1, u2⟩ := hl
  obtain ⟨v, v1, v2⟩ := hh
  exact ⟨_, fun i => pe_slice (slLK (F.hK i)) (h1 i) (u1 i) (v1 i), eo_cut h2 u2 v2⟩
/-! a < b < c -/
theorem d_chain {op op' : CmpOp} {f f' : B2} {rr rr' : R2} (ho : ∀ j, OpR (F.X j) (compareOp op) rr) (hr : RW2 K rr f) (ho' : ∀ j, OpR (F.X j) (compareOp op') rr') (hr' : RW2 K rr' f') (ha : DE F a qa) (hb : DE F b qb) (hc : DE F c qc) (hm : lastMarks [op, op'] [b, c] = false := by with_unfolding_all rfl) :
    DE F (.Compare a [op, op'] [b, c] pos) (wChain f f' qa qb qc) := by
  obtain ⟨t, h1, h2⟩ := ha
  obtain ⟨u, u1, u2⟩ := hb
  obtain ⟨v, v1, v2⟩ := hc
  exact ⟨_, fun j => pe_chain (ho j) (ho' j) (h1 j) (u1 j) (v1 j) hm, ew_chain hr hr' h2 u2 v2⟩
theorem t_chain {op op' : CmpOp} {f f' : B2} {rr rr' : R2} (ho : ∀ j, OpR (F.X j) (compareOp op) rr) (hr : RW2 K rr f) (ho' : ∀ j, OpR (F.X j) (compareOp op') rr') (hr' : RW2 K rr' f') (ha : DE F a qa) (hb : DE F b qb) (hc : DE F c qc) (hm : lastMarks [op, op'] [b, c] = false := by with_unfolding_all rfl) :
    DT F (.Compare a [op, op'] [b, c] pos) (wTst (wChain f f' qa qb qc)) := by
  obtain ⟨t, h1, h2⟩ := ha
  obtain ⟨u, u1, u2⟩ := hb
  obtain ⟨v, v1, v2⟩ := hc
  exact ⟨_, fun j => pt_chain (ho j) (ho' j) (h1 j) (u1 j) (v1 j) hm, tw_tst (ew_chain hr hr' h2 u2 v2)⟩
theorem d_globI {i : Int} (h : ∃ t, mg x = some (.int i t)) (hg : ∀ j, Gl (F.X j) x := by intro _; rfl) (hd : (x == ("__debug__" : Str)) = false := by decide) : DE F (.Name x pos) (wC (.int i)) := by
  obtain ⟨t, e⟩ := h
  exact d_glob e (v := .int i) ⟨t, rfl⟩ (fun _ => rfl) hg hd
theorem d_globS {i : Str} (h : ∃ t, mg x = some (.str i t)) (hg : ∀ j, Gl (F.X j) x := by intro _; rfl) (hd : (x == ("__debug__" : Str)) = false := by decide) : DE F (.Name x pos) (wC (.str i)) := by
  obtain ⟨t, e⟩ := h
  exact d_glob e (v := .str i) ⟨t, rfl⟩ (fun _ => rfl) hg hd
theorem d_intf (hm : mg "int" = none) (ha : DE F a qa) (hg : ∀ j, Gl (F.X j) "int" := by intro _; rfl) (hs : ∀ j, starEach [a] (F.X j).env = (false, eval a (F.X j).env) :: starEach [] (F.X j).env := by intro _; rfl) (hpl : ∀ j, (backTo pos (starEach [] (F.X j).env)).any (·.1) = false := by intro _; rfl) :
    DE F (.Call (.Name "int" p) [a] [] pos) (wUn dInt qa) := by
  obtain ⟨t, h1, h2⟩ := ha
  exact ⟨_, fun j => pe_callTy call_int1 (hg j) (by rw [F.hm j]; exact hm) (by decide +kernel) (pa_cons (h1 j) pa_nil (hs j)) (by decide) (by decide) (hs j) (hpl j), ew_cb1 rc_int h2⟩
/-- x, y = a, [..] -/
theorem s_parO (i l : Nat) {kt k2 : Nat} (ha : DE F a qa) (hb : DO F b o) (hi : N[i]? = some x := by rfl) (hl : N[l]? = some y := by rfl) (hn : i ≠ l := by decide) (hx : ∀ j, (F.X j).env.scope.names.lookup x = some .local := by intro _; rfl) (hy : ∀ j, (F.X j).env.scope.names.lookup y = some .local := by intro _; rfl)
    (hw : ∀ j, swappedStores [.Tuple [.Name x p, .Name y p2] kt p3] (.Tuple [a, b] k2 p4) (F.X j).env = pure (some [x, y]) := by intro _; rfl) (hs : ∀ j, swapsWithSole [.Tuple [.Name x p, .Name y p2] kt p3] (.Tuple [a, b] k2 p4) pos.line (F.X j).env = pure false := by intro _; rfl)
    (h1 : ∀ j, starEach [a, b] (F.X j).env = (false, eval a (F.X j).env) :: starEach [b] (F.X j).env := by intro _; rfl) (h2 : ∀ j, starEach [b] (F.X j).env = (false, eval b (F.X j).env) :: starEach [] (F.X j).env := by intro _; rfl) :
    DS1 F (.Assign [.Tuple [.Name x p, .Name y p2] kt p3] (.Tuple [a, b] k2 p4) pos) (wParO i l qa o) := by
  obtain ⟨t, t1, t2⟩ := ha
  obtain ⟨u, u1, u2⟩ := hb
  exact ⟨_, fun j => ps_par (F.calm j) (by rw [F.hN j]; exact F.nd) (by rw [F.hN j]; exact hi) (by rw [F.hN j]; exact hl) hn (hx j) (hy j) (pa_cons (t1 j) (pa_cons (u1 j) pa_nil (h2 j)) (h1 j)) (hw j) (hs j), sw_parO hn t2 u2⟩
end
end DW

/-! DwM: instances of classes without fields: made, asked. -/
namespace DW
open PySem PySem.Spec PyProof.Rows L2

/-- a class that is made with nothing: no __init__ but object's -/
structure Mk0 (K : PySem.W.Frag) (C : Addr) : Prop where
  makes : PySem.W.makesIn K C = true
  init : PySem.W.findIn K (.ref C) "__init__" = some (some (.builtin "object.__init__"))
  top : PySem.W.mroIn K C (.type "object") = some true
  kp : PySem.W.keepIn K (.ref C) = true
section
variable {X : Cx} {C : Addr}
theorem run_make0 {pins : List (Addr × Obj)} {σ : L2.St} {H : Hp} {s : Shared} {Q : VK} (M : Mk0 X.K C) (I : Inv X pins σ H s)
    (h : ∀ x dx, H x = none → H dx = none → dx ≠ x → Q (.ref x) (upd (upd H dx (.own x)) x (.ins C dx []))) : wpAny (model X.prog X.w) X.A (call (.ref C) []) (EP X pins σ Q) X.xe s := by
  have hq := h (s.heap.objs.size + 1) s.heap.objs.size (I.hok.fresh (Nat.le_succ _)) (I.hok.fresh (Nat.le_refl _)) (Nat.ne_of_lt (Nat.lt_succ_self _))
  have I2 := Inv.made (C := C) I
  refine wpAny_call (make_map0 I.kIn M.makes M.init (fun self => PySem.W.Looks.of_pure (PySem.W.oi_bind _)) ?_)
  have ho : ((s.heap.push PySem.W.emptyDict).push (PySem.W.instObj C s.heap.objs.size)).get? (s.heap.objs.size + 1) = some (PySem.W.instObj C s.heap.objs.size) := by
    have := Heap.get?_push_size (s.heap.push PySem.W.emptyDict) (o := PySem.W.instObj C s.heap.objs.size) rfl
    rwa [Heap.size_push] at this
  have t1 : PySem.W.Looks (model X.prog X.w) ((s.heap.push PySem.W.emptyDict).push (PySem.W.instObj C s.heap.objs.size)) (typeOf (.ref (s.heap.objs.size + 1))) (.ref C) := NwA.type_at ho rfl
  have t2 : PySem.W.Looks (model X.prog X.w) ((s.heap.push PySem.W.emptyDict).push (PySem.W.instObj C s.heap.objs.size)) (isInstance (.ref (s.heap.objs.size + 1)) (.type "object")) true := t1.andThen (PySem.W.looks_mroIn I2.kIn M.top)
  refine codeAny_call_builtin PySem.W.oi_plain PySem.W.entry_oi (@PySem.W.check_slot (model X.prog X.w) _ _ _ "object.__init__" "object" "__init__" (.ref (s.heap.objs.size + 1)) [] [] _ PySem.W.oi_kind PySem.W.oi_split t2 (NwA.oi_args_any _ _ _) ?_)
  rw [PySem.W.oi_run]
  exact wpAny_pure ⟨rfl, ⟨V.ref (s.heap.objs.size + 1), _, I2, rfl, hq⟩⟩
def tMake0 (C : Addr) : TE := fun σ H Q => ∀ x dx, H x = none → H dx = none → dx ≠ x → Q (.ref x) (upd (upd H dx (.own x)) x (.ins C dx []))
theorem pe_mk0 {x : Str} {p pos : Pos} (M : Mk0 X.K C) (hg : Gl X x) (hm : X.mg x = some (.ref C)) (hdb : (x == ("__debug__" : Str)) = false := by decide) : PE X (.Call (.Name x p) [] [] pos) (tMake0 C) := by
  refine ⟨fun pins s σ H Q I h => ?_⟩
  refine wpAny_Call_Name_kw (ld_glob I hg hm ?_ hdb)
  exact PySem.W.callWith_K0 I.kIn M.kp (run_make0 M I h)
/-- what a method's name means at the classes that may stand there: the class, its def, what that promises -/
structure MAlt (P : Program) (w : World) (K : PySem.W.Frag) (mg : Str → Option Value) (base : Heap) (k : Nat) (m : Str) (C : Addr) (sp : Sp) : Prop where
  cls : Cls K C
  ex : ∃ f fd ps, Meth K C m f ∧ FnOk P w K mg base CX0 k f fd ps sp ∧ Binds K fd ps []
/-- o.m(..), o an instance of one of some classes -/
def tMeths (alts : Addr → Sp → Prop) (m : Str) (E : L2.St → XK) (ta : TE) (t : TA) : TE := fun σ H Q => ta σ H fun x H1 => ∃ C sp a dx fs, alts C sp ∧ x = .ref a ∧ H1 a = some (.ins C dx fs) ∧ fs.lookup m = none ∧ t σ H1 fun vs H2 => sp (x :: vs) H2 Q (E σ)
theorem pe_meths {k : Nat} {m : Str} {o e : Expr} {es : List Expr} {ta : TE} {t : TA} {E : L2.St → XK} {apos pos : Pos} {pl : Sem Bool} {alts : Addr → Sp → Prop} (he : PE X o ta) (al : ∀ C sp, alts C sp → MAlt X.prog X.w X.K X.mg X.base k m C sp) (hr : Room k X.A) (hx : ∀ σ, PassesAt CX0 X σ (E σ)) (ha : PA X (e :: es) t)
    (hst : starEach (e :: es) X.env = (false, eval e X.env) :: starEach es X.env := by rfl) (hpl : (backTo pos (starEach es X.env)).any (·.1) = false := by rfl)
    (ht : eval (.Call (.Attribute o m apos) (e :: es) [] pos) X.env = (do
      let ov ← eval o X.env; standAt apos.atName; let (f, first) ← holding [ov] (getMethod ov m pl); callWith pos f first (backTo pos (starEach (e :: es) X.env)) (backToKw pos (keywordEach [] X.env))) := by rfl) :
    PE X (.Call (.Attribute o m apos) (e :: es) [] pos) (tMeths alts m E ta t) := by
  refine ⟨fun pins s σ H Q I h => ?_⟩
  refine PySem.W.methodCall_KW (pl := pl) (thn (he.run pins s σ H _ I h) fun u s1 ⟨x, H1, I1, rx, C, sp, a, dx, fs, ac, ex, ea, l, q⟩ => ?_) ht
  subst ex
  obtain rfl : u = Value.ref a := rx
  obtain ⟨c, f, fd, ps, hm, F, bb⟩ := al C sp ac
  refine getmeth_ok I1 ea c hm l ?_
  refine PySem.W.callWith_K (first := [.ref a]) (h₀ := X.base) I.ok.mod.kin hm.kp (thn (ha.run pos pins s1 σ H1 _ I1 q) fun us s2 ⟨vs, H2, I2, r, q2⟩ => ⟨I2.kIn, ?_⟩) hst hpl
  exact run_fnSD (us := .ref a :: us) (vs := .ref a :: vs) F hr bb .nil (hx σ) I2 (.cons rfl r) (by rw [List.append_nil]; exact q2)
theorem pe_meths0 {k : Nat} {m : Str} {o : Expr} {ta : TE} {E : L2.St → XK} {apos pos : Pos} {pl : Sem Bool} {alts : Addr → Sp → Prop} (he : PE X o ta) (al : ∀ C sp, alts C sp → MAlt X.prog X.w X.K X.mg X.base k m C sp) (hr : Room k X.A) (hx : ∀ σ, PassesAt CX0 X σ (E σ))
    (ht : eval (.Call (.Attribute o m apos) [] [] pos) X.env = (do
      let ov ← eval o X.env; standAt apos.atName; let (f, first) ← holding [ov] (getMethod ov m pl); callWith pos f first (backTo pos (starEach [] X.env)) (backToKw pos (keywordEach [] X.env))) := by rfl) :
    PE X (.Call (.Attribute o m apos) [] [] pos) (tMeths alts m E ta tNil) := by
  refine ⟨fun pins s σ H Q I h => ?_⟩
  refine PySem.W.methodCall_KW (pl := pl) (thn (he.run pins s σ H _ I h) fun u s1 ⟨x, H1, I1, rx, C, sp, a, dx, fs, ac, ex, ea, l, q⟩ => ?_) ht
  subst ex
  obtain rfl : u = Value.ref a := rx
  obtain ⟨c, f, fd, ps, hm, F, bb⟩ := al C sp ac
  refine getmeth_ok I1 ea c hm l ?_
  exact PySem.W.callWith_K0 (first := [.ref a]) I1.kIn hm.kp (run_fnSD (us := [.ref a]) (vs := [.ref a]) F hr bb .nil (hx σ) I1 (.cons rfl .nil) (by rw [List.append_nil]; exact q))
end
section
variable {K : PySem.W.Frag} {W : WX} {ta : TE} {t : TA} {o : WE} {as : List WE}
theorem ew_new0 {c : Str} {C : Addr} (hc : PySem.W.nsIn K mainGlobals c = some (some (.ref C))) : EW K W (tMake0 C) (wNew0 c) := fun c0 pa G H σ ds xk kk Q E hw hx k x dx h1 h2 n => by
  have S1 := Stp.new E (o := .own x) h2
  have h3 : upd H dx (.own x) x = none := by
    rw [upd_ne (Ne.symm n)]
    exact h1
  have S2 := Stp.new S1.env (o := .ins C dx []) h3
  exact k _ _ _ _ ds hw (S1.trans S2) ⟨C, x, dx, hc, rfl, upd_same⟩
def altsOf (K : PySem.W.Frag) (sps : List (Str × FS)) : Addr → Sp → Prop := fun C sp => ∃ c fs, (c, fs) ∈ sps ∧ PySem.W.nsIn K mainGlobals c = some (some (.ref C)) ∧ sp = spOf K fs
theorem ew_meth {sps : List (Str × FS)} {m : Str} (ho : EW K W ta o) (ha : AW K W t as) : EW K W (tMeths (altsOf K sps) m (L2.WE W) ta t) (wMeth sps o as) := fun c pa G H σ ds xk kk Q E hw hx k => by
  refine ho c pa G H σ ds xk _ _ E hw hx fun x G1 H1 d ds0 q S1 r1 => ?_
  cases d with
  | obj cn =>
    obtain ⟨sp, hmem, q⟩ := q
    obtain ⟨C, a, dx, e0, e1, g1⟩ := id r1
    refine ⟨C, spOf K sp, a, dx, [], ⟨cn, sp, hmem, e0, rfl⟩, e1, S1.env.ex _ _ g1, rfl, ?_⟩
    refine ha c pa G1 H1 σ ds0 xk _ _ S1.env q hx fun vs G2 H2 l ds1 q2 S2 r2 l2 => ?_
    have S := S1.trans S2
    have rs : Reps K G2 (.obj cn :: l) (x :: vs) := ⟨x, vs, rfl, Rep.mono S2.sg r1, r2⟩
    refine ⟨G2, fun _ => 0, _, _, S.env.ex, args_vals rs, q2, fun v r dvs' G' H' hk B R => ?_, fun e cls d dvs' G' H' hk B X => ?_⟩
    · have S3 := S.calledK B
      cases r with
      | val d => exact k v G' H' d ds1 hk S3 R
      | own ys =>
        obtain ⟨p2, rfl, p0, p1, hp⟩ := R
        have t : Tmp K c pa G' H' ds1 p2 ys := ⟨p1, by
          cases z : c.H0 p2 with
          | none => rfl
          | some o => exact absurd p0 (S.env.dom p2 (by rw [z]; exact fun z => nomatch z)), hp, fun i dv hi o z => S.env.ownNe hi o (z ▸ p0)⟩
        obtain ⟨G3, S4, r3⟩ := S3.freeze t (by
          cases z : H p2 with
          | none => rfl
          | some o => exact absurd p0 (S.dom p2 (by rw [z]; exact fun z => nomatch z)))
        exact k _ G3 H' _ ds1 hk S4 r3
      | par _ => exact (show False from hk).elim
    · exact hx e _ hk pa G' H' σ cls d (S.calledK B).env X
  | _ => exact (show False from q).elim
end
section
variable {P : Program} {w : World} {K : PySem.W.Frag} {mg : Str → Option Value} {base : Heap} {N : List Str} {k : Nat} {W : WX}
variable {F : Fam P w K mg base N k W} {a b c e : Expr} {es : List Expr} {x m : Str} {pos apos p p2 : Pos} {qa qb : WE} {qs : List WE}
/-- the class x, made with nothing -/
structure New0 (K : PySem.W.Frag) (mg : Str → Option Value) (x : Str) : Prop where
  ex : ∃ C, PySem.W.nsIn K mainGlobals x = some (some (.ref C)) ∧ mg x = some (.ref C) ∧ Mk0 K C
theorem mk0K {X : Cx} {C : Addr} (h : X.K = K) (M : Mk0 K C) (hg : Gl X x) (hm : X.mg x = some (.ref C)) (hdb : (x == ("__debug__" : Str)) = false) : PE X (.Call (.Name x p) [] [] pos) (tMake0 C) := by subst h; exact pe_mk0 M hg hm hdb
theorem d_new0 (M : New0 K mg x) (hg : ∀ j, Gl (F.X j) x := by intro _; rfl) (hdb : (x == ("__debug__" : Str)) = false := by decide) : DE F (.Call (.Name x p) [] [] pos) (wNew0 x) := by
  obtain ⟨C, h1, h2, h3⟩ := M.ex
  exact ⟨_, fun j => mk0K (F.hK j) h3 (hg j) (by rw [F.hm j]; exact h2) hdb, ew_new0 h1⟩
/-- the method m at each class that may stand there -/
structure Mth (P : Program) (w : World) (K : PySem.W.Frag) (mg : Str → Option Value) (base : Heap) (k : Nat) (m : Str) (sps : List (Str × FS)) : Prop where
  al : ∀ c fs, (c, fs) ∈ sps → ∃ C, PySem.W.nsIn K mainGlobals c = some (some (.ref C)) ∧ MAlt P w K mg base k m C (spOf K fs)
theorem Mth.alts {kf : Nat} {sps : List (Str × FS)} (M : Mth P w K mg base kf m sps) : ∀ C sp, altsOf K sps C sp → MAlt P w K mg base kf m C sp := by
  rintro C sp ⟨c, fs, h1, h2, rfl⟩
  obtain ⟨C', e, A⟩ := M.al c fs h1
  rw [h2] at e
  cases e
  exact A
theorem methX {X : Cx} {kf : Nat} {o : Expr} {sps : List (Str × FS)} {tb : TE} {t : TA} {pl : Sem Bool} (hP : X.prog = P) (hw : X.w = w) (hK : X.K = K) (hm : X.mg = mg) (hb : X.base = base) (M : Mth P w K mg base kf m sps) (hr : Room k X.A) (hk : kf ≤ k) (he : PE X o tb) (ha : PA X (e :: es) t)
    (hst : starEach (e :: es) X.env = (false, eval e X.env) :: starEach es X.env) (hpl : (backTo pos (starEach es X.env)).any (·.1) = false)
    (ht : eval (.Call (.Attribute o m apos) (e :: es) [] pos) X.env = (do
      let ov ← eval o X.env; standAt apos.atName; let (f, first) ← holding [ov] (getMethod ov m pl); callWith pos f first (backTo pos (starEach (e :: es) X.env)) (backToKw pos (keywordEach [] X.env)))) :
    PE X (.Call (.Attribute o m apos) (e :: es) [] pos) (tMeths (altsOf K sps) m (L2.WE W) tb t) := by
  subst hP hw hK hm hb
  exact pe_meths he M.alts (hr.mono hk) (fun _ _ _ _ _ _ _ h => h.elim) ha hst hpl ht
theorem methX0 {X : Cx} {kf : Nat} {o : Expr} {sps : List (Str × FS)} {tb : TE} {pl : Sem Bool} (hP : X.prog = P) (hw : X.w = w) (hK : X.K = K) (hm : X.mg = mg) (hb : X.base = base) (M : Mth P w K mg base kf m sps) (hr : Room k X.A) (hk : kf ≤ k) (he : PE X o tb)
    (ht : eval (.Call (.Attribute o m apos) [] [] pos) X.env = (do
      let ov ← eval o X.env; standAt apos.atName; let (f, first) ← holding [ov] (getMethod ov m pl); callWith pos f first (backTo pos (starEach [] X.env)) (backToKw pos (keywordEach [] X.env)))) :
    PE X (.Call (.Attribute o m apos) [] [] pos) (tMeths (altsOf K sps) m (L2.WE W) tb tNil) := by
  subst hP hw hK hm hb
  exact pe_meths0 he M.alts (hr.mono hk) (fun _ _ _ _ _ _ _ h => h.elim) ht
theorem d_meth {kf : Nat} {o : Expr} {sps : List (Str × FS)} {pl : F.ι → Sem Bool} (M : Mth P w K mg base kf m sps) (ho : DE F o qa) (ha : DL F (e :: es) qs) (hk : kf ≤ k := by decide) (hst : ∀ j, starEach (e :: es) (F.X j).env = (false, eval e (F.X j).env) :: starEach es (F.X j).env := by intro _; rfl) (hpl : ∀ j, (backTo pos (starEach es (F.X j).env)).any (·.1) = false := by intro _; rfl)
    (ht : ∀ j, eval (.Call (.Attribute o m apos) (e :: es) [] pos) (F.X j).env = (do
      let ov ← eval o (F.X j).env; standAt apos.atName; let (f, first) ← holding [ov] (getMethod ov m (pl j)); callWith pos f first (backTo pos (starEach (e :: es) (F.X j).env)) (backToKw pos (keywordEach [] (F.X j).env))) := by intro _; rfl) : DE F (.Call (.Attribute o m apos) (e :: es) [] pos) (wMeth sps qa qs) := by
  obtain ⟨t, h1, h2⟩ := ho
  obtain ⟨u, u1, u2⟩ := ha
  exact ⟨_, fun j => methX (W := W) (F.hP j) (F.hw j) (F.hK j) (F.hm j) (F.hb j) M (F.room j) hk (h1 j) (u1 j) (hst j) (hpl j) (ht j), ew_meth h2 u2⟩
theorem d_meth0 {kf : Nat} {o : Expr} {sps : List (Str × FS)} {pl : F.ι → Sem Bool} (M : Mth P w K mg base kf m sps) (ho : DE F o qa) (hk : kf ≤ k := by decide)
    (ht : ∀ j, eval (.Call (.Attribute o m apos) [] [] pos) (F.X j).env = (do
      let ov ← eval o (F.X j).env; standAt apos.atName; let (f, first) ← holding [ov] (getMethod ov m (pl j)); callWith pos f first (backTo pos (starEach [] (F.X j).env)) (backToKw pos (keywordEach [] (F.X j).env))) := by intro _; rfl) : DE F (.Call (.Attribute o m apos) [] [] pos) (wMeth sps qa []) := by
  obtain ⟨t, h1, h2⟩ := ho
  exact ⟨_, fun j => methX0 (W := W) (F.hP j) (F.hw j) (F.hK j) (F.hm j) (F.hb j) M (F.room j) hk (h1 j) (ht j), ew_meth h2 aw_nil⟩
end
end DW

/-! DwO: membership. -/
namespace DW
open PySem PySem.Spec PyProof.Rows L2
section
variable {K : PySem.W.Frag} {G : Hp}
theorem flat_rep : ∀ {d : D} {v : V}, flatD d = true → Rep K G d v → flatV v = true
  | .non, v, _, h => by rw [show v = .non from h]; rfl
  | .bl b, v, _, h => by rw [show v = .bl b from h]; rfl
  | .int i, v, _, h => by rw [show v = .int i from h]; rfl
  | .str x, v, _, h => by rw [show v = .str x from h]; rfl
  | .tup _, v, w, h => by cases w
  | .lst _, v, w, h => by cases w
  | .obj _, v, w, h => by cases w
theorem flats_rep : ∀ {ds : List D} {vs : List V}, ds.all flatD = true → Reps K G ds vs → vs.all flatV = true
  | [], vs, _, h => by rw [show vs = [] from h]; rfl
  | d :: ds, vs, w, h => by
    obtain ⟨x, xs, e, h1, h2⟩ := h
    rw [List.all_cons, Bool.and_eq_true] at w
    rw [e, List.all_cons, flat_rep w.1 h1, flats_rep w.2 h2]
    rfl
theorem eqV_rep : ∀ {d e : D} {v w : V}, flatD d = true → flatD e = true → Rep K G d v → Rep K G e w → eqV v w = deq d e := by
  intro d e v w h h' r r'
  cases d <;> first | (cases h; done) | skip
  all_goals (cases e <;> first | (cases h'; done) | skip)
  all_goals (
    obtain rfl := r
    obtain rfl := r'
    rfl)
theorem inV_rep {x : D} {v : V} (hx : flatD x = true) (r : Rep K G x v) : ∀ {ds : List D} {vs : List V}, ds.all flatD = true → Reps K G ds vs → inV v vs = ds.any fun z => deq z x
  | [], vs, _, h => by rw [show vs = [] from h]; rfl
  | d :: ds, vs, w, h => by
    obtain ⟨y, ys, e, h1, h2⟩ := h
    rw [List.all_cons, Bool.and_eq_true] at w
    have := inV_rep hx r w.2 h2
    unfold inV at this ⊢
    rw [e, List.any_cons, List.any_cons, this, eqV_rep w.1 hx h1 r]
theorem items_rep {H : Hp} (s : Same G H) {d : D} {v : V} {xs : List D} (e : items d = some xs) (r : Rep K G d v) : ∃ p vs, v = .ref p ∧ (SqL K H p vs ∨ SqT K H p vs) ∧ Reps K G xs vs := by
  cases d with
  | tup ys =>
    have e := Option.some.inj e
    subst e
    obtain ⟨p, vs, ev, h1, h2⟩ := r
    exact ⟨p, vs, ev, .inr (Same.t s h1), h2⟩
  | lst ys =>
    have e := Option.some.inj e
    subst e
    obtain ⟨p, vs, ev, h1, h2⟩ := r
    exact ⟨p, vs, ev, .inl (L2.Same.seq s h1), h2⟩
  | _ => cases e
theorem rw_in : RW2 K (rIn K false) dIn := fun G H x y d e kk Q s rx ry h k => by
  unfold dIn at h
  cases q : items e with
  | none => rw [q] at h; exact h.elim
  | some xs =>
    rw [q] at h
    obtain ⟨⟨f1, f2⟩, h⟩ := h
    obtain ⟨p, vs, ev, hs, rs⟩ := items_rep s q ry
    refine ⟨p, vs, ev, hs, flat_rep f1 rx, flats_rep f2 rs, ?_⟩
    rw [inV_rep f1 rx f2 rs]
    exact k _ _ h rfl
theorem rw_nin : RW2 K (rIn K true) dNin := fun G H x y d e kk Q s rx ry h k => by
  unfold dNin at h
  cases q : items e with
  | none => rw [q] at h; exact h.elim
  | some xs =>
    rw [q] at h
    obtain ⟨⟨f1, f2⟩, h⟩ := h
    obtain ⟨p, vs, ev, hs, rs⟩ := items_rep s q ry
    refine ⟨p, vs, ev, hs, flat_rep f1 rx, flats_rep f2 rs, ?_⟩
    rw [inV_rep f1 rx f2 rs]
    exact k _ _ h rfl
end
section
variable {P : Program} {w : World} {K : PySem.W.Frag} {mg : Str → Option Value} {base : Heap} {N : List Str} {k : Nat} {W : WX}
variable {F : Fam P w K mg base N k W} {a b c e : Expr} {x : Str} {pos p p2 : Pos} {qa qb : WE}
theorem inK {X : Cx} (h : X.K = K) : OpR X (compareOp .In) (rIn K false) := by subst h; exact op_in_seq
theorem ninK {X : Cx} (h : X.K = K) : OpR X (compareOp .NotIn) (rIn K true) := by subst h; exact op_notIn_seq
theorem d_in (ha : DE F a qa) (hb : DE F b qb) (hm : behindInMarks .In b = false := by rfl) : DE F (.Compare a [.In] [b] pos) (wBin dIn qa qb) := d_cmp (fun j => inK (F.hK j)) rw_in ha hb hm
theorem d_nin (ha : DE F a qa) (hb : DE F b qb) (hm : behindInMarks .NotIn b = false := by rfl) : DE F (.Compare a [.NotIn] [b] pos) (wBin dNin qa qb) := d_cmp (fun j => ninK (F.hK j)) rw_nin ha hb hm
theorem t_in (ha : DE F a qa) (hb : DE F b qb) (hm : behindInMarks .In b = false := by rfl) : DT F (.Compare a [.In] [b] pos) (wTst (wBin dIn qa qb)) := t_cmp (fun j => inK (F.hK j)) rw_in ha hb hm
theorem t_nin (ha : DE F a qa) (hb : DE F b qb) (hm : behindInMarks .NotIn b = false := by rfl) : DT F (.Compare a [.NotIn] [b] pos) (wTst (wBin dNin qa qb)) := t_cmp (fun j => ninK (F.hK j)) rw_nin ha hb hm
end
end DW

/-! DwP: defs with defaults, methods: their bundles. -/
namespace DW
open PySem PySem.Spec PyProof.Rows L2

/-- a def of the text, whatever its defaults -/
structure FunV (K : PySem.W.Frag) (x qual : Str) (st : Stmt) (f : Addr) (fd : FuncData) : Prop where
  ex : ∃ (oc : Value) (od : Option Addr) (dV kV doc pm : Value) (an : Option Addr) (cdv ct : Value) (osl : Array (Option Value)),
    fd = PySem.W.fnOf x qual (defArgs st) (defBody st) (defScope st) dV kV doc pm an cdv ct ∧ K.lookup f = some ⟨oc, od, .func fd, osl⟩ ∧ PySem.W.codeIn K cdv qual = true
  kp : PySem.W.keepIn K (.ref f) = true
theorem funV_mk {K : PySem.W.Frag} {x qual : Str} {st : Stmt} {f : Addr} {oc : Value} {od an : Option Addr} {osl : Array (Option Value)} {dV kV doc pm cdv ct : Value} (l : K.lookup f = some ⟨oc, od, .func (PySem.W.fnOf x qual (defArgs st) (defBody st) (defScope st) dV kV doc pm an cdv ct), osl⟩)
    (c : PySem.W.codeIn K cdv qual = true) (k : PySem.W.keepIn K (.ref f) = true) : FunV K x qual st f (PySem.W.fnOf x qual (defArgs st) (defBody st) (defScope st) dV kV doc pm an cdv ct) := ⟨⟨oc, od, dV, kV, doc, pm, an, cdv, ct, osl, rfl, l, c⟩, k⟩
theorem FunV.of {K : PySem.W.Frag} {x qual : Str} {st : Stmt} {f : Addr} {fd : FuncData} (F : Fun K x qual st f fd) : FunV K x qual st f fd := by
  obtain ⟨oc, od, kV, doc, pm, an, cdv, ct, osl, rfl, lk, hcd⟩ := F.ex
  exact ⟨⟨oc, od, .none, kV, doc, pm, an, cdv, ct, osl, rfl, lk, hcd⟩, F.kp⟩
/-- a def of the text with defaults, told -/
structure FunT (K : PySem.W.Frag) (x qual : Str) (st : Stmt) (its : List Value) (f : Addr) (fd : FuncData) : Prop where
  ex : ∃ (oc : Value) (od : Option Addr) (T : Addr) (kV doc pm : Value) (an : Option Addr) (cdv ct : Value) (osl : Array (Option Value)) (o : Obj) (n : Nat),
    fd = PySem.W.fnOf x qual (defArgs st) (defBody st) (defScope st) (.ref T) kV doc pm an cdv ct ∧ K.lookup f = some ⟨oc, od, .func fd, osl⟩ ∧ PySem.W.codeIn K cdv qual = true ∧ K.lookup T = some o ∧ o.data = .seq its.toArray n
  kp : PySem.W.keepIn K (.ref f) = true
theorem FunT.v {K : PySem.W.Frag} {x qual : Str} {st : Stmt} {its : List Value} {f : Addr} {fd : FuncData} (F : FunT K x qual st its f fd) : FunV K x qual st f fd := by
  obtain ⟨oc, od, T, kV, doc, pm, an, cdv, ct, osl, o, n, rfl, lk, hcd, lT, oT⟩ := F.ex
  exact ⟨⟨oc, od, .ref T, kV, doc, pm, an, cdv, ct, osl, rfl, lk, hcd⟩, F.kp⟩
theorem funT_mk {K : PySem.W.Frag} {x qual : Str} {st : Stmt} {f T : Addr} {oc ocT : Value} {od odT an : Option Addr} {osl slT : Array (Option Value)} {kV doc pm cdv ct : Value} {its : List Value} {n : Nat} (l : K.lookup f = some ⟨oc, od, .func (PySem.W.fnOf x qual (defArgs st) (defBody st) (defScope st) (.ref T) kV doc pm an cdv ct), osl⟩)
    (c : PySem.W.codeIn K cdv qual = true) (k : PySem.W.keepIn K (.ref f) = true) (lT : K.lookup T = some ⟨ocT, odT, .seq its.toArray n, slT⟩) : FunT K x qual st its f (PySem.W.fnOf x qual (defArgs st) (defBody st) (defScope st) (.ref T) kV doc pm an cdv ct) :=
  ⟨⟨oc, od, T, kV, doc, pm, an, cdv, ct, osl, _, n, rfl, l, c, lT, rfl⟩, k⟩
section
variable {P : Program} {w : World} {K : PySem.W.Frag} {mg : Str → Option Value} {base : Heap}
theorem FunT.binds {x qual : Str} {st : Stmt} {its : List Value} {f : Addr} {fd : FuncData} {ps : List Str} (F : FunT K x qual st its f fd)
    (h : ∀ (T : Addr) (kV doc pm : Value) (an : Option Addr) (cdv ct : Value) (us : List Value), us.length = ps.length → ∃ k, bindArgs (PySem.W.fnOf x qual (defArgs st) (defBody st) (defScope st) (.ref T) kV doc pm an cdv ct) ⟨us, []⟩ = seqItems? (.ref T) >>= k ∧ k (some its.toArray) = pure (ps.zip us)) : Binds K fd ps [] := by
  obtain ⟨oc, od, T, kV, doc, pm, an, cdv, ct, osl, o, n, rfl, lk, hcd, lT, oT⟩ := F.ex
  refine fun s us X hl => ?_
  rw [List.append_nil] at hl ⊢
  obtain ⟨k, e1, e2⟩ := h T kV doc pm an cdv ct us hl
  refine BindsTo.of_looks fun M => ?_
  rw [e1]
  exact looks_items X lT oT (.of_pure e2)
theorem FunT.kb {x qual : Str} {st : Stmt} {its mu : List Value} {f : Addr} {fd : FuncData} {ps ks : List Str} {nu : Nat} {ix : List Nat} (F : FunT K x qual st its f fd)
    (h : ∀ (T : Addr) (kV doc pm : Value) (an : Option Addr) (cdv ct : Value) (us ws : List Value), us.length = nu → ws.length = ks.length → ∃ k, bindArgs (PySem.W.fnOf x qual (defArgs st) (defBody st) (defScope st) (.ref T) kV doc pm an cdv ct) ⟨us, ks.zip ws⟩ = seqItems? (.ref T) >>= k ∧ k (some its.toArray) = pure (ps.zip (pick ix (us ++ ws ++ mu)))) : KB K fd ps nu ks mu ix := by
  obtain ⟨oc, od, T, kV, doc, pm, an, cdv, ct, osl, o, n, rfl, lk, hcd, lT, oT⟩ := F.ex
  refine ⟨fun s us ws X h1 h2 => ?_⟩
  obtain ⟨k, e1, e2⟩ := h T kV doc pm an cdv ct us ws h1 h2
  refine BindsTo.of_looks fun M => ?_
  rw [e1]
  exact looks_items X lT oT (.of_pure e2)
theorem FunV.binds {x qual : Str} {st : Stmt} {f : Addr} {fd : FuncData} {ps : List Str} (F : FunV K x qual st f fd)
    (h : ∀ (dV kV doc pm : Value) (an : Option Addr) (cdv ct : Value) (us : List Value), us.length = ps.length → bindArgs (PySem.W.fnOf x qual (defArgs st) (defBody st) (defScope st) dV kV doc pm an cdv ct) ⟨us, []⟩ = pure (ps.zip us)) : Binds K fd ps [] := by
  obtain ⟨oc, od, dV, kV, doc, pm, an, cdv, ct, osl, rfl, lk, hcd⟩ := F.ex
  exact .all (h dV kV doc pm an cdv ct)
/-- the rule of fn_keeps0, whatever the defaults -/
theorem fn_keepsV {x qual : Str} {st : Stmt} {f : Addr} {fd : FuncData} {N ps : List Str} {k : Nat} {fs : FS} {ws : WS} (Fn : FunV K x qual st f fd) (S : FnScope N ps (defScope st)) (hl : ∀ dvs kk, fs dvs kk → dvs.length = ps.length) (hN : ps.length ≤ N.length)
    (hd : ∀ (cdv : Value) (A : Around) (outer : List PySem.Env) (s : Shared) (H : Hp) (E : XK) (hr : Room k (A.deeper (envOfC qual (defScope st) s.heap.objs.size f cdv))), DSs (Fam.body P w K mg base N k qual (defScope st) f cdv A outer s H E hr S.nd) (defBody st) ws)
    (hk : Keeps0 N.length ws fs) : FnOk P w K mg base CX0 (k + 1) f fd ps (spOf K fs) := by
  obtain ⟨oc, od, dV, kV, doc, pm, an, cdv, ct, osl, rfl, lk, hcd⟩ := Fn.ex
  refine fn_of lk hcd S (spOf_len hl) fun A outer s H vs Q E hr hsp => ?_
  obtain ⟨G, pa, dvs, kk, sg, ha, hf, k1, k2⟩ := hsp
  obtain ⟨t, t1, t2⟩ := hd cdv A outer s H E hr
  refine ⟨t, (t1 ()).nox, t2 (ground G H pa dvs) pa G H _ _ _ _ (env_start sg ha (by rw [hl dvs kk hf]; exact hN)) (hk dvs kk hf) (fun _ _ z => z.elim) (ends_ok (fun _ _ q => q) k1)⟩
theorem CalF.mkV {x qual : Str} {st : Stmt} {f : Addr} {fd : FuncData} {N ps : List Str} {fs : FS} {ws : WS} {j : Nat} (Fn : FunV K x qual st f fd) (hm : mg x = some (.ref f)) (S : FnScope N ps (defScope st)) (hl : ∀ dvs kk, fs dvs kk → dvs.length = ps.length) (hN : ps.length ≤ N.length)
    (hd : ∀ (cdv : Value) (A : Around) (outer : List PySem.Env) (s : Shared) (H : Hp) (E : XK) (hr : Room j (A.deeper (envOfC qual (defScope st) s.heap.objs.size f cdv))), DSs (Fam.body P w K mg base N j qual (defScope st) f cdv A outer s H E hr S.nd) (defBody st) ws)
    (hk : Keeps0 N.length ws fs) : CalF P w K mg base (j + 1) x ps fs f fd := ⟨fn_keepsV Fn S hl hN hd hk, hm, Fn.kp⟩
/-- a method's def and what it promises -/
structure MthF (P : Program) (w : World) (K : PySem.W.Frag) (mg : Str → Option Value) (base : Heap) (k : Nat) (ps : List Str) (fs : FS) (f : Addr) (fd : FuncData) : Prop where
  ok : FnOk P w K mg base CX0 k f fd ps (spOf K fs)
  kp : PySem.W.keepIn K (.ref f) = true
theorem MthF.mkV {x qual : Str} {st : Stmt} {f : Addr} {fd : FuncData} {N ps : List Str} {fs : FS} {ws : WS} {j : Nat} (Fn : FunV K x qual st f fd) (S : FnScope N ps (defScope st)) (hl : ∀ dvs kk, fs dvs kk → dvs.length = ps.length) (hN : ps.length ≤ N.length)
    (hd : ∀ (cdv : Value) (A : Around) (outer : List PySem.Env) (s : Shared) (H : Hp) (E : XK) (hr : Room j (A.deeper (envOfC qual (defScope st) s.heap.objs.size f cdv))), DSs (Fam.body P w K mg base N j qual (defScope st) f cdv A outer s H E hr S.nd) (defBody st) ws)
    (hk : Keeps0 N.length ws fs) : MthF P w K mg base (j + 1) ps fs f fd := ⟨fn_keepsV Fn S hl hN hd hk, Fn.kp⟩
theorem MthF.alt {k j : Nat} {ps : List Str} {fs : FS} {f C : Addr} {fd : FuncData} {m : Str} (M : MthF P w K mg base j ps fs f fd) (hj : j ≤ k) (c : Cls K C) (h1 : PySem.W.findIn K (.ref C) m = some (some (.ref f))) (h2 : PySem.W.isFn K (.ref f) = true) (bb : Binds K fd ps []) : MAlt P w K mg base k m C (spOf K fs) :=
  ⟨c, f, fd, ps, ⟨h1, h2, M.kp⟩, M.ok.mono hj, bb⟩
/-- a module's tuple of texts -/
structure GTup (K : PySem.W.Frag) (mg : Str → Option Value) (x : Str) (ss : List Str) : Prop where
  ex : ∃ a oc od its n sl, mg x = some (.ref a) ∧ K.lookup a = some ⟨oc, od, .seq its n, sl⟩ ∧ oc = .type "tuple" ∧ its.size ≤ sizeLine ∧ Vals (ss.map V.str) its.toList
theorem GTup.mk_ {x : Str} {ss : List Str} {a : Addr} {od : Option Addr} {its : Array Value} {n : Nat} {sl : Array (Option Value)} (h : mg x = some (.ref a)) (l : K.lookup a = some ⟨.type "tuple", od, .seq its n, sl⟩) (z : its.size ≤ sizeLine) (v : Vals (ss.map V.str) its.toList) : GTup K mg x ss :=
  ⟨a, _, od, its, n, sl, h, l, rfl, z, v⟩
theorem strs_reps {G : Hp} : ∀ ss : List Str, Reps K G (ss.map .str) (ss.map V.str)
  | [] => rfl
  | s :: r => ⟨_, _, rfl, rfl, strs_reps r⟩
variable {N : List Str} {k : Nat} {W : WX} {F : Fam P w K mg base N k W}
theorem d_globT {x : Str} {ss : List Str} {pos : Pos} (h : GTup K mg x ss) (hg : ∀ j, Gl (F.X j) x := by intro _; rfl) (hd : (x == ("__debug__" : Str)) = false := by decide) : DE F (.Name x pos) (wC (.tup (ss.map .str))) := by
  obtain ⟨a, oc, od, its, n, sl, h1, h2, rfl, hz, hv⟩ := h.ex
  exact d_glob h1 (v := .ref a) rfl (fun G => ⟨a, _, rfl, .inr ⟨_, its, n, h2, rfl, rfl, hz, hv⟩, strs_reps ss⟩) hg hd
end
/-! ### isinstance of one of some built-in types -/
section
variable {P : Program} {w : World} {K : PySem.W.Frag} {mg : Str → Option Value} {base : Heap} {N : List Str} {k : Nat} {W : WX}
variable {F : Fam P w K mg base N k W} {a b c e tg it : Expr} {es : List Expr} {x y z : Str} {pos spos py p p2 p3 p4 pp : Pos} {qa qb qc qe : WE} {q r : WT} {g : Tg}
def DTy (F : Fam P w K mg base N k W) (es : List Expr) (ts : List Ty) : Prop := ∀ j, PA (F.X j) es (tTys ts)
theorem ty_nil : DTy F [] [] := fun _ => pa_nil
theorem ty_cons (T : Ty) {ts : List Ty} {u : Value} (hm : mg x = none) (hv : bootBuiltins x = some u) (hu : u = .type T.nm) (hr : DTy F es ts) (hg : ∀ j, Gl (F.X j) x := by intro _; rfl) (hn : x ≠ "__name__" := by decide) (hdb : (x == ("__debug__" : Str)) = false := by decide)
    (hs : ∀ j, starEach (.Name x p :: es) (F.X j).env = (false, eval (.Name x p) (F.X j).env) :: starEach es (F.X j).env := by intro _; rfl) : DTy F (.Name x p :: es) (T :: ts) := fun j => by
  subst hu
  exact pa_cons (pe_bltn (v := .ty T.nm) (hg j) (by rw [F.hm j]; exact hm) hv rfl hn hdb) (hr j) (hs j)
theorem d_isis {ts : List Ty} {kk : Nat} (hi : mg "isinstance" = none) (ha : DE F a qa) (ht : DTy F es ts) (hl : ts.length ≤ 10 := by decide) (hgi : ∀ j, Gl (F.X j) "isinstance" := by intro _; rfl) (hs : ∀ j, starEach [a, .Tuple es kk p2] (F.X j).env = (false, eval a (F.X j).env) :: starEach [.Tuple es kk p2] (F.X j).env := by intro _; rfl)
    (hs2 : ∀ j, starEach [.Tuple es kk p2] (F.X j).env = (false, eval (.Tuple es kk p2) (F.X j).env) :: starEach [] (F.X j).env := by intro _; rfl) (hpl : ∀ j, (backTo pos (starEach [.Tuple es kk p2] (F.X j).env)).any (·.1) = false := by intro _; rfl) :
    DE F (.Call (.Name "isinstance" p) [a, .Tuple es kk p2] [] pos) (wUn (dIsTys ts) qa) := by
  obtain ⟨t, h1, h2⟩ := ha
  exact ⟨_, fun j => pe_callB (isiTK (F.hK j)) (hgi j) (by rw [F.hm j]; exact hi) (by decide +kernel) (pa_cons (h1 j) (pa_cons (pe_tup (ht j)) pa_nil (hs2 j)) (hs j)) (by decide) (by decide) (hs j) (hpl j), ew_isis hl h2⟩
/-! ### name = [comprehension], written on one line -/
/-- the reading of one comprehension, wherever it goes -/
def DLc (F : Fam P w K mg base N k W) (elt tg iter : Expr) (ifs : List Expr) (scope : Scope) (vs : List Nat) (o : WO) : Prop :=
  ∃ (wi : TI) (g : TG) (tt : TT) (te : TE) (own : List (Str × Nat)), vs = own.map (·.2) ∧ (∀ j, PI (F.X j) tg iter wi) ∧ (∀ j, BlkOk (F.X j).N (F.X j).env.scope scope own) ∧ (∀ j s H C cl fp, PG ((F.X j).blk s H scope (compEnvC scope cl C (F.X j).env) fp) tg g) ∧
    (∀ j s H C cl fp, PTs ((F.X j).blk s H scope (compEnvC scope cl C (F.X j).env) fp) ifs tt) ∧ (∀ j s H C cl fp, PE ((F.X j).blk s H scope (compEnvC scope cl C (F.X j).env) fp) elt te) ∧ (∀ j, ∀ x, foldedSetIterable iter (F.X j).env x = pure x) ∧ EO K W (tLc wi g tt te vs) o
theorem lc_seq (own : List (Str × Nat)) {scope : Scope} (hi : DE F it qa) (hg : DG (F.blk scope) tg g) (ht : DTs (F.blk scope) es q) (he : DE (F.blk scope) e qe) (ok : ∀ j, BlkOk N (F.X j).env.scope scope own) (hn : ∀ i ∈ tgn g, i ∈ own.map (·.2) := by decide)
    (hs : ∀ j, ∀ x, foldedSetIterable it (F.X j).env x = pure x := by intro _ _; rfl) : DLc F e tg it es scope (own.map (·.2)) (wLc qa g (own.map (·.2)) q qe) := by
  obtain ⟨t, t1, t2⟩ := hi
  obtain ⟨gg, g1, g2⟩ := hg
  obtain ⟨u, u1, u2⟩ := ht
  obtain ⟨v, v1, v2⟩ := he
  exact ⟨_, gg, u, v, own, rfl, fun j => piK (F.hK j) (t1 j), fun j => by rw [F.hN j]; exact ok j, fun j s H C cl fp => g1 (j, s, H, C, cl, fp), fun j s H C cl fp => u1 (j, s, H, C, cl, fp), fun j s H C cl fp => v1 (j, s, H, C, cl, fp), hs, eo_lc t2 g2 u2 v2 hn⟩
theorem lc_rng1 (own : List (Str × Nat)) {scope : Scope} (hm : mg "range" = none) (hi : DE F a qa) (hg : DG (F.blk scope) tg g) (ht : DTs (F.blk scope) es q) (he : DE (F.blk scope) e qe) (ok : ∀ j, BlkOk N (F.X j).env.scope scope own) (hn : ∀ i ∈ tgn g, i ∈ own.map (·.2) := by decide)
    (hgl : ∀ j, Gl (F.X j) "range" := by intro _; rfl) (h1 : ∀ j, starEach [a] (F.X j).env = [(false, eval a (F.X j).env)] := by intro _; rfl)
    (hs : ∀ j, ∀ x, foldedSetIterable (.Call (.Name "range" p) [a] [] pp) (F.X j).env x = pure x := by intro _ _; rfl) : DLc F e tg (.Call (.Name "range" p) [a] [] pp) es scope (own.map (·.2)) (wLcR [qa] g (own.map (·.2)) q qe) := by
  obtain ⟨t, t1, t2⟩ := hi
  obtain ⟨gg, g1, g2⟩ := hg
  obtain ⟨u, u1, u2⟩ := ht
  obtain ⟨v, v1, v2⟩ := he
  exact ⟨_, gg, u, v, own, rfl, fun j => pi_range1 (hgl j) (by rw [F.hm j]; exact hm) (pa_cons (t1 j) pa_nil (h1 j)) (h1 j), fun j => by rw [F.hN j]; exact ok j, fun j s H C cl fp => g1 (j, s, H, C, cl, fp), fun j s H C cl fp => u1 (j, s, H, C, cl, fp), fun j s H C cl fp => v1 (j, s, H, C, cl, fp), hs, eo_lcR1 t2 g2 u2 v2 hn⟩
theorem lc_rng2 (own : List (Str × Nat)) {scope : Scope} (hm : mg "range" = none) (hi : DE F a qa) (hi2 : DE F b qb) (hg : DG (F.blk scope) tg g) (ht : DTs (F.blk scope) es q) (he : DE (F.blk scope) e qe) (ok : ∀ j, BlkOk N (F.X j).env.scope scope own) (hn : ∀ i ∈ tgn g, i ∈ own.map (·.2) := by decide)
    (hgl : ∀ j, Gl (F.X j) "range" := by intro _; rfl) (h1 : ∀ j, starEach [a, b] (F.X j).env = [(false, eval a (F.X j).env), (false, eval b (F.X j).env)] := by intro _; rfl) (h2 : ∀ j, starEach [b] (F.X j).env = [(false, eval b (F.X j).env)] := by intro _; rfl)
    (hs : ∀ j, ∀ x, foldedSetIterable (.Call (.Name "range" p) [a, b] [] pp) (F.X j).env x = pure x := by intro _ _; rfl) : DLc F e tg (.Call (.Name "range" p) [a, b] [] pp) es scope (own.map (·.2)) (wLcR [qa, qb] g (own.map (·.2)) q qe) := by
  obtain ⟨t, t1, t2⟩ := hi
  obtain ⟨t', t1', t2'⟩ := hi2
  obtain ⟨gg, g1, g2⟩ := hg
  obtain ⟨u, u1, u2⟩ := ht
  obtain ⟨v, v1, v2⟩ := he
  exact ⟨_, gg, u, v, own, rfl, fun j => pi_range2 (hgl j) (by rw [F.hm j]; exact hm) (pa_cons (t1 j) (pa_cons (t1' j) pa_nil (h2 j)) ((h1 j).trans (by rw [h2 j]))) (h1 j) (h2 j), fun j => by rw [F.hN j]; exact ok j, fun j s H C cl fp => g1 (j, s, H, C, cl, fp), fun j s H C cl fp => u1 (j, s, H, C, cl, fp), fun j s H C cl fp => v1 (j, s, H, C, cl, fp), hs, eo_lcR2 t2 t2' g2 u2 v2 hn⟩
theorem s_lc (i : Nat) {scope : Scope} {vs : List Nat} {o : WO} (h : DLc F e tg it es scope vs o) (hi : N[i]? = some y := by rfl) (hy : ∀ j, (F.X j).env.scope.names.lookup y = some .local := by intro _; rfl)
    (hsw : ∀ j, swapsWith (.ListComp e [⟨tg, it, es, 0⟩] scope pos) (some (.Name y py)) spos.line (F.X j).env = pure true := by intro _; exact sw_true rfl rfl rfl (by decide +kernel)) : DS1 F (.Assign [.Name y py] (.ListComp e [⟨tg, it, es, 0⟩] scope pos) spos) (wAsg (wFrz o) (.nm i)) := by
  obtain ⟨wi, g, tt, te, own, rfl, h1, h2, h3, h4, h5, h6, h7⟩ := h
  exact ⟨_, fun j => ps_setLc (F.calm j) (by rw [F.hN j]; exact F.nd) (by rw [F.hN j]; exact hi) (hy j) (hsw j) (h1 j) (h2 j) (h3 j) (h4 j) (h5 j) (h6 j), sw_asg (ew_frz h7) gw_nm⟩
theorem s_lcO (i : Nat) {scope : Scope} {vs : List Nat} {o : WO} (h : DLc F e tg it es scope vs o) (hi : N[i]? = some y := by rfl) (hy : ∀ j, (F.X j).env.scope.names.lookup y = some .local := by intro _; rfl)
    (hsw : ∀ j, swapsWith (.ListComp e [⟨tg, it, es, 0⟩] scope pos) (some (.Name y py)) spos.line (F.X j).env = pure true := by intro _; exact sw_true rfl rfl rfl (by decide +kernel)) : DS1 F (.Assign [.Name y py] (.ListComp e [⟨tg, it, es, 0⟩] scope pos) spos) (wAsgO o i) := by
  obtain ⟨wi, g, tt, te, own, rfl, h1, h2, h3, h4, h5, h6, h7⟩ := h
  exact ⟨_, fun j => ps_setLc (F.calm j) (by rw [F.hN j]; exact F.nd) (by rw [F.hN j]; exact hi) (hy j) (hsw j) (h1 j) (h2 j) (h3 j) (h4 j) (h5 j) (h6 j), sw_asgO h7⟩
end
end DW

namespace K55
open PySem DW
inductive Mn where
  | fl | ce | ne
  deriving DecidableEq
/-- the first term of a / b -/
def trm : Mn → Int → Int → Int
  | .fl, a, b => a / b
  | .ce, a, b => -((-a) / b)
  | .ne, a, b => (2 * a + b) / (2 * b)
def sg : Mn → Int
  | .ce => -1
  | _ => 1
/-- what is left, times the bottom -/
def lft (m : Mn) (a b : Int) : Int := (a - trm m a b * b) * sg m
def rowN (m : Mn) : Nat → Int → Int → List Int
  | 0, _, _ => []
  | n + 1, a, b => trm m a b :: if lft m a b = 0 then [] else if lft m a b < 0 then rowN m n (-b) (-lft m a b) else rowN m n b (lft m a b)
def row (m : Mn) (a b : Int) : List Int := rowN m b.toNat a b
theorem fl_rng {a b : Int} (h : 1 ≤ b) : 0 ≤ a - a / b * b ∧ a - a / b * b < b := by
  have h1 := Int.emod_nonneg a (show b ≠ 0 by omega)
  have h2 := Int.emod_lt_of_pos a (show 0 < b by omega)
  have h3 := Int.emod_add_mul_ediv a b
  rw [Int.mul_comm] at h3
  omega
theorem lft_fl {a b : Int} : lft .fl a b = a - a / b * b := by unfold lft trm sg; simp
theorem lft_ce {a b : Int} : lft .ce a b = (-a) - (-a) / b * b := by
  unfold lft trm sg
  simp only [Int.neg_mul]
  omega
theorem lft_ne {a b : Int} : lft .ne a b = a - (2 * a + b) / (2 * b) * b := by unfold lft trm sg; simp
theorem lft_rng (m : Mn) {a b : Int} (h : 1 ≤ b) : -b < lft m a b ∧ lft m a b < b := by
  cases m
  · rw [lft_fl]; have := fl_rng (a := a) h; omega
  · rw [lft_ce]; have := fl_rng (a := -a) h; omega
  · rw [lft_ne]
    have := fl_rng (a := 2 * a + b) (b := 2 * b) (by omega)
    have e : (2 * a + b) / (2 * b) * (2 * b) = 2 * ((2 * a + b) / (2 * b) * b) := by grind
    omega
theorem lft_pos {m : Mn} (hm : m ≠ .ne) {a b : Int} (h : 1 ≤ b) : 0 ≤ lft m a b := by
  cases m
  · rw [lft_fl]; have := fl_rng (a := a) h; omega
  · rw [lft_ce]; have := fl_rng (a := -a) h; omega
  · exact absurd rfl hm
/-- near: twice what is left is no more than the bottom -/
theorem lft_half {a b : Int} (h : 1 ≤ b) : -b ≤ 2 * lft .ne a b ∧ 2 * lft .ne a b < b := by
  rw [lft_ne]
  have := fl_rng (a := 2 * a + b) (b := 2 * b) (by omega)
  have e : (2 * a + b) / (2 * b) * (2 * b) = 2 * ((2 * a + b) / (2 * b) * b) := by grind
  omega
theorem lft_eq (m : Mn) (a b : Int) : a = trm m a b * b + sg m * lft m a b := by
  unfold lft
  cases m <;> simp only [sg] <;> grind
theorem gcd_lft (m : Mn) {a b : Int} (g : Int.gcd a b = 1) : Int.gcd b (lft m a b) = 1 := by
  have e := lft_eq m a b
  have : Int.gcd b (sg m * lft m a b) = 1 := by
    have e2 : sg m * lft m a b = a - b * trm m a b := by
      have := Int.mul_comm b (trm m a b)
      omega
    rw [e2, Int.gcd_sub_mul_left_right, Int.gcd_comm]
    exact g
  cases m <;> simp only [sg, Int.one_mul, Int.neg_mul, Int.gcd_neg] at this <;> exact this
theorem rowN_more (m : Mn) : ∀ (n k : Nat) {a b : Int}, 1 ≤ b → b ≤ n → n ≤ k → rowN m k a b = rowN m n a b
  | 0, k, a, b, h, h1, _ => by omega
  | n + 1, 0, a, b, h, h1, h2 => by omega
  | n + 1, k + 1, a, b, h, h1, h2 => by
    have r := lft_rng m (a := a) h
    unfold rowN
    congr 1
    by_cases z : lft m a b = 0
    · rw [if_pos z, if_pos z]
    · rw [if_neg z, if_neg z]
      by_cases z2 : lft m a b < 0
      · rw [if_pos z2, if_pos z2, rowN_more m n k (by omega) (by omega) (by omega)]
      · rw [if_neg z2, if_neg z2, rowN_more m n k (by omega) (by omega) (by omega)]
theorem row_step (m : Mn) {a b : Int} (h : 1 ≤ b) : row m a b = trm m a b :: if lft m a b = 0 then [] else if lft m a b < 0 then row m (-b) (-lft m a b) else row m b (lft m a b) := by
  have r := lft_rng m (a := a) h
  unfold row
  obtain ⟨n, e⟩ : ∃ n, b.toNat = n + 1 := ⟨b.toNat - 1, by omega⟩
  conv => lhs; rw [e]; unfold rowN
  congr 1
  by_cases z : lft m a b = 0
  · rw [if_pos z, if_pos z]
  · rw [if_neg z, if_neg z]
    by_cases z2 : lft m a b < 0
    · rw [if_pos z2, if_pos z2, rowN_more m (-lft m a b).toNat n (by omega) (by omega) (by omega)]
    · rw [if_neg z2, if_neg z2, rowN_more m (lft m a b).toNat n (by omega) (by omega) (by omega)]
/-- the pair that is left -/
def nxA (m : Mn) (a b : Int) : Int := if lft m a b < 0 then -b else b
def nxB (m : Mn) (a b : Int) : Int := if lft m a b < 0 then -lft m a b else lft m a b
theorem row_eq (m : Mn) {a b : Int} (h : 1 ≤ b) : row m a b = trm m a b :: if lft m a b = 0 then [] else row m (nxA m a b) (nxB m a b) := by
  rw [row_step m h]
  unfold nxA nxB
  congr 1
  split
  · rfl
  · split <;> rfl
theorem nx_ok (m : Mn) {a b : Int} (h : 1 ≤ b) (g : Int.gcd a b = 1) (z : lft m a b ≠ 0) : 1 ≤ nxB m a b ∧ nxB m a b < b ∧ Int.gcd (nxA m a b) (nxB m a b) = 1 ∧ (nxA m a b).natAbs = b.natAbs := by
  have r := lft_rng m (a := a) h
  have q := gcd_lft m g
  unfold nxA nxB
  split
  · exact ⟨by omega, by omega, by rw [Int.gcd_neg, Int.neg_gcd]; exact q, by omega⟩
  · exact ⟨by omega, by omega, q, rfl⟩
theorem row_ne (m : Mn) {a b : Int} (h : 1 ≤ b) : row m a b ≠ [] := by
  rw [row_eq m h]
  exact List.cons_ne_nil _ _
/-- no longer than the bottom -/
theorem row_len (m : Mn) : ∀ (n : Nat) {a b : Int}, 1 ≤ b → Int.gcd a b = 1 → b ≤ n → (row m a b).length ≤ b.toNat
  | 0, a, b, h, _, l => by omega
  | n + 1, a, b, h, g, l => by
    rw [row_eq m h]
    by_cases z : lft m a b = 0
    · rw [if_pos z]
      simp
      omega
    · rw [if_neg z, List.length_cons]
      obtain ⟨h1, h2, h3, _⟩ := nx_ok m h g z
      have := row_len m n h1 h3 (by omega)
      omega
/-! ### the number of a row -/
def col (m : Mn) : List Int → Int × Int
  | [] => (1, 0)
  | t :: r => (t * (col m r).1 + sg m * (col m r).2, (col m r).1)
theorem sg_sq (m : Mn) : sg m * sg m = 1 := by cases m <;> rfl
theorem one_of {a b t : Int} (h : 1 ≤ b) (g : Int.gcd a b = 1) (e : a = t * b) : b = 1 := by
  have d : b ∣ a := ⟨t, by rw [Int.mul_comm]; exact e⟩
  have q := Int.dvd_coe_gcd d (Int.dvd_refl b)
  rw [g] at q
  have := Int.le_of_dvd (by decide) q
  omega
theorem col_row (m : Mn) : ∀ (n : Nat) {a b : Int}, 1 ≤ b → Int.gcd a b = 1 → b ≤ n → col m (row m a b) = (a, b) ∨ col m (row m a b) = (-a, -b)
  | 0, a, b, h, _, l => by omega
  | n + 1, a, b, h, g, l => by
    rw [row_eq m h]
    have e := lft_eq m a b
    by_cases z : lft m a b = 0
    · rw [if_pos z]
      have b1 := one_of h g (t := trm m a b) (by rw [z] at e; omega)
      subst b1
      left
      show (trm m a 1 * 1 + sg m * 0, (1 : Int)) = (a, 1)
      rw [z] at e
      congr 1
      omega
    · rw [if_neg z]
      obtain ⟨h1, h2, h3, _⟩ := nx_ok m h g z
      have s := sg_sq m
      have ih := col_row m n h1 h3 (by omega)
      show (trm m a b * (col m (row m (nxA m a b) (nxB m a b))).1 + sg m * (col m (row m (nxA m a b) (nxB m a b))).2, (col m (row m (nxA m a b) (nxB m a b))).1) = (a, b) ∨ _ = _
      have key : ∀ (p r : Int), (p = b ∧ r = lft m a b) ∨ (p = -b ∧ r = -lft m a b) → ((trm m a b * p + sg m * r, p) = (a, b) ∨ (trm m a b * p + sg m * r, p) = (-a, -b)) := by
        rintro p r (⟨rfl, rfl⟩ | ⟨rfl, rfl⟩)
        · left; rw [← e]
        · right
          congr 1
          rw [Int.mul_neg, Int.mul_neg]
          omega
      refine key _ _ ?_
      unfold nxA nxB at ih ⊢
      by_cases z2 : lft m a b < 0
      · rw [if_pos z2, if_pos z2] at ih
        rw [if_pos z2, if_pos z2]
        rcases ih with ih | ih
        · rw [ih]; right; exact ⟨rfl, rfl⟩
        · rw [ih]; left; exact ⟨Int.neg_neg _, Int.neg_neg _⟩
      · rw [if_neg z2, if_neg z2] at ih
        rw [if_neg z2, if_neg z2]
        rcases ih with ih | ih
        · rw [ih]; left; exact ⟨rfl, rfl⟩
        · rw [ih]; right; exact ⟨rfl, rfl⟩
theorem row_inj (m : Mn) {a b c d : Int} (h : 1 ≤ b) (g : Int.gcd a b = 1) (h' : 1 ≤ d) (g' : Int.gcd c d = 1) (e : row m a b = row m c d) : a = c ∧ b = d := by
  have h1 := col_row m b.toNat h g (by omega)
  have h2 := col_row m d.toNat h' g' (by omega)
  rw [e] at h1
  rcases h1 with h1 | h1 <;> rcases h2 with h2 | h2 <;> (rw [h1] at h2; have e1 := congrArg Prod.fst h2; have e2 := congrArg Prod.snd h2; dsimp only at e1 e2; omega)
/-! ### a whole number more -/
theorem trm_add (m : Mn) {a b n : Int} (h : 1 ≤ b) : trm m (a + n * b) b = trm m a b + n := by
  cases m
  · show (a + n * b) / b = _
    exact Int.add_mul_ediv_right _ _ (by omega)
  · show -((-(a + n * b)) / b) = -((-a) / b) + n
    have e : -(a + n * b) = -a + (-n) * b := by grind
    rw [e, Int.add_mul_ediv_right _ _ (by omega)]
    omega
  · show (2 * (a + n * b) + b) / (2 * b) = (2 * a + b) / (2 * b) + n
    have e : 2 * (a + n * b) + b = (2 * a + b) + n * (2 * b) := by grind
    rw [e, Int.add_mul_ediv_right _ _ (by omega)]
theorem lft_add (m : Mn) {a b n : Int} (h : 1 ≤ b) : lft m (a + n * b) b = lft m a b := by
  unfold lft
  rw [trm_add m h]
  congr 1
  grind
theorem row_add (m : Mn) {a b n : Int} (h : 1 ≤ b) : row m (a + n * b) b = (trm m a b + n) :: (row m a b).tail := by
  rw [row_eq m h, row_eq m h, trm_add m h]
  unfold nxA nxB
  rw [lft_add m h]
  rfl
theorem gcd_add {a b n : Int} (g : Int.gcd a b = 1) : Int.gcd (a + n * b) b = 1 := by
  rw [Int.gcd_add_mul_right_left]
  exact g
/-! ### ceil -/
theorem ce_fl {a b : Int} : trm .ce a b = -trm .fl (-a) b := rfl
theorem ce_lft {a b : Int} : lft .ce a b = lft .fl (-a) b := by rw [lft_ce, lft_fl]
def less : List Int → List Int → Bool
  | [], _ => false
  | _ :: _, [] => true
  | a :: r, b :: s => if a = b then less r s else decide (a < b)
theorem row_ce {a b : Int} (h : 1 ≤ b) : row .ce a b = trm .ce a b :: if lft .ce a b = 0 then [] else row .ce b (lft .ce a b) := by
  rw [row_eq _ h]
  have p := lft_pos (m := .ce) (by decide) (a := a) h
  have n : ¬ lft .ce a b < 0 := by omega
  unfold nxA nxB
  rw [if_neg n, if_neg n]
theorem less_ce : ∀ (n : Nat) {a b c d : Int}, 1 ≤ b → Int.gcd a b = 1 → 1 ≤ d → Int.gcd c d = 1 → ¬ a * d = c * b → b ≤ n → less (row .ce a b) (row .ce c d) = decide (a * d < c * b)
  | 0, a, b, c, d, h, _, _, _, _, l => by omega
  | n + 1, a, b, c, d, h, g, h', g', ne, l => by
    rw [row_ce h, row_ce h']
    have e1 := lft_eq .ce a b
    have e2 := lft_eq .ce c d
    have p1 := lft_pos (m := .ce) (by decide) (a := a) h
    have p2 := lft_pos (m := .ce) (by decide) (a := c) h'
    have r1 := lft_rng .ce (a := a) h
    have r2 := lft_rng .ce (a := c) h'
    have k1 := gcd_lft .ce g
    have k2 := gcd_lft .ce g'
    simp only [sg] at e1 e2
    revert e1 e2 p1 p2 r1 r2 k1 k2
    generalize lft .ce a b = u
    generalize lft .ce c d = v
    generalize trm .ce a b = s
    generalize trm .ce c d = t
    intro e1 e2 p1 p2 r1 r2 k1 k2
    unfold less
    by_cases q : s = t
    · subst q
      rw [if_pos rfl]
      -- a d < c b says v b < u d
      have ad : a * d = s * b * d - u * d := by rw [e1]; grind
      have cb : c * b = s * b * d - v * b := by rw [e2]; grind
      by_cases zu : u = 0
      · rw [if_pos zu]
        subst zu
        have : 0 ≤ v * b := Int.mul_nonneg p2 (by omega)
        unfold less
        exact (decide_eq_false (by omega)).symm
      · rw [if_neg zu]
        by_cases zv : v = 0
        · rw [if_pos zv]
          subst zv
          have : 0 < u * d := Int.mul_pos (by omega) (by omega)
          have hn := row_ne .ce (a := b) (b := u) (by omega)
          cases hr : row .ce b u with
          | nil => exact absurd hr hn
          | cons x r =>
            unfold less
            exact (decide_eq_true (by omega)).symm
        · rw [if_neg zv, less_ce n (a := b) (b := u) (c := d) (d := v) (by omega) k1 (by omega) k2 ?_ (by omega)]
          · have x1 := Int.mul_comm b v
            have x2 := Int.mul_comm d u
            by_cases y : b * v < d * u
            · rw [decide_eq_true y, decide_eq_true (by omega)]
            · rw [decide_eq_false y, decide_eq_false (by omega)]
          · have x1 := Int.mul_comm b v
            have x2 := Int.mul_comm d u
            omega
    · rw [if_neg q]
      have bd : 0 < b * d := Int.mul_pos (by omega) (by omega)
      have ad : a * d = s * (b * d) - u * d := by rw [e1]; grind
      have cb : c * b = t * (b * d) - v * b := by rw [e2]; grind
      have u0 : 0 ≤ u * d := Int.mul_nonneg p1 (by omega)
      have v0 : 0 ≤ v * b := Int.mul_nonneg p2 (by omega)
      have u1 : u * d < b * d := Int.mul_lt_mul_of_pos_right (by omega) (by omega)
      have v1 : v * b < b * d := by
        have := Int.mul_lt_mul_of_pos_right r2.2 (show 0 < b by omega)
        have := Int.mul_comm b d
        omega
      by_cases y : s < t
      · rw [decide_eq_true y]
        have : (s + 1) * (b * d) ≤ t * (b * d) := Int.mul_le_mul_of_nonneg_right (by omega) (by omega)
        have : (s + 1) * (b * d) = s * (b * d) + b * d := by grind
        exact (decide_eq_true (by omega)).symm
      · rw [decide_eq_false y]
        have : (t + 1) * (b * d) ≤ s * (b * d) := Int.mul_le_mul_of_nonneg_right (by omega) (by omega)
        have : (t + 1) * (b * d) = t * (b * d) + b * d := by grind
        exact (decide_eq_false (by omega)).symm
/-- where two rows part first -/
theorem less_at : ∀ (k : Nat) {r s : List Int}, (∀ j, j < k → r[j]? = s[j]?) → r[k]? ≠ s[k]? → less r s = match r[k]?, s[k]? with | none, _ => false | some _, none => true | some x, some y => decide (x < y)
  | 0, [], [], _, h => absurd rfl h
  | 0, [], _ :: _, _, _ => rfl
  | 0, _ :: _, [], _, _ => rfl
  | 0, a :: r, b :: s, _, h => by
    have n : a ≠ b := fun e => h (by rw [e]; rfl)
    show (if a = b then _ else _) = _
    rw [if_neg n]
    rfl
  | k + 1, [], [], _, h => absurd rfl h
  | k + 1, [], b :: s, h, _ => by have := h 0 (by omega); cases this
  | k + 1, a :: r, [], h, _ => by have := h 0 (by omega); cases this
  | k + 1, a :: r, b :: s, h, n => by
    have e : a = b := Option.some.inj (h 0 (by omega))
    show (if a = b then less r s else _) = _
    rw [if_pos e, less_at k (r := r) (s := s) (fun j hj => h (j + 1) (by omega)) n]
    rfl
/-! ### legal rows -/
def fits : Mn → Option Int → Int → Bool
  | .fl, _, t => decide (1 ≤ t)
  | .ce, _, t => decide (2 ≤ t)
  | .ne, ah, t => if -2 < t ∧ t < 2 then false else if ah = some 2 then decide (0 < t) else (!decide (ah = some (-2)) || decide (t < 0))
def ends : Mn → Int → Bool
  | .fl, t => !decide (t = 1)
  | .ce, _ => true
  | .ne, t => !decide (t = 2)
/-- the terms behind the first one, the one ahead told -/
def good (m : Mn) : Option Int → List Int → Prop
  | _, [] => True
  | ah, t :: r => fits m ah t = true ∧ (r = [] → ends m t = true) ∧ good m (some t) r
/-- what a number behind the first term is -/
def Behind (m : Mn) (ah : Option Int) (a b : Int) : Prop := match m with
  | .ne => (2 * b < a ∨ a ≤ -(2 * b)) ∧ (ah = some 2 → 0 < a) ∧ (ah = some (-2) → a < 0)
  | _ => b < a
theorem behind_nx (m : Mn) {a b : Int} (h : 1 ≤ b) (z : lft m a b ≠ 0) : Behind m none (nxA m a b) (nxB m a b) := by
  have r := lft_rng m (a := a) h
  cases m
  · have p := lft_pos (m := .fl) (by decide) (a := a) h
    unfold nxA nxB Behind
    rw [if_neg (by omega), if_neg (by omega)]
    omega
  · have p := lft_pos (m := .ce) (by decide) (a := a) h
    unfold nxA nxB Behind
    rw [if_neg (by omega), if_neg (by omega)]
    omega
  · have p := lft_half (a := a) h
    unfold nxA nxB Behind
    refine ⟨?_, (fun q => nomatch q), (fun q => nomatch q)⟩
    split <;> omega
theorem trm_behind (m : Mn) {ah : Option Int} {a b : Int} (h : 1 ≤ b) (B : Behind m ah a b) : fits m ah (trm m a b) = true ∧ (lft m a b = 0 → ends m (trm m a b) = true) ∧ (lft m a b ≠ 0 → Behind m (some (trm m a b)) (nxA m a b) (nxB m a b)) := by
  have e := lft_eq m a b
  have r := lft_rng m (a := a) h
  have bn := fun z => behind_nx m (a := a) h z
  cases m
  · have p := lft_pos (m := .fl) (by decide) (a := a) h
    simp only [sg, Int.one_mul] at e
    have B : b < a := B
    have t1 : 1 ≤ trm .fl a b := by
      by_cases q : (trm .fl a b) < 1
      · have : trm .fl a b * b ≤ 0 * b := Int.mul_le_mul_of_nonneg_right (by omega) (by omega)
        omega
      · omega
    refine ⟨decide_eq_true t1, fun z => ?_, bn⟩
    have : trm .fl a b ≠ 1 := fun q => by rw [q, z] at e; omega
    show (!decide (trm .fl a b = 1)) = true
    rw [decide_eq_false this]
    rfl
  · have p := lft_pos (m := .ce) (by decide) (a := a) h
    simp only [sg] at e
    have B : b < a := B
    have t1 : 2 ≤ trm .ce a b := by
      by_cases q : (trm .ce a b) < 2
      · have : trm .ce a b * b ≤ 1 * b := Int.mul_le_mul_of_nonneg_right (by omega) (by omega)
        omega
      · omega
    exact ⟨decide_eq_true t1, fun _ => rfl, bn⟩
  · have p := lft_half (a := a) h
    simp only [sg, Int.one_mul] at e
    obtain ⟨B1, B2, B3⟩ := B
    have nb := fun z => behind_nx .ne (a := a) h z
    generalize hl : lft .ne a b = l at *
    generalize ht : trm .ne a b = t at *
    -- the term lies on the side of a
    have up : 2 * b < a → 2 ≤ t := fun q => by
      by_cases q2 : t < 2
      · have : t * b ≤ 1 * b := Int.mul_le_mul_of_nonneg_right (by omega) (by omega)
        omega
      · omega
    have down : a ≤ -(2 * b) → t ≤ -2 := fun q => by
      by_cases q2 : (-2) < t
      · have : (-1) * b ≤ t * b := Int.mul_le_mul_of_nonneg_right (by omega) (by omega)
        omega
      · omega
    refine ⟨?_, fun z => ?_, fun z => ?_⟩
    · show (if -2 < t ∧ t < 2 then false else if ah = some 2 then decide (0 < t) else (!decide (ah = some (-2)) || decide (t < 0))) = true
      rw [if_neg (by omega)]
      by_cases q : ah = some 2
      · rw [if_pos q]
        have := B2 q
        exact decide_eq_true (by omega)
      · rw [if_neg q]
        by_cases q2 : ah = some (-2)
        · have := B3 q2
          rw [decide_eq_true (show t < 0 by omega)]
          simp
        · rw [decide_eq_false q2]
          rfl
    · have : t ≠ 2 := fun q => by
        rw [q, z] at e
        omega
      show (!decide (t = 2)) = true
      rw [decide_eq_false this]
      rfl
    · have N := nb z
      unfold Behind at N ⊢
      refine ⟨N.1, fun q => ?_, fun q => ?_⟩
      · have q : t = 2 := Option.some.inj q
        rw [q] at e
        unfold nxA
        rw [hl, if_neg (by omega)]
        omega
      · have q : t = -2 := Option.some.inj q
        rw [q] at e
        unfold nxA
        rw [hl, if_pos (by omega)]
        omega
theorem good_behind (m : Mn) : ∀ (n : Nat) {ah : Option Int} {a b : Int}, 1 ≤ b → Int.gcd a b = 1 → b ≤ n → Behind m ah a b → good m ah (row m a b)
  | 0, ah, a, b, h, _, l, _ => by omega
  | n + 1, ah, a, b, h, g, l, B => by
    rw [row_eq m h]
    obtain ⟨h1, h2, h3⟩ := trm_behind m h B
    by_cases z : lft m a b = 0
    · rw [if_pos z]
      exact ⟨h1, fun _ => h2 z, trivial⟩
    · rw [if_neg z]
      obtain ⟨k1, k2, k3, _⟩ := nx_ok m h g z
      exact ⟨h1, fun q => absurd q (row_ne m k1), good_behind m n k1 k3 (by omega) (h3 z)⟩
theorem good_row (m : Mn) {a b : Int} (h : 1 ≤ b) (g : Int.gcd a b = 1) : good m none (row m a b).tail := by
  rw [row_eq m h]
  show good m none (if lft m a b = 0 then [] else row m (nxA m a b) (nxB m a b))
  by_cases z : lft m a b = 0
  · rw [if_pos z]
    trivial
  · rw [if_neg z]
    obtain ⟨k1, k2, k3, _⟩ := nx_ok m h g z
    exact good_behind m _ k1 k3 (Int.self_le_toNat _) (behind_nx m h z)
theorem good_at (m : Mn) : ∀ {r : List Int} {ah : Option Int} (i : Nat) {t : Int}, good m ah r → r[i]? = some t → fits m (if i = 0 then ah else r[i - 1]?) t = true
  | [], ah, i, t, _, h => by simp at h
  | x :: r, ah, 0, t, h, e => by
    have e : x = t := Option.some.inj e
    subst e
    exact h.1
  | x :: r, ah, i + 1, t, h, e => by
    have := good_at m (r := r) (ah := some x) i (t := t) h.2.2 e
    rw [if_neg (by omega)]
    cases i with
    | zero => exact this
    | succ i =>
      rw [if_neg (by omega)] at this
      exact this
theorem good_last (m : Mn) : ∀ {r : List Int} {ah : Option Int} {t : Int}, good m ah r → r.getLast? = some t → ends m t = true
  | [], ah, t, _, h => by simp at h
  | [x], ah, t, h, e => by
    have e : x = t := by simpa using e
    subst e
    exact h.2.1 rfl
  | x :: y :: r, ah, t, h, e => good_last m (r := y :: r) h.2.2 (by simpa using e)
/-- the terms are not great -/
theorem trm_bd (m : Mn) {a b : Int} (h : 1 ≤ b) : (trm m a b).natAbs ≤ a.natAbs + 1 := by
  have e := lft_eq m a b
  have r := lft_rng m (a := a) h
  have s : sg m * lft m a b = lft m a b ∨ sg m * lft m a b = -lft m a b := by cases m <;> simp [sg]
  by_cases q : (trm m a b) < 0
  · by_cases q2 : trm m a b < -(a.natAbs + 1)
    · have : trm m a b * b ≤ (-(a.natAbs + 1) - 1) * b := Int.mul_le_mul_of_nonneg_right (by omega) (by omega)
      have : (-(a.natAbs + 1 : Int) - 1) * b = -(a.natAbs * b) - b - b := by grind
      have : (a.natAbs : Int) * 1 ≤ a.natAbs * b := Int.mul_le_mul_of_nonneg_left h (by omega)
      omega
    · omega
  · by_cases q2 : (a.natAbs + 1) < (trm m a b)
    · have : (a.natAbs + 1 + 1) * b ≤ trm m a b * b := Int.mul_le_mul_of_nonneg_right (by omega) (by omega)
      have : ((a.natAbs : Int) + 1 + 1) * b = a.natAbs * b + b + b := by grind
      have : (a.natAbs : Int) * 1 ≤ a.natAbs * b := Int.mul_le_mul_of_nonneg_left h (by omega)
      omega
    · omega
theorem row_bd (m : Mn) : ∀ (n : Nat) {a b : Int}, 1 ≤ b → Int.gcd a b = 1 → b ≤ n → ∀ t ∈ (row m a b).tail, t.natAbs ≤ b.natAbs + 1
  | 0, a, b, h, _, l => by omega
  | n + 1, a, b, h, g, l => by
    rw [row_eq m h]
    show ∀ t ∈ (if lft m a b = 0 then [] else row m (nxA m a b) (nxB m a b)), t.natAbs ≤ b.natAbs + 1
    by_cases z : lft m a b = 0
    · rw [if_pos z]
      intro t ht
      cases ht
    · rw [if_neg z]
      obtain ⟨k1, k2, k3, k4⟩ := nx_ok m h g z
      have ih := row_bd m n k1 k3 (by omega)
      intro t ht
      rw [row_eq m k1] at ht ih
      rcases List.mem_cons.mp ht with q | q
      · rw [q]
        have := trm_bd m (a := nxA m a b) k1
        omega
      · have := ih t q
        omega
end K55

/-! K55: what each def promises. -/
namespace K55
open PySem DW
def Pu (n : Nat) (p : List D) : Prop := ∃ a b c : Int, p = [.int a, .int b, .int c] ∧ 0 ≤ a ∧ 0 ≤ b ∧ b < 2147483629 ∧ 0 ≤ c ∧ c ≤ n
theorem Pu.mono {n m : Nat} {p : List D} (h : Pu n p) (l : n ≤ m) : Pu m p := by
  obtain ⟨a, b, c, e, h1, h2, h3, h4, h5⟩ := h
  exact ⟨a, b, c, e, h1, h2, h3, h4, by omega⟩
abbrev pr (a b : Int) : D := .tup [.int a, .int b]
def txt : Mn → Str
  | .fl => Str.ofString "floor"
  | .ce => Str.ofString "ceil"
  | .ne => Str.ofString "near"
def cls : Mn → Str
  | .fl => Str.ofString "Manner"
  | .ce => Str.ofString "Ceils"
  | .ne => Str.ofString "Nears"
def optD : Option Int → D
  | none => .non
  | some i => .int i
/-- a fraction that is asked for -/
def Fr (a b : Int) : Prop := 1 ≤ b ∧ b ≤ 900 ∧ Int.gcd a b = 1 ∧ Bd 70 a
/-- .. as it is drawn -/
def Dr (a b : Int) : Prop := 1 ≤ b ∧ b ≤ 900 ∧ Int.gcd a b = 1 ∧ Bd 55 a
theorem Dr.fr {a b : Int} (h : Dr a b) : Fr a b := ⟨h.1, h.2.1, h.2.2.1, h.2.2.2.mono (by decide)⟩
def sp__law_purse : FS := fun dvs k => ∃ c : Int, dvs = [.val (.int c)] ∧ ∀ p, Pu 0 p → k (.ret (.own p)) dvs
def sp__law_take : FS := fun dvs k => ∃ (p : List D) (m : Int) (n : Nat), dvs = [.par p, .val (.int m)] ∧ Pu n p ∧ n ≤ 1000000 ∧ 1 ≤ m ∧ m < 2 ^ 100 ∧ ∀ (d : Int) p', 0 ≤ d → d < m → Pu (n + 1) p' → k (.ret (.val (.int d))) [.par p', .val (.int m)]
def sp__law_common : FS := fun dvs k => ∃ a b : Int, dvs = [.val (.int a), .val (.int b)] ∧ k (.ret (.val (.int (Int.gcd a b)))) dvs
def sp_common : FS := fun dvs k => ∃ a b : Int, dvs = [.val (.int a), .val (.int b)] ∧ k (.ret (.val (.int (Int.gcd a b)))) dvs
def sp__law_lowest : FS := fun dvs k => ∃ a b : Int, dvs = [.val (.int a), .val (.int b)] ∧ 1 ≤ b ∧ b ≤ 900 ∧ Bd 55 a ∧ k (.ret (.val (pr (a / (Int.gcd a b : Int)) (b / (Int.gcd a b : Int))))) dvs
def sp__law_drawn : FS := fun dvs k => ∃ (p : List D) (n : Nat), dvs = [.par p] ∧ Pu n p ∧ n ≤ 100000 ∧ ∀ (a b : Int) p', Dr a b → b ≤ 300 → Bd 51 a → Pu (n + 5) p' → k (.ret (.val (pr a b))) [.par p']
def sp__law_other : FS := fun dvs k => ∃ (p : List D) (n : Nat) (a b : Int), dvs = [.par p, .val (pr a b)] ∧ Pu n p ∧ n ≤ 10000 ∧ Dr a b ∧ b ≤ 300 ∧ Bd 51 a ∧ ∀ (c d : Int) p', Dr c d → Pu (n + 7) p' → k (.ret (.val (pr c d))) [.par p', .val (pr a b)]
def sp__law_cell : FS := fun dvs k => ∃ (ns : List Int) (j : Int), dvs = [.val (.lst (ns.map .int)), .val (.int j)] ∧ 0 ≤ j ∧ j < 1000 ∧ ∀ c : Int, k (.ret (.val (.int c))) dvs
def sp_is_number : FS := fun dvs k => ∃ a : Int, dvs = [.val (.int a)] ∧ k (.ret (.val (.bl true))) dvs
def sp_is_fraction : FS := fun dvs k => ∃ a b : Int, dvs = [.val (pr a b)] ∧ (1 ≤ b ∧ Int.gcd a b = 1) ∧ k (.ret (.val (.bl true))) dvs
def sp_need_fraction : FS := fun dvs k => ∃ a b : Int, dvs = [.val (pr a b)] ∧ (1 ≤ b ∧ Int.gcd a b = 1) ∧ k (.ret (.val .non)) dvs
def sp_is_manner : FS := fun dvs k => ∃ m : Mn, dvs = [.val (.str (txt m))] ∧ k (.ret (.val (.bl true))) dvs
def sp_manner_of : FS := fun dvs k => ∃ m : Mn, dvs = [.val (.str (txt m))] ∧ k (.ret (.val (.obj (cls m)))) dvs
def sp_whole_of : FS := fun dvs k => ∃ (m : Mn) (a b : Int), dvs = [.val (pr a b), .val (.str (txt m))] ∧ Fr a b ∧ k (.ret (.val (.int (trm m a b)))) dvs
def sp_Manner_word : FS := fun dvs k => dvs = [.val (.obj (cls .fl))] ∧ k (.ret (.val (.str (txt .fl)))) dvs
def sp_Ceils_word : FS := fun dvs k => dvs = [.val (.obj (cls .ce))] ∧ k (.ret (.val (.str (txt .ce)))) dvs
def sp_Nears_word : FS := fun dvs k => dvs = [.val (.obj (cls .ne))] ∧ k (.ret (.val (.str (txt .ne)))) dvs
def sp_Manner_turned : FS := fun dvs k => ∃ m : Mn, dvs = [.val (.obj (cls m))] ∧ k (.ret (.val (.int 1))) dvs
def sp_Ceils_turned : FS := fun dvs k => dvs = [.val (.obj (cls .ce))] ∧ k (.ret (.val (.int (-1)))) dvs
def sp_made : FS := fun dvs k => ∃ a b : Int, dvs = [.val (.int a), .val (.int b)] ∧ b ≠ 0 ∧ Int.gcd a b = 1 ∧ k (.ret (.val (if b < 0 then pr (-a) (-b) else pr a b))) dvs
def sp_row_of : FS := fun dvs k => ∃ (m : Mn) (a b : Int), dvs = [.val (pr a b), .val (.str (txt m))] ∧ Fr a b ∧ k (.ret (.val (.lst ((row m a b).map .int)))) dvs
def sp__law_turned_right : FS := fun dvs k => ∃ a b : Int, dvs = [.val (pr a b)] ∧ Dr a b ∧ k (.ret (.val (.bl true))) dvs
def sp_Manner_fits : FS := fun dvs k => ∃ (ah : Option Int) (t : Int), dvs = [.val (.obj (cls .fl)), .val (optD ah), .val (.int t)] ∧ k (.ret (.val (.bl (fits .fl ah t)))) dvs
def sp_Ceils_fits : FS := fun dvs k => ∃ (ah : Option Int) (t : Int), dvs = [.val (.obj (cls .ce)), .val (optD ah), .val (.int t)] ∧ k (.ret (.val (.bl (fits .ce ah t)))) dvs
def sp_Nears_fits : FS := fun dvs k => ∃ (ah : Option Int) (t : Int), dvs = [.val (.obj (cls .ne)), .val (optD ah), .val (.int t)] ∧ k (.ret (.val (.bl (fits .ne ah t)))) dvs
def sp_is_beginning : FS := fun dvs k => ∃ (m : Mn) (f : Int) (r : List Int), dvs = [.val (.obj (cls m)), .val (.lst ((f :: r).map .int))] ∧ good m none r ∧ r.length ≤ 1000 ∧ k (.ret (.val (.bl true))) dvs
def sp_Manner_ends : FS := fun dvs k => ∃ t : Int, dvs = [.val (.obj (cls .fl)), .val (.int t)] ∧ k (.ret (.val (.bl (ends .fl t)))) dvs
def sp_Ceils_ends : FS := fun dvs k => ∃ t : Int, dvs = [.val (.obj (cls .ce)), .val (.int t)] ∧ k (.ret (.val (.bl (ends .ce t)))) dvs
def sp_Nears_ends : FS := fun dvs k => ∃ t : Int, dvs = [.val (.obj (cls .ne)), .val (.int t)] ∧ k (.ret (.val (.bl (ends .ne t)))) dvs
def sp_is_ending : FS := fun dvs k => ∃ (m : Mn) (f : Int) (r : List Int), dvs = [.val (.obj (cls m)), .val (.lst ((f :: r).map .int))] ∧ good m none r ∧ k (.ret (.val (.bl true))) dvs
def sp_is_row : FS := fun dvs k => ∃ (m : Mn) (f : Int) (r : List Int), dvs = [.val (.lst ((f :: r).map .int)), .val (.str (txt m))] ∧ good m none r ∧ r.length ≤ 1000 ∧ k (.ret (.val (.bl true))) dvs
/-- two by two, below 2^n -/
abbrev mat (a b c d : Int) : D := .tup [pr a b, pr c d]
def sp_product : FS := fun dvs k => ∃ (a b c d e f g h : Int), dvs = [.val (mat a b c d), .val (mat e f g h)] ∧ (Bd 100000 a ∧ Bd 100000 b ∧ Bd 100000 c ∧ Bd 100000 d) ∧ (Bd 100000 e ∧ Bd 100000 f ∧ Bd 100000 g ∧ Bd 100000 h) ∧ k (.ret (.val (mat (a * e + b * g) (a * f + b * h) (c * e + d * g) (c * f + d * h)))) dvs
def sp_number_of : FS := fun dvs k => ∃ (m : Mn) (a b : Int), dvs = [.val (.lst ((row m a b).map .int)), .val (.str (txt m))] ∧ Fr a b ∧ k (.ret (.val (pr a b))) dvs
def sp__law_ceils_part : FS := fun dvs k => ∃ a b c d : Int, dvs = [.val (pr a b), .val (pr c d)] ∧ Dr a b ∧ Dr c d ∧ ¬ (a = c ∧ b = d) ∧ k (.ret (.val (.bl true))) dvs
def sp_law : FS := fun dvs k => ∃ ns : List Int, dvs = [.val (.lst (ns.map .int))] ∧ ns.length ≤ 63 ∧ k (.ret (.val (.bl true))) dvs
theorem law_ints (ns : List Int) (h : ns.length ≤ 63) : sp_law [.val (.lst (ns.map .int))] fun o _ => o = .ret (.val (.bl true)) := ⟨ns, rfl, h, rfl⟩
end K55

namespace K55
open PySem DW
theorem len__law_purse : ∀ dvs kk, sp__law_purse dvs kk → dvs.length = 1 := by
  rintro dvs kk ⟨_, rfl, h⟩
  rfl
theorem len__law_take : ∀ dvs kk, sp__law_take dvs kk → dvs.length = 2 := by
  rintro dvs kk ⟨_, _, _, rfl, h⟩
  rfl
theorem len__law_common : ∀ dvs kk, sp__law_common dvs kk → dvs.length = 2 := by
  rintro dvs kk ⟨_, _, rfl, h⟩
  rfl
theorem len_common : ∀ dvs kk, sp_common dvs kk → dvs.length = 2 := by
  rintro dvs kk ⟨_, _, rfl, h⟩
  rfl
theorem len__law_lowest : ∀ dvs kk, sp__law_lowest dvs kk → dvs.length = 2 := by
  rintro dvs kk ⟨_, _, rfl, h⟩
  rfl
theorem len__law_drawn : ∀ dvs kk, sp__law_drawn dvs kk → dvs.length = 1 := by
  rintro dvs kk ⟨_, _, rfl, h⟩
  rfl
theorem len__law_other : ∀ dvs kk, sp__law_other dvs kk → dvs.length = 2 := by
  rintro dvs kk ⟨_, _, _, _, rfl, h⟩
  rfl
theorem len__law_cell : ∀ dvs kk, sp__law_cell dvs kk → dvs.length = 2 := by
  rintro dvs kk ⟨_, _, rfl, h⟩
  rfl
theorem len_is_number : ∀ dvs kk, sp_is_number dvs kk → dvs.length = 1 := by
  rintro dvs kk ⟨_, rfl, h⟩
  rfl
theorem len_is_fraction : ∀ dvs kk, sp_is_fraction dvs kk → dvs.length = 1 := by
  rintro dvs kk ⟨_, _, rfl, h⟩
  rfl
theorem len_need_fraction : ∀ dvs kk, sp_need_fraction dvs kk → dvs.length = 1 := by
  rintro dvs kk ⟨_, _, rfl, h⟩
  rfl
theorem len_is_manner : ∀ dvs kk, sp_is_manner dvs kk → dvs.length = 1 := by
  rintro dvs kk ⟨_, rfl, h⟩
  rfl
theorem len_manner_of : ∀ dvs kk, sp_manner_of dvs kk → dvs.length = 1 := by
  rintro dvs kk ⟨_, rfl, h⟩
  rfl
theorem len_whole_of : ∀ dvs kk, sp_whole_of dvs kk → dvs.length = 2 := by
  rintro dvs kk ⟨_, _, _, rfl, h⟩
  rfl
theorem len_Manner_turned : ∀ dvs kk, sp_Manner_turned dvs kk → dvs.length = 1 := by
  rintro dvs kk ⟨_, rfl, h⟩
  rfl
theorem len_made : ∀ dvs kk, sp_made dvs kk → dvs.length = 2 := by
  rintro dvs kk ⟨_, _, rfl, h⟩
  rfl
theorem len_row_of : ∀ dvs kk, sp_row_of dvs kk → dvs.length = 2 := by
  rintro dvs kk ⟨_, _, _, rfl, h⟩
  rfl
theorem len__law_turned_right : ∀ dvs kk, sp__law_turned_right dvs kk → dvs.length = 1 := by
  rintro dvs kk ⟨_, _, rfl, h⟩
  rfl
theorem len_Manner_fits : ∀ dvs kk, sp_Manner_fits dvs kk → dvs.length = 3 := by
  rintro dvs kk ⟨_, _, rfl, h⟩
  rfl
theorem len_Ceils_fits : ∀ dvs kk, sp_Ceils_fits dvs kk → dvs.length = 3 := by
  rintro dvs kk ⟨_, _, rfl, h⟩
  rfl
theorem len_Nears_fits : ∀ dvs kk, sp_Nears_fits dvs kk → dvs.length = 3 := by
  rintro dvs kk ⟨_, _, rfl, h⟩
  rfl
theorem len_is_beginning : ∀ dvs kk, sp_is_beginning dvs kk → dvs.length = 2 := by
  rintro dvs kk ⟨_, _, _, rfl, h⟩
  rfl
theorem len_Manner_ends : ∀ dvs kk, sp_Manner_ends dvs kk → dvs.length = 2 := by
  rintro dvs kk ⟨_, rfl, h⟩
  rfl
theorem len_Ceils_ends : ∀ dvs kk, sp_Ceils_ends dvs kk → dvs.length = 2 := by
  rintro dvs kk ⟨_, rfl, h⟩
  rfl
theorem len_Nears_ends : ∀ dvs kk, sp_Nears_ends dvs kk → dvs.length = 2 := by
  rintro dvs kk ⟨_, rfl, h⟩
  rfl
theorem len_is_ending : ∀ dvs kk, sp_is_ending dvs kk → dvs.length = 2 := by
  rintro dvs kk ⟨_, _, _, rfl, h⟩
  rfl
theorem len_is_row : ∀ dvs kk, sp_is_row dvs kk → dvs.length = 2 := by
  rintro dvs kk ⟨_, _, _, rfl, h⟩
  rfl
theorem len_product : ∀ dvs kk, sp_product dvs kk → dvs.length = 2 := by
  rintro dvs kk ⟨_, _, _, _, _, _, _, _, rfl, h⟩
  rfl
theorem len_number_of : ∀ dvs kk, sp_number_of dvs kk → dvs.length = 2 := by
  rintro dvs kk ⟨_, _, _, rfl, h⟩
  rfl
theorem len__law_ceils_part : ∀ dvs kk, sp__law_ceils_part dvs kk → dvs.length = 2 := by
  rintro dvs kk ⟨_, _, _, _, rfl, h⟩
  rfl
theorem len_law : ∀ dvs kk, sp_law dvs kk → dvs.length = 1 := by
  rintro dvs kk ⟨_, rfl, h⟩
  rfl
theorem len_Manner_word : ∀ dvs kk, sp_Manner_word dvs kk → dvs.length = 1 := by
  rintro dvs kk ⟨rfl, h⟩
  rfl
theorem len_Ceils_word : ∀ dvs kk, sp_Ceils_word dvs kk → dvs.length = 1 := by
  rintro dvs kk ⟨rfl, h⟩
  rfl
theorem len_Nears_word : ∀ dvs kk, sp_Nears_word dvs kk → dvs.length = 1 := by
  rintro dvs kk ⟨rfl, h⟩
  rfl
theorem len_Ceils_turned : ∀ dvs kk, sp_Ceils_turned dvs kk → dvs.length = 1 := by
  rintro dvs kk ⟨rfl, h⟩
  rfl
end K55

/-! the transformers of the defs, printed by gen.py -/
namespace K55
open PySem DW
def ms_word : List (Str × FS) := [(Str.ofString "Manner", sp_Manner_word), (Str.ofString "Ceils", sp_Ceils_word), (Str.ofString "Nears", sp_Nears_word)]
def ms_turned : List (Str × FS) := [(Str.ofString "Manner", sp_Manner_turned), (Str.ofString "Ceils", sp_Ceils_turned), (Str.ofString "Nears", sp_Manner_turned)]
def ms_fits : List (Str × FS) := [(Str.ofString "Manner", sp_Manner_fits), (Str.ofString "Ceils", sp_Ceils_fits), (Str.ofString "Nears", sp_Nears_fits)]
def ms_ends : List (Str × FS) := [(Str.ofString "Manner", sp_Manner_ends), (Str.ofString "Ceils", sp_Ceils_ends), (Str.ofString "Nears", sp_Nears_ends)]
/-- _law_purse(cell), slots 0 cell; level 1 -/
def w__law_purse : WS := (wRetO (wLst [(wBin dMax (wC (.int 0)) (wBin dSub (wVar 0) (wBin dPow (wC (.int 10)) (wC (.int 18))))), (wBin dMod (wVar 0) (wC (.int 2147483629))), (wC (.int 0))]))
/-- _law_take(purse, many), slots 0 purse*, 1 many, 2 digit, 3 one, 4 other; level 1 -/
def w__law_take : WS := (wSeq (wIfS (wTst (wBin dGt (wIxO 0 (wC (.int 0))) (wC (.int 0)))) (wSeq (wAsg (wBin dMod (wIxO 0 (wC (.int 0))) (wVar 1)) (.nm 2))
    (wSeq (wSet 0 (wC (.int 0)) (wBin dFdiv (wIxO 0 (wC (.int 0))) (wVar 1)))
    (wRet (wVar 2)))) wNext)
    (wSeq (wSet 0 (wC (.int 2)) (wBin dAdd (wIxO 0 (wC (.int 2))) (wC (.int 1))))
    (wSeq (wAsg (wBin dMod (wBin dPow (wBin dAdd (wBin dAdd (wIxO 0 (wC (.int 1))) (wBin dMul (wC (.int 7919)) (wIxO 0 (wC (.int 2))))) (wC (.int 71))) (wC (.int 5))) (wC (.int 2147483647))) (.nm 3))
    (wSeq (wAsg (wBin dMod (wBin dPow (wBin dAdd (wBin dAdd (wBin dFdiv (wVar 3) (wC (.int 8))) (wBin dMul (wBin dMul (wC (.int 104729)) (wIxO 0 (wC (.int 2)))) (wIxO 0 (wC (.int 2))))) (wC (.int 3))) (wC (.int 3))) (wC (.int 2147483587))) (.nm 4))
    (wRet (wBin dMod (wBin dAdd (wBin dFdiv (wVar 3) (wC (.int 4))) (wBin dMul (wC (.int 536870909)) (wBin dFdiv (wVar 4) (wC (.int 4))))) (wVar 1)))))))
/-- _law_common(one, other), slots 0 one, 1 other; level 1 -/
def w__law_common : WS := (wSeq (wPar 0 1 (wUn dAbs (wVar 0)) (wUn dAbs (wVar 1)))
    (wSeq (wWhile (wTst (wBin dGt (wVar 1) (wC (.int 0)))) (wPar 0 1 (wVar 1) (wBin dMod (wVar 0) (wVar 1))))
    (wRet (wVar 0))))
/-- _law_lowest(top, bottom), slots 0 top, 1 bottom, 2 by; level 2 -/
def w__law_lowest : WS := (wSeq (wAsg (wBin dMul (wCall sp__law_common [.v (wVar 0), .v (wVar 1)]) (wBin dIx (wFrz (wLst [(wC (.int 1)), (wUn dNeg (wC (.int 1)))])) (wUn dInt (wBin dLt (wVar 1) (wC (.int 0)))))) (.nm 2))
    (wRet (wTup [(wBin dFdiv (wVar 0) (wVar 2)), (wBin dFdiv (wVar 1) (wVar 2))])))
/-- _law_drawn(purse), slots 0 purse*, 1 wide, 2 top; level 3 -/
def w__law_drawn : WS := (wSeq (wAsg (wBin dIx (wFrz (wLst [(wC (.int 9)), (wC (.int 100)), (wC (.int 300))])) (wCall sp__law_take [.s 0, .v (wC (.int 3))])) (.nm 1))
    (wSeq (wAsg (wCall sp__law_take [.s 0, .v (wBin dIx (wFrz (wLst [(wVar 1), (wBin dPow (wC (.int 10)) (wC (.int 15)))])) (wCall sp__law_take [.s 0, .v (wC (.int 2))]))]) (.nm 2))
    (wRet (wCall sp__law_lowest [.v (wBin dIx (wFrz (wLst [(wVar 2), (wUn dNeg (wVar 2))])) (wCall sp__law_take [.s 0, .v (wC (.int 2))])), .v (wBin dAdd (wC (.int 1)) (wCall sp__law_take [.s 0, .v (wVar 1)]))]))))
/-- _law_other(purse, one), slots 0 purse*, 1 one, 2 way, 3 far; level 4 -/
def w__law_other : WS := (wSeq (wAsg (wCall sp__law_take [.s 0, .v (wC (.int 4))]) (.nm 2))
    (wSeq (wAsg (wBin dAdd (wC (.int 1)) (wCall sp__law_take [.s 0, .v (wC (.int 3))])) (.nm 3))
    (wSeq (wIfS (wTst (wBin dEq (wVar 2) (wC (.int 0)))) (wRet (wTup [(wBin dFdiv (wBin dIx (wVar 1) (wC (.int 0))) (wBin dIx (wVar 1) (wC (.int 1)))), (wC (.int 1))])) wNext)
    (wSeq (wIfS (wTst (wBin dEq (wVar 2) (wC (.int 1)))) (wRet (wTup [(wUn dNeg (wBin dIx (wVar 1) (wC (.int 0)))), (wBin dIx (wVar 1) (wC (.int 1)))])) wNext)
    (wSeq (wIfS (wTst (wBin dEq (wVar 2) (wC (.int 2)))) (wRet (wCall sp__law_lowest [.v (wBin dAdd (wBin dMul (wBin dIx (wVar 1) (wC (.int 0))) (wVar 3)) (wC (.int 1))), .v (wBin dMul (wBin dIx (wVar 1) (wC (.int 1))) (wVar 3))])) wNext)
    (wRet (wCall sp__law_drawn [.s 0])))))))
/-- _law_cell(script, k), slots 0 script, 1 k; level 1 -/
def w__law_cell : WS := (wSeq (wIfS (wTst (wBin dLt (wVar 1) (wUn dLen (wVar 0)))) (wRet (wBin dIx (wVar 0) (wVar 1))) wNext)
    (wRet (wBin dAdd (wBin dMul (wC (.int 295075147)) (wVar 1)) (wC (.int 71)))))
/-- is_manner(thing), slots 0 thing; level 1 -/
def w_is_manner : WS := (wRet (wAndV (wUn (dIsTy .str) (wVar 0)) (wBin dIn (wVar 0) (wC (.tup (List.map D.str [Str.ofString "floor", Str.ofString "ceil", Str.ofString "near"]))))))
/-- manner_of(word), slots 0 word; level 2 -/
def w_manner_of : WS := (wSeq (wIfS (wNot (wTst (wCall sp_is_manner [.v (wVar 0)]))) wNever wNext)
    (wSeq (wIfS (wTst (wBin dEq (wVar 0) (wC (.str (Str.ofString "ceil"))))) (wRet (wNew0 (Str.ofString "Ceils"))) wNext)
    (wSeq (wIfS (wTst (wBin dEq (wVar 0) (wC (.str (Str.ofString "near"))))) (wRet (wNew0 (Str.ofString "Nears"))) wNext)
    (wRet (wNew0 (Str.ofString "Manner"))))))
/-- is_number(thing), slots 0 thing; level 1 -/
def w_is_number : WS := (wRet (wAndV (wUn (dIsTy .int) (wVar 0)) (wNotV (wUn (dIsTy .bool) (wVar 0)))))
/-- common(one, other), slots 0 one, 1 other; level 1 -/
def w_common : WS := (wSeq (wAsg (wUn dAbs (wVar 0)) (.nm 0))
    (wSeq (wAsg (wUn dAbs (wVar 1)) (.nm 1))
    (wSeq (wWhile (wTst (wBin dNe (wVar 1) (wC (.int 0)))) (wPar 0 1 (wVar 1) (wBin dMod (wVar 0) (wVar 1))))
    (wRet (wVar 0)))))
/-- is_fraction(thing), slots 0 thing; level 2 -/
def w_is_fraction : WS := (wSeq (wIfS (wOr (wNot (wTst (wUn (dIsTy .tuple) (wVar 0)))) (wOr (wTst (wBin dNe (wUn dLen (wVar 0)) (wC (.int 2)))) (wOr (wNot (wTst (wCall sp_is_number [.v (wBin dIx (wVar 0) (wC (.int 0)))]))) (wNot (wTst (wCall sp_is_number [.v (wBin dIx (wVar 0) (wC (.int 1)))])))))) (wRet (wC (.bl false))) wNext)
    (wRet (wAndV (wBin dGe (wBin dIx (wVar 0) (wC (.int 1))) (wC (.int 1))) (wBin dEq (wCall sp_common [.v (wBin dIx (wVar 0) (wC (.int 0))), .v (wBin dIx (wVar 0) (wC (.int 1)))]) (wC (.int 1))))))
/-- need_fraction(thing), slots 0 thing; level 3 -/
def w_need_fraction : WS := (wIfS (wNot (wTst (wCall sp_is_fraction [.v (wVar 0)]))) wNever wNext)
/-- whole_of(fraction, how), slots 0 fraction, 1 how, 2 top, 3 bottom; level 4 -/
def w_whole_of : WS := (wSeq (wDrop (wCall sp_need_fraction [.v (wVar 0)]))
    (wSeq (wIfS (wNot (wTst (wCall sp_is_manner [.v (wVar 1)]))) wNever wNext)
    (wSeq (wAsg (wVar 0) (.tp [(.nm 2), (.nm 3)]))
    (wSeq (wIfS (wTst (wBin dEq (wVar 1) (wC (.str (Str.ofString "ceil"))))) (wRet (wUn dNeg (wBin dFdiv (wUn dNeg (wVar 2)) (wVar 3)))) wNext)
    (wSeq (wIfS (wTst (wBin dEq (wVar 1) (wC (.str (Str.ofString "near"))))) (wRet (wBin dFdiv (wBin dAdd (wBin dMul (wC (.int 2)) (wVar 2)) (wVar 3)) (wBin dMul (wC (.int 2)) (wVar 3)))) wNext)
    (wRet (wBin dFdiv (wVar 2) (wVar 3))))))))
/-- Manner_word(self), slots 0 self; level 1 -/
def w_Manner_word : WS := (wRet (wC (.str (Str.ofString "floor"))))
/-- Ceils_word(self), slots 0 self; level 1 -/
def w_Ceils_word : WS := (wRet (wC (.str (Str.ofString "ceil"))))
/-- Nears_word(self), slots 0 self; level 1 -/
def w_Nears_word : WS := (wRet (wC (.str (Str.ofString "near"))))
/-- Manner_turned(self), slots 0 self; level 1 -/
def w_Manner_turned : WS := (wRet (wC (.int 1)))
/-- Ceils_turned(self), slots 0 self; level 1 -/
def w_Ceils_turned : WS := (wRet (wUn dNeg (wC (.int 1))))
/-- made(top, bottom), slots 0 top, 1 bottom, 2 by; level 2 -/
def w_made : WS := (wSeq (wAsg (wCall sp_common [.v (wVar 0), .v (wVar 1)]) (.nm 2))
    (wSeq (wIfS (wTst (wBin dLt (wVar 1) (wC (.int 0)))) (wAsg (wUn dNeg (wVar 2)) (.nm 2)) wNext)
    (wRet (wTup [(wBin dFdiv (wVar 0) (wVar 2)), (wBin dFdiv (wVar 1) (wVar 2))]))))
/-- row_of(fraction, manner), slots 0 fraction, 1 manner, 2 kind, 3 found*, 4 term, 5 top, 6 bottom, 7 left; level 5 -/
def w_row_of : WS := (wSeq (wAsg (wCall sp_manner_of [.v (wVar 1)]) (.nm 2))
    (wSeq (wDrop (wCall sp_need_fraction [.v (wVar 0)]))
    (wSeq (wAsgO (wLst []) 3)
    (wSeq (wWhile (wTst (wUn dNotN (wVar 0))) (wSeq (wIfS (wTst (wBin dEq (wLenO 3) (wC (.int 1000)))) wNever wNext)
    (wSeq (wAsg (wCall sp_whole_of [.v (wVar 0), .v (wMeth ms_word (wVar 2) [])]) (.nm 4))
    (wSeq (wApp 3 (wVar 4))
    (wSeq (wAsg (wVar 0) (.tp [(.nm 5), (.nm 6)]))
    (wSeq (wAsg (wBin dMul (wBin dSub (wVar 5) (wBin dMul (wVar 4) (wVar 6))) (wMeth ms_turned (wVar 2) [])) (.nm 7))
    (wAsg (wIf (wTst (wBin dEq (wVar 7) (wC (.int 0)))) (wC .non) (wCall sp_made [.v (wVar 6), .v (wVar 7)])) (.nm 0))))))))
    (wRet (wVar 3))))))
/-- _law_turned_right(one), slots 0 one, 1 top, 2 bottom, 3 due, 4 found; level 6 -/
def w__law_turned_right : WS := (wSeq (wAsg (wVar 0) (.tp [(.nm 1), (.nm 2)]))
    (wSeq (wAsg (wCall sp_row_of [.v (wTup [(wUn dNeg (wVar 1)), (wVar 2)]), .v (wC (.str (Str.ofString "floor")))]) (.nm 3))
    (wSeq (wAsg (wCall sp_row_of [.v (wVar 0), .v (wC (.str (Str.ofString "ceil")))]) (.nm 4))
    (wSeq (wIfS (wOr (wTst (wBin dNe (wBin dIx (wVar 4) (wC (.int 0))) (wUn dNeg (wBin dIx (wVar 3) (wC (.int 0)))))) (wTst (wBin dNe (wBin dEq (wUn dLen (wVar 4)) (wC (.int 1))) (wBin dEq (wUn dLen (wVar 3)) (wC (.int 1)))))) (wRet (wC (.bl false))) wNext)
    (wRet (wOrV (wBin dEq (wUn dLen (wVar 3)) (wC (.int 1))) (wBin dEq (wFrz (wCut (wVar 4) (wP (wC (.int 1))) wNoP)) (wCall sp_row_of [.v (wCall sp__law_lowest [.v (wVar 2), .v (wBin dSub (wUn dNeg (wVar 1)) (wBin dMul (wBin dIx (wVar 3) (wC (.int 0))) (wVar 2)))]), .v (wC (.str (Str.ofString "ceil")))]))))))))
/-- Manner_fits(self, ahead, term), slots 0 self, 1 ahead, 2 term; level 1 -/
def w_Manner_fits : WS := (wRet (wBin dGe (wVar 2) (wC (.int 1))))
/-- Ceils_fits(self, ahead, term), slots 0 self, 1 ahead, 2 term; level 1 -/
def w_Ceils_fits : WS := (wRet (wBin dGe (wVar 2) (wC (.int 2))))
/-- Nears_fits(self, ahead, term), slots 0 self, 1 ahead, 2 term; level 1 -/
def w_Nears_fits : WS := (wSeq (wIfS (wTst (wChain dLt dLt (wUn dNeg (wC (.int 2))) (wVar 2) (wC (.int 2)))) (wRet (wC (.bl false))) wNext)
    (wSeq (wIfS (wTst (wBin dEq (wVar 1) (wC (.int 2)))) (wRet (wBin dGt (wVar 2) (wC (.int 0)))) wNext)
    (wRet (wOrV (wBin dNe (wVar 1) (wUn dNeg (wC (.int 2)))) (wBin dLt (wVar 2) (wC (.int 0)))))))
/-- is_beginning(manner, thing), slots 0 manner, 1 thing, 2 at, 3 term; level 2 -/
def w_is_beginning : WS := (wSeq (wIfS (wOr (wNot (wTst (wUn (dIsTys [.list, .tuple]) (wVar 1)))) (wNot (wTst (wUn dAll (wFrz (wLc (wVar 1) (.nm 3) [3] wYes (wCall sp_is_number [.v (wVar 3)]))))))) (wRet (wC (.bl false))) wNext)
    (wSeq (wForR [(wC (.int 1)), (wUn dLen (wVar 1))] (.nm 2) (wIfS (wNot (wTst (wMeth ms_fits (wVar 0) [(wIf (wTst (wBin dEq (wVar 2) (wC (.int 1)))) (wC .non) (wBin dIx (wVar 1) (wBin dSub (wVar 2) (wC (.int 1))))), (wBin dIx (wVar 1) (wVar 2))]))) (wRet (wC (.bl false))) wNext))
    (wRet (wC (.bl true)))))
/-- Manner_ends(self, last), slots 0 self, 1 last; level 1 -/
def w_Manner_ends : WS := (wRet (wBin dNe (wVar 1) (wC (.int 1))))
/-- Ceils_ends(self, last), slots 0 self, 1 last; level 1 -/
def w_Ceils_ends : WS := (wRet (wC (.bl true)))
/-- Nears_ends(self, last), slots 0 self, 1 last; level 1 -/
def w_Nears_ends : WS := (wRet (wBin dNe (wVar 1) (wC (.int 2))))
/-- is_ending(manner, terms), slots 0 manner, 1 terms; level 2 -/
def w_is_ending : WS := (wRet (wOrV (wBin dEq (wUn dLen (wVar 1)) (wC (.int 1))) (wAndV (wBin dGt (wUn dLen (wVar 1)) (wC (.int 1))) (wMeth ms_ends (wVar 0) [(wBin dIx (wVar 1) (wUn dNeg (wC (.int 1))))]))))
/-- is_row(thing, manner), slots 0 thing, 1 manner, 2 kind; level 3 -/
def w_is_row : WS := (wSeq (wAsg (wCall sp_manner_of [.v (wVar 1)]) (.nm 2))
    (wRet (wAndV (wCall sp_is_beginning [.v (wVar 2), .v (wVar 0)]) (wCall sp_is_ending [.v (wVar 2), .v (wVar 0)]))))
/-- product(one, other), slots 0 one, 1 other, 2 a, 3 b, 4 c, 5 d, 6 e, 7 f, 8 g, 9 h; level 1 -/
def w_product : WS := (wSeq (wAsg (wVar 0) (.tp [(.tp [(.nm 2), (.nm 3)]), (.tp [(.nm 4), (.nm 5)])]))
    (wSeq (wAsg (wVar 1) (.tp [(.tp [(.nm 6), (.nm 7)]), (.tp [(.nm 8), (.nm 9)])]))
    (wRet (wTup [(wTup [(wBin dAdd (wBin dMul (wVar 2) (wVar 6)) (wBin dMul (wVar 3) (wVar 8))), (wBin dAdd (wBin dMul (wVar 2) (wVar 7)) (wBin dMul (wVar 3) (wVar 9)))]), (wTup [(wBin dAdd (wBin dMul (wVar 4) (wVar 6)) (wBin dMul (wVar 5) (wVar 8))), (wBin dAdd (wBin dMul (wVar 4) (wVar 7)) (wBin dMul (wVar 5) (wVar 9)))])]))))
/-- number_of(row, manner), slots 0 row, 1 manner, 2 kind, 3 rows, 4 term; level 4 -/
def w_number_of : WS := (wSeq (wAsg (wCall sp_manner_of [.v (wVar 1)]) (.nm 2))
    (wSeq (wIfS (wNot (wTst (wCall sp_is_row [.v (wVar 0), .v (wVar 1)]))) wNever wNext)
    (wSeq (wAsg (wTup [(wTup [(wC (.int 1)), (wC (.int 0))]), (wTup [(wC (.int 0)), (wC (.int 1))])]) (.nm 3))
    (wSeq (wFor (wVar 0) (.nm 4) (wAsg (wCall sp_product [.v (wVar 3), .v (wTup [(wTup [(wVar 4), (wMeth ms_turned (wVar 2) [])]), (wTup [(wC (.int 1)), (wC (.int 0))])])]) (.nm 3)))
    (wRet (wCall sp_made [.v (wBin dIx (wBin dIx (wVar 3) (wC (.int 0))) (wC (.int 0))), .v (wBin dIx (wBin dIx (wVar 3) (wC (.int 1))) (wC (.int 0)))]))))))
/-- _law_ceils_part(one, other), slots 0 one, 1 other, 2 rows, 3 less, 4 places, 5 place, 6 k; level 6 -/
def w__law_ceils_part : WS := (wSeq (wAsg (wFrz (wLst [(wCall sp_row_of [.v (wVar 0), .v (wC (.str (Str.ofString "ceil")))]), (wCall sp_row_of [.v (wVar 1), .v (wC (.str (Str.ofString "ceil")))])])) (.nm 2))
    (wSeq (wAsg (wBin dLt (wBin dMul (wBin dIx (wVar 0) (wC (.int 0))) (wBin dIx (wVar 1) (wC (.int 1)))) (wBin dMul (wBin dIx (wVar 1) (wC (.int 0))) (wBin dIx (wVar 0) (wC (.int 1))))) (.nm 3))
    (wSeq (wAsg (wFrz (wLcR [(wBin dMax (wUn dLen (wBin dIx (wVar 2) (wC (.int 0)))) (wUn dLen (wBin dIx (wVar 2) (wC (.int 1)))))] (.nm 6) [6] (wTst (wBin dNe (wFrz (wCut (wBin dIx (wVar 2) (wC (.int 0))) (wP (wVar 6)) (wP (wBin dAdd (wVar 6) (wC (.int 1)))))) (wFrz (wCut (wBin dIx (wVar 2) (wC (.int 1))) (wP (wVar 6)) (wP (wBin dAdd (wVar 6) (wC (.int 1)))))))) (wVar 6))) (.nm 4))
    (wSeq (wIfS (wTst (wBin dEq (wVar 4) (wFrz (wLst [])))) (wRet (wBin dEq (wVar 0) (wVar 1))) wNext)
    (wSeq (wAsg (wBin dIx (wVar 4) (wC (.int 0))) (.nm 5))
    (wSeq (wIfS (wOr (wTst (wBin dEq (wVar 5) (wUn dLen (wBin dIx (wVar 2) (wC (.int 0)))))) (wTst (wBin dEq (wVar 5) (wUn dLen (wBin dIx (wVar 2) (wC (.int 1))))))) (wRet (wBin dEq (wVar 3) (wBin dLt (wVar 5) (wUn dLen (wBin dIx (wVar 2) (wC (.int 0))))))) wNext)
    (wRet (wBin dEq (wVar 3) (wBin dLt (wBin dIx (wBin dIx (wVar 2) (wC (.int 0))) (wVar 5)) (wBin dIx (wBin dIx (wVar 2) (wC (.int 1))) (wVar 5)))))))))))
/-- law(script), slots 0 script, 1 k, 2 purse*, 3 one, 4 other, 5 more, 6 manner, 7 row; level 7 -/
def w_law : WS := (wSeq (wForR [(wBin dMax (wC (.int 2)) (wBin dMin (wC (.int 10)) (wUn dLen (wVar 0))))] (.nm 1) (wSeq (wAsgO (wCallO sp__law_purse [.v (wCall sp__law_cell [.v (wVar 0), .v (wVar 1)])]) 2)
    (wSeq (wAsg (wCall sp__law_drawn [.s 2]) (.nm 3))
    (wSeq (wAsg (wCall sp__law_other [.s 2, .v (wVar 3)]) (.nm 4))
    (wSeq (wIfS (wOr (wNot (wTst (wCall sp__law_turned_right [.v (wVar 3)]))) (wNot (wTst (wCall sp__law_turned_right [.v (wVar 4)])))) (wRet (wC (.bl false))) wNext)
    (wSeq (wAsg (wBin dSub (wCall sp__law_take [.s 2, .v (wBin dPow (wC (.int 10)) (wC (.int 9)))]) (wBin dPow (wC (.int 10)) (wC (.int 8)))) (.nm 5))
    (wSeq (wFor (wFrz (wLst [(wC (.str (Str.ofString "floor"))), (wC (.str (Str.ofString "ceil"))), (wC (.str (Str.ofString "near")))])) (.nm 6) (wSeq (wAsg (wCall sp_row_of [.v (wVar 3), .v (wVar 6)]) (.nm 7))
    (wSeq (wIfS (wTst (wBin dNe (wCall sp_row_of [.v (wTup [(wBin dAdd (wBin dIx (wVar 3) (wC (.int 0))) (wBin dMul (wVar 5) (wBin dIx (wVar 3) (wC (.int 1))))), (wBin dIx (wVar 3) (wC (.int 1)))]), .v (wVar 6)]) (wFrz (wCat (wFrz (wLst [(wBin dAdd (wBin dIx (wVar 7) (wC (.int 0))) (wVar 5))])) (wFrz (wCut (wVar 7) (wP (wC (.int 1))) wNoP)))))) (wRet (wC (.bl false))) wNext)
    (wIfS (wOr (wTst (wBin dNe (wBin dEq (wVar 7) (wCall sp_row_of [.v (wVar 4), .v (wVar 6)])) (wBin dEq (wVar 3) (wVar 4)))) (wTst (wBin dNe (wCall sp_number_of [.v (wVar 7), .v (wVar 6)]) (wVar 3)))) (wRet (wC (.bl false))) wNext))))
    (wIfS (wAnd (wTst (wBin dNe (wVar 3) (wVar 4))) (wNot (wAnd (wTst (wCall sp__law_ceils_part [.v (wVar 3), .v (wVar 4)])) (wTst (wCall sp__law_ceils_part [.v (wVar 4), .v (wVar 3)]))))) (wRet (wC (.bl false))) wNext))))))))
    (wRet (wC (.bl true))))
end K55

namespace K55
open PySem DW
theorem range_get {lo hi : Int} {i : Nat} {d : D} (h : (rangeD lo hi)[i]? = some d) : d = .int (lo + i) ∧ i < (hi - lo).toNat := by
  have hl := (List.getElem?_eq_some_iff.mp h).1
  unfold rangeD at h hl
  rw [List.length_map, List.length_range] at hl
  rw [List.getElem?_map, List.getElem?_range hl] at h
  exact ⟨(Option.some.inj h).symm, hl⟩
theorem kp__law_purse : Keeps0 1 w__law_purse sp__law_purse := by
  rintro dvs k ⟨c, rfl, h⟩
  refine ⟨⟨by decide, by decide, by decide⟩, by decide, h _ ⟨_, _, _, rfl, ?_, (fmod_rng (by decide)).1, (fmod_rng (by decide)).2, by decide, by decide⟩⟩
  split <;> omega
theorem kp__law_take : Keeps0 5 w__law_take sp__law_take := by
  rintro dvs k ⟨p, m, n, rfl, ⟨a, b, c, rfl, ha, hb, hb', hc, hc'⟩, hn, hm, hm', h⟩
  refine ⟨rfl, ?_⟩
  show if decide (0 < a) = true then _ else _
  have bm : Bd 100 m := .of (by omega) hm'
  refine ite_both (fun g => ?_) (fun g => ?_)
  · have g : 0 < a := of_decide_eq_true g
    refine ⟨rfl, by omega, rfl, divOk (by omega) bm, rfl, (by decide : (0:Int) ≤ 0 ∧ (0:Int) < 3), ?_⟩
    have := fmod_rng (a := a) (b := m) (by omega)
    exact h _ _ this.1 this.2 ⟨_, _, _, rfl, fdiv_nonneg ha (by omega), hb, hb', hc, by omega⟩
  · have b1 : Bd 32 b := .of (by omega) (by omega)
    have b2 : Bd 32 (c + 1) := .of (by omega) (by omega)
    have r := fun a => fmod_rng (a := a) (b := 2147483647) (by decide)
    have r' := fun a => fmod_rng (a := a) (b := 2147483587) (by decide)
    refine ⟨rfl, rfl, (by decide : (0:Int) ≤ 2 ∧ (2:Int) < 3), rfl, rfl, mulOk (n := 32) (.of (by decide) (by decide)) b2, ⟨by decide, by decide, by omega⟩, by decide, divOk (n := 32) (by decide) (.of (by decide) (by decide)), rfl, mulOk (n := 32) (.of (by decide) (by decide)) b2, rfl, ?_⟩
    refine ⟨mulOk (n := 100) (Bd.mul (n := 32) (m := 32) (.of (by decide) (by decide)) b2 |>.mono (by decide)) b2, ⟨by decide, by decide, ?_⟩, by decide, divOk (n := 32) (by decide) (.of (by decide) (by decide)), divOk (n := 32) (by decide) (.of (by decide) (by decide)), ?_, by omega, ?_⟩
    · have d1 : (((b + 7919 * (c + 1) + 71) ^ (Int.toNat 5)).fmod 2147483647).fdiv 8 ≤ 2147483647 := by
        have := r ((b + 7919 * (c + 1) + 71) ^ (Int.toNat 5))
        have := fdiv_le (b := 8) this.1 (by decide)
        omega
      have d0 : 0 ≤ (((b + 7919 * (c + 1) + 71) ^ (Int.toNat 5)).fmod 2147483647).fdiv 8 := fdiv_nonneg (r _).1 (by decide)
      have e : (c + 1) * (c + 1) ≤ 1000001 * 1000001 := Int.mul_le_mul (by omega) (by omega) (by omega) (by decide)
      have e0 : 0 ≤ (c + 1) * (c + 1) := Int.mul_nonneg (by omega) (by omega)
      rw [Int.mul_assoc]
      omega
    · exact mulOk (n := 32) (m := 40) (.of (by decide) (by decide)) ((Bd.of (n := 32) (Int.lt_of_lt_of_le (by decide) (fdiv_nonneg (r' _).1 (by decide))) (Int.lt_of_le_of_lt (fdiv_le (r' _).1 (by decide)) (Int.lt_trans (r' _).2 (by decide)))).mono (by decide))
    · have := fun a => fmod_rng (a := a) (b := m) (by omega)
      exact h _ _ (this _).1 (this _).2 ⟨_, _, _, rfl, by omega, hb, hb', by omega, by omega⟩
end K55

namespace K55
open PySem DW
theorem kp__law_common : Keeps0 2 w__law_common sp__law_common := by
  rintro dvs k ⟨a, b, rfl, h⟩
  refine ⟨fun m ds => ∃ x y : Int, ds = [some (.val (.int x)), some (.val (.int y))] ∧ 0 ≤ x ∧ 0 ≤ y ∧ Int.gcd x y = Int.gcd a b ∧ m = y.toNat, ⟨_, _, _, rfl, ?_, ?_, ?_, rfl⟩, ?_⟩
  · split <;> omega
  · split <;> omega
  · rw [abs_eq, abs_eq, gcd_abs]
  · rintro m ds ⟨x, y, rfl, hx, hy, hg, rfl⟩
    refine ite_both (fun g => ?_) (fun g => ?_)
    · have g := is_lt g
      have r := fmod_rng (a := x) (b := y) (by omega)
      exact ⟨by omega, _, by omega, _, _, rfl, hy, r.1, (gcd_step x y hy).trans hg, rfl⟩
    · have g := no_lt g
      have e0 : y = 0 := by omega
      subst e0
      have e : x = (Int.gcd a b : Int) := by
        rw [← hg, Int.gcd_zero_right]
        omega
      show k (.ret (.val (.int x))) _
      rw [e]
      exact h
theorem kp_common : Keeps0 2 w_common sp_common := by
  rintro dvs k ⟨a, b, rfl, h⟩
  refine ⟨fun m ds => ∃ x y : Int, ds = [some (.val (.int x)), some (.val (.int y))] ∧ 0 ≤ x ∧ 0 ≤ y ∧ Int.gcd x y = Int.gcd a b ∧ m = y.toNat, ⟨_, _, _, rfl, ?_, ?_, ?_, rfl⟩, ?_⟩
  · split <;> omega
  · split <;> omega
  · rw [abs_eq, abs_eq, gcd_abs]
  · rintro m ds ⟨x, y, rfl, hx, hy, hg, rfl⟩
    refine ⟨⟨shp_int _, shp_int _⟩, ite_both (fun g => ?_) (fun g => ?_)⟩
    · have g := ne_int g
      have r := fmod_rng (a := x) (b := y) (by omega)
      exact ⟨g, _, by omega, _, _, rfl, hy, r.1, (gcd_step x y hy).trans hg, rfl⟩
    · have g := ne_int' g
      subst g
      have e : x = (Int.gcd a b : Int) := by
        rw [← hg, Int.gcd_zero_right]
        omega
      show k (.ret (.val (.int x))) _
      rw [e]
      exact h
theorem kp__law_cell : Keeps0 2 w__law_cell sp__law_cell := by
  rintro dvs k ⟨ns, j, rfl, h0, h1, h⟩
  have hl : (ns.map D.int).length = ns.length := List.length_map ..
  refine ite_both (fun g => ?_) (fun g => ?_)
  · have g := is_lt g
    rw [hl] at g
    have e : itemAt (ns.map D.int) j = some (.int (ns[j.toNat]'(by omega))) := by
      unfold itemAt
      rw [if_pos h0, List.getElem?_map, List.getElem?_eq_getElem (by omega)]
      rfl
    show match itemAt (ns.map D.int) j with | some v => _ | none => False
    rw [e]
    exact h _
  · exact ⟨mulOk (n := 40) (m := 20) (.of (by decide) (by decide)) (.of (by omega) (by omega)), h _⟩
theorem kp_is_number : Keeps0 1 w_is_number sp_is_number := by
  rintro dvs k ⟨a, rfl, h⟩
  exact h
theorem kp_is_fraction : Keeps0 1 w_is_fraction sp_is_fraction := by
  rintro dvs k ⟨a, b, rfl, ⟨hb, hg⟩, h⟩
  refine ⟨⟨shp_int _, shp_int _⟩, List.nodup_nil, _, rfl, List.nodup_nil, _, rfl, ite_no rfl ?_⟩
  refine ite_yes (decide_eq_true hb) ⟨List.nodup_nil, _, _, rfl, ⟨shp_int _, shp_int _⟩, ?_⟩
  rw [hg]
  exact h
theorem kp_need_fraction : Keeps0 1 w_need_fraction sp_need_fraction := by
  rintro dvs k ⟨a, b, rfl, hf, h⟩
  exact ⟨List.nodup_nil, _, _, rfl, hf, h⟩
theorem ite_in {b : Bool} {dvs : List DV} {k : Out → List DV → Prop} (e : b = true) (h : k (.ret (.val (.bl true))) dvs) : k (.ret (.val (.bl b))) dvs := by rw [e]; exact h
theorem kp_is_manner : Keeps0 1 w_is_manner sp_is_manner := by
  rintro dvs k ⟨m, rfl, h⟩
  cases m
  · exact ⟨⟨rfl, rfl⟩, ite_in (by decide +kernel) h⟩
  · exact ⟨⟨rfl, rfl⟩, ite_in (by decide +kernel) h⟩
  · exact ⟨⟨rfl, rfl⟩, ite_in (by decide +kernel) h⟩
theorem shp_txt (m : Mn) : Shp (.str (txt m)) := by cases m <;> exact ⟨by decide +kernel, Nat.le_of_ble_eq_true rfl⟩
theorem shp_c : Shp (.str (Str.ofString "ceil")) := ⟨by decide +kernel, Nat.le_of_ble_eq_true rfl⟩
theorem shp_n : Shp (.str (Str.ofString "near")) := ⟨by decide +kernel, Nat.le_of_ble_eq_true rfl⟩
theorem kp_manner_of : Keeps0 1 w_manner_of sp_manner_of := by
  rintro dvs k ⟨m, rfl, h⟩
  refine ⟨List.nodup_nil, m, rfl, ⟨shp_txt m, shp_c⟩, ?_⟩
  cases m
  · exact ite_no (by decide +kernel) ⟨⟨shp_txt _, shp_n⟩, ite_no (by decide +kernel) h⟩
  · exact ite_yes (by decide +kernel) h
  · exact ite_no (by decide +kernel) ⟨⟨shp_txt _, shp_n⟩, ite_yes (by decide +kernel) h⟩
theorem fdiv_div {a b : Int} (h : 0 < b) : a.fdiv b = a / b := Int.fdiv_eq_ediv_of_nonneg a (Int.le_of_lt h)
theorem kp_whole_of : Keeps0 4 w_whole_of sp_whole_of := by
  rintro dvs k ⟨m, a, b, rfl, ⟨b0, b1, g, ba⟩, h⟩
  refine ⟨List.nodup_nil, _, _, rfl, ⟨b0, g⟩, List.nodup_nil, m, rfl, ⟨shp_txt m, shp_c⟩, ?_⟩
  have bb : Bd 10 b := .of (by omega) (by omega)
  have b2 : Bd 12 (2 * b) := .of (by omega) (by omega)
  have d : DivOk b := divOk (by omega) bb
  have two : Bd 3 2 := .of (by decide) (by decide)
  cases m
  · refine ite_no (by decide +kernel) ⟨⟨shp_txt _, shp_n⟩, ite_no (by decide +kernel) ⟨d, ?_⟩⟩
    rw [fdiv_div (by omega)]
    exact h
  · refine ite_yes (by decide +kernel) ⟨d, ?_⟩
    rw [fdiv_div (by omega)]
    exact h
  · refine ite_no (by decide +kernel) ⟨⟨shp_txt _, shp_n⟩, ite_yes (by decide +kernel) ⟨mulOk two ba, mulOk two bb, divOk (by omega) b2, ?_⟩⟩
    rw [fdiv_div (by omega)]
    exact h
theorem kp_Manner_word : Keeps0 1 w_Manner_word sp_Manner_word := by
  rintro dvs k ⟨rfl, h⟩
  exact h
theorem kp_Ceils_word : Keeps0 1 w_Ceils_word sp_Ceils_word := by
  rintro dvs k ⟨rfl, h⟩
  exact h
theorem kp_Nears_word : Keeps0 1 w_Nears_word sp_Nears_word := by
  rintro dvs k ⟨rfl, h⟩
  exact h
theorem kp_Manner_turned : Keeps0 1 w_Manner_turned sp_Manner_turned := by
  rintro dvs k ⟨m, rfl, h⟩
  exact h
theorem kp_Ceils_turned : Keeps0 1 w_Ceils_turned sp_Ceils_turned := by
  rintro dvs k ⟨rfl, h⟩
  exact h
theorem kp_made : Keeps0 3 w_made sp_made := by
  rintro dvs k ⟨a, b, rfl, hb, hg, h⟩
  refine ⟨List.nodup_nil, _, _, rfl, ?_⟩
  rw [hg]
  have o : DivOk (1 : Int) := divOk (n := 2) (by decide) (.of (by decide) (by decide))
  have o2 : DivOk (-1 : Int) := divOk (n := 2) (by decide) (.of (by decide) (by decide))
  refine ite_both (fun q => ?_) (fun q => ?_)
  · have q := is_lt q
    refine ⟨o2, o2, ?_⟩
    rw [if_pos q] at h
    have e : ∀ x : Int, x.fdiv (-((1 : Nat) : Int)) = -x := fun x => by
      show x.fdiv (-1) = -x
      rw [Int.fdiv_neg (by decide)]
      simp
    rw [e, e]
    exact h
  · have q := no_lt q
    refine ⟨o, o, ?_⟩
    rw [if_neg (by omega)] at h
    have e : ∀ x : Int, x.fdiv ((1 : Nat) : Int) = x := fun x => by
      show x.fdiv 1 = x
      simp
    rw [e, e]
    exact h
theorem kp_Manner_fits : Keeps0 3 w_Manner_fits sp_Manner_fits := by
  rintro dvs k ⟨ah, t, rfl, h⟩
  exact h
theorem kp_Ceils_fits : Keeps0 3 w_Ceils_fits sp_Ceils_fits := by
  rintro dvs k ⟨ah, t, rfl, h⟩
  exact h
theorem shp_opt (ah : Option Int) : Shp (optD ah) := by cases ah <;> exact ⟨rfl, Nat.le_of_ble_eq_true rfl⟩
theorem deq_opt (ah : Option Int) (i : Int) : deq (optD ah) (.int i) = decide (ah = some i) := by
  cases ah with
  | none => rfl
  | some a =>
    show (a == i) = _
    by_cases h : a = i
    · rw [h]
      simp
    · simp [h]
theorem kp_Nears_fits : Keeps0 3 w_Nears_fits sp_Nears_fits := by
  rintro dvs k ⟨ah, t, rfl, h⟩
  have s2 : ite (-2 < t ∧ t < 2) False True → ite (¬ (-2 < t ∧ t < 2)) True False := by split <;> simp_all
  have rest : ¬ (-2 < t ∧ t < 2) → (wSeq (wIfS (wTst (wBin dEq (wVar 1) (wC (.int 2)))) (wRet (wBin dGt (wVar 2) (wC (.int 0)))) wNext)
    (wRet (wOrV (wBin dNe (wVar 1) (wUn dNeg (wC (.int 2)))) (wBin dLt (wVar 2) (wC (.int 0)))))) (entry 3 [.val (.obj (cls .ne)), .val (optD ah), .val (.int t)]) (ends0 [.val (.obj (cls .ne)), .val (optD ah), .val (.int t)] k) := fun n => by
    have e : fits .ne ah t = if ah = some 2 then decide (0 < t) else (!decide (ah = some (-2)) || decide (t < 0)) := by
      show (if -2 < t ∧ t < 2 then false else _) = _
      rw [if_neg n]
    rw [e] at h
    refine ⟨⟨shp_opt _, shp_int _⟩, ?_⟩
    show if deq (optD ah) (.int 2) = true then _ else _
    rw [deq_opt]
    refine ite_both (fun q => ?_) (fun q => ?_)
    · rw [if_pos (of_decide_eq_true q)] at h
      exact h
    · rw [if_neg (fun z => q (decide_eq_true z))] at h
      refine ⟨⟨shp_opt _, shp_int _⟩, ?_⟩
      show if (!deq (optD ah) (.int (-2))) = true then _ else _
      rw [deq_opt]
      refine ite_both (fun q => ?_) (fun q => ?_)
      · rw [q] at h
        exact h
      · rw [Bool.not_eq_true] at q
        rw [q] at h
        exact h
  refine ite_both (fun q => ?_) (fun q => ?_)
  · have q := is_lt q
    refine ite_both (fun q2 => ?_) (fun q2 => ?_)
    · have q2 := is_lt q2
      have e : fits .ne ah t = false := by
        show (if -2 < t ∧ t < 2 then false else _) = _
        rw [if_pos ⟨q, q2⟩]
      rw [e] at h
      exact h
    · have q2 := no_lt q2
      exact rest (by omega)
  · have q := no_lt q
    exact rest (by omega)
theorem kp_Manner_ends : Keeps0 2 w_Manner_ends sp_Manner_ends := by
  rintro dvs k ⟨t, rfl, h⟩
  refine ⟨⟨shp_int _, shp_int _⟩, ?_⟩
  have e : ends .fl t = !deq (.int t) (.int 1) := by
    show (!decide (t = 1)) = !(t == 1)
    rfl
  rw [e] at h
  exact h
theorem kp_Ceils_ends : Keeps0 2 w_Ceils_ends sp_Ceils_ends := by
  rintro dvs k ⟨t, rfl, h⟩
  exact h
theorem kp_Nears_ends : Keeps0 2 w_Nears_ends sp_Nears_ends := by
  rintro dvs k ⟨t, rfl, h⟩
  refine ⟨⟨shp_int _, shp_int _⟩, ?_⟩
  have e : ends .ne t = !deq (.int t) (.int 2) := by
    show (!decide (t = 2)) = !(t == 2)
    rfl
  rw [e] at h
  exact h
theorem kp_product : Keeps0 10 w_product sp_product := by
  rintro dvs k ⟨a, b, c, d, e, f, g, h', rfl, ⟨ba, bb, bc, bd⟩, ⟨be, bf, bg, bh⟩, h⟩
  exact ⟨mulOk ba be, mulOk bb bg, mulOk ba bf, mulOk bb bh, mulOk bc be, mulOk bd bg, mulOk bc bf, mulOk bd bh, h⟩
end K55

namespace K55
open PySem DW
theorem two_of {d : Int} {x y : D} (h0 : 0 ≤ d) (h1 : d < 2) : itemAt [x, y] d = some x ∨ itemAt [x, y] d = some y := by
  have : d = 0 ∨ d = 1 := by omega
  rcases this with rfl | rfl
  · exact .inl rfl
  · exact .inr rfl
theorem three_of {d : Int} {x y z : D} (h0 : 0 ≤ d) (h1 : d < 3) : itemAt [x, y, z] d = some x ∨ itemAt [x, y, z] d = some y ∨ itemAt [x, y, z] d = some z := by
  have : d = 0 ∨ d = 1 ∨ d = 2 := by omega
  rcases this with rfl | rfl | rfl
  · exact .inl rfl
  · exact .inr (.inl rfl)
  · exact .inr (.inr rfl)
theorem low_dr {a b : Int} (hb : 1 ≤ b) (hb' : b ≤ 900) (ha : Bd 55 a) : Dr (a / (Int.gcd a b : Int)) (b / (Int.gcd a b : Int)) ∧ b / (Int.gcd a b : Int) ≤ b ∧ a / (Int.gcd a b : Int) * b = a * (b / (Int.gcd a b : Int)) := by
  have g0 : 0 < Int.gcd a b := Int.gcd_pos_of_ne_zero_right a (by omega)
  obtain ⟨c, ec⟩ : (Int.gcd a b : Int) ∣ a := Int.gcd_dvd_left ..
  obtain ⟨d, ed⟩ : (Int.gcd a b : Int) ∣ b := Int.gcd_dvd_right ..
  have e1 : a / (Int.gcd a b : Int) = c := by
    conv => lhs; lhs; rw [ec]
    exact Int.mul_ediv_cancel_left c (by omega)
  have e2 : b / (Int.gcd a b : Int) = d := by
    conv => lhs; lhs; rw [ed]
    exact Int.mul_ediv_cancel_left d (by omega)
  have l : b / (Int.gcd a b : Int) ≤ b := Int.ediv_le_self _ (by omega)
  have l1 : 1 ≤ b / (Int.gcd a b : Int) := by
    refine Int.le_ediv_of_mul_le (by omega) ?_
    have := Int.le_of_dvd (show 0 < b by omega) (Int.gcd_dvd_right a b)
    omega
  refine ⟨⟨l1, by omega, Int.gcd_ediv_gcd_ediv_gcd (by omega), ?_⟩, l, ?_⟩
  · rw [e1]
    refine ha.le ?_
    conv => rhs; rw [ec]
    rw [Int.natAbs_mul]
    exact Nat.le_mul_of_pos_left _ (by omega)
  · rw [e1, e2]
    conv => lhs; rw [ed]
    conv => rhs; rw [ec]
    grind
theorem kp__law_lowest : Keeps0 3 w__law_lowest sp__law_lowest := by
  rintro dvs k ⟨a, b, rfl, hb, hb', ha, h⟩
  refine ⟨List.nodup_nil, _, _, rfl, ?_⟩
  show match itemAt [D.int 1, D.int (-1)] (if decide (b < 0) = true then 1 else 0) with | some v => _ | none => False
  rw [if_neg (by simp; omega)]
  have g0 : 0 < Int.gcd a b := Int.gcd_pos_of_ne_zero_right a (by omega)
  have l : (Int.gcd a b : Int) ≤ b := Int.le_of_dvd (by omega) (Int.gcd_dvd_right ..)
  have bg : Bd 10 (Int.gcd a b : Int) := .of (by omega) (by omega)
  have o : DivOk ((Int.gcd a b : Int) * 1) := by
    rw [Int.mul_one]
    exact divOk (by omega) bg
  refine ⟨mulOk bg (.of (n := 2) (by decide) (by decide)), o, o, ?_⟩
  rw [Int.mul_one, Int.fdiv_eq_ediv_of_nonneg a (by omega), Int.fdiv_eq_ediv_of_nonneg b (by omega)]
  exact h
theorem kp__law_drawn : Keeps0 3 w__law_drawn sp__law_drawn := by
  rintro dvs k ⟨p, n, rfl, hp, hn, h⟩
  refine ⟨rfl, by simp [slotsOf], p, _, n, rfl, hp, by omega, by decide, by decide, fun d p1 d0 d1 hp1 => ?_⟩
  obtain ⟨w, hw, w0, w1⟩ : ∃ w : Int, itemAt [D.int 9, D.int 100, D.int 300] d = some (.int w) ∧ 1 ≤ w ∧ w ≤ 300 := by
    rcases three_of (x := D.int 9) (y := .int 100) (z := .int 300) d0 d1 with q | q | q
    · exact ⟨9, q, by decide, by decide⟩
    · exact ⟨100, q, by decide, by decide⟩
    · exact ⟨300, q, by decide, by decide⟩
  show match itemAt [D.int 9, D.int 100, D.int 300] d with | some v => _ | none => False
  rw [hw]
  refine ⟨rfl, ⟨by decide, by decide, by decide⟩, rfl, by simp [slotsOf], p1, _, _, rfl, hp1, by omega, by decide, by decide, fun e p2 e0 e1 hp2 => ?_⟩
  obtain ⟨u, hu, u0, u1⟩ : ∃ w' : Int, itemAt [D.int w, D.int (10 ^ (Int.toNat 15))] e = some (.int w') ∧ 1 ≤ w' ∧ w' ≤ 10 ^ 15 := by
    rcases two_of (x := D.int w) (y := .int (10 ^ (Int.toNat 15))) e0 e1 with q | q
    · exact ⟨w, q, w0, by omega⟩
    · exact ⟨_, q, by decide, by decide⟩
  show match itemAt [D.int w, D.int (10 ^ (Int.toNat 15))] e with | some v => _ | none => False
  rw [hu]
  refine ⟨by simp [slotsOf], p2, _, _, rfl, hp2, by omega, u0, by omega, fun t p3 t0 t1 hp3 => ?_⟩
  refine ⟨rfl, by simp [slotsOf], p3, _, _, rfl, hp3, by omega, by decide, by decide, fun s p4 s0 s1 hp4 => ?_⟩
  obtain ⟨v, hv, v1⟩ : ∃ v : Int, itemAt [D.int t, D.int (-t)] s = some (.int v) ∧ (v = t ∨ v = -t) := by
    rcases two_of (x := D.int t) (y := .int (-t)) s0 s1 with q | q
    · exact ⟨t, q, .inl rfl⟩
    · exact ⟨-t, q, .inr rfl⟩
  show match itemAt [D.int t, D.int (-t)] s with | some v => _ | none => False
  rw [hv]
  refine ⟨rfl, by simp [slotsOf], p4, _, _, rfl, hp4, by omega, w0, by omega, fun j p5 j0 j1 hp5 => ?_⟩
  have bv : Bd 51 v := by
    rcases v1 with q | q <;> (rw [q]; exact .of (by omega) (by omega))
  refine ⟨List.nodup_nil, v, 1 + j, rfl, by omega, by omega, bv.mono (by decide), ?_⟩
  obtain ⟨hd, l, e⟩ := low_dr (a := v) (b := 1 + j) (by omega) (by omega) (bv.mono (by decide))
  revert hd l e
  generalize v / (Int.gcd v (1 + j) : Int) = c
  generalize (1 + j) / (Int.gcd v (1 + j) : Int) = d
  intro hd l e
  refine h c d p5 hd (by omega) (bv.le ?_) hp5
  have hx : (c * (1 + j)).natAbs = (v * d).natAbs := by rw [e]
  rw [Int.natAbs_mul, Int.natAbs_mul] at hx
  have d0 := hd.1
  have : v.natAbs * d.natAbs ≤ v.natAbs * (1 + j).natAbs := Nat.mul_le_mul_left _ (by omega)
  exact Nat.le_of_mul_le_mul_right (by omega) (show 0 < (1 + j).natAbs by omega)
theorem fdiv_div' {a b : Int} (h : 1 ≤ b) : a.fdiv b = a / b := Int.fdiv_eq_ediv_of_nonneg a (by omega)
theorem div_le {a b : Int} (h : 1 ≤ b) : (a / b).natAbs ≤ a.natAbs := by
  have h1 := Int.emod_nonneg a (show b ≠ 0 by omega)
  have h2 := Int.emod_lt_of_pos a (show 0 < b by omega)
  have h3 := Int.emod_add_mul_ediv a b
  by_cases q : 0 ≤ a
  · have := Int.ediv_nonneg q (show 0 ≤ b by omega)
    have := Int.ediv_le_self b q
    omega
  · have l : a / b < 0 := Int.ediv_neg_of_neg_of_pos (by omega) (by omega)
    have : b * (a / b) ≤ 1 * (a / b) := Int.mul_le_mul_of_nonpos_right h (by omega)
    by_cases z : a / b < a
    · have : b * (a / b) ≤ b * (a - 1) := Int.mul_le_mul_of_nonneg_left (by omega) (by omega)
      have : b * (a - 1) ≤ 1 * (a - 1) := Int.mul_le_mul_of_nonpos_right h (by omega)
      have : b * (a - 1) = b * a - b := by grind
      have : b * a ≤ 1 * a := Int.mul_le_mul_of_nonpos_right h (by omega)
      omega
    · omega
theorem kp__law_other : Keeps0 4 w__law_other sp__law_other := by
  rintro dvs k ⟨p, n, a, b, rfl, hp, hn, hd, hb, ha, h⟩
  obtain ⟨b0, b1, g, ba⟩ := hd
  refine ⟨rfl, by simp [slotsOf], p, _, n, rfl, hp, by omega, by decide, by decide, fun d p1 d0 d1 hp1 => ?_⟩
  refine ⟨rfl, by simp [slotsOf], p1, _, _, rfl, hp1, by omega, by decide, by decide, fun f p2 f0 f1 hp2 => ?_⟩
  refine ⟨⟨shp_int _, shp_int _⟩, ite_both (fun q => ?_) (fun q => ?_)⟩
  · have bb : Bd 10 b := .of (by omega) (by omega)
    refine ⟨divOk (by omega) bb, ?_⟩
    rw [fdiv_div' b0]
    exact h _ 1 p2 ⟨by decide, by decide, Int.gcd_one, ba.le (div_le b0)⟩ (hp2.mono (by omega))
  · refine ⟨⟨shp_int _, shp_int _⟩, ite_both (fun q => ?_) (fun q => ?_)⟩
    · exact h _ _ p2 ⟨b0, b1, by rw [Int.neg_gcd]; exact g, ba.neg⟩ (hp2.mono (by omega))
    · refine ⟨⟨shp_int _, shp_int _⟩, ite_both (fun q => ?_) (fun q => ?_)⟩
      · have bf : Bd 2 (1 + f) := .of (by omega) (by omega)
        have bb : Bd 10 b := .of (by omega) (by omega)
        have m1 : b * (1 + f) ≤ 300 * 3 := Int.mul_le_mul hb (by omega) (by omega) (by decide)
        have m0 : 1 * 1 ≤ b * (1 + f) := Int.mul_le_mul b0 (by omega) (by decide) (by omega)
        have bt : Bd 55 (a * (1 + f) + 1) := (Bd.add (ha.mul bf) (Bd.of (n := 53) (by decide) (by decide))).mono (by decide)
        exact ⟨mulOk ha bf, mulOk bb bf, List.nodup_nil, _, _, rfl, by omega, by omega, bt, h _ _ p2 (low_dr (by omega) (by omega) bt).1 (hp2.mono (by omega))⟩
      · exact ⟨rfl, by simp [slotsOf], p2, _, rfl, hp2, by omega, fun c d p' hd _ _ hp' => h c d p' hd (hp'.mono (by omega))⟩
/-! ### the row -/
theorem ms_word_at (m : Mn) : ∃ sp, (cls m, sp) ∈ ms_word ∧ ∀ k, k (.ret (.val (.str (txt m)))) [.val (.obj (cls m))] → sp [.val (.obj (cls m))] k := by
  cases m
  · exact ⟨sp_Manner_word, by unfold ms_word; exact List.mem_cons_self, fun k h => ⟨rfl, h⟩⟩
  · exact ⟨sp_Ceils_word, by unfold ms_word; exact List.mem_cons_of_mem _ List.mem_cons_self, fun k h => ⟨rfl, h⟩⟩
  · exact ⟨sp_Nears_word, by unfold ms_word; exact List.mem_cons_of_mem _ (List.mem_cons_of_mem _ List.mem_cons_self), fun k h => ⟨rfl, h⟩⟩
theorem ms_turned_at (m : Mn) : ∃ sp, (cls m, sp) ∈ ms_turned ∧ ∀ k, k (.ret (.val (.int (sg m)))) [.val (.obj (cls m))] → sp [.val (.obj (cls m))] k := by
  cases m
  · exact ⟨sp_Manner_turned, by unfold ms_turned; exact List.mem_cons_self, fun k h => ⟨_, rfl, h⟩⟩
  · exact ⟨sp_Ceils_turned, by unfold ms_turned; exact List.mem_cons_of_mem _ List.mem_cons_self, fun k h => ⟨rfl, h⟩⟩
  · exact ⟨sp_Manner_turned, by unfold ms_turned; exact List.mem_cons_of_mem _ (List.mem_cons_of_mem _ List.mem_cons_self), fun k h => ⟨_, rfl, h⟩⟩
theorem ms_fits_at (m : Mn) (ah : Option Int) (t : Int) : ∃ sp, (cls m, sp) ∈ ms_fits ∧ ∀ k, k (.ret (.val (.bl (fits m ah t)))) [.val (.obj (cls m)), .val (optD ah), .val (.int t)] → sp [.val (.obj (cls m)), .val (optD ah), .val (.int t)] k := by
  cases m
  · exact ⟨sp_Manner_fits, by unfold ms_fits; exact List.mem_cons_self, fun k h => ⟨_, _, rfl, h⟩⟩
  · exact ⟨sp_Ceils_fits, by unfold ms_fits; exact List.mem_cons_of_mem _ List.mem_cons_self, fun k h => ⟨_, _, rfl, h⟩⟩
  · exact ⟨sp_Nears_fits, by unfold ms_fits; exact List.mem_cons_of_mem _ (List.mem_cons_of_mem _ List.mem_cons_self), fun k h => ⟨_, _, rfl, h⟩⟩
theorem ms_ends_at (m : Mn) (t : Int) : ∃ sp, (cls m, sp) ∈ ms_ends ∧ ∀ k, k (.ret (.val (.bl (ends m t)))) [.val (.obj (cls m)), .val (.int t)] → sp [.val (.obj (cls m)), .val (.int t)] k := by
  cases m
  · exact ⟨sp_Manner_ends, by unfold ms_ends; exact List.mem_cons_self, fun k h => ⟨_, rfl, h⟩⟩
  · exact ⟨sp_Ceils_ends, by unfold ms_ends; exact List.mem_cons_of_mem _ List.mem_cons_self, fun k h => ⟨_, rfl, h⟩⟩
  · exact ⟨sp_Nears_ends, by unfold ms_ends; exact List.mem_cons_of_mem _ (List.mem_cons_of_mem _ List.mem_cons_self), fun k h => ⟨_, rfl, h⟩⟩
end K55

namespace K55
open PySem DW
theorem Bd.cast_le {n : Nat} {a b : Int} (h : Bd n b) (l : a.natAbs = b.natAbs) : Bd n a := h.le (by omega)
theorem shps_ints : ∀ l : List Int, shps (l.map D.int) = true
  | [] => rfl
  | a :: r => by
    show (shp (.int a) && shps (r.map .int)) = true
    rw [shps_ints r]
    rfl
theorem deps_ints : ∀ l : List Int, deps (l.map D.int) = 0
  | [] => rfl
  | a :: r => by
    show max (dep (.int a)) (deps (r.map .int)) = 0
    rw [deps_ints r]
    rfl
theorem shp_ints (l : List Int) : Shp (.lst (l.map .int)) := by
  refine ⟨shps_ints l, ?_⟩
  show deps (l.map .int) + 1 ≤ 64
  rw [deps_ints]
  decide
theorem deq_ints : ∀ l s : List Int, deqs (l.map D.int) (s.map D.int) = decide (l = s)
  | [], [] => rfl
  | [], b :: s => rfl
  | a :: l, [] => rfl
  | a :: l, b :: s => by
    show (a == b && deqs (l.map D.int) (s.map D.int)) = _
    rw [deq_ints l s]
    by_cases h : a = b
    · rw [h]
      by_cases q : l = s
      · rw [q]
        simp
      · simp [q]
    · simp [h]
theorem deq_lst (l s : List Int) : deq (.lst (l.map D.int)) (.lst (s.map D.int)) = decide (l = s) := deq_ints l s
theorem kp_row_of : Keeps0 8 w_row_of sp_row_of := by
  rintro dvs k ⟨m, a, b, rfl, ⟨b0, b1, g, ba⟩, h⟩
  refine ⟨List.nodup_nil, m, rfl, List.nodup_nil, a, b, rfl, ⟨b0, g⟩, ?_⟩
  refine ⟨fun q ds => ∃ (cur : D) (l : List Int) (x4 x5 x6 x7 : Option DV), ds = [some (.val cur), some (.val (.str (txt m))), some (.val (.obj (cls m))), some (.own (l.map .int)), x4, x5, x6, x7] ∧
      ((cur = .non ∧ l = row m a b ∧ q = 0) ∨ ∃ c d : Int, cur = pr c d ∧ Fr c d ∧ l ++ row m c d = row m a b ∧ l.length + d.toNat ≤ b.toNat ∧ q = d.toNat),
    ⟨_, _, [], _, _, _, _, rfl, .inr ⟨a, b, rfl, ⟨b0, b1, g, ba⟩, rfl, by simp, rfl⟩⟩, ?_⟩
  rintro q ds ⟨cur, l, x4, x5, x6, x7, rfl, (⟨rfl, rfl, rfl⟩ | ⟨c, d, rfl, ⟨d0, d1, g2, bc⟩, e, hl, rfl⟩)⟩
  · exact h
  · refine ⟨⟨shp_int _, shp_int _⟩, ite_no ?_ ?_⟩
    · rw [List.length_map]
      show (((l.length : Nat) : Int) == 1000) = false
      simp
      omega
    obtain ⟨sw, hs, hw⟩ := ms_word_at m
    refine ⟨sw, hs, hw _ ⟨List.nodup_nil, m, c, d, rfl, ⟨d0, d1, g2, bc⟩, rfl, ?_, ?_⟩⟩
    · show (l.map D.int).length < 10000000
      rw [List.length_map]
      omega
    have bd : Bd 10 d := .of (by omega) (by omega)
    have bt : Bd 72 (trm m c d) := by
      have := trm_bd m (a := c) d0
      unfold Bd at bc ⊢
      omega
    obtain ⟨st, hs, ht⟩ := ms_turned_at m
    have bl : Bd 100 (c - trm m c d * d) := (Bd.sub (bc.mono (by decide)) (bt.mul bd)).mono (by decide)
    have bs : Bd 2 (sg m) := by cases m <;> exact .of (by decide) (by decide)
    refine ⟨mulOk bt bd, st, hs, ht _ ⟨mulOk bl bs, ⟨shp_int _, shp_int _⟩, ?_⟩⟩
    show if deq (.int (lft m c d)) (.int 0) = true then _ else _
    rw [row_eq m d0] at e
    refine ite_both (fun z => ?_) (fun z => ?_)
    · have z := eq_int z
      rw [if_pos z] at e
      exact ⟨0, by omega, .non, l ++ [trm m c d], _, _, _, _, by rw [List.map_append]; rfl, .inl ⟨rfl, e, rfl⟩⟩
    · have z := eq_int' z
      rw [if_neg z] at e
      obtain ⟨k1, k2, k3, k4⟩ := nx_ok m d0 g2 z
      refine ⟨List.nodup_nil, d, lft m c d, rfl, z, gcd_lft m g2, ?_⟩
      have ep : (if lft m c d < 0 then pr (-d) (-lft m c d) else pr d (lft m c d)) = pr (nxA m c d) (nxB m c d) := by
        unfold nxA nxB
        split <;> rfl
      rw [ep]
      refine ⟨(nxB m c d).toNat, by omega, _, l ++ [trm m c d], _, _, _, _, by rw [List.map_append]; rfl, .inr ⟨_, _, rfl, ⟨k1, by omega, k3, (Bd.cast_le bd k4).mono (by decide)⟩, ?_, ?_, rfl⟩⟩
      · rw [List.append_assoc]
        exact e
      · rw [List.length_append]
        simp
        omega
theorem row_cons (m : Mn) {a b : Int} (h : 1 ≤ b) : ∃ s, row m a b = trm m a b :: s ∧ (s = [] ↔ lft m a b = 0) ∧ (lft m a b ≠ 0 → s = row m (nxA m a b) (nxB m a b)) := by
  rw [row_eq m h]
  by_cases z : lft m a b = 0
  · rw [if_pos z]
    exact ⟨[], rfl, ⟨fun _ => z, fun _ => rfl⟩, fun n => absurd z n⟩
  · rw [if_neg z]
    refine ⟨_, rfl, ⟨fun e => ?_, fun e => absurd e z⟩, fun _ => rfl⟩
    have r := lft_rng m (a := a) h
    refine absurd e (row_ne m ?_)
    unfold nxB
    split <;> omega
theorem cut_tail (t : Int) (s : List Int) : cutD ((t :: s).map D.int) (some 1) none = s.map D.int := by
  simp [cutD, cutAt]
  exact List.take_of_length_le (by simp)
theorem len_one (t : Int) (s : List Int) : deq (.int (((t :: s).map D.int).length : Nat)) (.int 1) = decide (s = []) := by
  rw [List.length_map, List.length_cons]
  show (((s.length + 1 : Nat) : Int) == 1) = _
  cases s with
  | nil => rfl
  | cons x r =>
    rw [decide_eq_false (List.cons_ne_nil _ _)]
    simp
    omega
theorem kp__law_turned_right : Keeps0 5 w__law_turned_right sp__law_turned_right := by
  rintro dvs k ⟨a, b, rfl, ⟨b0, b1, g, ba⟩, h⟩
  have fr2 : Fr a b := ⟨b0, b1, g, ba.mono (by decide)⟩
  have fr1 : Fr (-a) b := ⟨b0, b1, by rw [Int.neg_gcd]; exact g, (ba.mono (by decide)).neg⟩
  obtain ⟨s1, e1, z1, n1⟩ := row_cons .fl (a := -a) b0
  obtain ⟨s2, e2, z2, n2⟩ := row_cons .ce (a := a) b0
  have el : lft .ce a b = lft .fl (-a) b := ce_lft
  have et : trm .ce a b = -trm .fl (-a) b := ce_fl
  refine ⟨List.nodup_nil, .fl, -a, b, rfl, fr1, List.nodup_nil, .ce, a, b, rfl, fr2, ?_⟩
  rw [e1, e2]
  refine ⟨⟨shp_int _, shp_int _⟩, ?_⟩
  refine ite_no ?_ ⟨⟨shp_int _, shp_int _⟩, ⟨shp_int _, shp_int _⟩, ⟨shp_bl _, shp_bl _⟩, ite_no ?_ ⟨⟨shp_int _, shp_int _⟩, ?_⟩⟩
  · show (!(trm .ce a b == -trm .fl (-a) b)) = false
    rw [et]
    simp
  · rw [len_one, len_one]
    have : (s2 = []) = (s1 = []) := propext (by rw [z1, z2, el])
    show (!(decide (s2 = []) == decide (s1 = []))) = false
    simp [this]
  · rw [len_one]
    by_cases z : lft .ce a b = 0
    · exact ite_yes (decide_eq_true (z1.mpr (el ▸ z))) h
    · refine ite_no (decide_eq_false fun q => z (el ▸ z1.mp q)) ?_
      have bt : Bd 72 (trm .fl (-a) b) := by
        have := trm_bd .fl (a := -a) b0
        unfold Bd at ba ⊢
        omega
      have bb : Bd 10 b := .of (by omega) (by omega)
      have p := lft_pos (m := .ce) (by decide) (a := a) b0
      have r := lft_rng .ce (a := a) b0
      have gl := gcd_lft .ce g
      have ex : -a - trm .fl (-a) b * b = lft .ce a b := by
        rw [el, lft_fl]
        rfl
      refine ⟨mulOk bt bb, List.nodup_nil, b, _, rfl, ?_, ?_, ?_, ?_⟩
      · rw [ex]; omega
      · rw [ex]; omega
      · exact bb.mono (by decide)
      · rw [ex, gl]
        have e3 : nxA .ce a b = b ∧ nxB .ce a b = lft .ce a b := by
          unfold nxA nxB
          rw [if_neg (by omega), if_neg (by omega)]
          exact ⟨rfl, rfl⟩
        have d1 : ∀ x : Int, x / ((1 : Nat) : Int) = x := fun x => Int.ediv_one x
        refine ⟨List.nodup_nil, .ce, b, lft .ce a b, ?_, ⟨by omega, by omega, gl, bb.mono (by decide)⟩, ?_⟩
        · rw [d1, d1]
          rfl
        · refine ⟨⟨?_, shp_ints _⟩, ?_⟩
          · rw [cut_tail]
            exact shp_ints _
          · rw [cut_tail, deq_lst, n2 z, e3.1, e3.2, decide_eq_true rfl]
            exact h
end K55

namespace K55
open PySem DW
theorem boolsD_true : ∀ n : Nat, boolsD (List.replicate n (.bl true)) = some (List.replicate n true)
  | 0 => rfl
  | n + 1 => by
    show (boolsD (List.replicate n (.bl true))).map (true :: ·) = _
    rw [boolsD_true n]
    rfl
theorem all_true (n : Nat) : (List.replicate n true).all id = true := by simp
theorem item_int {l : List Int} {i : Nat} {t : Int} (h : l[i]? = some t) {j : Int} (hj : j = i) : itemAt (l.map D.int) j = some (.int t) := by
  subst hj
  unfold itemAt
  rw [if_pos (by omega), List.getElem?_map]
  show (l[((i : Nat) : Int).toNat]?).map D.int = _
  rw [Int.toNat_natCast, h]
  rfl
theorem kp_is_beginning : Keeps0 4 w_is_beginning sp_is_beginning := by
  rintro dvs k ⟨m, f, r, rfl, hg, hl, h⟩
  -- all of them are numbers
  refine ⟨fun i acc ds => acc = List.replicate i (.bl true) ∧ ∃ x, ds = [some (.val (.obj (cls m))), some (.val (.lst ((f :: r).map .int))), none, x], ⟨rfl, _, rfl⟩, ?_, ?_⟩
  · rintro i d acc ds hi ⟨rfl, x, rfl⟩
    rw [List.getElem?_map] at hi
    obtain ⟨t, ht, rfl⟩ : ∃ t, (f :: r)[i]? = some t ∧ d = .int t := by
      cases e : (f :: r)[i]? with
      | none => rw [e] at hi; cases hi
      | some t => rw [e] at hi; exact ⟨t, rfl, (Option.some.inj hi).symm⟩
    have il := (List.getElem?_eq_some_iff.mp ht).1
    rw [List.length_cons] at il
    refine ⟨List.nodup_nil, t, rfl, ?_, ?_, _, rfl⟩
    · rw [List.length_replicate]
      omega
    · rw [List.replicate_succ']
  · rintro acc ds ⟨rfl, x, rfl⟩
    show match boolsD (List.replicate ((f :: r).map D.int).length (.bl true)) with | some bs => _ | none => False
    rw [boolsD_true]
    refine ite_no (by rw [all_true]; rfl) ?_
    have hlen : ((f :: r).map D.int).length = r.length + 1 := by rw [List.length_map]; rfl
    show RngOk 1 ((((f :: r).map D.int).length : Nat) : Int) ∧ _
    rw [hlen]
    refine ⟨⟨⟨by decide, by decide⟩, by omega, by omega⟩, fun i ds => ∃ x y, ds = [some (.val (.obj (cls m))), some (.val (.lst ((f :: r).map .int))), x, y], ⟨_, _, rfl⟩, ?_, ?_⟩
    · rintro i d ds hi ⟨x, y, rfl⟩
      obtain ⟨rfl, il⟩ := range_get hi
      have il : i < r.length := by omega
      have ht : r[i]? = some r[i] := List.getElem?_eq_getElem il
      have fit := good_at m i hg ht
      obtain ⟨sp, hs, hk⟩ := ms_fits_at m (if i = 0 then none else r[i - 1]?) r[i]
      rw [fit] at hk
      refine ⟨sp, hs, ⟨shp_int _, shp_int _⟩, ?_⟩
      have last : ∀ (ah : D), ah = optD (if i = 0 then none else r[i - 1]?) → (wArgs [wBin dIx (wVar 1) (wVar 2)] nox [some (.val (.obj (cls m))), some (.val (.lst ((f :: r).map .int))), some (.val (.int (1 + (i : Int)))), y] fun l ds1 => sp ((D.obj (cls m) :: ah :: l).map .val) fun out _ => match out with
          | .ret (.val d) => (match d with | .bl c => if (!c) = true then wRet (wC (.bl false)) ds1 { nx := fun ds => ∃ x y, ds = [some (.val (.obj (cls m))), some (.val (.lst ((f :: r).map .int))), x, y], ct := fun ds => ∃ x y, ds = [some (.val (.obj (cls m))), some (.val (.lst ((f :: r).map .int))), x, y], bk := fun ds1 => wRet (wC (.bl true)) ds1 (ends0 [.val (.obj (cls m)), .val (.lst ((f :: r).map .int))] k), rt := (ends0 [.val (.obj (cls m)), .val (.lst ((f :: r).map .int))] k).rt, x := nox } else ∃ x y, ds1 = [some (.val (.obj (cls m))), some (.val (.lst ((f :: r).map .int))), x, y] | _ => False)
          | .ret (.own ys) => False
          | .ret (.par _) => False
          | .exc e => nox e ds1) := by
        rintro ah rfl
        show match itemAt ((f :: r).map D.int) (1 + (i : Int)) with | some v => _ | none => False
        rw [item_int (l := f :: r) (i := i + 1) (t := r[i]) ht (by omega)]
        refine hk _ ?_
        exact ⟨_, _, rfl⟩
      refine ite_both (fun q => ?_) (fun q => ?_)
      · have q : 1 + (i : Int) = 1 := eq_int q
        exact last .non (by rw [if_pos (by omega)]; rfl)
      · have q : ¬ 1 + (i : Int) = 1 := eq_int' q
        have hp : r[i - 1]? = some r[i - 1] := List.getElem?_eq_getElem (by omega)
        show match itemAt ((f :: r).map D.int) (1 + (i : Int) - 1) with | some v => _ | none => False
        rw [item_int (l := f :: r) (i := i) (t := r[i - 1]) (by obtain ⟨j, rfl⟩ : ∃ j, i = j + 1 := ⟨i - 1, by omega⟩; exact hp) (by omega)]
        exact last (.int r[i - 1]) (by rw [if_neg (by omega), hp]; rfl)
    · rintro ds ⟨x, y, rfl⟩
      exact h
theorem last_item (f : Int) (r : List Int) (hr : r ≠ []) : itemAt ((f :: r).map D.int) (-1) = some (.int (r.getLast hr)) := by
  unfold itemAt
  rw [if_neg (by decide), List.length_map, List.length_cons, if_pos (by omega)]
  have e : (-1 + ((r.length + 1 : Nat) : Int)).toNat = r.length := by omega
  rw [e, List.getElem?_map]
  have : (f :: r)[r.length]? = some (r.getLast hr) := by
    have hp : 0 < r.length := by
      cases r with
      | nil => exact absurd rfl hr
      | cons _ _ => simp
    obtain ⟨j, ej⟩ : ∃ j, r.length = j + 1 := ⟨r.length - 1, by omega⟩
    rw [ej]
    show r[j]? = _
    rw [List.getLast_eq_getElem, List.getElem?_eq_getElem (by omega)]
    congr 2
    omega
  rw [this]
  rfl
theorem kp_is_ending : Keeps0 2 w_is_ending sp_is_ending := by
  rintro dvs k ⟨m, f, r, rfl, hg, h⟩
  refine ⟨⟨shp_int _, shp_int _⟩, ?_⟩
  rw [len_one]
  by_cases z : r = []
  · exact ite_yes (decide_eq_true z) h
  · refine ite_no (decide_eq_false z) ?_
    have hlen : ((f :: r).map D.int).length = r.length + 1 := by rw [List.length_map]; rfl
    have hp : 0 < r.length := List.length_pos_iff.mpr z
    refine ite_yes ?_ ?_
    · show decide ((1 : Int) < ((((f :: r).map D.int).length : Nat) : Int)) = true
      rw [hlen]
      exact decide_eq_true (by omega)
    · obtain ⟨sp, hs, hk⟩ := ms_ends_at m (r.getLast z)
      have e : ends m (r.getLast z) = true := good_last m hg (List.getLast?_eq_some_getLast z)
      rw [e] at hk
      refine ⟨sp, hs, ?_⟩
      show match itemAt ((f :: r).map D.int) (-1) with | some v => _ | none => False
      rw [last_item f r z]
      exact hk _ h
theorem kp_is_row : Keeps0 3 w_is_row sp_is_row := by
  rintro dvs k ⟨m, f, r, rfl, hg, hl, h⟩
  exact ⟨List.nodup_nil, m, rfl, List.nodup_nil, m, f, r, rfl, hg, hl, List.nodup_nil, m, f, r, rfl, hg, h⟩
end K55

namespace K55
open PySem DW
theorem drop_get {l : List Int} {i : Nat} {t : Int} (h : l[i]? = some t) : l.drop i = t :: l.drop (i + 1) := drop_of h
theorem row_terms (m : Mn) {a b : Int} (h : Fr a b) : ∀ t ∈ row m a b, Bd 72 t := by
  obtain ⟨b0, b1, g, ba⟩ := h
  intro t ht
  rw [row_eq m b0] at ht
  rcases List.mem_cons.mp ht with q | q
  · have := trm_bd m (a := a) b0
    rw [q]
    unfold Bd at ba ⊢
    omega
  · have := row_bd m b.toNat b0 g (by omega) t (by rw [row_eq m b0]; exact q)
    exact .of (by omega) (by omega)
theorem kp_number_of : Keeps0 5 w_number_of sp_number_of := by
  rintro dvs k ⟨m, a, b, rfl, hf, h⟩
  have hf' := hf
  obtain ⟨b0, b1, g, ba⟩ := hf
  obtain ⟨s, e, _, _⟩ := row_cons m (a := a) b0
  have gd := good_row m b0 g
  have ln := row_len m b.toNat b0 g (by omega)
  rw [e] at gd ln
  have ln : s.length + 1 ≤ b.toNat := ln
  refine ⟨List.nodup_nil, m, rfl, List.nodup_nil, m, trm m a b, s, by rw [e]; rfl, gd, by omega, ?_⟩
  refine ite_no rfl ?_
  have hl : (row m a b).length ≤ 900 := by rw [e, List.length_cons]; omega
  refine ⟨fun i ds => ∃ (p q u v : Int) (x : Option DV), ds = [some (.val (.lst ((row m a b).map .int))), some (.val (.str (txt m))), some (.val (.obj (cls m))), some (.val (mat p q u v)), x] ∧
      (Bd (2 + 74 * i) p ∧ Bd (2 + 74 * i) q ∧ Bd (2 + 74 * i) u ∧ Bd (2 + 74 * i) v) ∧ (p * (col m ((row m a b).drop i)).1 + q * (col m ((row m a b).drop i)).2, u * (col m ((row m a b).drop i)).1 + v * (col m ((row m a b).drop i)).2) = col m (row m a b),
    ⟨1, 0, 0, 1, _, rfl, ⟨.of (by decide) (by decide), .of (by decide) (by decide), .of (by decide) (by decide), .of (by decide) (by decide)⟩, by simp⟩, ?_, ?_⟩
  · rintro i d ds hi ⟨p, q, u, v, x, rfl, ⟨bp, bq, bu, bv⟩, eq⟩
    rw [List.getElem?_map] at hi
    obtain ⟨t, ht, rfl⟩ : ∃ t, (row m a b)[i]? = some t ∧ d = .int t := by
      cases e : (row m a b)[i]? with
      | none => rw [e] at hi; cases hi
      | some t => rw [e] at hi; exact ⟨t, rfl, (Option.some.inj hi).symm⟩
    have il := (List.getElem?_eq_some_iff.mp ht).1
    have bt : Bd 72 t := row_terms m hf' t (List.mem_of_getElem? ht)
    obtain ⟨st, hs, hk⟩ := ms_turned_at m
    have bs : Bd 2 (sg m) := by cases m <;> exact .of (by decide) (by decide)
    have b01 : Bd 2 1 := .of (by decide) (by decide)
    have b00 : Bd 2 0 := .of (by decide) (by decide)
    have up : ∀ {y : Int}, Bd (2 + 74 * i) y → Bd 100000 y := fun h => h.mono (by omega)
    refine ⟨st, hs, hk _ ⟨List.nodup_nil, p, q, u, v, t, sg m, 1, 0, rfl, ⟨up bp, up bq, up bu, up bv⟩, ⟨bt.mono (by decide), bs.mono (by decide), b01.mono (by decide), b00.mono (by decide)⟩, ?_⟩⟩
    have mix : ∀ {y z w x : Int}, Bd (2 + 74 * i) y → Bd (2 + 74 * i) z → Bd 72 w → Bd 72 x → Bd (2 + 74 * (i + 1)) (y * w + z * x) := fun h1 h2 h3 h4 => (Bd.add (h1.mul h3) (h2.mul h4)).mono (by omega)
    refine ⟨_, _, _, _, _, rfl, ⟨mix bp bq bt (b01.mono (by decide)), mix bp bq (bs.mono (by decide)) (b00.mono (by decide)), mix bu bv bt (b01.mono (by decide)), mix bu bv (bs.mono (by decide)) (b00.mono (by decide))⟩, ?_⟩
    rw [drop_get ht] at eq
    rw [← eq]
    show (_, _) = (p * (t * (col m ((row m a b).drop (i + 1))).1 + sg m * (col m ((row m a b).drop (i + 1))).2) + q * (col m ((row m a b).drop (i + 1))).1, u * (t * (col m ((row m a b).drop (i + 1))).1 + sg m * (col m ((row m a b).drop (i + 1))).2) + v * (col m ((row m a b).drop (i + 1))).1)
    congr 1 <;> grind
  · rintro ds ⟨p, q, u, v, x, rfl, _, eq⟩
    rw [List.length_map, List.drop_length] at eq
    have eq : (p * 1 + q * 0, u * 1 + v * 0) = col m (row m a b) := eq
    rw [Int.mul_one, Int.mul_one, Int.mul_zero, Int.mul_zero, Int.add_zero, Int.add_zero] at eq
    rcases col_row m b.toNat b0 g (by omega) with z | z
    · rw [z] at eq
      have e1 : p = a := congrArg Prod.fst eq
      have e2 : u = b := congrArg Prod.snd eq
      subst e1 e2
      refine ⟨List.nodup_nil, p, u, rfl, by omega, g, ?_⟩
      rw [if_neg (by omega)]
      exact h
    · rw [z] at eq
      have e1 : p = -a := congrArg Prod.fst eq
      have e2 : u = -b := congrArg Prod.snd eq
      subst e1 e2
      refine ⟨List.nodup_nil, -a, -b, rfl, by omega, by rw [Int.gcd_neg, Int.neg_gcd]; exact g, ?_⟩
      rw [if_pos (by omega), Int.neg_neg, Int.neg_neg]
      exact h
/-! ### where rows in ceil part -/
theorem cut_one (l : List Int) (i : Nat) : cutD (l.map D.int) (some (i : Int)) (some ((i : Int) + 1)) = (l[i]?.toList).map D.int := by
  have e1 : cutAt (l.map D.int).length 0 (some (i : Int)) = min i l.length := by
    simp only [cutAt]
    rw [if_pos (by omega), List.length_map]
    rfl
  have e2 : cutAt (l.map D.int).length (l.map D.int).length (some ((i : Int) + 1)) = min (i + 1) l.length := by
    simp only [cutAt]
    rw [if_pos (by omega), List.length_map]
    rfl
  unfold cutD
  rw [e1, e2]
  by_cases h : i < l.length
  · rw [Nat.min_eq_left (by omega), Nat.min_eq_left (by omega), List.getElem?_eq_getElem h, ← List.map_drop, List.drop_eq_getElem_cons h]
    have : i + 1 - i = 1 := by omega
    rw [this]
    rfl
  · rw [Nat.min_eq_right (by omega), Nat.min_eq_right (by omega), List.getElem?_eq_none (by omega)]
    simp
theorem toList_eq (x y : Option Int) : decide (x.toList = y.toList) = decide (x = y) := by
  cases x <;> cases y <;> simp
theorem first_of {P : Nat → Bool} {n k : Nat} {t : List Nat} (h : (List.range n).filter P = k :: t) : k < n ∧ P k = true ∧ ∀ j, j < k → P j = false := by
  have e : (List.range n).find? P = some k := by
    rw [← List.head?_filter, h]
    rfl
  rw [List.find?_range_eq_some] at e
  obtain ⟨h1, h2, h3⟩ := e
  refine ⟨List.mem_range.mp h2, h1, fun j hj => ?_⟩
  have := h3 j hj
  simpa using this
theorem shp_opts (x : Option Int) : Shp (.lst (x.toList.map D.int)) := shp_ints _
theorem kp__law_ceils_part : Keeps0 7 w__law_ceils_part sp__law_ceils_part := by
  rintro dvs k ⟨a, b, c, d, rfl, hd, hd', ne, h⟩
  have f1 := hd.fr
  have f2 := hd'.fr
  obtain ⟨b0, b1, g, ba⟩ := hd
  obtain ⟨d0, d1, g', bc⟩ := hd'
  have bb : Bd 10 b := .of (by omega) (by omega)
  have bd : Bd 10 d := .of (by omega) (by omega)
  refine ⟨List.nodup_nil, .ce, a, b, rfl, f1, List.nodup_nil, .ce, c, d, rfl, f2, ?_⟩
  have nr : row .ce a b ≠ row .ce c d := fun e => ne (row_inj .ce b0 g d0 g' e)
  have lr := row_len .ce b.toNat b0 g (by omega)
  have ls := row_len .ce d.toNat d0 g' (by omega)
  have hx : ¬ a * d = c * b := fun e => by
    -- the same fraction
    have e2 : Rat.divInt a b = Rat.divInt c d := by
      rw [Rat.divInt_eq_divInt_iff (by omega) (by omega)]
      exact e
    have n1 : (Rat.divInt a b).num = a := by rw [Rat.num_divInt, Int.gcd_comm, g, Int.sign_eq_one_of_pos (by omega)]; simp
    have n2 : (Rat.divInt c d).num = c := by rw [Rat.num_divInt, Int.gcd_comm, g', Int.sign_eq_one_of_pos (by omega)]; simp
    rw [e2, n2] at n1
    subst n1
    have m1 : ((Rat.divInt c b).den : Int) = b := by rw [Rat.den_divInt, if_neg (by omega), Int.gcd_comm, g]; simp; omega
    have m2 : ((Rat.divInt c d).den : Int) = d := by rw [Rat.den_divInt, if_neg (by omega), Int.gcd_comm, g']; simp; omega
    rw [e2, m2] at m1
    exact ne ⟨rfl, m1.symm⟩
  have lc := less_ce b.toNat b0 g d0 g' hx (by omega)
  revert nr lr ls lc
  generalize row .ce a b = R
  generalize row .ce c d = S
  intro nr lr ls lc
  refine ⟨mulOk ba bd, mulOk bc bb, ?_⟩
  obtain ⟨lz, elz⟩ : ∃ lz, lz = decide (a * d < c * b) := ⟨_, rfl⟩
  obtain ⟨n, en⟩ : ∃ n : Nat, n = max R.length S.length := ⟨_, rfl⟩
  have emax : (if ((((S.map D.int).length : Nat) : Int) > (((R.map D.int).length : Nat) : Int)) then (((S.map D.int).length : Nat) : Int) else (((R.map D.int).length : Nat) : Int)) = (n : Int) := by
    rw [List.length_map, List.length_map]
    split <;> omega
  show RngOk 0 (if ((((S.map D.int).length : Nat) : Int) > (((R.map D.int).length : Nat) : Int)) then (((S.map D.int).length : Nat) : Int) else (((R.map D.int).length : Nat) : Int)) ∧ compI _ _ _ _ _ (rangeD 0 (if ((((S.map D.int).length : Nat) : Int) > (((R.map D.int).length : Nat) : Int)) then (((S.map D.int).length : Nat) : Int) else (((R.map D.int).length : Nat) : Int))) _ _
  rw [emax]
  let P : Nat → Bool := fun i => !decide (R[i]? = S[i]?)
  refine ⟨⟨⟨by decide, by decide⟩, by omega, by omega⟩, fun i acc ds => acc = ((List.range i).filter P).map (fun j : Nat => D.int (j : Int)) ∧ ∃ x, ds = [some (.val (pr a b)), some (.val (pr c d)), some (.val (.lst [.lst (R.map .int), .lst (S.map .int)])), some (.val (.bl lz)), none, none, x], ⟨rfl, _, by rw [elz]; rfl⟩, ?_, ?_⟩
  · rintro i q acc ds hi ⟨rfl, x, rfl⟩
    obtain ⟨rfl, il⟩ := range_get hi
    have z : ∀ l : List Int, cutD (l.map D.int) (some (0 + (i : Int))) (some (0 + (i : Int) + 1)) = (l[i]?.toList).map D.int := fun l => by
      rw [Int.zero_add]
      exact cut_one l i
    show (Shp (.lst (cutD (R.map D.int) (some (0 + (i : Int))) (some (0 + (i : Int) + 1)))) ∧ Shp (.lst (cutD (S.map D.int) (some (0 + (i : Int))) (some (0 + (i : Int) + 1))))) ∧ if (!deq (.lst (cutD (R.map D.int) (some (0 + (i : Int))) (some (0 + (i : Int) + 1)))) (.lst (cutD (S.map D.int) (some (0 + (i : Int))) (some (0 + (i : Int) + 1))))) = true then _ else _
    rw [z, z, deq_lst, toList_eq]
    refine ⟨⟨shp_ints _, shp_ints _⟩, ?_⟩
    have lf : ((List.range i).filter P).length ≤ i := by
      have := List.length_filter_le P (List.range i)
      rw [List.length_range] at this
      exact this
    refine ite_both (fun y => ?_) (fun y => ?_)
    · refine ⟨?_, ?_, _, rfl⟩
      · rw [List.length_map]
        omega
      · rw [List.range_succ, List.filter_append, List.map_append]
        have : P i = true := y
        simp [this]
    · refine ⟨?_, _, rfl⟩
      rw [List.range_succ, List.filter_append, List.map_append]
      have : P i = false := by simpa [P] using y
      simp [this]
  · rintro acc ds ⟨ea, x, rfl⟩
    have er : (rangeD 0 (n : Int)).length = n := by simp [rangeD]
    rw [er] at ea
    subst ea
    -- they part somewhere
    cases hf : (List.range n).filter P with
    | nil =>
      refine absurd (List.ext_getElem? fun i => ?_) nr
      by_cases hi : i < n
      · have := List.filter_eq_nil_iff.mp hf i (List.mem_range.mpr hi)
        simpa [P] using this
      · rw [List.getElem?_eq_none (by omega), List.getElem?_eq_none (by omega)]
    | cons j t =>
      obtain ⟨j0, j1, j2⟩ := first_of hf
      have part : R[j]? ≠ S[j]? := by simpa [P] using j1
      have same : ∀ i, i < j → R[i]? = S[i]? := fun i hi => by simpa [P] using j2 i hi
      have la := less_at j same part
      rw [lc, ← elz] at la
      have shpL : Shp (.lst ((j :: t).map fun j : Nat => D.int (j : Int))) := by
        have : (j :: t).map (fun j : Nat => D.int (j : Int)) = ((j :: t).map fun j : Nat => (j : Int)).map D.int := by
          rw [List.map_map]
          rfl
        rw [this]
        exact shp_ints _
      refine ⟨⟨shpL, ⟨rfl, Nat.le_of_ble_eq_true rfl⟩⟩, ite_no rfl ?_⟩
      refine ⟨⟨shp_int _, shp_int _⟩, ?_⟩
      have dl : ∀ l : List Int, deq (.int (j : Int)) (.int (((l.map D.int).length : Nat) : Int)) = decide (j = l.length) := fun l => by
        rw [List.length_map]
        show ((j : Int) == (l.length : Int)) = _
        by_cases z : j = l.length
        · rw [z]
          simp
        · have : ¬ (j : Int) = (l.length : Int) := by omega
          simp [this, z]
      have shortR : R[j]? = none → j = R.length := fun z => by
        have q1 := List.getElem?_eq_none_iff.mp z
        by_cases q : R.length < j
        · have := same R.length q
          rw [List.getElem?_eq_none (by omega)] at this
          have := List.getElem?_eq_none_iff.mp this.symm
          omega
        · omega
      have shortS : S[j]? = none → j = S.length := fun z => by
        have q1 := List.getElem?_eq_none_iff.mp z
        by_cases q : S.length < j
        · have := same S.length q
          rw [List.getElem?_eq_none (i := S.length) (l := S) (by omega)] at this
          have := List.getElem?_eq_none_iff.mp this
          omega
        · omega
      rw [dl]
      have back : ∀ v : Bool, lz = v → k (.ret (.val (.bl (deq (.bl lz) (.bl v))))) [.val (pr a b), .val (pr c d)] := fun v e => by
        rw [e]
        show k (.ret (.val (.bl (v == v)))) _
        rw [beq_self_eq_true]
        exact h
      have ends : (j = R.length ∨ j = S.length) → (Shp (.bl lz) ∧ Shp (.bl (decide ((j : Int) < (((R.map D.int).length : Nat) : Int))))) ∧ k (.ret (.val (.bl (deq (.bl lz) (.bl (decide ((j : Int) < (((R.map D.int).length : Nat) : Int)))))))) [.val (pr a b), .val (pr c d)] := fun z => by
        refine ⟨⟨shp_bl _, shp_bl _⟩, back _ ?_⟩
        rw [List.length_map]
        cases hR : R[j]? with
        | none =>
          have := shortR hR
          rw [hR] at la
          rw [la]
          exact (decide_eq_false (by omega)).symm
        | some u =>
          have q := (List.getElem?_eq_some_iff.mp hR).1
          cases hS : S[j]? with
          | none =>
            rw [hR, hS] at la
            rw [la]
            exact (decide_eq_true (by omega)).symm
          | some v =>
            have q' := (List.getElem?_eq_some_iff.mp hS).1
            omega
      refine ite_both (fun z => ends (.inl (of_decide_eq_true z))) (fun z => ?_)
      refine ⟨⟨shp_int _, shp_int _⟩, ?_⟩
      rw [dl]
      refine ite_both (fun y => ends (.inr (of_decide_eq_true y))) (fun y => ?_)
      have z : j ≠ R.length := fun e => z (decide_eq_true e)
      have y : j ≠ S.length := fun e => y (decide_eq_true e)
      cases hR : R[j]? with
      | none => exact absurd (shortR hR) z
      | some u =>
        cases hS : S[j]? with
        | none => exact absurd (shortS hS) y
        | some v =>
          rw [hR, hS] at la
          show match itemAt (R.map D.int) (j : Int) with | some v => _ | none => False
          rw [item_int hR rfl]
          show match itemAt (S.map D.int) (j : Int) with | some v => _ | none => False
          rw [item_int hS rfl]
          exact ⟨⟨shp_bl _, shp_bl _⟩, back _ la⟩
end K55

namespace K55
open PySem DW
theorem deq_prs (a b c d : Int) : deq (pr a b) (pr c d) = decide (a = c ∧ b = d) := by
  show (a == c && (b == d && true)) = _
  by_cases h : a = c <;> by_cases q : b = d <;> simp [h, q]
theorem kp_law : Keeps0 8 w_law sp_law := by
  rintro dvs k ⟨ns, rfl, hns, h⟩
  have hl : (ns.map D.int).length = ns.length := List.length_map ..
  refine ⟨⟨⟨by decide, by decide⟩, ?_, ?_⟩, fun i ds => ∃ x1 x2 x3 x4 x5 x6 x7, ds = [some (.val (.lst (ns.map .int))), x1, x2, x3, x4, x5, x6, x7], ⟨_, _, _, _, _, _, _, rfl⟩, ?_, ?_⟩
  · split <;> split <;> omega
  · split <;> split <;> omega
  · rintro i q ds hi ⟨x1, x2, x3, x4, x5, x6, x7, rfl⟩
    obtain ⟨rfl, il⟩ := range_get hi
    have il : i < 10 := by
      split at il <;> split at il <;> omega
    refine ⟨List.nodup_nil, ns, _, rfl, by omega, by omega, fun cl => ⟨List.nodup_nil, _, rfl, fun p hp => ?_⟩⟩
    refine ⟨rfl, by simp [slotsOf], p, 0, rfl, hp, by decide, fun a b p1 hd hb ha hp1 => ?_⟩
    refine ⟨rfl, by simp [slotsOf], p1, _, a, b, rfl, hp1, by decide, hd, hb, ha, fun c d p2 hd' hp2 => ?_⟩
    have fr1 := hd.fr
    have fr2 := hd'.fr
    have hd1 := hd
    have hd2 := hd'
    obtain ⟨b0, b1, g, _⟩ := hd1
    obtain ⟨d0, d1, g', _⟩ := hd2
    refine ⟨List.nodup_nil, a, b, rfl, hd, ite_no rfl ⟨List.nodup_nil, c, d, rfl, hd', ite_no rfl ?_⟩⟩
    refine ⟨rfl, ⟨by decide, by decide, by decide⟩, by simp [slotsOf], p2, _, _, rfl, hp2, by decide, by decide, by decide, fun u p3 u0 u1 hp3 => ⟨⟨by decide, by decide, by decide⟩, ?_⟩⟩
    have bu : Bd 31 (u - 10 ^ Int.toNat 8) := by
      have : (10 : Int) ^ Int.toNat 9 = 1000000000 := by decide
      have : (10 : Int) ^ Int.toNat 8 = 100000000 := by decide
      exact .of (by omega) (by omega)
    obtain ⟨w, ew⟩ : ∃ w, w = u - 10 ^ Int.toNat 8 := ⟨_, rfl⟩
    rw [← ew] at bu
    have bb : Bd 10 b := .of (by omega) (by omega)
    refine ⟨fun j ds => ∃ x6 x7, ds = [some (.val (.lst (ns.map .int))), some (.val (.int (0 + (i : Int)))), some (.own p3), some (.val (pr a b)), some (.val (pr c d)), some (.val (.int w)), x6, x7], ⟨_, _, by rw [ew]; rfl⟩, ?_, ?_⟩
    · rintro j q ds hj ⟨x6, x7, rfl⟩
      obtain ⟨m, rfl⟩ : ∃ m, q = .str (txt m) := by
        have jl := (List.getElem?_eq_some_iff.mp hj).1
        have jl : j < 3 := jl
        have : j = 0 ∨ j = 1 ∨ j = 2 := by omega
        rcases this with rfl | rfl | rfl
        · exact ⟨.fl, (Option.some.inj hj).symm⟩
        · exact ⟨.ce, (Option.some.inj hj).symm⟩
        · exact ⟨.ne, (Option.some.inj hj).symm⟩
      refine ⟨List.nodup_nil, m, a, b, rfl, fr1, ?_⟩
      obtain ⟨s, es, _, _⟩ := row_cons m (a := a) b0
      have fr3 : Fr (a + w * b) b := ⟨b0, b1, gcd_add g, (Bd.add (ha.mono (n := 51) (m := 60) (by decide)) ((bu.mul bb).mono (by decide))).mono (by decide)⟩
      refine ⟨mulOk bu bb, List.nodup_nil, m, a + w * b, b, rfl, fr3, ?_⟩
      rw [row_add m b0, es]
      refine ⟨?_, ?_⟩
      · rw [cut_tail]
        show (List.map D.int [trm m a b + w]).length + (s.map D.int).length ≤ 10000000
        have := row_len m b.toNat b0 g (by omega)
        rw [es] at this
        have : s.length + 1 ≤ b.toNat := this
        rw [List.length_map, List.length_map]
        show 1 + s.length ≤ 10000000
        omega
      · rw [cut_tail]
        have ec : ([D.int (trm m a b + w)] : List D) ++ s.map D.int = ((trm m a b + w) :: s).map D.int := rfl
        show (Shp (.lst (((trm m a b + w) :: s).map D.int)) ∧ Shp (.lst ([D.int (trm m a b + w)] ++ s.map D.int))) ∧ if (!deq (.lst (((trm m a b + w) :: s).map D.int)) (.lst ([D.int (trm m a b + w)] ++ s.map D.int))) = true then _ else _
        rw [ec]
        refine ⟨⟨shp_ints _, shp_ints _⟩, ite_no (by rw [deq_refl]; rfl) ?_⟩
        refine ⟨List.nodup_nil, m, c, d, rfl, fr2, ⟨shp_ints _, shp_ints _⟩, ⟨shp_pr _ _, shp_pr _ _⟩, ⟨shp_bl _, shp_bl _⟩, ?_⟩
        rw [← es, deq_lst, deq_prs]
        have eq : decide (row m a b = row m c d) = decide (a = c ∧ b = d) := by
          by_cases z : a = c ∧ b = d
          · rw [z.1, z.2, decide_eq_true rfl, decide_eq_true ⟨rfl, rfl⟩]
          · rw [decide_eq_false z, decide_eq_false fun e => z (row_inj m b0 g d0 g' e)]
        rw [eq]
        refine ite_no (by rw [deq_refl]; rfl) ?_
        refine ⟨List.nodup_nil, m, a, b, rfl, fr1, ⟨shp_pr _ _, shp_pr _ _⟩, ite_no (by rw [deq_refl]; rfl) ?_⟩
        exact ⟨_, _, rfl⟩
    · rintro ds ⟨x6, x7, rfl⟩
      refine ⟨⟨shp_pr _ _, shp_pr _ _⟩, ?_⟩
      rw [deq_prs]
      refine ite_both (fun z => ?_) (fun z => ?_)
      · have ne : ¬ (a = c ∧ b = d) := fun e => by rw [decide_eq_true e] at z; cases z
        refine ⟨List.nodup_nil, a, b, c, d, rfl, hd, hd', ne, ?_⟩
        refine ⟨List.nodup_nil, c, d, a, b, rfl, hd', hd, fun e => ne ⟨e.1.symm, e.2.symm⟩, ?_⟩
        exact ⟨_, _, _, _, _, _, _, rfl⟩
      · exact ⟨_, _, _, _, _, _, _, rfl⟩
  · rintro ds ⟨x1, x2, x3, x4, x5, x6, x7, rfl⟩
    exact h
end K55

/-! the defs of the text keep their promises, printed by gen.py -/
namespace K55
open PySem PySem.Spec PyProof.Rows L2 DW
def topS (i : Nat) : Stmt := PySem.Challenge.pw_termwide_k55_whole_manners_and_neighbour.main.body.getD i (.Pass ⟨0, 0, 0, 0⟩)
abbrev s__law_purse : Stmt := topS 35
abbrev N__law_purse : List Str := ["cell"]
theorem sc__law_purse : FnScope N__law_purse ["cell"] (defScope s__law_purse) := ⟨rfl, rfl, rfl, by decide +kernel, rfl, by decide +kernel, by decide +kernel⟩
abbrev s__law_take : Stmt := topS 36
abbrev N__law_take : List Str := ["purse", "many", "digit", "one", "other"]
theorem sc__law_take : FnScope N__law_take ["purse", "many"] (defScope s__law_take) := ⟨rfl, rfl, rfl, by decide +kernel, rfl, by decide +kernel, by decide +kernel⟩
abbrev s__law_common : Stmt := topS 39
abbrev N__law_common : List Str := ["one", "other"]
theorem sc__law_common : FnScope N__law_common ["one", "other"] (defScope s__law_common) := ⟨rfl, rfl, rfl, by decide +kernel, rfl, by decide +kernel, by decide +kernel⟩
abbrev s__law_lowest : Stmt := topS 40
abbrev N__law_lowest : List Str := ["top", "bottom", "by"]
theorem sc__law_lowest : FnScope N__law_lowest ["top", "bottom"] (defScope s__law_lowest) := ⟨rfl, rfl, rfl, by decide +kernel, rfl, by decide +kernel, by decide +kernel⟩
abbrev s__law_drawn : Stmt := topS 42
abbrev N__law_drawn : List Str := ["purse", "wide", "top"]
theorem sc__law_drawn : FnScope N__law_drawn ["purse"] (defScope s__law_drawn) := ⟨rfl, rfl, rfl, by decide +kernel, rfl, by decide +kernel, by decide +kernel⟩
abbrev s__law_other : Stmt := topS 43
abbrev N__law_other : List Str := ["purse", "one", "way", "far"]
theorem sc__law_other : FnScope N__law_other ["purse", "one"] (defScope s__law_other) := ⟨rfl, rfl, rfl, by decide +kernel, rfl, by decide +kernel, by decide +kernel⟩
abbrev s__law_cell : Stmt := topS 34
abbrev N__law_cell : List Str := ["script", "k"]
theorem sc__law_cell : FnScope N__law_cell ["script", "k"] (defScope s__law_cell) := ⟨rfl, rfl, rfl, by decide +kernel, rfl, by decide +kernel, by decide +kernel⟩
abbrev s_is_manner : Stmt := topS 18
abbrev N_is_manner : List Str := ["thing"]
theorem sc_is_manner : FnScope N_is_manner ["thing"] (defScope s_is_manner) := ⟨rfl, rfl, rfl, by decide +kernel, rfl, by decide +kernel, by decide +kernel⟩
abbrev s_manner_of : Stmt := topS 27
abbrev N_manner_of : List Str := ["word"]
theorem sc_manner_of : FnScope N_manner_of ["word"] (defScope s_manner_of) := ⟨rfl, rfl, rfl, by decide +kernel, rfl, by decide +kernel, by decide +kernel⟩
abbrev s_is_number : Stmt := topS 8
abbrev N_is_number : List Str := ["thing"]
theorem sc_is_number : FnScope N_is_number ["thing"] (defScope s_is_number) := ⟨rfl, rfl, rfl, by decide +kernel, rfl, by decide +kernel, by decide +kernel⟩
abbrev s_common : Stmt := topS 14
abbrev N_common : List Str := ["one", "other"]
theorem sc_common : FnScope N_common ["one", "other"] (defScope s_common) := ⟨rfl, rfl, rfl, by decide +kernel, rfl, by decide +kernel, by decide +kernel⟩
abbrev s_is_fraction : Stmt := topS 15
abbrev N_is_fraction : List Str := ["thing"]
theorem sc_is_fraction : FnScope N_is_fraction ["thing"] (defScope s_is_fraction) := ⟨rfl, rfl, rfl, by decide +kernel, rfl, by decide +kernel, by decide +kernel⟩
abbrev s_need_fraction : Stmt := topS 16
abbrev N_need_fraction : List Str := ["thing"]
theorem sc_need_fraction : FnScope N_need_fraction ["thing"] (defScope s_need_fraction) := ⟨rfl, rfl, rfl, by decide +kernel, rfl, by decide +kernel, by decide +kernel⟩
abbrev s_whole_of : Stmt := topS 19
abbrev N_whole_of : List Str := ["fraction", "how", "top", "bottom"]
theorem sc_whole_of : FnScope N_whole_of ["fraction", "how"] (defScope s_whole_of) := ⟨rfl, rfl, rfl, by decide +kernel, rfl, by decide +kernel, by decide +kernel⟩
abbrev s_Manner_word : Stmt := inClass (topS 24) 0
abbrev N_Manner_word : List Str := ["self"]
theorem sc_Manner_word : FnScope N_Manner_word ["self"] (defScope s_Manner_word) := ⟨rfl, rfl, rfl, by decide +kernel, rfl, by decide +kernel, by decide +kernel⟩
abbrev s_Ceils_word : Stmt := inClass (topS 25) 0
abbrev N_Ceils_word : List Str := ["self"]
theorem sc_Ceils_word : FnScope N_Ceils_word ["self"] (defScope s_Ceils_word) := ⟨rfl, rfl, rfl, by decide +kernel, rfl, by decide +kernel, by decide +kernel⟩
abbrev s_Nears_word : Stmt := inClass (topS 26) 0
abbrev N_Nears_word : List Str := ["self"]
theorem sc_Nears_word : FnScope N_Nears_word ["self"] (defScope s_Nears_word) := ⟨rfl, rfl, rfl, by decide +kernel, rfl, by decide +kernel, by decide +kernel⟩
abbrev s_Manner_turned : Stmt := inClass (topS 24) 1
abbrev N_Manner_turned : List Str := ["self"]
theorem sc_Manner_turned : FnScope N_Manner_turned ["self"] (defScope s_Manner_turned) := ⟨rfl, rfl, rfl, by decide +kernel, rfl, by decide +kernel, by decide +kernel⟩
abbrev s_Ceils_turned : Stmt := inClass (topS 25) 1
abbrev N_Ceils_turned : List Str := ["self"]
theorem sc_Ceils_turned : FnScope N_Ceils_turned ["self"] (defScope s_Ceils_turned) := ⟨rfl, rfl, rfl, by decide +kernel, rfl, by decide +kernel, by decide +kernel⟩
abbrev s_made : Stmt := topS 17
abbrev N_made : List Str := ["top", "bottom", "by"]
theorem sc_made : FnScope N_made ["top", "bottom"] (defScope s_made) := ⟨rfl, rfl, rfl, by decide +kernel, rfl, by decide +kernel, by decide +kernel⟩
abbrev s_row_of : Stmt := topS 31
abbrev N_row_of : List Str := ["fraction", "manner", "kind", "found", "term", "top", "bottom", "left"]
theorem sc_row_of : FnScope N_row_of ["fraction", "manner"] (defScope s_row_of) := ⟨rfl, rfl, rfl, by decide +kernel, rfl, by decide +kernel, by decide +kernel⟩
abbrev s__law_turned_right : Stmt := topS 44
abbrev N__law_turned_right : List Str := ["one", "top", "bottom", "due", "found"]
theorem sc__law_turned_right : FnScope N__law_turned_right ["one"] (defScope s__law_turned_right) := ⟨rfl, rfl, rfl, by decide +kernel, rfl, by decide +kernel, by decide +kernel⟩
abbrev s_Manner_fits : Stmt := inClass (topS 24) 2
abbrev N_Manner_fits : List Str := ["self", "ahead", "term"]
theorem sc_Manner_fits : FnScope N_Manner_fits ["self", "ahead", "term"] (defScope s_Manner_fits) := ⟨rfl, rfl, rfl, by decide +kernel, rfl, by decide +kernel, by decide +kernel⟩
abbrev s_Ceils_fits : Stmt := inClass (topS 25) 2
abbrev N_Ceils_fits : List Str := ["self", "ahead", "term"]
theorem sc_Ceils_fits : FnScope N_Ceils_fits ["self", "ahead", "term"] (defScope s_Ceils_fits) := ⟨rfl, rfl, rfl, by decide +kernel, rfl, by decide +kernel, by decide +kernel⟩
abbrev s_Nears_fits : Stmt := inClass (topS 26) 1
abbrev N_Nears_fits : List Str := ["self", "ahead", "term"]
theorem sc_Nears_fits : FnScope N_Nears_fits ["self", "ahead", "term"] (defScope s_Nears_fits) := ⟨rfl, rfl, rfl, by decide +kernel, rfl, by decide +kernel, by decide +kernel⟩
abbrev s_is_beginning : Stmt := topS 28
abbrev N_is_beginning : List Str := ["manner", "thing", "at", "term"]
theorem sc_is_beginning : FnScope N_is_beginning ["manner", "thing"] (defScope s_is_beginning) := ⟨rfl, rfl, rfl, by decide +kernel, rfl, by decide +kernel, by decide +kernel⟩
abbrev s_Manner_ends : Stmt := inClass (topS 24) 3
abbrev N_Manner_ends : List Str := ["self", "last"]
theorem sc_Manner_ends : FnScope N_Manner_ends ["self", "last"] (defScope s_Manner_ends) := ⟨rfl, rfl, rfl, by decide +kernel, rfl, by decide +kernel, by decide +kernel⟩
abbrev s_Ceils_ends : Stmt := inClass (topS 25) 3
abbrev N_Ceils_ends : List Str := ["self", "last"]
theorem sc_Ceils_ends : FnScope N_Ceils_ends ["self", "last"] (defScope s_Ceils_ends) := ⟨rfl, rfl, rfl, by decide +kernel, rfl, by decide +kernel, by decide +kernel⟩
abbrev s_Nears_ends : Stmt := inClass (topS 26) 2
abbrev N_Nears_ends : List Str := ["self", "last"]
theorem sc_Nears_ends : FnScope N_Nears_ends ["self", "last"] (defScope s_Nears_ends) := ⟨rfl, rfl, rfl, by decide +kernel, rfl, by decide +kernel, by decide +kernel⟩
abbrev s_is_ending : Stmt := topS 29
abbrev N_is_ending : List Str := ["manner", "terms"]
theorem sc_is_ending : FnScope N_is_ending ["manner", "terms"] (defScope s_is_ending) := ⟨rfl, rfl, rfl, by decide +kernel, rfl, by decide +kernel, by decide +kernel⟩
abbrev s_is_row : Stmt := topS 30
abbrev N_is_row : List Str := ["thing", "manner", "kind"]
theorem sc_is_row : FnScope N_is_row ["thing", "manner"] (defScope s_is_row) := ⟨rfl, rfl, rfl, by decide +kernel, rfl, by decide +kernel, by decide +kernel⟩
abbrev s_product : Stmt := topS 21
abbrev N_product : List Str := ["one", "other", "a", "b", "c", "d", "e", "f", "g", "h"]
theorem sc_product : FnScope N_product ["one", "other"] (defScope s_product) := ⟨rfl, rfl, rfl, by decide +kernel, rfl, by decide +kernel, by decide +kernel⟩
abbrev s_number_of : Stmt := topS 32
abbrev N_number_of : List Str := ["row", "manner", "kind", "rows", "term"]
theorem sc_number_of : FnScope N_number_of ["row", "manner"] (defScope s_number_of) := ⟨rfl, rfl, rfl, by decide +kernel, rfl, by decide +kernel, by decide +kernel⟩
abbrev s__law_ceils_part : Stmt := topS 45
abbrev N__law_ceils_part : List Str := ["one", "other", "rows", "less", "places", "place", "k"]
theorem sc__law_ceils_part : FnScope N__law_ceils_part ["one", "other"] (defScope s__law_ceils_part) := ⟨rfl, rfl, rfl, by decide +kernel, rfl, by decide +kernel, by decide +kernel⟩
abbrev s_law : Stmt := topS 46
abbrev N_law : List Str := ["script", "k", "purse", "one", "other", "more", "manner", "row"]
theorem sc_law : FnScope N_law ["script"] (defScope s_law) := ⟨rfl, rfl, rfl, by decide +kernel, rfl, by decide +kernel, by decide +kernel⟩
section
variable {P : Program} {w : World} {K : PySem.W.Frag} {mg : Str → Option Value} {base : Heap}
theorem ok__law_purse {f : Addr} {fd : FuncData} (Fn : Fun K "_law_purse" "_law_purse" s__law_purse f fd) (hm : mg "_law_purse" = some (.ref f)) (m_max : mg "max" = none) :
    CalF P w K mg base 1 "_law_purse" ["cell"] sp__law_purse f fd :=
  .mk2 Fn hm sc__law_purse len__law_purse (by decide) (fun cdv A outer s H E hr => (ss_one (s_retO (o_lst (l_cons (d_max m_max d_int (d_sub (d_var 0) (d_pow d_int d_int))) (l_cons (d_mod (d_var 0) d_int) (l_cons d_int l_nil))))))) kp__law_purse
theorem ok__law_take {f : Addr} {fd : FuncData} (Fn : Fun K "_law_take" "_law_take" s__law_take f fd) (hm : mg "_law_take" = some (.ref f))  :
    CalF P w K mg base 1 "_law_take" ["purse", "many"] sp__law_take f fd :=
  .mk2 Fn hm sc__law_take len__law_take (by decide) (fun cdv A outer s H E hr => (ss_cons (s_if (t_gt (d_ixO 0 d_int) d_int) (ss_cons (s_set 2 (d_mod (d_ixO 0 d_int) (d_var 1)))
    (ss_cons (s_put 0 (d_fdiv (d_ixO 0 d_int) (d_var 1)) d_int)
    (ss_one (s_ret (d_var 2))))) ss_nil)
    (ss_cons (s_put 0 (d_add (d_ixO 0 d_int) d_int) d_int)
    (ss_cons (s_set 3 (d_mod (d_pow (d_add (d_add (d_ixO 0 d_int) (d_mul d_int (d_ixO 0 d_int))) d_int) d_int) d_int))
    (ss_cons (s_set 4 (d_mod (d_pow (d_add (d_add (d_fdiv (d_var 3) d_int) (d_mul (d_mul d_int (d_ixO 0 d_int)) (d_ixO 0 d_int))) d_int) d_int) d_int))
    (ss_one (s_ret (d_mod (d_add (d_fdiv (d_var 3) d_int) (d_mul d_int (d_fdiv (d_var 4) d_int))) (d_var 1))))))))) kp__law_take
theorem ok__law_common {f : Addr} {fd : FuncData} (Fn : Fun K "_law_common" "_law_common" s__law_common f fd) (hm : mg "_law_common" = some (.ref f)) (m_abs : mg "abs" = none) :
    CalF P w K mg base 1 "_law_common" ["one", "other"] sp__law_common f fd :=
  .mk2 Fn hm sc__law_common len__law_common (by decide) (fun cdv A outer s H E hr => (ss_cons (s_par 0 1 (d_abs m_abs (d_var 0)) (d_abs m_abs (d_var 1)))
    (ss_cons (s_while (t_gt (d_var 1) d_int) (ss_one (s_par 0 1 (d_var 1) (d_mod (d_var 0) (d_var 1)))))
    (ss_one (s_ret (d_var 0)))))) kp__law_common
theorem ok__law_lowest {f : Addr} {fd : FuncData} (Fn : Fun K "_law_lowest" "_law_lowest" s__law_lowest f fd) (hm : mg "_law_lowest" = some (.ref f)) (m_int : mg "int" = none) (c__law_common : Cal P w K mg base 1 "_law_common" ["one", "other"] sp__law_common) :
    CalF P w K mg base 2 "_law_lowest" ["top", "bottom"] sp__law_lowest f fd :=
  .mk2 Fn hm sc__law_lowest len__law_lowest (by decide) (fun cdv A outer s H E hr => (ss_cons (s_set 2 (d_mul (d_callC c__law_common (c_v (d_var 0) (c_v (d_var 1) c_nil))) (d_ix (d_frz (o_lst (l_cons d_int (l_cons (d_neg d_int) l_nil)))) (d_intf m_int (d_lt (d_var 1) d_int)))))
    (ss_one (s_ret (d_tup (l_cons (d_fdiv (d_var 0) (d_var 2)) (l_cons (d_fdiv (d_var 1) (d_var 2)) l_nil))))))) kp__law_lowest
theorem ok__law_drawn {f : Addr} {fd : FuncData} (Fn : Fun K "_law_drawn" "_law_drawn" s__law_drawn f fd) (hm : mg "_law_drawn" = some (.ref f)) (c__law_take : Cal P w K mg base 1 "_law_take" ["purse", "many"] sp__law_take) (c__law_lowest : Cal P w K mg base 2 "_law_lowest" ["top", "bottom"] sp__law_lowest) :
    CalF P w K mg base 3 "_law_drawn" ["purse"] sp__law_drawn f fd :=
  .mk2 Fn hm sc__law_drawn len__law_drawn (by decide) (fun cdv A outer s H E hr => (ss_cons (s_set 1 (d_ix (d_frz (o_lst (l_cons d_int (l_cons d_int (l_cons d_int l_nil))))) (d_callC c__law_take (c_s 0 (c_v d_int c_nil)))))
    (ss_cons (s_set 2 (d_callC c__law_take (c_s 0 (c_v (d_ix (d_frz (o_lst (l_cons (d_var 1) (l_cons (d_pow d_int d_int) l_nil)))) (d_callC c__law_take (c_s 0 (c_v d_int c_nil)))) c_nil))))
    (ss_one (s_ret (d_callC c__law_lowest (c_v (d_ix (d_frz (o_lst (l_cons (d_var 2) (l_cons (d_neg (d_var 2)) l_nil)))) (d_callC c__law_take (c_s 0 (c_v d_int c_nil)))) (c_v (d_add d_int (d_callC c__law_take (c_s 0 (c_v (d_var 1) c_nil)))) c_nil)))))))) kp__law_drawn
theorem ok__law_other {f : Addr} {fd : FuncData} (Fn : Fun K "_law_other" "_law_other" s__law_other f fd) (hm : mg "_law_other" = some (.ref f)) (c__law_take : Cal P w K mg base 1 "_law_take" ["purse", "many"] sp__law_take) (c__law_lowest : Cal P w K mg base 2 "_law_lowest" ["top", "bottom"] sp__law_lowest) (c__law_drawn : Cal P w K mg base 3 "_law_drawn" ["purse"] sp__law_drawn) :
    CalF P w K mg base 4 "_law_other" ["purse", "one"] sp__law_other f fd :=
  .mk2 Fn hm sc__law_other len__law_other (by decide) (fun cdv A outer s H E hr => (ss_cons (s_set 2 (d_callC c__law_take (c_s 0 (c_v d_int c_nil))))
    (ss_cons (s_set 3 (d_add d_int (d_callC c__law_take (c_s 0 (c_v d_int c_nil)))))
    (ss_cons (s_if (t_eq (d_var 2) d_int) (ss_one (s_ret (d_tup (l_cons (d_fdiv (d_ix (d_var 1) d_int) (d_ix (d_var 1) d_int)) (l_cons d_int l_nil))))) ss_nil)
    (ss_cons (s_if (t_eq (d_var 2) d_int) (ss_one (s_ret (d_tup (l_cons (d_neg (d_ix (d_var 1) d_int)) (l_cons (d_ix (d_var 1) d_int) l_nil))))) ss_nil)
    (ss_cons (s_if (t_eq (d_var 2) d_int) (ss_one (s_ret (d_callC c__law_lowest (c_v (d_add (d_mul (d_ix (d_var 1) d_int) (d_var 3)) d_int) (c_v (d_mul (d_ix (d_var 1) d_int) (d_var 3)) c_nil))))) ss_nil)
    (ss_one (s_ret (d_callC c__law_drawn (c_s 0 c_nil)))))))))) kp__law_other
theorem ok__law_cell {f : Addr} {fd : FuncData} (Fn : Fun K "_law_cell" "_law_cell" s__law_cell f fd) (hm : mg "_law_cell" = some (.ref f)) (m_len : mg "len" = none) :
    CalF P w K mg base 1 "_law_cell" ["script", "k"] sp__law_cell f fd :=
  .mk2 Fn hm sc__law_cell len__law_cell (by decide) (fun cdv A outer s H E hr => (ss_cons (s_if (t_lt (d_var 1) (d_len m_len (d_var 0))) (ss_one (s_ret (d_ix (d_var 0) (d_var 1)))) ss_nil)
    (ss_one (s_ret (d_add (d_mul d_int (d_var 1)) d_int))))) kp__law_cell
theorem ok_is_manner {f : Addr} {fd : FuncData} (Fn : Fun K "is_manner" "is_manner" s_is_manner f fd) (hm : mg "is_manner" = some (.ref f)) (m_isinstance : mg "isinstance" = none) (m_str : mg "str" = none) (g_MANNERS : GTup K mg "MANNERS" [Str.ofString "floor", Str.ofString "ceil", Str.ofString "near"]) :
    CalF P w K mg base 1 "is_manner" ["thing"] sp_is_manner f fd :=
  .mk2 Fn hm sc_is_manner len_is_manner (by decide) (fun cdv A outer s H E hr => (ss_one (s_ret (d_and (d_isi .str m_isinstance m_str (by decide +kernel) rfl (d_var 0)) (d_one (d_in (d_var 0) (d_globT g_MANNERS))))))) kp_is_manner
theorem ok_manner_of {f : Addr} {fd : FuncData} (Fn : Fun K "manner_of" "manner_of" s_manner_of f fd) (hm : mg "manner_of" = some (.ref f)) (c_is_manner : Cal P w K mg base 1 "is_manner" ["thing"] sp_is_manner) (g_CEIL : ∃ t, mg "CEIL" = some (.str (Str.ofString "ceil") t)) (g_NEAR : ∃ t, mg "NEAR" = some (.str (Str.ofString "near") t)) (n_Ceils : New0 K mg "Ceils") (n_Nears : New0 K mg "Nears") (n_Manner : New0 K mg "Manner") :
    CalF P w K mg base 2 "manner_of" ["word"] sp_manner_of f fd :=
  .mk2 Fn hm sc_manner_of len_manner_of (by decide) (fun cdv A outer s H E hr => (ss_cons (s_if (t_not (t_val (d_callC c_is_manner (c_v (d_var 0) c_nil)))) (ss_one s_never) ss_nil)
    (ss_cons (s_if (t_eq (d_var 0) (d_globS g_CEIL)) (ss_one (s_ret (d_new0 n_Ceils))) ss_nil)
    (ss_cons (s_if (t_eq (d_var 0) (d_globS g_NEAR)) (ss_one (s_ret (d_new0 n_Nears))) ss_nil)
    (ss_one (s_ret (d_new0 n_Manner))))))) kp_manner_of
theorem ok_is_number {f : Addr} {fd : FuncData} (Fn : Fun K "is_number" "is_number" s_is_number f fd) (hm : mg "is_number" = some (.ref f)) (m_isinstance : mg "isinstance" = none) (m_int : mg "int" = none) (m_bool : mg "bool" = none) :
    CalF P w K mg base 1 "is_number" ["thing"] sp_is_number f fd :=
  .mk2 Fn hm sc_is_number len_is_number (by decide) (fun cdv A outer s H E hr => (ss_one (s_ret (d_and (d_isi .int m_isinstance m_int (by decide +kernel) rfl (d_var 0)) (d_one (d_not (d_isi .bool m_isinstance m_bool (by decide +kernel) rfl (d_var 0)))))))) kp_is_number
theorem ok_common {f : Addr} {fd : FuncData} (Fn : Fun K "common" "common" s_common f fd) (hm : mg "common" = some (.ref f)) (m_abs : mg "abs" = none) :
    CalF P w K mg base 1 "common" ["one", "other"] sp_common f fd :=
  .mk2 Fn hm sc_common len_common (by decide) (fun cdv A outer s H E hr => (ss_cons (s_set 0 (d_abs m_abs (d_var 0)))
    (ss_cons (s_set 1 (d_abs m_abs (d_var 1)))
    (ss_cons (s_while (t_ne (d_var 1) d_int) (ss_one (s_par 0 1 (d_var 1) (d_mod (d_var 0) (d_var 1)))))
    (ss_one (s_ret (d_var 0))))))) kp_common
theorem ok_is_fraction {f : Addr} {fd : FuncData} (Fn : Fun K "is_fraction" "is_fraction" s_is_fraction f fd) (hm : mg "is_fraction" = some (.ref f)) (m_isinstance : mg "isinstance" = none) (m_tuple : mg "tuple" = none) (m_len : mg "len" = none) (c_is_number : Cal P w K mg base 1 "is_number" ["thing"] sp_is_number) (c_common : Cal P w K mg base 1 "common" ["one", "other"] sp_common) :
    CalF P w K mg base 2 "is_fraction" ["thing"] sp_is_fraction f fd :=
  .mk2 Fn hm sc_is_fraction len_is_fraction (by decide) (fun cdv A outer s H E hr => (ss_cons (s_if (p_pt (p_or (t_not (t_val (d_isi .tuple m_isinstance m_tuple (by decide +kernel) rfl (d_var 0)))) (p_or (t_ne (d_len m_len (d_var 0)) d_int) (p_or (t_not (t_val (d_callC c_is_number (c_v (d_ix (d_var 0) d_int) c_nil)))) (p_or1 (t_not (t_val (d_callC c_is_number (c_v (d_ix (d_var 0) d_int) c_nil))))))))) (ss_one (s_ret d_bl)) ss_nil)
    (ss_one (s_ret (d_and (d_ge (d_ix (d_var 0) d_int) d_int) (d_one (d_eq (d_callC c_common (c_v (d_ix (d_var 0) d_int) (c_v (d_ix (d_var 0) d_int) c_nil))) d_int))))))) kp_is_fraction
theorem ok_need_fraction {f : Addr} {fd : FuncData} (Fn : Fun K "need_fraction" "need_fraction" s_need_fraction f fd) (hm : mg "need_fraction" = some (.ref f)) (c_is_fraction : Cal P w K mg base 2 "is_fraction" ["thing"] sp_is_fraction) :
    CalF P w K mg base 3 "need_fraction" ["thing"] sp_need_fraction f fd :=
  .mk2 Fn hm sc_need_fraction len_need_fraction (by decide) (fun cdv A outer s H E hr => (ss_one (s_if (t_not (t_val (d_callC c_is_fraction (c_v (d_var 0) c_nil)))) (ss_one s_never) ss_nil))) kp_need_fraction
theorem ok_whole_of {f : Addr} {fd : FuncData} (Fn : FunV K "whole_of" "whole_of" s_whole_of f fd) (hm : mg "whole_of" = some (.ref f)) (c_need_fraction : Cal P w K mg base 3 "need_fraction" ["thing"] sp_need_fraction) (c_is_manner : Cal P w K mg base 1 "is_manner" ["thing"] sp_is_manner) (g_CEIL : ∃ t, mg "CEIL" = some (.str (Str.ofString "ceil") t)) (g_NEAR : ∃ t, mg "NEAR" = some (.str (Str.ofString "near") t)) :
    CalF P w K mg base 4 "whole_of" ["fraction", "how"] sp_whole_of f fd :=
  .mkV Fn hm sc_whole_of len_whole_of (by decide) (fun cdv A outer s H E hr => (ss_cons (s_drop (d_callC c_need_fraction (c_v (d_var 0) c_nil)))
    (ss_cons (s_if (t_not (t_val (d_callC c_is_manner (c_v (d_var 1) c_nil)))) (ss_one s_never) ss_nil)
    (ss_cons (s_asg (d_var 0) (g_tp (gs_cons (g_nm 2) (gs_cons (g_nm 3) gs_nil))))
    (ss_cons (s_if (t_eq (d_var 1) (d_globS g_CEIL)) (ss_one (s_ret (d_neg (d_fdiv (d_neg (d_var 2)) (d_var 3))))) ss_nil)
    (ss_cons (s_if (t_eq (d_var 1) (d_globS g_NEAR)) (ss_one (s_ret (d_fdiv (d_add (d_mul d_int (d_var 2)) (d_var 3)) (d_mul d_int (d_var 3))))) ss_nil)
    (ss_one (s_ret (d_fdiv (d_var 2) (d_var 3)))))))))) kp_whole_of
theorem ok_Manner_word {f : Addr} {fd : FuncData} (Fn : FunV K "word" "Manner.word" s_Manner_word f fd) (g_FLOOR : ∃ t, mg "FLOOR" = some (.str (Str.ofString "floor") t)) :
    MthF P w K mg base 1 ["self"] sp_Manner_word f fd :=
  .mkV Fn sc_Manner_word len_Manner_word (by decide) (fun cdv A outer s H E hr => (ss_one (s_ret (d_globS g_FLOOR)))) kp_Manner_word
theorem ok_Ceils_word {f : Addr} {fd : FuncData} (Fn : FunV K "word" "Ceils.word" s_Ceils_word f fd) (g_CEIL : ∃ t, mg "CEIL" = some (.str (Str.ofString "ceil") t)) :
    MthF P w K mg base 1 ["self"] sp_Ceils_word f fd :=
  .mkV Fn sc_Ceils_word len_Ceils_word (by decide) (fun cdv A outer s H E hr => (ss_one (s_ret (d_globS g_CEIL)))) kp_Ceils_word
theorem ok_Nears_word {f : Addr} {fd : FuncData} (Fn : FunV K "word" "Nears.word" s_Nears_word f fd) (g_NEAR : ∃ t, mg "NEAR" = some (.str (Str.ofString "near") t)) :
    MthF P w K mg base 1 ["self"] sp_Nears_word f fd :=
  .mkV Fn sc_Nears_word len_Nears_word (by decide) (fun cdv A outer s H E hr => (ss_one (s_ret (d_globS g_NEAR)))) kp_Nears_word
theorem ok_Manner_turned {f : Addr} {fd : FuncData} (Fn : FunV K "turned" "Manner.turned" s_Manner_turned f fd)  :
    MthF P w K mg base 1 ["self"] sp_Manner_turned f fd :=
  .mkV Fn sc_Manner_turned len_Manner_turned (by decide) (fun cdv A outer s H E hr => (ss_one (s_ret d_int))) kp_Manner_turned
theorem ok_Ceils_turned {f : Addr} {fd : FuncData} (Fn : FunV K "turned" "Ceils.turned" s_Ceils_turned f fd)  :
    MthF P w K mg base 1 ["self"] sp_Ceils_turned f fd :=
  .mkV Fn sc_Ceils_turned len_Ceils_turned (by decide) (fun cdv A outer s H E hr => (ss_one (s_ret (d_neg d_int)))) kp_Ceils_turned
theorem ok_made {f : Addr} {fd : FuncData} (Fn : Fun K "made" "made" s_made f fd) (hm : mg "made" = some (.ref f)) (c_common : Cal P w K mg base 1 "common" ["one", "other"] sp_common) :
    CalF P w K mg base 2 "made" ["top", "bottom"] sp_made f fd :=
  .mk2 Fn hm sc_made len_made (by decide) (fun cdv A outer s H E hr => (ss_cons (s_set 2 (d_callC c_common (c_v (d_var 0) (c_v (d_var 1) c_nil))))
    (ss_cons (s_if (t_lt (d_var 1) d_int) (ss_one (s_set 2 (d_neg (d_var 2)))) ss_nil)
    (ss_one (s_ret (d_tup (l_cons (d_fdiv (d_var 0) (d_var 2)) (l_cons (d_fdiv (d_var 1) (d_var 2)) l_nil)))))))) kp_made
theorem ok_row_of {f : Addr} {fd : FuncData} (Fn : FunV K "row_of" "row_of" s_row_of f fd) (hm : mg "row_of" = some (.ref f)) (m_len : mg "len" = none) (c_manner_of : Cal P w K mg base 2 "manner_of" ["word"] sp_manner_of) (c_need_fraction : Cal P w K mg base 3 "need_fraction" ["thing"] sp_need_fraction) (c_whole_of : Cal P w K mg base 4 "whole_of" ["fraction", "how"] sp_whole_of) (c_made : Cal P w K mg base 2 "made" ["top", "bottom"] sp_made) (g_MOST_TERMS : ∃ t, mg "MOST_TERMS" = some (.int 1000 t)) (mt_word : Mth P w K mg base 1 "word" ms_word) (mt_turned : Mth P w K mg base 1 "turned" ms_turned) :
    CalF P w K mg base 5 "row_of" ["fraction", "manner"] sp_row_of f fd :=
  .mkV Fn hm sc_row_of len_row_of (by decide) (fun cdv A outer s H E hr => (ss_cons (s_set 2 (d_callC c_manner_of (c_v (d_var 1) c_nil)))
    (ss_cons (s_drop (d_callC c_need_fraction (c_v (d_var 0) c_nil)))
    (ss_cons (s_setO 3 (o_lst l_nil))
    (ss_cons (s_while (t_notN (d_var 0)) (ss_cons (s_if (t_eq (d_lenO 3 m_len) (d_globI g_MOST_TERMS)) (ss_one s_never) ss_nil)
    (ss_cons (s_set 4 (d_callC c_whole_of (c_v (d_var 0) (c_v (d_meth0 mt_word (d_var 2)) c_nil))))
    (ss_cons (s_app 3 (d_var 4))
    (ss_cons (s_asg (d_var 0) (g_tp (gs_cons (g_nm 5) (gs_cons (g_nm 6) gs_nil))))
    (ss_cons (s_set 7 (d_mul (d_sub (d_var 5) (d_mul (d_var 4) (d_var 6))) (d_meth0 mt_turned (d_var 2))))
    (ss_one (s_set 0 (d_if (t_eq (d_var 7) d_int) d_non (d_callC c_made (c_v (d_var 6) (c_v (d_var 7) c_nil))))))))))))
    (ss_one (s_ret (d_var 3)))))))) kp_row_of
theorem ok__law_turned_right {f : Addr} {fd : FuncData} (Fn : Fun K "_law_turned_right" "_law_turned_right" s__law_turned_right f fd) (hm : mg "_law_turned_right" = some (.ref f)) (m_len : mg "len" = none) (c_row_of : Cal P w K mg base 5 "row_of" ["fraction", "manner"] sp_row_of) (c__law_lowest : Cal P w K mg base 2 "_law_lowest" ["top", "bottom"] sp__law_lowest) :
    CalF P w K mg base 6 "_law_turned_right" ["one"] sp__law_turned_right f fd :=
  .mk2 Fn hm sc__law_turned_right len__law_turned_right (by decide) (fun cdv A outer s H E hr => (ss_cons (s_asg (d_var 0) (g_tp (gs_cons (g_nm 1) (gs_cons (g_nm 2) gs_nil))))
    (ss_cons (s_set 3 (d_callC c_row_of (c_v (d_tup (l_cons (d_neg (d_var 1)) (l_cons (d_var 2) l_nil))) (c_v d_str c_nil))))
    (ss_cons (s_set 4 (d_callC c_row_of (c_v (d_var 0) (c_v d_str c_nil))))
    (ss_cons (s_if (p_pt (p_or (t_ne (d_ix (d_var 4) d_int) (d_neg (d_ix (d_var 3) d_int))) (p_or1 (t_ne (d_eq (d_len m_len (d_var 4)) d_int) (d_eq (d_len m_len (d_var 3)) d_int))))) (ss_one (s_ret d_bl)) ss_nil)
    (ss_one (s_ret (d_or (d_eq (d_len m_len (d_var 3)) d_int) (d_one (d_eq (d_frz (o_cut (d_var 4) (sp_at d_int) sp_no)) (d_callC c_row_of (c_v (d_callC c__law_lowest (c_v (d_var 2) (c_v (d_sub (d_neg (d_var 1)) (d_mul (d_ix (d_var 3) d_int) (d_var 2))) c_nil))) (c_v d_str c_nil))))))))))))) kp__law_turned_right
theorem ok_Manner_fits {f : Addr} {fd : FuncData} (Fn : FunV K "fits" "Manner.fits" s_Manner_fits f fd)  :
    MthF P w K mg base 1 ["self", "ahead", "term"] sp_Manner_fits f fd :=
  .mkV Fn sc_Manner_fits len_Manner_fits (by decide) (fun cdv A outer s H E hr => (ss_one (s_ret (d_ge (d_var 2) d_int)))) kp_Manner_fits
theorem ok_Ceils_fits {f : Addr} {fd : FuncData} (Fn : FunV K "fits" "Ceils.fits" s_Ceils_fits f fd)  :
    MthF P w K mg base 1 ["self", "ahead", "term"] sp_Ceils_fits f fd :=
  .mkV Fn sc_Ceils_fits len_Ceils_fits (by decide) (fun cdv A outer s H E hr => (ss_one (s_ret (d_ge (d_var 2) d_int)))) kp_Ceils_fits
theorem ok_Nears_fits {f : Addr} {fd : FuncData} (Fn : FunV K "fits" "Nears.fits" s_Nears_fits f fd)  :
    MthF P w K mg base 1 ["self", "ahead", "term"] sp_Nears_fits f fd :=
  .mkV Fn sc_Nears_fits len_Nears_fits (by decide) (fun cdv A outer s H E hr => (ss_cons (s_if (t_chain (fun _ => op_lt) rw_lt (fun _ => op_lt) rw_lt (d_neg d_int) (d_var 2) d_int) (ss_one (s_ret d_bl)) ss_nil)
    (ss_cons (s_if (t_eq (d_var 1) d_int) (ss_one (s_ret (d_gt (d_var 2) d_int))) ss_nil)
    (ss_one (s_ret (d_or (d_ne (d_var 1) (d_neg d_int)) (d_one (d_lt (d_var 2) d_int)))))))) kp_Nears_fits
theorem ok_is_beginning {f : Addr} {fd : FuncData} (Fn : Fun K "is_beginning" "is_beginning" s_is_beginning f fd) (hm : mg "is_beginning" = some (.ref f)) (m_tuple : mg "tuple" = none) (m_list : mg "list" = none) (m_isinstance : mg "isinstance" = none) (m_all : mg "all" = none) (m_len : mg "len" = none) (m_range : mg "range" = none) (c_is_number : Cal P w K mg base 1 "is_number" ["thing"] sp_is_number) (mt_fits : Mth P w K mg base 1 "fits" ms_fits) :
    CalF P w K mg base 2 "is_beginning" ["manner", "thing"] sp_is_beginning f fd :=
  .mk2 Fn hm sc_is_beginning len_is_beginning (by decide) (fun cdv A outer s H E hr => (ss_cons (s_if (p_pt (p_or (t_not (t_val (d_isis m_isinstance (d_var 1) (ty_cons .list m_list (by decide +kernel) rfl (ty_cons .tuple m_tuple (by decide +kernel) rfl ty_nil))))) (p_or1 (t_not (t_val (d_all m_all (d_frz (o_lc [("term", 3)] (d_var 1) (g_nm 3) ts_nil (d_callC c_is_number (c_v (d_var 3) c_nil)) (fun _ => blkOk_by (N := N_is_beginning) (sc := defScope s_is_beginning) (by decide +kernel)))))))))) (ss_one (s_ret d_bl)) ss_nil)
    (ss_cons (s_forR2 m_range d_int (d_len m_len (d_var 1)) (g_nm 2) (ss_one (s_if (t_not (t_val (d_meth mt_fits (d_var 0) (l_cons (d_if (t_eq (d_var 2) d_int) d_non (d_ix (d_var 1) (d_sub (d_var 2) d_int))) (l_cons (d_ix (d_var 1) (d_var 2)) l_nil))))) (ss_one (s_ret d_bl)) ss_nil)))
    (ss_one (s_ret d_bl))))) kp_is_beginning
theorem ok_Manner_ends {f : Addr} {fd : FuncData} (Fn : FunV K "ends" "Manner.ends" s_Manner_ends f fd)  :
    MthF P w K mg base 1 ["self", "last"] sp_Manner_ends f fd :=
  .mkV Fn sc_Manner_ends len_Manner_ends (by decide) (fun cdv A outer s H E hr => (ss_one (s_ret (d_ne (d_var 1) d_int)))) kp_Manner_ends
theorem ok_Ceils_ends {f : Addr} {fd : FuncData} (Fn : FunV K "ends" "Ceils.ends" s_Ceils_ends f fd)  :
    MthF P w K mg base 1 ["self", "last"] sp_Ceils_ends f fd :=
  .mkV Fn sc_Ceils_ends len_Ceils_ends (by decide) (fun cdv A outer s H E hr => (ss_one (s_ret d_bl))) kp_Ceils_ends
theorem ok_Nears_ends {f : Addr} {fd : FuncData} (Fn : FunV K "ends" "Nears.ends" s_Nears_ends f fd)  :
    MthF P w K mg base 1 ["self", "last"] sp_Nears_ends f fd :=
  .mkV Fn sc_Nears_ends len_Nears_ends (by decide) (fun cdv A outer s H E hr => (ss_one (s_ret (d_ne (d_var 1) d_int)))) kp_Nears_ends
theorem ok_is_ending {f : Addr} {fd : FuncData} (Fn : Fun K "is_ending" "is_ending" s_is_ending f fd) (hm : mg "is_ending" = some (.ref f)) (m_len : mg "len" = none) (mt_ends : Mth P w K mg base 1 "ends" ms_ends) :
    CalF P w K mg base 2 "is_ending" ["manner", "terms"] sp_is_ending f fd :=
  .mk2 Fn hm sc_is_ending len_is_ending (by decide) (fun cdv A outer s H E hr => (ss_one (s_ret (d_or (d_eq (d_len m_len (d_var 1)) d_int) (d_one (d_and (d_gt (d_len m_len (d_var 1)) d_int) (d_one (d_meth mt_ends (d_var 0) (l_cons (d_ix (d_var 1) (d_neg d_int)) l_nil))))))))) kp_is_ending
theorem ok_is_row {f : Addr} {fd : FuncData} (Fn : FunV K "is_row" "is_row" s_is_row f fd) (hm : mg "is_row" = some (.ref f)) (c_manner_of : Cal P w K mg base 2 "manner_of" ["word"] sp_manner_of) (c_is_beginning : Cal P w K mg base 2 "is_beginning" ["manner", "thing"] sp_is_beginning) (c_is_ending : Cal P w K mg base 2 "is_ending" ["manner", "terms"] sp_is_ending) :
    CalF P w K mg base 3 "is_row" ["thing", "manner"] sp_is_row f fd :=
  .mkV Fn hm sc_is_row len_is_row (by decide) (fun cdv A outer s H E hr => (ss_cons (s_set 2 (d_callC c_manner_of (c_v (d_var 1) c_nil)))
    (ss_one (s_ret (d_and (d_callC c_is_beginning (c_v (d_var 2) (c_v (d_var 0) c_nil))) (d_one (d_callC c_is_ending (c_v (d_var 2) (c_v (d_var 0) c_nil))))))))) kp_is_row
theorem ok_product {f : Addr} {fd : FuncData} (Fn : Fun K "product" "product" s_product f fd) (hm : mg "product" = some (.ref f))  :
    CalF P w K mg base 1 "product" ["one", "other"] sp_product f fd :=
  .mk2 Fn hm sc_product len_product (by decide) (fun cdv A outer s H E hr => (ss_cons (s_asg (d_var 0) (g_tp (gs_cons (g_tp (gs_cons (g_nm 2) (gs_cons (g_nm 3) gs_nil))) (gs_cons (g_tp (gs_cons (g_nm 4) (gs_cons (g_nm 5) gs_nil))) gs_nil))))
    (ss_cons (s_asg (d_var 1) (g_tp (gs_cons (g_tp (gs_cons (g_nm 6) (gs_cons (g_nm 7) gs_nil))) (gs_cons (g_tp (gs_cons (g_nm 8) (gs_cons (g_nm 9) gs_nil))) gs_nil))))
    (ss_one (s_ret (d_tup (l_cons (d_tup (l_cons (d_add (d_mul (d_var 2) (d_var 6)) (d_mul (d_var 3) (d_var 8))) (l_cons (d_add (d_mul (d_var 2) (d_var 7)) (d_mul (d_var 3) (d_var 9))) l_nil))) (l_cons (d_tup (l_cons (d_add (d_mul (d_var 4) (d_var 6)) (d_mul (d_var 5) (d_var 8))) (l_cons (d_add (d_mul (d_var 4) (d_var 7)) (d_mul (d_var 5) (d_var 9))) l_nil))) l_nil)))))))) kp_product
theorem ok_number_of {f : Addr} {fd : FuncData} (Fn : FunV K "number_of" "number_of" s_number_of f fd) (hm : mg "number_of" = some (.ref f)) (c_manner_of : Cal P w K mg base 2 "manner_of" ["word"] sp_manner_of) (c_is_row : Cal P w K mg base 3 "is_row" ["thing", "manner"] sp_is_row) (c_product : Cal P w K mg base 1 "product" ["one", "other"] sp_product) (c_made : Cal P w K mg base 2 "made" ["top", "bottom"] sp_made) (mt_turned : Mth P w K mg base 1 "turned" ms_turned) :
    CalF P w K mg base 4 "number_of" ["row", "manner"] sp_number_of f fd :=
  .mkV Fn hm sc_number_of len_number_of (by decide) (fun cdv A outer s H E hr => (ss_cons (s_set 2 (d_callC c_manner_of (c_v (d_var 1) c_nil)))
    (ss_cons (s_if (t_not (t_val (d_callC c_is_row (c_v (d_var 0) (c_v (d_var 1) c_nil))))) (ss_one s_never) ss_nil)
    (ss_cons (s_set 3 (d_tup (l_cons (d_tup (l_cons d_int (l_cons d_int l_nil))) (l_cons (d_tup (l_cons d_int (l_cons d_int l_nil))) l_nil))))
    (ss_cons (s_for (d_var 0) (g_nm 4) (ss_one (s_set 3 (d_callC c_product (c_v (d_var 3) (c_v (d_tup (l_cons (d_tup (l_cons (d_var 4) (l_cons (d_meth0 mt_turned (d_var 2)) l_nil))) (l_cons (d_tup (l_cons d_int (l_cons d_int l_nil))) l_nil))) c_nil))))))
    (ss_one (s_ret (d_callC c_made (c_v (d_ix (d_ix (d_var 3) d_int) d_int) (c_v (d_ix (d_ix (d_var 3) d_int) d_int) c_nil)))))))))) kp_number_of
theorem ok__law_ceils_part {f : Addr} {fd : FuncData} (Fn : Fun K "_law_ceils_part" "_law_ceils_part" s__law_ceils_part f fd) (hm : mg "_law_ceils_part" = some (.ref f)) (m_len : mg "len" = none) (m_max : mg "max" = none) (m_range : mg "range" = none) (c_row_of : Cal P w K mg base 5 "row_of" ["fraction", "manner"] sp_row_of) :
    CalF P w K mg base 6 "_law_ceils_part" ["one", "other"] sp__law_ceils_part f fd :=
  .mk2 Fn hm sc__law_ceils_part len__law_ceils_part (by decide) (fun cdv A outer s H E hr => (ss_cons (s_set 2 (d_frz (o_lst (l_cons (d_callC c_row_of (c_v (d_var 0) (c_v d_str c_nil))) (l_cons (d_callC c_row_of (c_v (d_var 1) (c_v d_str c_nil))) l_nil)))))
    (ss_cons (s_set 3 (d_lt (d_mul (d_ix (d_var 0) d_int) (d_ix (d_var 1) d_int)) (d_mul (d_ix (d_var 1) d_int) (d_ix (d_var 0) d_int))))
    (ss_cons (s_lc 4 (lc_rng1 [("k", 6)] m_range (d_max m_max (d_len m_len (d_ix (d_var 2) d_int)) (d_len m_len (d_ix (d_var 2) d_int))) (g_nm 6) (ts_one (t_ne (d_frz (o_cut (d_ix (d_var 2) d_int) (sp_at (d_var 6)) (sp_at (d_add (d_var 6) d_int)))) (d_frz (o_cut (d_ix (d_var 2) d_int) (sp_at (d_var 6)) (sp_at (d_add (d_var 6) d_int)))))) (d_var 6) (fun _ => blkOk_by (N := N__law_ceils_part) (sc := defScope s__law_ceils_part) (by decide +kernel))))
    (ss_cons (s_if (t_eq (d_var 4) (d_frz (o_lst l_nil))) (ss_one (s_ret (d_eq (d_var 0) (d_var 1)))) ss_nil)
    (ss_cons (s_set 5 (d_ix (d_var 4) d_int))
    (ss_cons (s_if (p_pt (p_or (t_eq (d_var 5) (d_len m_len (d_ix (d_var 2) d_int))) (p_or1 (t_eq (d_var 5) (d_len m_len (d_ix (d_var 2) d_int)))))) (ss_one (s_ret (d_eq (d_var 3) (d_lt (d_var 5) (d_len m_len (d_ix (d_var 2) d_int)))))) ss_nil)
    (ss_one (s_ret (d_eq (d_var 3) (d_lt (d_ix (d_ix (d_var 2) d_int) (d_var 5)) (d_ix (d_ix (d_var 2) d_int) (d_var 5))))))))))))) kp__law_ceils_part
theorem ok_law {f : Addr} {fd : FuncData} (Fn : Fun K "law" "law" s_law f fd) (hm : mg "law" = some (.ref f)) (m_len : mg "len" = none) (m_min : mg "min" = none) (m_max : mg "max" = none) (m_range : mg "range" = none) (c__law_purse : Cal P w K mg base 1 "_law_purse" ["cell"] sp__law_purse) (c__law_cell : Cal P w K mg base 1 "_law_cell" ["script", "k"] sp__law_cell) (c__law_drawn : Cal P w K mg base 3 "_law_drawn" ["purse"] sp__law_drawn) (c__law_other : Cal P w K mg base 4 "_law_other" ["purse", "one"] sp__law_other) (c__law_turned_right : Cal P w K mg base 6 "_law_turned_right" ["one"] sp__law_turned_right) (c__law_take : Cal P w K mg base 1 "_law_take" ["purse", "many"] sp__law_take) (c_row_of : Cal P w K mg base 5 "row_of" ["fraction", "manner"] sp_row_of) (c_number_of : Cal P w K mg base 4 "number_of" ["row", "manner"] sp_number_of) (c__law_ceils_part : Cal P w K mg base 6 "_law_ceils_part" ["one", "other"] sp__law_ceils_part) :
    CalF P w K mg base 7 "law" ["script"] sp_law f fd :=
  .mk2 Fn hm sc_law len_law (by decide) (fun cdv A outer s H E hr => (ss_cons (s_forR1 m_range (d_max m_max d_int (d_min m_min d_int (d_len m_len (d_var 0)))) (g_nm 1) (ss_cons (s_setO 2 (o_callC c__law_purse (c_v (d_callC c__law_cell (c_v (d_var 0) (c_v (d_var 1) c_nil))) c_nil)))
    (ss_cons (s_set 3 (d_callC c__law_drawn (c_s 2 c_nil)))
    (ss_cons (s_set 4 (d_callC c__law_other (c_s 2 (c_v (d_var 3) c_nil))))
    (ss_cons (s_if (p_pt (p_or (t_not (t_val (d_callC c__law_turned_right (c_v (d_var 3) c_nil)))) (p_or1 (t_not (t_val (d_callC c__law_turned_right (c_v (d_var 4) c_nil))))))) (ss_one (s_ret d_bl)) ss_nil)
    (ss_cons (s_set 5 (d_sub (d_callC c__law_take (c_s 2 (c_v (d_pow d_int d_int) c_nil))) (d_pow d_int d_int)))
    (ss_cons (s_for (d_frz (o_lst (l_cons d_str (l_cons d_str (l_cons d_str l_nil))))) (g_nm 6) (ss_cons (s_set 7 (d_callC c_row_of (c_v (d_var 3) (c_v (d_var 6) c_nil))))
    (ss_cons (s_if (t_ne (d_callC c_row_of (c_v (d_tup (l_cons (d_add (d_ix (d_var 3) d_int) (d_mul (d_var 5) (d_ix (d_var 3) d_int))) (l_cons (d_ix (d_var 3) d_int) l_nil))) (c_v (d_var 6) c_nil))) (d_frz (o_cat (d_frz (o_lst (l_cons (d_add (d_ix (d_var 7) d_int) (d_var 5)) l_nil))) (d_frz (o_cut (d_var 7) (sp_at d_int) sp_no))))) (ss_one (s_ret d_bl)) ss_nil)
    (ss_one (s_if (p_pt (p_or (t_ne (d_eq (d_var 7) (d_callC c_row_of (c_v (d_var 4) (c_v (d_var 6) c_nil)))) (d_eq (d_var 3) (d_var 4))) (p_or1 (t_ne (d_callC c_number_of (c_v (d_var 7) (c_v (d_var 6) c_nil))) (d_var 3))))) (ss_one (s_ret d_bl)) ss_nil)))))
    (ss_one (s_if (p_pt (p_and (t_ne (d_var 3) (d_var 4)) (p_and1 (t_not (p_pt (p_and (t_val (d_callC c__law_ceils_part (c_v (d_var 3) (c_v (d_var 4) c_nil)))) (p_and1 (t_val (d_callC c__law_ceils_part (c_v (d_var 4) (c_v (d_var 3) c_nil))))))))))) (ss_one (s_ret d_bl)) ss_nil)))))))))
    (ss_one (s_ret d_bl)))) kp_law
end
theorem all_mk {l : PySem.W.OpenLaw} {w : World} {K : PySem.W.Frag} {h : Heap} {mg : Str → Option Value} {fa f1 f2 f3 f4 f5 f6 f7 f8 f9 f10 f11 f12 f13 f14 f15 f16 f17 f18 f19 f20 f21 f22 f23 f24 f25 f26 f27 f28 f29 f30 f31 f32 f33 f34 f35 : Addr} (X : K.In h) (G : h.Ns mainGlobals mg) (hfa : mg "law" = some (.ref fa))
    {od1 an1 od2 an2 od3 an3 od4 an4 od5 an5 od6 an6 od7 an7 od8 an8 od9 an9 od10 an10 od11 an11 od12 an12 od13 an13 od14 an14 od15 an15 od16 an16 od17 an17 od18 an18 od19 an19 od20 an20 od21 an21 od22 an22 od23 an23 od24 an24 od25 an25 od26 an26 od27 an27 od28 an28 od29 an29 od30 an30 od31 an31 od32 an32 od33 an33 od34 an34 od35 an35 : Option Addr} {sl1 sl2 sl3 sl4 sl5 sl6 sl7 sl8 sl9 sl10 sl11 sl12 sl13 sl14 sl15 sl16 sl17 sl18 sl19 sl20 sl21 sl22 sl23 sl24 sl25 sl26 sl27 sl28 sl29 sl30 sl31 sl32 sl33 sl34 sl35 : Array (Option Value)} {oc1 kV1 dc1 pm1 cd1 ct1 oc2 kV2 dc2 pm2 cd2 ct2 oc3 kV3 dc3 pm3 cd3 ct3 oc4 kV4 dc4 pm4 cd4 ct4 oc5 kV5 dc5 pm5 cd5 ct5 oc6 kV6 dc6 pm6 cd6 ct6 oc7 kV7 dc7 pm7 cd7 ct7 oc8 kV8 dc8 pm8 cd8 ct8 oc9 kV9 dc9 pm9 cd9 ct9 oc10 kV10 dc10 pm10 cd10 ct10 oc11 kV11 dc11 pm11 cd11 ct11 oc12 kV12 dc12 pm12 cd12 ct12 oc13 kV13 dc13 pm13 cd13 ct13 oc14 kV14 dc14 pm14 cd14 ct14 oc15 kV15 dc15 pm15 cd15 ct15 oc16 kV16 dc16 pm16 cd16 ct16 oc17 kV17 dc17 pm17 cd17 ct17 oc18 kV18 dc18 pm18 cd18 ct18 oc19 kV19 dc19 pm19 cd19 ct19 oc20 kV20 dc20 pm20 cd20 ct20 oc21 kV21 dc21 pm21 cd21 ct21 oc22 kV22 dc22 pm22 cd22 ct22 oc23 kV23 dc23 pm23 cd23 ct23 oc24 kV24 dc24 pm24 cd24 ct24 oc25 kV25 dc25 pm25 cd25 ct25 oc26 kV26 dc26 pm26 cd26 ct26 oc27 kV27 dc27 pm27 cd27 ct27 oc28 kV28 dc28 pm28 cd28 ct28 oc29 kV29 dc29 pm29 cd29 ct29 oc30 kV30 dc30 pm30 cd30 ct30 oc31 kV31 dc31 pm31 cd31 ct31 oc32 kV32 dc32 pm32 cd32 ct32 oc33 kV33 dc33 pm33 cd33 ct33 oc34 kV34 dc34 pm34 cd34 ct34 oc35 kV35 dc35 pm35 cd35 ct35 : Value}
    {C_Manner C_Ceils C_Nears : Addr}
    (ac_Manner : PySem.W.nsIn K mainGlobals "Manner" = some (some (.ref C_Manner))) (pg_Manner : PySem.W.plainGet K C_Manner Str.empty = true) (hd_Manner : PySem.W.hasDictIn K C_Manner = true) (po_Manner : PySem.W.plainOver K C_Manner = true) (sa_Manner : PySem.W.findIn K (.ref C_Manner) "__setattr__" = some (some (.builtin "object.__setattr__")))
    (mk_Manner : PySem.W.makesIn K C_Manner = true) (in_Manner : PySem.W.findIn K (.ref C_Manner) "__init__" = some (some (.builtin "object.__init__"))) (mo_Manner : PySem.W.mroIn K C_Manner (.type "object") = some true) (kc_Manner : PySem.W.keepIn K (.ref C_Manner) = true)
    (ac_Ceils : PySem.W.nsIn K mainGlobals "Ceils" = some (some (.ref C_Ceils))) (pg_Ceils : PySem.W.plainGet K C_Ceils Str.empty = true) (hd_Ceils : PySem.W.hasDictIn K C_Ceils = true) (po_Ceils : PySem.W.plainOver K C_Ceils = true) (sa_Ceils : PySem.W.findIn K (.ref C_Ceils) "__setattr__" = some (some (.builtin "object.__setattr__")))
    (mk_Ceils : PySem.W.makesIn K C_Ceils = true) (in_Ceils : PySem.W.findIn K (.ref C_Ceils) "__init__" = some (some (.builtin "object.__init__"))) (mo_Ceils : PySem.W.mroIn K C_Ceils (.type "object") = some true) (kc_Ceils : PySem.W.keepIn K (.ref C_Ceils) = true)
    (ac_Nears : PySem.W.nsIn K mainGlobals "Nears" = some (some (.ref C_Nears))) (pg_Nears : PySem.W.plainGet K C_Nears Str.empty = true) (hd_Nears : PySem.W.hasDictIn K C_Nears = true) (po_Nears : PySem.W.plainOver K C_Nears = true) (sa_Nears : PySem.W.findIn K (.ref C_Nears) "__setattr__" = some (some (.builtin "object.__setattr__")))
    (mk_Nears : PySem.W.makesIn K C_Nears = true) (in_Nears : PySem.W.findIn K (.ref C_Nears) "__init__" = some (some (.builtin "object.__init__"))) (mo_Nears : PySem.W.mroIn K C_Nears (.type "object") = some true) (kc_Nears : PySem.W.keepIn K (.ref C_Nears) = true)
    (fm_Manner_word : PySem.W.findIn K (.ref C_Manner) "word" = some (some (.ref f15)))
    (fm_Ceils_word : PySem.W.findIn K (.ref C_Ceils) "word" = some (some (.ref f16)))
    (fm_Nears_word : PySem.W.findIn K (.ref C_Nears) "word" = some (some (.ref f17)))
    (fm_Manner_turned : PySem.W.findIn K (.ref C_Manner) "turned" = some (some (.ref f18)))
    (fm_Ceils_turned : PySem.W.findIn K (.ref C_Ceils) "turned" = some (some (.ref f19)))
    (fm_Nears_turned : PySem.W.findIn K (.ref C_Nears) "turned" = some (some (.ref f18)))
    (fm_Manner_fits : PySem.W.findIn K (.ref C_Manner) "fits" = some (some (.ref f23)))
    (fm_Ceils_fits : PySem.W.findIn K (.ref C_Ceils) "fits" = some (some (.ref f24)))
    (fm_Nears_fits : PySem.W.findIn K (.ref C_Nears) "fits" = some (some (.ref f25)))
    (fm_Manner_ends : PySem.W.findIn K (.ref C_Manner) "ends" = some (some (.ref f27)))
    (fm_Ceils_ends : PySem.W.findIn K (.ref C_Ceils) "ends" = some (some (.ref f28)))
    (fm_Nears_ends : PySem.W.findIn K (.ref C_Nears) "ends" = some (some (.ref f29)))
    (a1 : PySem.W.nsIn K mainGlobals "_law_purse" = some (some (.ref f1)))
    (l1 : K.lookup f1 = some ⟨oc1, od1, .func (PySem.W.fnOf "_law_purse" "_law_purse" (defArgs s__law_purse) (defBody s__law_purse) (defScope s__law_purse) .none kV1 dc1 pm1 an1 cd1 ct1), sl1⟩) (c1 : PySem.W.codeIn K cd1 "_law_purse" = true) (k1 : PySem.W.keepIn K (.ref f1) = true)
    (a2 : PySem.W.nsIn K mainGlobals "_law_take" = some (some (.ref f2)))
    (l2 : K.lookup f2 = some ⟨oc2, od2, .func (PySem.W.fnOf "_law_take" "_law_take" (defArgs s__law_take) (defBody s__law_take) (defScope s__law_take) .none kV2 dc2 pm2 an2 cd2 ct2), sl2⟩) (c2 : PySem.W.codeIn K cd2 "_law_take" = true) (k2 : PySem.W.keepIn K (.ref f2) = true)
    (a3 : PySem.W.nsIn K mainGlobals "_law_common" = some (some (.ref f3)))
    (l3 : K.lookup f3 = some ⟨oc3, od3, .func (PySem.W.fnOf "_law_common" "_law_common" (defArgs s__law_common) (defBody s__law_common) (defScope s__law_common) .none kV3 dc3 pm3 an3 cd3 ct3), sl3⟩) (c3 : PySem.W.codeIn K cd3 "_law_common" = true) (k3 : PySem.W.keepIn K (.ref f3) = true)
    (a4 : PySem.W.nsIn K mainGlobals "_law_lowest" = some (some (.ref f4)))
    (l4 : K.lookup f4 = some ⟨oc4, od4, .func (PySem.W.fnOf "_law_lowest" "_law_lowest" (defArgs s__law_lowest) (defBody s__law_lowest) (defScope s__law_lowest) .none kV4 dc4 pm4 an4 cd4 ct4), sl4⟩) (c4 : PySem.W.codeIn K cd4 "_law_lowest" = true) (k4 : PySem.W.keepIn K (.ref f4) = true)
    (a5 : PySem.W.nsIn K mainGlobals "_law_drawn" = some (some (.ref f5)))
    (l5 : K.lookup f5 = some ⟨oc5, od5, .func (PySem.W.fnOf "_law_drawn" "_law_drawn" (defArgs s__law_drawn) (defBody s__law_drawn) (defScope s__law_drawn) .none kV5 dc5 pm5 an5 cd5 ct5), sl5⟩) (c5 : PySem.W.codeIn K cd5 "_law_drawn" = true) (k5 : PySem.W.keepIn K (.ref f5) = true)
    (a6 : PySem.W.nsIn K mainGlobals "_law_other" = some (some (.ref f6)))
    (l6 : K.lookup f6 = some ⟨oc6, od6, .func (PySem.W.fnOf "_law_other" "_law_other" (defArgs s__law_other) (defBody s__law_other) (defScope s__law_other) .none kV6 dc6 pm6 an6 cd6 ct6), sl6⟩) (c6 : PySem.W.codeIn K cd6 "_law_other" = true) (k6 : PySem.W.keepIn K (.ref f6) = true)
    (a7 : PySem.W.nsIn K mainGlobals "_law_cell" = some (some (.ref f7)))
    (l7 : K.lookup f7 = some ⟨oc7, od7, .func (PySem.W.fnOf "_law_cell" "_law_cell" (defArgs s__law_cell) (defBody s__law_cell) (defScope s__law_cell) .none kV7 dc7 pm7 an7 cd7 ct7), sl7⟩) (c7 : PySem.W.codeIn K cd7 "_law_cell" = true) (k7 : PySem.W.keepIn K (.ref f7) = true)
    (a8 : PySem.W.nsIn K mainGlobals "is_manner" = some (some (.ref f8)))
    (l8 : K.lookup f8 = some ⟨oc8, od8, .func (PySem.W.fnOf "is_manner" "is_manner" (defArgs s_is_manner) (defBody s_is_manner) (defScope s_is_manner) .none kV8 dc8 pm8 an8 cd8 ct8), sl8⟩) (c8 : PySem.W.codeIn K cd8 "is_manner" = true) (k8 : PySem.W.keepIn K (.ref f8) = true)
    (a9 : PySem.W.nsIn K mainGlobals "manner_of" = some (some (.ref f9)))
    (l9 : K.lookup f9 = some ⟨oc9, od9, .func (PySem.W.fnOf "manner_of" "manner_of" (defArgs s_manner_of) (defBody s_manner_of) (defScope s_manner_of) .none kV9 dc9 pm9 an9 cd9 ct9), sl9⟩) (c9 : PySem.W.codeIn K cd9 "manner_of" = true) (k9 : PySem.W.keepIn K (.ref f9) = true)
    (a10 : PySem.W.nsIn K mainGlobals "is_number" = some (some (.ref f10)))
    (l10 : K.lookup f10 = some ⟨oc10, od10, .func (PySem.W.fnOf "is_number" "is_number" (defArgs s_is_number) (defBody s_is_number) (defScope s_is_number) .none kV10 dc10 pm10 an10 cd10 ct10), sl10⟩) (c10 : PySem.W.codeIn K cd10 "is_number" = true) (k10 : PySem.W.keepIn K (.ref f10) = true)
    (a11 : PySem.W.nsIn K mainGlobals "common" = some (some (.ref f11)))
    (l11 : K.lookup f11 = some ⟨oc11, od11, .func (PySem.W.fnOf "common" "common" (defArgs s_common) (defBody s_common) (defScope s_common) .none kV11 dc11 pm11 an11 cd11 ct11), sl11⟩) (c11 : PySem.W.codeIn K cd11 "common" = true) (k11 : PySem.W.keepIn K (.ref f11) = true)
    (a12 : PySem.W.nsIn K mainGlobals "is_fraction" = some (some (.ref f12)))
    (l12 : K.lookup f12 = some ⟨oc12, od12, .func (PySem.W.fnOf "is_fraction" "is_fraction" (defArgs s_is_fraction) (defBody s_is_fraction) (defScope s_is_fraction) .none kV12 dc12 pm12 an12 cd12 ct12), sl12⟩) (c12 : PySem.W.codeIn K cd12 "is_fraction" = true) (k12 : PySem.W.keepIn K (.ref f12) = true)
    (a13 : PySem.W.nsIn K mainGlobals "need_fraction" = some (some (.ref f13)))
    (l13 : K.lookup f13 = some ⟨oc13, od13, .func (PySem.W.fnOf "need_fraction" "need_fraction" (defArgs s_need_fraction) (defBody s_need_fraction) (defScope s_need_fraction) .none kV13 dc13 pm13 an13 cd13 ct13), sl13⟩) (c13 : PySem.W.codeIn K cd13 "need_fraction" = true) (k13 : PySem.W.keepIn K (.ref f13) = true)
    {T14 : Addr} {odT14 : Option Addr} {nT14 : Nat} {slT14 : Array (Option Value)} {tk14_0 : Tok}
    (a14 : PySem.W.nsIn K mainGlobals "whole_of" = some (some (.ref f14)))
    (l14 : K.lookup f14 = some ⟨oc14, od14, .func (PySem.W.fnOf "whole_of" "whole_of" (defArgs s_whole_of) (defBody s_whole_of) (defScope s_whole_of) (.ref T14) kV14 dc14 pm14 an14 cd14 ct14), sl14⟩) (c14 : PySem.W.codeIn K cd14 "whole_of" = true) (k14 : PySem.W.keepIn K (.ref f14) = true)
    (lT14 : K.lookup T14 = some ⟨.type "tuple", odT14, .seq #[.str (Str.ofString "floor") tk14_0] nT14, slT14⟩)
    (i15 : PySem.W.isFn K (.ref f15) = true)
    (l15 : K.lookup f15 = some ⟨oc15, od15, .func (PySem.W.fnOf "word" "Manner.word" (defArgs s_Manner_word) (defBody s_Manner_word) (defScope s_Manner_word) .none kV15 dc15 pm15 an15 cd15 ct15), sl15⟩) (c15 : PySem.W.codeIn K cd15 "Manner.word" = true) (k15 : PySem.W.keepIn K (.ref f15) = true)
    (i16 : PySem.W.isFn K (.ref f16) = true)
    (l16 : K.lookup f16 = some ⟨oc16, od16, .func (PySem.W.fnOf "word" "Ceils.word" (defArgs s_Ceils_word) (defBody s_Ceils_word) (defScope s_Ceils_word) .none kV16 dc16 pm16 an16 cd16 ct16), sl16⟩) (c16 : PySem.W.codeIn K cd16 "Ceils.word" = true) (k16 : PySem.W.keepIn K (.ref f16) = true)
    (i17 : PySem.W.isFn K (.ref f17) = true)
    (l17 : K.lookup f17 = some ⟨oc17, od17, .func (PySem.W.fnOf "word" "Nears.word" (defArgs s_Nears_word) (defBody s_Nears_word) (defScope s_Nears_word) .none kV17 dc17 pm17 an17 cd17 ct17), sl17⟩) (c17 : PySem.W.codeIn K cd17 "Nears.word" = true) (k17 : PySem.W.keepIn K (.ref f17) = true)
    (i18 : PySem.W.isFn K (.ref f18) = true)
    (l18 : K.lookup f18 = some ⟨oc18, od18, .func (PySem.W.fnOf "turned" "Manner.turned" (defArgs s_Manner_turned) (defBody s_Manner_turned) (defScope s_Manner_turned) .none kV18 dc18 pm18 an18 cd18 ct18), sl18⟩) (c18 : PySem.W.codeIn K cd18 "Manner.turned" = true) (k18 : PySem.W.keepIn K (.ref f18) = true)
    (i19 : PySem.W.isFn K (.ref f19) = true)
    (l19 : K.lookup f19 = some ⟨oc19, od19, .func (PySem.W.fnOf "turned" "Ceils.turned" (defArgs s_Ceils_turned) (defBody s_Ceils_turned) (defScope s_Ceils_turned) .none kV19 dc19 pm19 an19 cd19 ct19), sl19⟩) (c19 : PySem.W.codeIn K cd19 "Ceils.turned" = true) (k19 : PySem.W.keepIn K (.ref f19) = true)
    (a20 : PySem.W.nsIn K mainGlobals "made" = some (some (.ref f20)))
    (l20 : K.lookup f20 = some ⟨oc20, od20, .func (PySem.W.fnOf "made" "made" (defArgs s_made) (defBody s_made) (defScope s_made) .none kV20 dc20 pm20 an20 cd20 ct20), sl20⟩) (c20 : PySem.W.codeIn K cd20 "made" = true) (k20 : PySem.W.keepIn K (.ref f20) = true)
    {T21 : Addr} {odT21 : Option Addr} {nT21 : Nat} {slT21 : Array (Option Value)} {tk21_0 : Tok}
    (a21 : PySem.W.nsIn K mainGlobals "row_of" = some (some (.ref f21)))
    (l21 : K.lookup f21 = some ⟨oc21, od21, .func (PySem.W.fnOf "row_of" "row_of" (defArgs s_row_of) (defBody s_row_of) (defScope s_row_of) (.ref T21) kV21 dc21 pm21 an21 cd21 ct21), sl21⟩) (c21 : PySem.W.codeIn K cd21 "row_of" = true) (k21 : PySem.W.keepIn K (.ref f21) = true)
    (lT21 : K.lookup T21 = some ⟨.type "tuple", odT21, .seq #[.str (Str.ofString "floor") tk21_0] nT21, slT21⟩)
    (a22 : PySem.W.nsIn K mainGlobals "_law_turned_right" = some (some (.ref f22)))
    (l22 : K.lookup f22 = some ⟨oc22, od22, .func (PySem.W.fnOf "_law_turned_right" "_law_turned_right" (defArgs s__law_turned_right) (defBody s__law_turned_right) (defScope s__law_turned_right) .none kV22 dc22 pm22 an22 cd22 ct22), sl22⟩) (c22 : PySem.W.codeIn K cd22 "_law_turned_right" = true) (k22 : PySem.W.keepIn K (.ref f22) = true)
    (i23 : PySem.W.isFn K (.ref f23) = true)
    (l23 : K.lookup f23 = some ⟨oc23, od23, .func (PySem.W.fnOf "fits" "Manner.fits" (defArgs s_Manner_fits) (defBody s_Manner_fits) (defScope s_Manner_fits) .none kV23 dc23 pm23 an23 cd23 ct23), sl23⟩) (c23 : PySem.W.codeIn K cd23 "Manner.fits" = true) (k23 : PySem.W.keepIn K (.ref f23) = true)
    (i24 : PySem.W.isFn K (.ref f24) = true)
    (l24 : K.lookup f24 = some ⟨oc24, od24, .func (PySem.W.fnOf "fits" "Ceils.fits" (defArgs s_Ceils_fits) (defBody s_Ceils_fits) (defScope s_Ceils_fits) .none kV24 dc24 pm24 an24 cd24 ct24), sl24⟩) (c24 : PySem.W.codeIn K cd24 "Ceils.fits" = true) (k24 : PySem.W.keepIn K (.ref f24) = true)
    (i25 : PySem.W.isFn K (.ref f25) = true)
    (l25 : K.lookup f25 = some ⟨oc25, od25, .func (PySem.W.fnOf "fits" "Nears.fits" (defArgs s_Nears_fits) (defBody s_Nears_fits) (defScope s_Nears_fits) .none kV25 dc25 pm25 an25 cd25 ct25), sl25⟩) (c25 : PySem.W.codeIn K cd25 "Nears.fits" = true) (k25 : PySem.W.keepIn K (.ref f25) = true)
    (a26 : PySem.W.nsIn K mainGlobals "is_beginning" = some (some (.ref f26)))
    (l26 : K.lookup f26 = some ⟨oc26, od26, .func (PySem.W.fnOf "is_beginning" "is_beginning" (defArgs s_is_beginning) (defBody s_is_beginning) (defScope s_is_beginning) .none kV26 dc26 pm26 an26 cd26 ct26), sl26⟩) (c26 : PySem.W.codeIn K cd26 "is_beginning" = true) (k26 : PySem.W.keepIn K (.ref f26) = true)
    (i27 : PySem.W.isFn K (.ref f27) = true)
    (l27 : K.lookup f27 = some ⟨oc27, od27, .func (PySem.W.fnOf "ends" "Manner.ends" (defArgs s_Manner_ends) (defBody s_Manner_ends) (defScope s_Manner_ends) .none kV27 dc27 pm27 an27 cd27 ct27), sl27⟩) (c27 : PySem.W.codeIn K cd27 "Manner.ends" = true) (k27 : PySem.W.keepIn K (.ref f27) = true)
    (i28 : PySem.W.isFn K (.ref f28) = true)
    (l28 : K.lookup f28 = some ⟨oc28, od28, .func (PySem.W.fnOf "ends" "Ceils.ends" (defArgs s_Ceils_ends) (defBody s_Ceils_ends) (defScope s_Ceils_ends) .none kV28 dc28 pm28 an28 cd28 ct28), sl28⟩) (c28 : PySem.W.codeIn K cd28 "Ceils.ends" = true) (k28 : PySem.W.keepIn K (.ref f28) = true)
    (i29 : PySem.W.isFn K (.ref f29) = true)
    (l29 : K.lookup f29 = some ⟨oc29, od29, .func (PySem.W.fnOf "ends" "Nears.ends" (defArgs s_Nears_ends) (defBody s_Nears_ends) (defScope s_Nears_ends) .none kV29 dc29 pm29 an29 cd29 ct29), sl29⟩) (c29 : PySem.W.codeIn K cd29 "Nears.ends" = true) (k29 : PySem.W.keepIn K (.ref f29) = true)
    (a30 : PySem.W.nsIn K mainGlobals "is_ending" = some (some (.ref f30)))
    (l30 : K.lookup f30 = some ⟨oc30, od30, .func (PySem.W.fnOf "is_ending" "is_ending" (defArgs s_is_ending) (defBody s_is_ending) (defScope s_is_ending) .none kV30 dc30 pm30 an30 cd30 ct30), sl30⟩) (c30 : PySem.W.codeIn K cd30 "is_ending" = true) (k30 : PySem.W.keepIn K (.ref f30) = true)
    {T31 : Addr} {odT31 : Option Addr} {nT31 : Nat} {slT31 : Array (Option Value)} {tk31_0 : Tok}
    (a31 : PySem.W.nsIn K mainGlobals "is_row" = some (some (.ref f31)))
    (l31 : K.lookup f31 = some ⟨oc31, od31, .func (PySem.W.fnOf "is_row" "is_row" (defArgs s_is_row) (defBody s_is_row) (defScope s_is_row) (.ref T31) kV31 dc31 pm31 an31 cd31 ct31), sl31⟩) (c31 : PySem.W.codeIn K cd31 "is_row" = true) (k31 : PySem.W.keepIn K (.ref f31) = true)
    (lT31 : K.lookup T31 = some ⟨.type "tuple", odT31, .seq #[.str (Str.ofString "floor") tk31_0] nT31, slT31⟩)
    (a32 : PySem.W.nsIn K mainGlobals "product" = some (some (.ref f32)))
    (l32 : K.lookup f32 = some ⟨oc32, od32, .func (PySem.W.fnOf "product" "product" (defArgs s_product) (defBody s_product) (defScope s_product) .none kV32 dc32 pm32 an32 cd32 ct32), sl32⟩) (c32 : PySem.W.codeIn K cd32 "product" = true) (k32 : PySem.W.keepIn K (.ref f32) = true)
    {T33 : Addr} {odT33 : Option Addr} {nT33 : Nat} {slT33 : Array (Option Value)} {tk33_0 : Tok}
    (a33 : PySem.W.nsIn K mainGlobals "number_of" = some (some (.ref f33)))
    (l33 : K.lookup f33 = some ⟨oc33, od33, .func (PySem.W.fnOf "number_of" "number_of" (defArgs s_number_of) (defBody s_number_of) (defScope s_number_of) (.ref T33) kV33 dc33 pm33 an33 cd33 ct33), sl33⟩) (c33 : PySem.W.codeIn K cd33 "number_of" = true) (k33 : PySem.W.keepIn K (.ref f33) = true)
    (lT33 : K.lookup T33 = some ⟨.type "tuple", odT33, .seq #[.str (Str.ofString "floor") tk33_0] nT33, slT33⟩)
    (a34 : PySem.W.nsIn K mainGlobals "_law_ceils_part" = some (some (.ref f34)))
    (l34 : K.lookup f34 = some ⟨oc34, od34, .func (PySem.W.fnOf "_law_ceils_part" "_law_ceils_part" (defArgs s__law_ceils_part) (defBody s__law_ceils_part) (defScope s__law_ceils_part) .none kV34 dc34 pm34 an34 cd34 ct34), sl34⟩) (c34 : PySem.W.codeIn K cd34 "_law_ceils_part" = true) (k34 : PySem.W.keepIn K (.ref f34) = true)
    (a35 : PySem.W.nsIn K mainGlobals "law" = some (some (.ref f35)))
    (l35 : K.lookup f35 = some ⟨oc35, od35, .func (PySem.W.fnOf "law" "law" (defArgs s_law) (defBody s_law) (defScope s_law) .none kV35 dc35 pm35 an35 cd35 ct35), sl35⟩) (c35 : PySem.W.codeIn K cd35 "law" = true) (k35 : PySem.W.keepIn K (.ref f35) = true)
    (z_max : PySem.W.nsIn K mainGlobals "max" = some none) (z_abs : PySem.W.nsIn K mainGlobals "abs" = some none) (z_int : PySem.W.nsIn K mainGlobals "int" = some none) (z_len : PySem.W.nsIn K mainGlobals "len" = some none) (z_isinstance : PySem.W.nsIn K mainGlobals "isinstance" = some none) (z_str : PySem.W.nsIn K mainGlobals "str" = some none) (z_bool : PySem.W.nsIn K mainGlobals "bool" = some none) (z_tuple : PySem.W.nsIn K mainGlobals "tuple" = some none) (z_list : PySem.W.nsIn K mainGlobals "list" = some none) (z_all : PySem.W.nsIn K mainGlobals "all" = some none) (z_range : PySem.W.nsIn K mainGlobals "range" = some none) (z_min : PySem.W.nsIn K mainGlobals "min" = some none) {A_MANNERS : Addr} {od_MANNERS : Option Addr} {n_MANNERS : Nat} {sl_MANNERS : Array (Option Value)} {t_MANNERS_0 t_MANNERS_1 t_MANNERS_2 : Tok} (y_MANNERS : PySem.W.nsIn K mainGlobals "MANNERS" = some (some (.ref A_MANNERS))) (x_MANNERS : K.lookup A_MANNERS = some ⟨.type "tuple", od_MANNERS, .seq #[.str (Str.ofString "floor") t_MANNERS_0, .str (Str.ofString "ceil") t_MANNERS_1, .str (Str.ofString "near") t_MANNERS_2] n_MANNERS, sl_MANNERS⟩) {t_CEIL : Tok} (y_CEIL : PySem.W.nsIn K mainGlobals "CEIL" = some (some (.str (Str.ofString "ceil") t_CEIL))) {t_NEAR : Tok} (y_NEAR : PySem.W.nsIn K mainGlobals "NEAR" = some (some (.str (Str.ofString "near") t_NEAR))) {t_FLOOR : Tok} (y_FLOOR : PySem.W.nsIn K mainGlobals "FLOOR" = some (some (.str (Str.ofString "floor") t_FLOOR))) {t_MOST_TERMS : Tok} (y_MOST_TERMS : PySem.W.nsIn K mainGlobals "MOST_TERMS" = some (some (.int 1000 t_MOST_TERMS))) :
    ∃ fd : FuncData, (∀ (s : Shared) (v : Value), BindsTo s fd ⟨[v], []⟩ [("script", v)]) ∧ ∀ base : Heap, K.In base → base.Ns mainGlobals mg → FnOk l.prog w K mg base CX0 7 fa fd ["script"] (spOf K sp_law) := by
  have e := hfa.symm.trans (PySem.W.mg_of X G a35)
  cases e
  have m_max := PySem.W.mg_none_of X G z_max
  have m_abs := PySem.W.mg_none_of X G z_abs
  have m_int := PySem.W.mg_none_of X G z_int
  have m_len := PySem.W.mg_none_of X G z_len
  have m_isinstance := PySem.W.mg_none_of X G z_isinstance
  have m_str := PySem.W.mg_none_of X G z_str
  have m_bool := PySem.W.mg_none_of X G z_bool
  have m_tuple := PySem.W.mg_none_of X G z_tuple
  have m_list := PySem.W.mg_none_of X G z_list
  have m_all := PySem.W.mg_none_of X G z_all
  have m_range := PySem.W.mg_none_of X G z_range
  have m_min := PySem.W.mg_none_of X G z_min
  refine ⟨PySem.W.fnOf "law" "law" (defArgs s_law) (defBody s_law) (defScope s_law) .none kV35 dc35 pm35 an35 cd35 ct35, fun s v => .of_eq rfl, fun base _ _ => ?_⟩
  have g_MANNERS : GTup K mg "MANNERS" [Str.ofString "floor", Str.ofString "ceil", Str.ofString "near"] := .mk_ (PySem.W.mg_of X G y_MANNERS) x_MANNERS (by show 3 ≤ sizeLine; decide) (.cons ⟨_, rfl⟩ (.cons ⟨_, rfl⟩ (.cons ⟨_, rfl⟩ .nil)))
  have g_CEIL : ∃ t, mg "CEIL" = some (.str (Str.ofString "ceil") t) := ⟨_, PySem.W.mg_of X G y_CEIL⟩
  have g_NEAR : ∃ t, mg "NEAR" = some (.str (Str.ofString "near") t) := ⟨_, PySem.W.mg_of X G y_NEAR⟩
  have g_FLOOR : ∃ t, mg "FLOOR" = some (.str (Str.ofString "floor") t) := ⟨_, PySem.W.mg_of X G y_FLOOR⟩
  have g_MOST_TERMS : ∃ t, mg "MOST_TERMS" = some (.int 1000 t) := ⟨_, PySem.W.mg_of X G y_MOST_TERMS⟩
  have n_Ceils : New0 K mg "Ceils" := ⟨C_Ceils, ac_Ceils, PySem.W.mg_of X G ac_Ceils, ⟨mk_Ceils, in_Ceils, mo_Ceils, kc_Ceils⟩⟩
  have n_Nears : New0 K mg "Nears" := ⟨C_Nears, ac_Nears, PySem.W.mg_of X G ac_Nears, ⟨mk_Nears, in_Nears, mo_Nears, kc_Nears⟩⟩
  have n_Manner : New0 K mg "Manner" := ⟨C_Manner, ac_Manner, PySem.W.mg_of X G ac_Manner, ⟨mk_Manner, in_Manner, mo_Manner, kc_Manner⟩⟩
  have F__law_purse := fun_mk (st := s__law_purse) l1 c1 k1
  have o__law_purse := ok__law_purse (P := l.prog) (w := w) (base := base) F__law_purse (PySem.W.mg_of X G a1) m_max
  have c__law_purse := o__law_purse.cal (F__law_purse.binds (ps := ["cell"]) fun _ _ _ _ _ _ us hl => match us, hl with | [_], _ => rfl)
  have F__law_take := fun_mk (st := s__law_take) l2 c2 k2
  have o__law_take := ok__law_take (P := l.prog) (w := w) (base := base) F__law_take (PySem.W.mg_of X G a2) 
  have c__law_take := o__law_take.cal (F__law_take.binds (ps := ["purse", "many"]) fun _ _ _ _ _ _ us hl => match us, hl with | [_, _], _ => rfl)
  have F__law_common := fun_mk (st := s__law_common) l3 c3 k3
  have o__law_common := ok__law_common (P := l.prog) (w := w) (base := base) F__law_common (PySem.W.mg_of X G a3) m_abs
  have c__law_common := o__law_common.cal (F__law_common.binds (ps := ["one", "other"]) fun _ _ _ _ _ _ us hl => match us, hl with | [_, _], _ => rfl)
  have F__law_lowest := fun_mk (st := s__law_lowest) l4 c4 k4
  have o__law_lowest := ok__law_lowest (P := l.prog) (w := w) (base := base) F__law_lowest (PySem.W.mg_of X G a4) m_int c__law_common
  have c__law_lowest := o__law_lowest.cal (F__law_lowest.binds (ps := ["top", "bottom"]) fun _ _ _ _ _ _ us hl => match us, hl with | [_, _], _ => rfl)
  have F__law_drawn := fun_mk (st := s__law_drawn) l5 c5 k5
  have o__law_drawn := ok__law_drawn (P := l.prog) (w := w) (base := base) F__law_drawn (PySem.W.mg_of X G a5) c__law_take c__law_lowest
  have c__law_drawn := o__law_drawn.cal (F__law_drawn.binds (ps := ["purse"]) fun _ _ _ _ _ _ us hl => match us, hl with | [_], _ => rfl)
  have F__law_other := fun_mk (st := s__law_other) l6 c6 k6
  have o__law_other := ok__law_other (P := l.prog) (w := w) (base := base) F__law_other (PySem.W.mg_of X G a6) c__law_take c__law_lowest c__law_drawn
  have c__law_other := o__law_other.cal (F__law_other.binds (ps := ["purse", "one"]) fun _ _ _ _ _ _ us hl => match us, hl with | [_, _], _ => rfl)
  have F__law_cell := fun_mk (st := s__law_cell) l7 c7 k7
  have o__law_cell := ok__law_cell (P := l.prog) (w := w) (base := base) F__law_cell (PySem.W.mg_of X G a7) m_len
  have c__law_cell := o__law_cell.cal (F__law_cell.binds (ps := ["script", "k"]) fun _ _ _ _ _ _ us hl => match us, hl with | [_, _], _ => rfl)
  have F_is_manner := fun_mk (st := s_is_manner) l8 c8 k8
  have o_is_manner := ok_is_manner (P := l.prog) (w := w) (base := base) F_is_manner (PySem.W.mg_of X G a8) m_isinstance m_str g_MANNERS
  have c_is_manner := o_is_manner.cal (F_is_manner.binds (ps := ["thing"]) fun _ _ _ _ _ _ us hl => match us, hl with | [_], _ => rfl)
  have F_manner_of := fun_mk (st := s_manner_of) l9 c9 k9
  have o_manner_of := ok_manner_of (P := l.prog) (w := w) (base := base) F_manner_of (PySem.W.mg_of X G a9) c_is_manner g_CEIL g_NEAR n_Ceils n_Nears n_Manner
  have c_manner_of := o_manner_of.cal (F_manner_of.binds (ps := ["word"]) fun _ _ _ _ _ _ us hl => match us, hl with | [_], _ => rfl)
  have F_is_number := fun_mk (st := s_is_number) l10 c10 k10
  have o_is_number := ok_is_number (P := l.prog) (w := w) (base := base) F_is_number (PySem.W.mg_of X G a10) m_isinstance m_int m_bool
  have c_is_number := o_is_number.cal (F_is_number.binds (ps := ["thing"]) fun _ _ _ _ _ _ us hl => match us, hl with | [_], _ => rfl)
  have F_common := fun_mk (st := s_common) l11 c11 k11
  have o_common := ok_common (P := l.prog) (w := w) (base := base) F_common (PySem.W.mg_of X G a11) m_abs
  have c_common := o_common.cal (F_common.binds (ps := ["one", "other"]) fun _ _ _ _ _ _ us hl => match us, hl with | [_, _], _ => rfl)
  have F_is_fraction := fun_mk (st := s_is_fraction) l12 c12 k12
  have o_is_fraction := ok_is_fraction (P := l.prog) (w := w) (base := base) F_is_fraction (PySem.W.mg_of X G a12) m_isinstance m_tuple m_len c_is_number c_common
  have c_is_fraction := o_is_fraction.cal (F_is_fraction.binds (ps := ["thing"]) fun _ _ _ _ _ _ us hl => match us, hl with | [_], _ => rfl)
  have F_need_fraction := fun_mk (st := s_need_fraction) l13 c13 k13
  have o_need_fraction := ok_need_fraction (P := l.prog) (w := w) (base := base) F_need_fraction (PySem.W.mg_of X G a13) c_is_fraction
  have c_need_fraction := o_need_fraction.cal (F_need_fraction.binds (ps := ["thing"]) fun _ _ _ _ _ _ us hl => match us, hl with | [_], _ => rfl)
  have F_whole_of := funT_mk (st := s_whole_of) l14 c14 k14 (its := [.str (Str.ofString "floor") tk14_0]) lT14
  have o_whole_of := ok_whole_of (P := l.prog) (w := w) (base := base) F_whole_of.v (PySem.W.mg_of X G a14) c_need_fraction c_is_manner g_CEIL g_NEAR
  have c_whole_of := o_whole_of.cal (F_whole_of.binds (ps := ["fraction", "how"]) fun _ _ _ _ _ _ _ us hl => match us, hl with | [_, _], _ => ⟨_, rfl, rfl⟩)
  have F_Manner_word := fun_mk (st := s_Manner_word) l15 c15 k15
  have o_Manner_word := ok_Manner_word (P := l.prog) (w := w) (mg := mg) (base := base) (.of F_Manner_word) g_FLOOR
  have F_Ceils_word := fun_mk (st := s_Ceils_word) l16 c16 k16
  have o_Ceils_word := ok_Ceils_word (P := l.prog) (w := w) (mg := mg) (base := base) (.of F_Ceils_word) g_CEIL
  have F_Nears_word := fun_mk (st := s_Nears_word) l17 c17 k17
  have o_Nears_word := ok_Nears_word (P := l.prog) (w := w) (mg := mg) (base := base) (.of F_Nears_word) g_NEAR
  have mt_word : Mth l.prog w K mg base 1 "word" ms_word := ⟨fun c fs h => by
    unfold ms_word at h
    simp only [List.mem_cons, Prod.mk.injEq, List.not_mem_nil, or_false] at h
    rcases h with ⟨rfl, rfl⟩ | ⟨rfl, rfl⟩ | ⟨rfl, rfl⟩
    · exact ⟨C_Manner, ac_Manner, o_Manner_word.alt (by decide) ⟨pg_Manner, hd_Manner, po_Manner, sa_Manner⟩ fm_Manner_word i15 (F_Manner_word.binds (ps := ["self"]) fun _ _ _ _ _ _ us hl => match us, hl with | [_], _ => rfl)⟩
    · exact ⟨C_Ceils, ac_Ceils, o_Ceils_word.alt (by decide) ⟨pg_Ceils, hd_Ceils, po_Ceils, sa_Ceils⟩ fm_Ceils_word i16 (F_Ceils_word.binds (ps := ["self"]) fun _ _ _ _ _ _ us hl => match us, hl with | [_], _ => rfl)⟩
    · exact ⟨C_Nears, ac_Nears, o_Nears_word.alt (by decide) ⟨pg_Nears, hd_Nears, po_Nears, sa_Nears⟩ fm_Nears_word i17 (F_Nears_word.binds (ps := ["self"]) fun _ _ _ _ _ _ us hl => match us, hl with | [_], _ => rfl)⟩⟩
  have F_Manner_turned := fun_mk (st := s_Manner_turned) l18 c18 k18
  have o_Manner_turned := ok_Manner_turned (P := l.prog) (w := w) (mg := mg) (base := base) (.of F_Manner_turned) 
  have F_Ceils_turned := fun_mk (st := s_Ceils_turned) l19 c19 k19
  have o_Ceils_turned := ok_Ceils_turned (P := l.prog) (w := w) (mg := mg) (base := base) (.of F_Ceils_turned) 
  have mt_turned : Mth l.prog w K mg base 1 "turned" ms_turned := ⟨fun c fs h => by
    unfold ms_turned at h
    simp only [List.mem_cons, Prod.mk.injEq, List.not_mem_nil, or_false] at h
    rcases h with ⟨rfl, rfl⟩ | ⟨rfl, rfl⟩ | ⟨rfl, rfl⟩
    · exact ⟨C_Manner, ac_Manner, o_Manner_turned.alt (by decide) ⟨pg_Manner, hd_Manner, po_Manner, sa_Manner⟩ fm_Manner_turned i18 (F_Manner_turned.binds (ps := ["self"]) fun _ _ _ _ _ _ us hl => match us, hl with | [_], _ => rfl)⟩
    · exact ⟨C_Ceils, ac_Ceils, o_Ceils_turned.alt (by decide) ⟨pg_Ceils, hd_Ceils, po_Ceils, sa_Ceils⟩ fm_Ceils_turned i19 (F_Ceils_turned.binds (ps := ["self"]) fun _ _ _ _ _ _ us hl => match us, hl with | [_], _ => rfl)⟩
    · exact ⟨C_Nears, ac_Nears, o_Manner_turned.alt (by decide) ⟨pg_Nears, hd_Nears, po_Nears, sa_Nears⟩ fm_Nears_turned i18 (F_Manner_turned.binds (ps := ["self"]) fun _ _ _ _ _ _ us hl => match us, hl with | [_], _ => rfl)⟩⟩
  have F_made := fun_mk (st := s_made) l20 c20 k20
  have o_made := ok_made (P := l.prog) (w := w) (base := base) F_made (PySem.W.mg_of X G a20) c_common
  have c_made := o_made.cal (F_made.binds (ps := ["top", "bottom"]) fun _ _ _ _ _ _ us hl => match us, hl with | [_, _], _ => rfl)
  have F_row_of := funT_mk (st := s_row_of) l21 c21 k21 (its := [.str (Str.ofString "floor") tk21_0]) lT21
  have o_row_of := ok_row_of (P := l.prog) (w := w) (base := base) F_row_of.v (PySem.W.mg_of X G a21) m_len c_manner_of c_need_fraction c_whole_of c_made g_MOST_TERMS mt_word mt_turned
  have c_row_of := o_row_of.cal (F_row_of.binds (ps := ["fraction", "manner"]) fun _ _ _ _ _ _ _ us hl => match us, hl with | [_, _], _ => ⟨_, rfl, rfl⟩)
  have F__law_turned_right := fun_mk (st := s__law_turned_right) l22 c22 k22
  have o__law_turned_right := ok__law_turned_right (P := l.prog) (w := w) (base := base) F__law_turned_right (PySem.W.mg_of X G a22) m_len c_row_of c__law_lowest
  have c__law_turned_right := o__law_turned_right.cal (F__law_turned_right.binds (ps := ["one"]) fun _ _ _ _ _ _ us hl => match us, hl with | [_], _ => rfl)
  have F_Manner_fits := fun_mk (st := s_Manner_fits) l23 c23 k23
  have o_Manner_fits := ok_Manner_fits (P := l.prog) (w := w) (mg := mg) (base := base) (.of F_Manner_fits) 
  have F_Ceils_fits := fun_mk (st := s_Ceils_fits) l24 c24 k24
  have o_Ceils_fits := ok_Ceils_fits (P := l.prog) (w := w) (mg := mg) (base := base) (.of F_Ceils_fits) 
  have F_Nears_fits := fun_mk (st := s_Nears_fits) l25 c25 k25
  have o_Nears_fits := ok_Nears_fits (P := l.prog) (w := w) (mg := mg) (base := base) (.of F_Nears_fits) 
  have mt_fits : Mth l.prog w K mg base 1 "fits" ms_fits := ⟨fun c fs h => by
    unfold ms_fits at h
    simp only [List.mem_cons, Prod.mk.injEq, List.not_mem_nil, or_false] at h
    rcases h with ⟨rfl, rfl⟩ | ⟨rfl, rfl⟩ | ⟨rfl, rfl⟩
    · exact ⟨C_Manner, ac_Manner, o_Manner_fits.alt (by decide) ⟨pg_Manner, hd_Manner, po_Manner, sa_Manner⟩ fm_Manner_fits i23 (F_Manner_fits.binds (ps := ["self", "ahead", "term"]) fun _ _ _ _ _ _ us hl => match us, hl with | [_, _, _], _ => rfl)⟩
    · exact ⟨C_Ceils, ac_Ceils, o_Ceils_fits.alt (by decide) ⟨pg_Ceils, hd_Ceils, po_Ceils, sa_Ceils⟩ fm_Ceils_fits i24 (F_Ceils_fits.binds (ps := ["self", "ahead", "term"]) fun _ _ _ _ _ _ us hl => match us, hl with | [_, _, _], _ => rfl)⟩
    · exact ⟨C_Nears, ac_Nears, o_Nears_fits.alt (by decide) ⟨pg_Nears, hd_Nears, po_Nears, sa_Nears⟩ fm_Nears_fits i25 (F_Nears_fits.binds (ps := ["self", "ahead", "term"]) fun _ _ _ _ _ _ us hl => match us, hl with | [_, _, _], _ => rfl)⟩⟩
  have F_is_beginning := fun_mk (st := s_is_beginning) l26 c26 k26
  have o_is_beginning := ok_is_beginning (P := l.prog) (w := w) (base := base) F_is_beginning (PySem.W.mg_of X G a26) m_tuple m_list m_isinstance m_all m_len m_range c_is_number mt_fits
  have c_is_beginning := o_is_beginning.cal (F_is_beginning.binds (ps := ["manner", "thing"]) fun _ _ _ _ _ _ us hl => match us, hl with | [_, _], _ => rfl)
  have F_Manner_ends := fun_mk (st := s_Manner_ends) l27 c27 k27
  have o_Manner_ends := ok_Manner_ends (P := l.prog) (w := w) (mg := mg) (base := base) (.of F_Manner_ends) 
  have F_Ceils_ends := fun_mk (st := s_Ceils_ends) l28 c28 k28
  have o_Ceils_ends := ok_Ceils_ends (P := l.prog) (w := w) (mg := mg) (base := base) (.of F_Ceils_ends) 
  have F_Nears_ends := fun_mk (st := s_Nears_ends) l29 c29 k29
  have o_Nears_ends := ok_Nears_ends (P := l.prog) (w := w) (mg := mg) (base := base) (.of F_Nears_ends) 
  have mt_ends : Mth l.prog w K mg base 1 "ends" ms_ends := ⟨fun c fs h => by
    unfold ms_ends at h
    simp only [List.mem_cons, Prod.mk.injEq, List.not_mem_nil, or_false] at h
    rcases h with ⟨rfl, rfl⟩ | ⟨rfl, rfl⟩ | ⟨rfl, rfl⟩
    · exact ⟨C_Manner, ac_Manner, o_Manner_ends.alt (by decide) ⟨pg_Manner, hd_Manner, po_Manner, sa_Manner⟩ fm_Manner_ends i27 (F_Manner_ends.binds (ps := ["self", "last"]) fun _ _ _ _ _ _ us hl => match us, hl with | [_, _], _ => rfl)⟩
    · exact ⟨C_Ceils, ac_Ceils, o_Ceils_ends.alt (by decide) ⟨pg_Ceils, hd_Ceils, po_Ceils, sa_Ceils⟩ fm_Ceils_ends i28 (F_Ceils_ends.binds (ps := ["self", "last"]) fun _ _ _ _ _ _ us hl => match us, hl with | [_, _], _ => rfl)⟩
    · exact ⟨C_Nears, ac_Nears, o_Nears_ends.alt (by decide) ⟨pg_Nears, hd_Nears, po_Nears, sa_Nears⟩ fm_Nears_ends i29 (F_Nears_ends.binds (ps := ["self", "last"]) fun _ _ _ _ _ _ us hl => match us, hl with | [_, _], _ => rfl)⟩⟩
  have F_is_ending := fun_mk (st := s_is_ending) l30 c30 k30
  have o_is_ending := ok_is_ending (P := l.prog) (w := w) (base := base) F_is_ending (PySem.W.mg_of X G a30) m_len mt_ends
  have c_is_ending := o_is_ending.cal (F_is_ending.binds (ps := ["manner", "terms"]) fun _ _ _ _ _ _ us hl => match us, hl with | [_, _], _ => rfl)
  have F_is_row := funT_mk (st := s_is_row) l31 c31 k31 (its := [.str (Str.ofString "floor") tk31_0]) lT31
  have o_is_row := ok_is_row (P := l.prog) (w := w) (base := base) F_is_row.v (PySem.W.mg_of X G a31) c_manner_of c_is_beginning c_is_ending
  have c_is_row := o_is_row.cal (F_is_row.binds (ps := ["thing", "manner"]) fun _ _ _ _ _ _ _ us hl => match us, hl with | [_, _], _ => ⟨_, rfl, rfl⟩)
  have F_product := fun_mk (st := s_product) l32 c32 k32
  have o_product := ok_product (P := l.prog) (w := w) (base := base) F_product (PySem.W.mg_of X G a32) 
  have c_product := o_product.cal (F_product.binds (ps := ["one", "other"]) fun _ _ _ _ _ _ us hl => match us, hl with | [_, _], _ => rfl)
  have F_number_of := funT_mk (st := s_number_of) l33 c33 k33 (its := [.str (Str.ofString "floor") tk33_0]) lT33
  have o_number_of := ok_number_of (P := l.prog) (w := w) (base := base) F_number_of.v (PySem.W.mg_of X G a33) c_manner_of c_is_row c_product c_made mt_turned
  have c_number_of := o_number_of.cal (F_number_of.binds (ps := ["row", "manner"]) fun _ _ _ _ _ _ _ us hl => match us, hl with | [_, _], _ => ⟨_, rfl, rfl⟩)
  have F__law_ceils_part := fun_mk (st := s__law_ceils_part) l34 c34 k34
  have o__law_ceils_part := ok__law_ceils_part (P := l.prog) (w := w) (base := base) F__law_ceils_part (PySem.W.mg_of X G a34) m_len m_max m_range c_row_of
  have c__law_ceils_part := o__law_ceils_part.cal (F__law_ceils_part.binds (ps := ["one", "other"]) fun _ _ _ _ _ _ us hl => match us, hl with | [_, _], _ => rfl)
  exact fn_keeps0 (fun_mk (st := s_law) l35 c35 k35) sc_law len_law (by decide) (fun cdv A outer s H E hr => (ss_cons (s_forR1 m_range (d_max m_max d_int (d_min m_min d_int (d_len m_len (d_var 0)))) (g_nm 1) (ss_cons (s_setO 2 (o_callC c__law_purse (c_v (d_callC c__law_cell (c_v (d_var 0) (c_v (d_var 1) c_nil))) c_nil)))
    (ss_cons (s_set 3 (d_callC c__law_drawn (c_s 2 c_nil)))
    (ss_cons (s_set 4 (d_callC c__law_other (c_s 2 (c_v (d_var 3) c_nil))))
    (ss_cons (s_if (p_pt (p_or (t_not (t_val (d_callC c__law_turned_right (c_v (d_var 3) c_nil)))) (p_or1 (t_not (t_val (d_callC c__law_turned_right (c_v (d_var 4) c_nil))))))) (ss_one (s_ret d_bl)) ss_nil)
    (ss_cons (s_set 5 (d_sub (d_callC c__law_take (c_s 2 (c_v (d_pow d_int d_int) c_nil))) (d_pow d_int d_int)))
    (ss_cons (s_for (d_frz (o_lst (l_cons d_str (l_cons d_str (l_cons d_str l_nil))))) (g_nm 6) (ss_cons (s_set 7 (d_callC c_row_of (c_v (d_var 3) (c_v (d_var 6) c_nil))))
    (ss_cons (s_if (t_ne (d_callC c_row_of (c_v (d_tup (l_cons (d_add (d_ix (d_var 3) d_int) (d_mul (d_var 5) (d_ix (d_var 3) d_int))) (l_cons (d_ix (d_var 3) d_int) l_nil))) (c_v (d_var 6) c_nil))) (d_frz (o_cat (d_frz (o_lst (l_cons (d_add (d_ix (d_var 7) d_int) (d_var 5)) l_nil))) (d_frz (o_cut (d_var 7) (sp_at d_int) sp_no))))) (ss_one (s_ret d_bl)) ss_nil)
    (ss_one (s_if (p_pt (p_or (t_ne (d_eq (d_var 7) (d_callC c_row_of (c_v (d_var 4) (c_v (d_var 6) c_nil)))) (d_eq (d_var 3) (d_var 4))) (p_or1 (t_ne (d_callC c_number_of (c_v (d_var 7) (c_v (d_var 6) c_nil))) (d_var 3))))) (ss_one (s_ret d_bl)) ss_nil)))))
    (ss_one (s_if (p_pt (p_and (t_ne (d_var 3) (d_var 4)) (p_and1 (t_not (p_pt (p_and (t_val (d_callC c__law_ceils_part (c_v (d_var 3) (c_v (d_var 4) c_nil)))) (p_and1 (t_val (d_callC c__law_ceils_part (c_v (d_var 4) (c_v (d_var 3) c_nil))))))))))) (ss_one (s_ret d_bl)) ss_nil)))))))))
    (ss_one (s_ret d_bl)))) kp_law
end K55
open PySem PySem.W PyProof.Rows in
set_option maxRecDepth 100000 in
set_option maxHeartbeats 0 in
theorem PySem.Challenge.cw_termwide_k55_whole_manners_and_neighbour_holds : PySem.Challenge.rw_termwide_k55_whole_manners_and_neighbour.Holds := by
  w_on; o_law; k_head; (case hw => w_witness2)
  k_fill
  refine L2.walk_of (l := PySem.Challenge.rw_termwide_k55_whole_manners_and_neighbour) (n := 63) (k := 7) (x := "script") (CX := fun _ => L2.CX0) (sp := fun w => DW.spOf _ K55.sp_law) rfl (by decide) rfl ⟨rfl, by decide, by decide⟩ (fun w h Y => PySem.W.kIn_of Y) ?F (fun _ _ a ns hl _ hS => DW.law_sp (K55.law_ints ns hl) hS) (fun _ _ _ _ _ h => h)
  case F =>
    intro w mg fa h KX G hmg
    refine' K55.all_mk KX G hmg ?ac_Manner ?pg_Manner ?hd_Manner ?po_Manner ?sa_Manner ?mk_Manner ?in_Manner ?mo_Manner ?kc_Manner ?ac_Ceils ?pg_Ceils ?hd_Ceils ?po_Ceils ?sa_Ceils ?mk_Ceils ?in_Ceils ?mo_Ceils ?kc_Ceils ?ac_Nears ?pg_Nears ?hd_Nears ?po_Nears ?sa_Nears ?mk_Nears ?in_Nears ?mo_Nears ?kc_Nears ?fm_Manner_word ?fm_Ceils_word ?fm_Nears_word ?fm_Manner_turned ?fm_Ceils_turned ?fm_Nears_turned ?fm_Manner_fits ?fm_Ceils_fits ?fm_Nears_fits ?fm_Manner_ends ?fm_Ceils_ends ?fm_Nears_ends ?a1 ?l1 ?c1 ?k1 ?a2 ?l2 ?c2 ?k2 ?a3 ?l3 ?c3 ?k3 ?a4 ?l4 ?c4 ?k4 ?a5 ?l5 ?c5 ?k5 ?a6 ?l6 ?c6 ?k6 ?a7 ?l7 ?c7 ?k7 ?a8 ?l8 ?c8 ?k8 ?a9 ?l9 ?c9 ?k9 ?a10 ?l10 ?c10 ?k10 ?a11 ?l11 ?c11 ?k11 ?a12 ?l12 ?c12 ?k12 ?a13 ?l13 ?c13 ?k13 ?a14 ?l14 ?c14 ?k14 ?lT14 ?i15 ?l15 ?c15 ?k15 ?i16 ?l16 ?c16 ?k16 ?i17 ?l17 ?c17 ?k17 ?i18 ?l18 ?c18 ?k18 ?i19 ?l19 ?c19 ?k19 ?a20 ?l20 ?c20 ?k20 ?a21 ?l21 ?c21 ?k21 ?lT21 ?a22 ?l22 ?c22 ?k22 ?i23 ?l23 ?c23 ?k23 ?i24 ?l24 ?c24 ?k24 ?i25 ?l25 ?c25 ?k25 ?a26 ?l26 ?c26 ?k26 ?i27 ?l27 ?c27 ?k27 ?i28 ?l28 ?c28 ?k28 ?i29 ?l29 ?c29 ?k29 ?a30 ?l30 ?c30 ?k30 ?a31 ?l31 ?c31 ?k31 ?lT31 ?a32 ?l32 ?c32 ?k32 ?a33 ?l33 ?c33 ?k33 ?lT33 ?a34 ?l34 ?c34 ?k34 ?a35 ?l35 ?c35 ?k35 ?z_max ?z_abs ?z_int ?z_len ?z_isinstance ?z_str ?z_bool ?z_tuple ?z_list ?z_all ?z_range ?z_min ?y_MANNERS ?x_MANNERS ?y_CEIL ?y_NEAR ?y_FLOOR ?y_MOST_TERMS
    (case ac_Manner => k_is)
    (case pg_Manner => k_is)
    (case hd_Manner => k_is)
    (case po_Manner => k_is)
    (case sa_Manner => k_is)
    (case mk_Manner => k_is)
    (case in_Manner => k_is)
    (case mo_Manner => k_is)
    (case kc_Manner => k_is)
    (case ac_Ceils => k_is)
    (case pg_Ceils => k_is)
    (case hd_Ceils => k_is)
    (case po_Ceils => k_is)
    (case sa_Ceils => k_is)
    (case mk_Ceils => k_is)
    (case in_Ceils => k_is)
    (case mo_Ceils => k_is)
    (case kc_Ceils => k_is)
    (case ac_Nears => k_is)
    (case pg_Nears => k_is)
    (case hd_Nears => k_is)
    (case po_Nears => k_is)
    (case sa_Nears => k_is)
    (case mk_Nears => k_is)
    (case in_Nears => k_is)
    (case mo_Nears => k_is)
    (case kc_Nears => k_is)
    (case fm_Manner_word => k_is)
    (case fm_Ceils_word => k_is)
    (case fm_Nears_word => k_is)
    (case fm_Manner_turned => k_is)
    (case fm_Ceils_turned => k_is)
    (case fm_Nears_turned => k_is)
    (case fm_Manner_fits => k_is)
    (case fm_Ceils_fits => k_is)
    (case fm_Nears_fits => k_is)
    (case fm_Manner_ends => k_is)
    (case fm_Ceils_ends => k_is)
    (case fm_Nears_ends => k_is)
    (case a1 => k_is)
    (case l1 => k_is)
    (case c1 => k_is)
    (case k1 => k_is)
    (case a2 => k_is)
    (case l2 => k_is)
    (case c2 => k_is)
    (case k2 => k_is)
    (case a3 => k_is)
    (case l3 => k_is)
    (case c3 => k_is)
    (case k3 => k_is)
    (case a4 => k_is)
    (case l4 => k_is)
    (case c4 => k_is)
    (case k4 => k_is)
    (case a5 => k_is)
    (case l5 => k_is)
    (case c5 => k_is)
    (case k5 => k_is)
    (case a6 => k_is)
    (case l6 => k_is)
    (case c6 => k_is)
    (case k6 => k_is)
    (case a7 => k_is)
    (case l7 => k_is)
    (case c7 => k_is)
    (case k7 => k_is)
    (case a8 => k_is)
    (case l8 => k_is)
    (case c8 => k_is)
    (case k8 => k_is)
    (case a9 => k_is)
    (case l9 => k_is)
    (case c9 => k_is)
    (case k9 => k_is)
    (case a10 => k_is)
    (case l10 => k_is)
    (case c10 => k_is)
    (case k10 => k_is)
    (case a11 => k_is)
    (case l11 => k_is)
    (case c11 => k_is)
    (case k11 => k_is)
    (case a12 => k_is)
    (case l12 => k_is)
    (case c12 => k_is)
    (case k12 => k_is)
    (case a13 => k_is)
    (case l13 => k_is)
    (case c13 => k_is)
    (case k13 => k_is)
    (case a14 => k_is)
    (case l14 => k_is)
    (case c14 => k_is)
    (case k14 => k_is)
    (case lT14 => k_is)
    (case i15 => k_is)
    (case l15 => k_is)
    (case c15 => k_is)
    (case k15 => k_is)
    (case i16 => k_is)
    (case l16 => k_is)
    (case c16 => k_is)
    (case k16 => k_is)
    (case i17 => k_is)
    (case l17 => k_is)
    (case c17 => k_is)
    (case k17 => k_is)
    (case i18 => k_is)
    (case l18 => k_is)
    (case c18 => k_is)
    (case k18 => k_is)
    (case i19 => k_is)
    (case l19 => k_is)
    (case c19 => k_is)
    (case k19 => k_is)
    (case a20 => k_is)
    (case l20 => k_is)
    (case c20 => k_is)
    (case k20 => k_is)
    (case a21 => k_is)
    (case l21 => k_is)
    (case c21 => k_is)
    (case k21 => k_is)
    (case lT21 => k_is)
    (case a22 => k_is)
    (case l22 => k_is)
    (case c22 => k_is)
    (case k22 => k_is)
    (case i23 => k_is)
    (case l23 => k_is)
    (case c23 => k_is)
    (case k23 => k_is)
    (case i24 => k_is)
    (case l24 => k_is)
    (case c24 => k_is)
    (case k24 => k_is)
    (case i25 => k_is)
    (case l25 => k_is)
    (case c25 => k_is)
    (case k25 => k_is)
    (case a26 => k_is)
    (case l26 => k_is)
    (case c26 => k_is)
    (case k26 => k_is)
    (case i27 => k_is)
    (case l27 => k_is)
    (case c27 => k_is)
    (case k27 => k_is)
    (case i28 => k_is)
    (case l28 => k_is)
    (case c28 => k_is)
    (case k28 => k_is)
    (case i29 => k_is)
    (case l29 => k_is)
    (case c29 => k_is)
    (case k29 => k_is)
    (case a30 => k_is)
    (case l30 => k_is)
    (case c30 => k_is)
    (case k30 => k_is)
    (case a31 => k_is)
    (case l31 => k_is)
    (case c31 => k_is)
    (case k31 => k_is)
    (case lT31 => k_is)
    (case a32 => k_is)
    (case l32 => k_is)
    (case c32 => k_is)
    (case k32 => k_is)
    (case a33 => k_is)
    (case l33 => k_is)
    (case c33 => k_is)
    (case k33 => k_is)
    (case lT33 => k_is)
    (case a34 => k_is)
    (case l34 => k_is)
    (case c34 => k_is)
    (case k34 => k_is)
    (case a35 => k_is)
    (case l35 => k_is)
    (case c35 => k_is)
    (case k35 => k_is)
    (case z_max => k_is)
    (case z_abs => k_is)
    (case z_int => k_is)
    (case z_len => k_is)
    (case z_isinstance => k_is)
    (case z_str => k_is)
    (case z_bool => k_is)
    (case z_tuple => k_is)
    (case z_list => k_is)
    (case z_all => k_is)
    (case z_range => k_is)
    (case z_min => k_is)
    (case y_MANNERS => k_is)
    (case x_MANNERS => k_is)
    (case y_CEIL => k_is)
    (case y_NEAR => k_is)
    (case y_FLOOR => k_is)
    (case y_MOST_TERMS => k_is)
