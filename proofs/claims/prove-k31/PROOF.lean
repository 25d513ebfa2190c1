import PyProof.Rows.All
import Wide.All
import OpenK.AllK
import Wide.FinOn
import PySem.Str
import HandS.ForMost
import HandS.Wide
import HandS.IsInst
import HandS.ForExc
import HandS.CallSlots
import HandS.Style
import HandS.Flow
import HandS.List
import KE.KRevSl
import PyProof.Rows.SeqMore
import PySem.Challenge.RW_termwide_k31_whole_exchanged_saw_sums
set_option Elab.async false
set_option linter.all false
set_option maxRecDepth 100000
set_option maxHeartbeats 4000000
/-! DwA: data, slots, and what a piece of Python wants of them: transformers over data, no heap in sight. -/
namespace DW
open PySem

/-- data: what a value is worth, lists as they stand -/
inductive D where
  | non | bl (b : Bool) | int (i : Int) | str (s : Str) | tup (xs : List D) | lst (xs : List D)
  deriving Inhabited

/-- what a slot holds: data that stands still; a list of the body's own; a list that the caller lent -/
inductive DV where
  | val (d : D) | own (xs : List D) | par (xs : List D)

abbrev DS := List (Option DV)
structure DX where
  cls : Nat
  fs : List (Str × D)
abbrev XKd := DX → DS → Prop
inductive Out where
  | ret (r : DV) | exc (x : DX)
/-- a def's promise over data -/
abbrev FS := List DV → (Out → List DV → Prop) → Prop

abbrev WE := XKd → DS → (D → DS → Prop) → Prop
abbrev WO := XKd → DS → (List D → DS → Prop) → Prop
abbrev WT := XKd → DS → (Bool → DS → Prop) → Prop
structure Post where
  nx : DS → Prop
  rt : DV → DS → Prop
  bk : DS → Prop
  ct : DS → Prop
  x : XKd
abbrev WS := DS → Post → Prop

def gt : DS → Nat → Option DV
  | [], _ => none
  | x :: _, 0 => x
  | _ :: r, i + 1 => gt r i
def st : DS → Nat → DV → DS
  | [], _, _ => []
  | _ :: r, 0, d => some d :: r
  | x :: r, i + 1, d => x :: st r i d
def er : DS → Nat → DS
  | [], _ => []
  | _ :: r, 0 => none :: r
  | x :: r, i + 1 => x :: er r i
def ers (ds : DS) : List Nat → DS
  | [] => ds
  | v :: vs => er (ers ds vs) v
/-- new items for what a slot holds -/
def fill1 (xs : List D) : Option DV → Option DV
  | some (.own _) => some (.own xs)
  | some (.par _) => some (.par xs)
  | o => o
/-- .. put back the own list at i -/
def refill : DS → Nat → List D → DS
  | [], _, _ => []
  | o :: r, 0, xs => fill1 xs o :: r
  | o :: r, i + 1, xs => o :: refill r i xs
def listAt (ds : DS) (i : Nat) : Option (List D) :=
  match gt ds i with
  | some (.own xs) => some xs
  | some (.par xs) => some xs
  | _ => none

/-! ### operations on data -/
def itemAt {α : Type} (xs : List α) (i : Int) : Option α := if 0 ≤ i then xs[i.toNat]? else if -(xs.length : Int) ≤ i then xs[(i + xs.length).toNat]? else none
def MulOk (i j : Int) : Prop := i.natAbs.log2 + j.natAbs.log2 < 1000000
def DivOk (j : Int) : Prop := j ≠ 0 ∧ j.natAbs.log2 < 9000
abbrev B2 := D → D → (D → Prop) → Prop
abbrev B1 := D → (D → Prop) → Prop
def dAdd : B2 | .int a, .int b, k => k (.int (a + b)) | _, _, _ => False
def dSub : B2 | .int a, .int b, k => k (.int (a - b)) | _, _, _ => False
def dMul : B2 | .int a, .int b, k => MulOk a b ∧ k (.int (a * b)) | _, _, _ => False
def dFdiv : B2 | .int a, .int b, k => DivOk b ∧ k (.int (a.fdiv b)) | _, _, _ => False
def dMod : B2 | .int a, .int b, k => b ≠ 0 ∧ k (.int (a.fmod b)) | _, _, _ => False
def dPow : B2 | .int a, .int b, k => (0 ≤ b ∧ b ≤ 1000000 ∧ a.natAbs < 2 ^ 64) ∧ k (.int (a ^ b.toNat)) | _, _, _ => False
def dNeg : B1 | .int a, k => k (.int (-a)) | _, _ => False
def dAbs : B1 | .int a, k => k (.int (if a < 0 then -a else a)) | _, _ => False
def dMin : B2 | .int a, .int b, k => k (.int (if b < a then b else a)) | _, _, _ => False
def dMax : B2 | .int a, .int b, k => k (.int (if b > a then b else a)) | _, _, _ => False
def dLt : B2 | .int a, .int b, k => k (.bl (decide (a < b))) | _, _, _ => False
def dLe : B2 | .int a, .int b, k => k (.bl (decide (a ≤ b))) | _, _, _ => False
def dGt : B2 | .int a, .int b, k => k (.bl (decide (b < a))) | _, _, _ => False
def dGe : B2 | .int a, .int b, k => k (.bl (decide (b ≤ a))) | _, _, _ => False
mutual
def deq : D → D → Bool
  | .non, .non => true
  | .bl a, .bl b => a == b
  | .bl a, .int j => (if a then 1 else 0) == j
  | .int i, .bl b => i == (if b then 1 else 0)
  | .int i, .int j => i == j
  | .str x, .str y => x == y
  | .lst xs, .lst ys => deqs xs ys
  | .tup xs, .tup ys => deqs xs ys
  | _, _ => false
def deqs : List D → List D → Bool
  | [], [] => true
  | x :: xs, y :: ys => deq x y && deqs xs ys
  | _, _ => false
end
mutual
/-- how deep -/
def dep : D → Nat
  | .lst xs => deps xs + 1
  | .tup xs => deps xs + 1
  | _ => 0
def deps : List D → Nat
  | [] => 0
  | x :: xs => max (dep x) (deps xs)
end
mutual
def shp : D → Bool
  | .str s => s.cps.all (· < 0x110000)
  | .lst xs => shps xs
  | .tup xs => shps xs
  | _ => true
def shps : List D → Bool
  | [] => true
  | x :: xs => shp x && shps xs
end
/-- what may be compared: signs as signs are, not too deep -/
def Shp (x : D) : Prop := shp x = true ∧ dep x ≤ 64
def dEq : B2 := fun x y k => (Shp x ∧ Shp y) ∧ k (.bl (deq x y))
def dNe : B2 := fun x y k => (Shp x ∧ Shp y) ∧ k (.bl (!deq x y))
def isNon : D → Bool | .non => true | _ => false
def dIsN : B1 := fun x k => k (.bl (isNon x))
def dNotN : B1 := fun x k => k (.bl (!isNon x))
def dIx : B2
  | .tup xs, .int i, k => match itemAt xs i with | some v => k v | none => False
  | .lst xs, .int i, k => match itemAt xs i with | some v => k v | none => False
  | _, _, _ => False
def dLen : B1
  | .tup xs, k => k (.int xs.length)
  | .lst xs, k => k (.int xs.length)
  | _, _ => False
/-- the built-in types that are asked for -/
inductive Ty where
  | int | bool | str | tuple | list | dict
def isTy : Ty → D → Bool
  | .int, .int _ => true
  | .int, .bl _ => true
  | .bool, .bl _ => true
  | .str, .str _ => true
  | .tuple, .tup _ => true
  | .list, .lst _ => true
  | _, _ => false
def dIsTy (t : Ty) : B1 := fun x k => k (.bl (isTy t x))
def dIsTys (ts : List Ty) : B1 := fun x k => k (.bl (ts.any fun t => isTy t x))
def boolsD : List D → Option (List Bool)
  | [] => some []
  | .bl b :: r => (boolsD r).map (b :: ·)
  | _ => none
def intsD : List D → Option (List Int)
  | [] => some []
  | .int b :: r => (intsD r).map (b :: ·)
  | _ => none
def dAll : B1 | .lst xs, k => (match boolsD xs with | some bs => k (.bl (bs.all id)) | none => False) | _, _ => False
def dAny : B1 | .lst xs, k => (match boolsD xs with | some bs => k (.bl (bs.any id)) | none => False) | _, _ => False
def dSum : B1 | .lst xs, k => (match intsD xs with | some ns => k (.int ns.sum) | none => False) | _, _ => False
def dInt : B1 | .int a, k => k (.int a) | .bl b, k => k (.int (if b then 1 else 0)) | _, _ => False

/-! ### expressions -/
def wC (d : D) : WE := fun _ ds k => k d ds
def wVar (i : Nat) : WE := fun _ ds k =>
  match gt ds i with
  | some (.val d) => k d ds
  | some (.own xs) => k (.lst xs) (st ds i (.val (.lst xs)))
  | _ => False
def wBin (f : B2) (a b : WE) : WE := fun x ds k => a x ds fun u ds1 => b x ds1 fun v ds2 => f u v fun z => k z ds2
def wUn (f : B1) (a : WE) : WE := fun x ds k => a x ds fun u ds1 => f u fun z => k z ds1
def wArgs : List WE → XKd → DS → (List D → DS → Prop) → Prop
  | [], _, ds, k => k [] ds
  | a :: r, x, ds, k => a x ds fun d ds1 => wArgs r x ds1 fun l ds2 => k (d :: l) ds2
def wTup (as : List WE) : WE := fun x ds k => wArgs as x ds fun l ds1 => k (.tup l) ds1
def wLst (as : List WE) : WO := fun x ds k => wArgs as x ds fun l ds1 => k l ds1
/-- an own list stands still from here on -/
def wFrz (o : WO) : WE := fun x ds k => o x ds fun xs ds1 => k (.lst xs) ds1
/-- an item of the own list in slot i -/
def wIxO (i : Nat) (b : WE) : WE := fun x ds k => (listAt ds i).isSome = true ∧ b x ds fun v ds1 =>
  match v, listAt ds1 i with
  | .int n, some xs => (match itemAt xs n with | some z => k z ds1 | none => False)
  | _, _ => False
def wLenO (i : Nat) : WE := fun _ ds k => match listAt ds i with | some xs => k (.int xs.length) ds | none => False
def wIf (t : WT) (a b : WE) : WE := fun x ds k => t x ds fun c ds1 => if c = true then a x ds1 k else b x ds1 k
def wAndV (a b : WE) : WE := fun x ds k => a x ds fun u ds1 => match u with | .bl c => (if c = true then b x ds1 k else k (.bl false) ds1) | _ => False
def wOrV (a b : WE) : WE := fun x ds k => a x ds fun u ds1 => match u with | .bl c => (if c = true then k (.bl true) ds1 else b x ds1 k) | _ => False
def wNotV (a : WE) : WE := fun x ds k => a x ds fun u ds1 => match u with | .bl c => k (.bl (!c)) ds1 | _ => False
/-! tests -/
def wTst (a : WE) : WT := fun x ds k => a x ds fun u ds1 => match u with | .bl c => k c ds1 | _ => False
def wAnd (a b : WT) : WT := fun x ds k => a x ds fun c ds1 => if c = true then b x ds1 k else k false ds1
def wOr (a b : WT) : WT := fun x ds k => a x ds fun c ds1 => if c = true then k true ds1 else b x ds1 k
def wNot (a : WT) : WT := fun x ds k => a x ds fun c ds1 => k (!c) ds1
def wYes : WT := fun _ ds k => k true ds
/-! calls -/
inductive DA where
  | v (e : WE) | s (i : Nat)
inductive AV where
  | v (d : D) | s (i : Nat)
def wCArgs : List DA → XKd → DS → (List AV → DS → Prop) → Prop
  | [], _, ds, k => k [] ds
  | .v a :: r, x, ds, k => a x ds fun d ds1 => wCArgs r x ds1 fun l ds2 => k (.v d :: l) ds2
  | .s i :: r, x, ds, k => (listAt ds i).isSome = true ∧ wCArgs r x ds fun l ds2 => k (.s i :: l) ds2
def argDv (ds : DS) : List AV → Option (List DV)
  | [] => some []
  | .v d :: r => (argDv ds r).map (.val d :: ·)
  | .s i :: r => match listAt ds i with | some xs => (argDv ds r).map (.par xs :: ·) | none => none
def backs : DS → List AV → List DV → DS
  | ds, .s i :: r, .par ys :: q => backs (refill ds i ys) r q
  | ds, _ :: r, _ :: q => backs ds r q
  | ds, _, _ => ds
def slotsOf : List AV → List Nat
  | [] => []
  | .v _ :: r => slotsOf r
  | .s i :: r => i :: slotsOf r
def wCallB (sp : FS) (as : List DA) (dvs : List D) : XKd → DS → (DV → DS → Prop) → Prop := fun x ds k => wCArgs as x ds fun avs ds1 =>
  match argDv ds1 avs with
  | some vs => (slotsOf avs).Nodup ∧ sp (vs ++ dvs.map .val) fun out vs' => match out with
    | .ret r => k r (backs ds1 avs vs')
    | .exc e => x e (backs ds1 avs vs')
  | none => False
/-- a call that hands back data | a list of the caller's own -/
def wCall (sp : FS) (as : List DA) (dvs : List D := []) : WE := fun x ds k => wCallB sp as dvs x ds fun r ds1 => match r with | .val d => k d ds1 | .own xs => k (.lst xs) ds1 | _ => False
def wCallO (sp : FS) (as : List DA) (dvs : List D := []) : WO := fun x ds k => wCallB sp as dvs x ds fun r ds1 => match r with | .own xs => k xs ds1 | _ => False
/-- parts of a list -/
def cutAt (n d : Nat) : Option Int → Nat
  | none => d
  | some i => if 0 ≤ i then min i.toNat n else (n + i).toNat
def cutD {α : Type} (xs : List α) (lo hi : Option Int) : List α := (xs.drop (cutAt xs.length 0 lo)).take (cutAt xs.length xs.length hi - cutAt xs.length 0 lo)
abbrev WPt := XKd → DS → (Option Int → DS → Prop) → Prop
def wNoP : WPt := fun _ ds k => k none ds
def wP (a : WE) : WPt := fun x ds k => a x ds fun u ds1 => match u with | .int i => k (some i) ds1 | _ => False
/-- xs[lo:hi] | xs[::-1] | xs[-2::-1] | xs + ys of lists that stand still -/
def wCut (a : WE) (lo hi : WPt) : WO := fun x ds k => a x ds fun u ds1 => lo x ds1 fun l ds2 => hi x ds2 fun h ds3 => match u with | .lst xs => k (cutD xs l h) ds3 | _ => False
def wRev (a : WE) : WO := fun x ds k => a x ds fun u ds1 => match u with | .lst xs => k xs.reverse ds1 | _ => False
def wRev2 (a : WE) : WO := fun x ds k => a x ds fun u ds1 => match u with | .lst xs => k xs.dropLast.reverse ds1 | _ => False
def wCat (a b : WE) : WO := fun x ds k => a x ds fun u ds1 => b x ds1 fun v ds2 => match u, v with | .lst xs, .lst ys => xs.length + ys.length ≤ 10000000 ∧ k (xs ++ ys) ds2 | _, _ => False
/-- a < b < c -/
def wChain (f g : B2) (a b c : WE) : WE := fun x ds k => a x ds fun u ds1 => b x ds1 fun v ds2 => f u v fun z => match z with
  | .bl t => if t = true then c x ds2 fun w ds3 => g v w fun y => k y ds3 else k (.bl false) ds2
  | _ => False
/-- f(a list made for it) -/
def wCallT (sp : FS) (o : WO) : WE := fun x ds k => o x ds fun xs ds1 => sp [.par xs] fun out _ => match out with
  | .ret (.val d) => k d ds1
  | .ret (.own ys) => k (.lst ys) ds1
  | .ret (.par _) => False
  | .exc e => x e ds1
/-- a call by place and by name: the values as they are written, the defaults, and where each parameter's one stands among them -/
def pick {α : Type} (ix : List Nat) (l : List α) : List α := ix.filterMap fun i => l[i]?
def wCallK (sp : FS) (as : List WE) (more : List D) (ix : List Nat) : WE := fun x ds k => wArgs as x ds fun l ds1 => sp ((pick ix (l ++ more)).map .val) fun out _ => match out with
  | .ret (.val d) => k d ds1
  | .ret (.own ys) => k (.lst ys) ds1
  | .ret (.par _) => False
  | .exc e => x e ds1
/-! targets -/
inductive Tg where
  | nm (i : Nat) | tp (ts : List Tg)
mutual
def tga : Tg → D → DS → (DS → Prop) → Prop
  | .nm i, d, ds, k => k (st ds i (.val d))
  | .tp ts, .tup xs, ds, k => tgas ts xs ds k
  | .tp _, _, _, _ => False
def tgas : List Tg → List D → DS → (DS → Prop) → Prop
  | [], [], ds, k => k ds
  | t :: ts, d :: r, ds, k => tga t d ds fun ds1 => tgas ts r ds1 k
  | _, _, _, _ => False
end
/-! comprehensions -/
def items : D → Option (List D)
  | .lst xs => some xs
  | .tup xs => some xs
  | _ => none
/-- nothing may be raised -/
def nox : XKd := fun _ _ => False
/-- one comprehension, by what holds ahead of each turn: how far, what is made, the slots -/
def compI (g : Tg) (vs : List Nat) (t : WT) (e : WE) (x : XKd) (xs : List D) (ds : DS) (k : List D → DS → Prop) : Prop :=
  ∃ I : Nat → List D → DS → Prop, I 0 [] (ers ds vs) ∧ (∀ i d acc ds, xs[i]? = some d → I i acc ds → tga g d (ers ds vs) fun ds1 => t x ds1 fun b ds2 =>
    if b = true then e x ds2 fun v ds3 => acc.length < 10000000 ∧ I (i + 1) (acc ++ [v]) ds3 else I (i + 1) acc ds2) ∧ ∀ acc ds, I xs.length acc ds → k acc (ers ds vs)
/-- .. turn by turn -/
def compD (g : Tg) (vs : List Nat) (t : WT) (e : WE) (x : XKd) (k : List D → DS → Prop) : List D → List D → DS → Prop
  | [], acc, ds => k acc (ers ds vs)
  | d :: r, acc, ds => tga g d (ers ds vs) fun ds1 => t x ds1 fun b ds2 =>
    if b = true then e x ds2 fun v ds3 => acc.length < 10000000 ∧ compD g vs t e x k r (acc ++ [v]) ds3 else compD g vs t e x k r acc ds2
def wLc (src : WE) (g : Tg) (vs : List Nat) (t : WT) (e : WE) : WO := fun x ds k => src x ds fun u ds1 => match items u with | some xs => compI g vs t e nox xs ds1 k | none => False
def rangeD (lo hi : Int) : List D := (List.range (hi - lo).toNat).map fun i => .int (lo + (i : Nat))
def RngOk (lo hi : Int) : Prop := (-(2 ^ 62) ≤ lo ∧ lo < 2 ^ 62) ∧ (-(2 ^ 62) ≤ hi ∧ hi < 2 ^ 62)
/-- range(a), range(a, b) as what is walked -/
def wRng (as : List WE) : XKd → DS → (List D → DS → Prop) → Prop := fun x ds k => wArgs as x ds fun l ds1 => match l with
  | [.int n] => RngOk 0 n ∧ k (rangeD 0 n) ds1
  | [.int a, .int b] => RngOk a b ∧ k (rangeD a b) ds1
  | _ => False
def wLcR (as : List WE) (g : Tg) (vs : List Nat) (t : WT) (e : WE) : WO := fun x ds k => wRng as x ds fun xs ds1 => compI g vs t e nox xs ds1 k

/-! ### statements -/
def wSeq (a b : WS) : WS := fun ds P => a ds { P with nx := fun ds1 => b ds1 P }
def wNext : WS := fun ds P => P.nx ds
def wAsg (e : WE) (g : Tg) : WS := fun ds P => e P.x ds fun d ds1 => tga g d ds1 P.nx
def wAsgO (o : WO) (i : Nat) : WS := fun ds P => o P.x ds fun xs ds1 => P.nx (st ds1 i (.own xs))
/-- x, y = a, b -/
def wPar (i j : Nat) (a b : WE) : WS := fun ds P => a P.x ds fun u ds1 => b P.x ds1 fun v ds2 => P.nx (st (st ds2 i (.val u)) j (.val v))
/-- x, y = a, [..] -/
def wParO (i j : Nat) (a : WE) (o : WO) : WS := fun ds P => a P.x ds fun u ds1 => o P.x ds1 fun xs ds2 => P.nx (st (st ds2 i (.val u)) j (.own xs))
def wPar3 (i j l : Nat) (a b c : WE) : WS := fun ds P => a P.x ds fun u ds1 => b P.x ds1 fun v ds2 => c P.x ds2 fun w ds3 => P.nx (st (st (st ds3 i (.val u)) j (.val v)) l (.val w))
def wRet (e : WE) : WS := fun ds P => e P.x ds fun d ds1 => P.rt (.val d) ds1
def wRetN : WS := fun ds P => P.rt (.val .non) ds
def wRetO (o : WO) : WS := fun ds P => o P.x ds fun xs ds1 => P.rt (.own xs) ds1
def wRetS (i : Nat) : WS := fun ds P => match gt ds i with | some (.own xs) => P.rt (.own xs) (er ds i) | _ => False
def wIfS (t : WT) (a b : WS) : WS := fun ds P => t P.x ds fun c ds1 => if c = true then a ds1 P else b ds1 P
def wDrop (e : WE) : WS := fun ds P => e P.x ds fun _ ds1 => P.nx ds1
def wBrk : WS := fun ds P => P.bk ds
def wCont : WS := fun ds P => P.ct ds
def wNever : WS := fun _ _ => False
/-- purse[e] = v, the list in slot i -/
def wSet (i : Nat) (b v : WE) : WS := fun ds P => v P.x ds fun z ds1 => (listAt ds1 i).isSome = true ∧ b P.x ds1 fun n ds2 =>
  match n, listAt ds2 i with
  | .int n, some xs => (0 ≤ n ∧ n < xs.length) ∧ P.nx (refill ds2 i (xs.set n.toNat z))
  | _, _ => False
def wApp (i : Nat) (v : WE) : WS := fun ds P => (listAt ds i).isSome = true ∧ v P.x ds fun z ds1 =>
  match listAt ds1 i with
  | some xs => xs.length < 10000000 ∧ P.nx (refill ds1 i (xs ++ [z]))
  | none => False
def wAug (i : Nat) (f : B2) (e : WE) : WS := fun ds P => match gt ds i with
  | some (.val u) => e P.x ds fun v ds1 => f u v fun z => P.nx (st ds1 i (.val z))
  | _ => False
def wWhile (t : WT) (b : WS) : WS := fun ds P => ∃ I : Nat → DS → Prop, (∃ m, I m ds) ∧ ∀ m ds, I m ds → t P.x ds fun c ds1 =>
  if c = true then b ds1 { nx := fun ds2 => ∃ m', m' < m ∧ I m' ds2, ct := fun ds2 => ∃ m', m' < m ∧ I m' ds2, bk := P.nx, rt := P.rt, x := P.x } else P.nx ds1
def forI (g : Tg) (b : WS) (P : Post) (xs : List D) (ds : DS) : Prop :=
  ∃ I : Nat → DS → Prop, I 0 ds ∧ (∀ i d ds, xs[i]? = some d → I i ds → tga g d ds fun ds1 => b ds1 { nx := I (i + 1), ct := I (i + 1), bk := P.nx, rt := P.rt, x := P.x }) ∧ ∀ ds, I xs.length ds → P.nx ds
def forD (g : Tg) (b : WS) (P : Post) : List D → DS → Prop
  | [], ds => P.nx ds
  | d :: r, ds => tga g d ds fun ds1 => b ds1 { nx := fun ds2 => forD g b P r ds2, ct := fun ds2 => forD g b P r ds2, bk := P.nx, rt := P.rt, x := P.x }
def wFor (src : WE) (g : Tg) (b : WS) : WS := fun ds P => src P.x ds fun u ds1 => match items u with | some xs => forI g b P xs ds1 | none => False
def wForR (as : List WE) (g : Tg) (b : WS) : WS := fun ds P => wRng as P.x ds fun xs ds1 => forI g b P xs ds1

/-- a body against a promise: the parameters' slots, then the other ones -/
def outs : List DV → DS → Option (List DV)
  | [], _ => some []
  | .par _ :: r, some (.par ys) :: s => (outs r s).map (.par ys :: ·)
  | .par _ :: _, _ => none
  | d :: r, _ :: s => (outs r s).map (d :: ·)
  | _ :: _, [] => none
def entry (n : Nat) (dvs : List DV) : DS := dvs.map some ++ List.replicate (n - dvs.length) none
/-- what is wanted of a body that is called with dvs -/
def ends (dvs : List DV) (k : Out → List DV → Prop) : Post where
  nx := fun ds => match outs dvs ds with | some o => k (.ret (.val .non)) o | none => False
  rt := fun r ds => match outs dvs ds with | some o => k (.ret r) o | none => False
  bk := fun _ => False
  ct := fun _ => False
  x := fun e ds => match outs dvs ds with | some o => k (.exc e) o | none => False
/-- .. where nothing is raised -/
def ends0 (dvs : List DV) (k : Out → List DV → Prop) : Post := { ends dvs k with x := nox }
/-- the body w of n slots keeps the promise -/
def Keeps (n : Nat) (w : WS) (fs : FS) : Prop := ∀ dvs k, fs dvs k → w (entry n dvs) (ends dvs k)
def Keeps0 (n : Nat) (w : WS) (fs : FS) : Prop := ∀ dvs k, fs dvs k → w (entry n dvs) (ends0 dvs k)

/-! ### short loops, turn by turn -/
theorem drop_of {α : Type} : ∀ {xs : List α} {i : Nat} {d : α}, xs[i]? = some d → xs.drop i = d :: xs.drop (i + 1)
  | [], i, d, h => by simp at h
  | a :: l, 0, d, h => by
    have e : a = d := Option.some.inj h
    subst e
    rfl
  | a :: l, i + 1, d, h => drop_of (xs := l) (i := i) h
theorem forI_of {g : Tg} {b : WS} {P : Post} {xs : List D} {ds : DS} (h : forD g b P xs ds) : forI g b P xs ds := by
  refine ⟨fun i ds => forD g b P (xs.drop i) ds, h, fun i d ds e q => ?_, fun ds q => ?_⟩
  · have q : forD g b P (xs.drop i) ds := q
    rw [drop_of e] at q
    exact q
  · have q : forD g b P (xs.drop xs.length) ds := q
    rw [List.drop_length] at q
    exact q
theorem compI_of {g : Tg} {vs : List Nat} {t : WT} {e : WE} {x : XKd} {xs : List D} {ds : DS} {k : List D → DS → Prop} (h : compD g vs t e x k xs [] (ers ds vs)) : compI g vs t e x xs ds k := by
  refine ⟨fun i acc ds => compD g vs t e x k (xs.drop i) acc ds, h, fun i d acc ds e q => ?_, fun acc ds q => ?_⟩
  · have q : compD g vs t _ x k (xs.drop i) acc ds := q
    rw [drop_of e] at q
    exact q
  · have q : compD g vs t _ x k (xs.drop xs.length) acc ds := q
    rw [List.drop_length] at q
    exact q
end DW

/-! DwB: data in the heap, the slots' word, what a reading is worth over data. -/
namespace DW
open PySem PySem.Spec PyProof.Rows L2

mutual
def Rep (K : PySem.W.Frag) (G : Hp) : D → V → Prop
  | .non, v => v = .non
  | .bl b, v => v = .bl b
  | .int i, v => v = .int i
  | .str s, v => v = .str s
  | .tup ds, v => ∃ a xs, v = .ref a ∧ SqT K G a xs ∧ Reps K G ds xs
  | .lst ds, v => ∃ a xs, v = .ref a ∧ SqL K G a xs ∧ Reps K G ds xs
def Reps (K : PySem.W.Frag) (G : Hp) : List D → List V → Prop
  | [], vs => vs = []
  | d :: ds, vs => ∃ x xs, vs = x :: xs ∧ Rep K G d x ∧ Reps K G ds xs
end

section
variable {K : PySem.W.Frag} {G H H' G' : Hp}
theorem Same.t {H H' : Hp} {a : Addr} {xs : List V} (e : Same H H') (h : SqT K H a xs) : SqT K H' a xs := by
  rcases h with (h | ⟨o, h⟩) | h
  · exact .inl (.inl (e _ _ h))
  · exact .inl (.inr ⟨o, e _ _ h⟩)
  · exact .inr h
mutual
theorem Rep.mono (e : Same G G') : ∀ {d : D} {v : V}, Rep K G d v → Rep K G' d v
  | .non, _, h => h
  | .bl _, _, h => h
  | .int _, _, h => h
  | .str _, _, h => h
  | .tup ds, v, h => by
    obtain ⟨a, xs, e1, h1, h2⟩ := h
    exact ⟨a, xs, e1, Same.t e h1, Reps.mono e h2⟩
  | .lst ds, v, h => by
    obtain ⟨a, xs, e1, h1, h2⟩ := h
    exact ⟨a, xs, e1, L2.Same.seq e h1, Reps.mono e h2⟩
theorem Reps.mono (e : Same G G') : ∀ {ds : List D} {vs : List V}, Reps K G ds vs → Reps K G' ds vs
  | [], _, h => h
  | d :: ds, vs, h => by
    obtain ⟨x, xs, e1, h1, h2⟩ := h
    exact ⟨x, xs, e1, Rep.mono e h1, Reps.mono e h2⟩
end
theorem Reps.len : ∀ {ds : List D} {vs : List V}, Reps K G ds vs → ds.length = vs.length
  | [], vs, h => by
    have h : vs = [] := h
    rw [h]
    rfl
  | d :: ds, vs, h => by
    obtain ⟨x, xs, e1, h1, h2⟩ := h
    rw [e1, List.length_cons, List.length_cons, Reps.len h2]
theorem Reps.get : ∀ {ds : List D} {vs : List V} {i : Nat} {d : D}, Reps K G ds vs → ds[i]? = some d → ∃ v, vs[i]? = some v ∧ Rep K G d v
  | [], _, i, d, h, e => by simp at e
  | d0 :: ds, vs, 0, d, h, e => by
    obtain ⟨x, xs, e1, h1, h2⟩ := h
    have e : d0 = d := Option.some.inj e
    rw [e1, ← e]
    exact ⟨x, rfl, h1⟩
  | d0 :: ds, vs, i + 1, d, h, e => by
    obtain ⟨x, xs, e1, h1, h2⟩ := h
    rw [e1]
    exact Reps.get (i := i) h2 e
theorem Reps.gev : ∀ {ds : List D} {vs : List V} {i : Nat} {v : V}, Reps K G ds vs → vs[i]? = some v → ∃ d, ds[i]? = some d ∧ Rep K G d v
  | [], vs, i, v, h, e => by
    have h : vs = [] := h
    rw [h] at e
    simp at e
  | d0 :: ds, vs, 0, v, h, e => by
    obtain ⟨x, xs, e1, h1, h2⟩ := h
    rw [e1] at e
    have e : x = v := Option.some.inj e
    rw [← e]
    exact ⟨d0, rfl, h1⟩
  | d0 :: ds, vs, i + 1, v, h, e => by
    obtain ⟨x, xs, e1, h1, h2⟩ := h
    rw [e1] at e
    exact Reps.gev (i := i) h2 e
theorem Reps.app : ∀ {ds : List D} {vs : List V} {d : D} {v : V}, Reps K G ds vs → Rep K G d v → Reps K G (ds ++ [d]) (vs ++ [v])
  | [], vs, d, v, h, r => by
    have h : vs = [] := h
    rw [h]
    exact ⟨v, [], rfl, r, rfl⟩
  | d0 :: ds, vs, d, v, h, r => by
    obtain ⟨x, xs, e1, h1, h2⟩ := h
    rw [e1]
    exact ⟨x, xs ++ [v], rfl, h1, Reps.app h2 r⟩
theorem Reps.cat : ∀ {ds es : List D} {vs ws : List V}, Reps K G ds vs → Reps K G es ws → Reps K G (ds ++ es) (vs ++ ws)
  | [], _, vs, ws, h, r => by
    have h : vs = [] := h
    rw [h]
    exact r
  | d0 :: ds, es, vs, ws, h, r => by
    obtain ⟨x, xs, e1, h1, h2⟩ := h
    rw [e1]
    exact ⟨x, xs ++ ws, rfl, h1, Reps.cat h2 r⟩
theorem Reps.set : ∀ {ds : List D} {vs : List V} {d : D} {v : V} (i : Nat), Reps K G ds vs → Rep K G d v → Reps K G (ds.set i d) (vs.set i v)
  | [], vs, d, v, i, h, r => by
    have h : vs = [] := h
    rw [h]
    exact rfl
  | d0 :: ds, vs, d, v, 0, h, r => by
    obtain ⟨x, xs, e1, h1, h2⟩ := h
    rw [e1]
    exact ⟨v, xs, rfl, r, h2⟩
  | d0 :: ds, vs, d, v, i + 1, h, r => by
    obtain ⟨x, xs, e1, h1, h2⟩ := h
    rw [e1]
    exact ⟨x, xs.set i v, rfl, h1, Reps.set i h2 r⟩
theorem ix_at {α : Type} {xs : List α} {i : Int} {v : α} (h : itemAt xs i = some v) : ∃ j : Nat, j < xs.length ∧ xs[j]? = some v ∧ ixN xs.length i = some j := by
  unfold itemAt at h
  by_cases h0 : 0 ≤ i
  · rw [if_pos h0] at h
    have hl := (List.getElem?_eq_some_iff.mp h).1
    exact ⟨i.toNat, hl, h, by unfold ixN; rw [if_pos h0, if_pos (by omega)]⟩
  · rw [if_neg h0] at h
    by_cases h1 : -(xs.length : Int) ≤ i
    · rw [if_pos h1] at h
      have hl := (List.getElem?_eq_some_iff.mp h).1
      exact ⟨_, hl, h, by unfold ixN; rw [if_neg h0, if_pos h1]⟩
    · rw [if_neg h1] at h
      cases h
theorem Reps.item {ds : List D} {vs : List V} {i : Int} {d : D} (h : Reps K G ds vs) (e : itemAt ds i = some d) : ∃ v, atI vs i = some v ∧ Rep K G d v := by
  obtain ⟨j, h1, h2, h3⟩ := ix_at e
  obtain ⟨v, e1, r⟩ := h.get h2
  refine ⟨v, ?_, r⟩
  unfold atI
  rw [← h.len, h3]
  exact e1
end

/-! ### slots -/
def isO : DV → Bool
  | .val _ => false
  | _ => true
theorem gt_st : ∀ (ds : DS) (i j : Nat) (d : DV), gt (st ds i d) j = if j = i ∧ i < ds.length then some d else gt ds j
  | [], i, j, d => by
    have e : ¬ (j = i ∧ i < ([] : DS).length) := fun h => Nat.not_lt_zero _ h.2
    rw [if_neg e]
    rfl
  | x :: r, 0, 0, d => by
    rw [if_pos ⟨rfl, Nat.succ_pos _⟩]
    rfl
  | x :: r, 0, j + 1, d => by
    rw [if_neg (fun h => Nat.noConfusion h.1)]
    rfl
  | x :: r, i + 1, 0, d => by
    rw [if_neg (fun h => Nat.noConfusion h.1)]
    rfl
  | x :: r, i + 1, j + 1, d => by
    show gt (st r i d) j = _
    rw [gt_st r i j d]
    by_cases h : j = i ∧ i < r.length
    · rw [if_pos h, if_pos ⟨by omega, by rw [List.length_cons]; omega⟩]
    · rw [if_neg h, if_neg (fun q => h ⟨by omega, by have := q.2; rw [List.length_cons] at this; omega⟩)]
      rfl
theorem gt_er : ∀ (ds : DS) (i j : Nat), gt (er ds i) j = if j = i then none else gt ds j
  | [], i, j => by
    show none = _
    split <;> rfl
  | x :: r, 0, 0 => by
    rw [if_pos rfl]
    rfl
  | x :: r, 0, j + 1 => by
    rw [if_neg (fun h => Nat.noConfusion h)]
    rfl
  | x :: r, i + 1, 0 => by
    rw [if_neg (fun h => Nat.noConfusion h)]
    rfl
  | x :: r, i + 1, j + 1 => by
    show gt (er r i) j = _
    rw [gt_er r i j]
    by_cases h : j = i
    · rw [if_pos h, if_pos (by omega)]
    · rw [if_neg h, if_neg (by omega)]
      rfl
theorem len_st : ∀ (ds : DS) (i : Nat) (d : DV), (st ds i d).length = ds.length
  | [], _, _ => rfl
  | _ :: _, 0, _ => rfl
  | _ :: r, i + 1, d => by
    show (st r i d).length + 1 = _
    rw [len_st r i d, List.length_cons]
theorem len_er : ∀ (ds : DS) (i : Nat), (er ds i).length = ds.length
  | [], _ => rfl
  | _ :: _, 0 => rfl
  | _ :: r, i + 1 => by
    show (er r i).length + 1 = _
    rw [len_er r i, List.length_cons]
theorem gt_lt : ∀ {ds : DS} {i : Nat} {d : DV}, gt ds i = some d → i < ds.length
  | [], _, _, h => by cases h
  | _ :: _, 0, _, _ => Nat.succ_pos _
  | _ :: r, i + 1, d, h => Nat.succ_lt_succ (gt_lt (ds := r) h)

/-- a call's ground: the heap at the entry, what stood still there, what may be written -/
structure C0 where
  H0 : Hp
  G0 : Hp
  W : Addr → Prop
  P : Nat → Addr

def SlotOk (K : PySem.W.Frag) (c : C0) (G H : Hp) (p : Addr) (o : Option (Option V)) : DV → Prop
  | .val d => ∃ v, o = some (some v) ∧ Rep K G d v
  | .own xs => o = some (some (.ref p)) ∧ G p = none ∧ c.H0 p = none ∧ ∃ vs, H p = some (.lst vs) ∧ Reps K G xs vs
  | .par xs => o = some (some (.ref p)) ∧ G p = none ∧ c.W p ∧ ∃ vs, H p = some (.lst vs) ∧ Reps K G xs vs

structure Env (K : PySem.W.Frag) (c : C0) (pa : Nat → Addr) (G H : Hp) (σ : L2.St) (ds : DS) : Prop where
  ex : Same G H
  fr : ∀ a o, c.H0 a = some o → ¬ c.W a → H a = some o
  dom : ∀ a, c.H0 a ≠ none → H a ≠ none
  ge : Same c.G0 G
  gf : ∀ a, c.H0 a ≠ none → G a = c.G0 a
  len : ds.length = σ.length
  sl : ∀ i dv, gt ds i = some dv → SlotOk K c G H (pa i) σ[i]? dv
  inj : ∀ i j dv dv', gt ds i = some dv → gt ds j = some dv' → isO dv = true → isO dv' = true → i ≠ j → pa i ≠ pa j
  ps : ∀ i xs, gt ds i = some (.par xs) → pa i = c.P i

/-- a list that the body made and no slot holds yet -/
structure Tmp (K : PySem.W.Frag) (c : C0) (pa : Nat → Addr) (G H : Hp) (ds : DS) (p : Addr) (xs : List D) : Prop where
  g : G p = none
  h0 : c.H0 p = none
  here : ∃ vs, H p = some (.lst vs) ∧ Reps K G xs vs
  ne : ∀ i dv, gt ds i = some dv → isO dv = true → pa i ≠ p

section
variable {K : PySem.W.Frag} {c : C0} {pa : Nat → Addr} {G H H' : Hp} {σ : L2.St} {ds : DS}
theorem Env.val (E : Env K c pa G H σ ds) {i : Nat} {d : D} (h : gt ds i = some (.val d)) : ∃ v, σ[i]? = some (some v) ∧ Rep K G d v := E.sl i _ h
theorem Env.lst (E : Env K c pa G H σ ds) {i : Nat} {xs : List D} (h : listAt ds i = some xs) :
    ∃ dv, gt ds i = some dv ∧ isO dv = true ∧ (dv = .own xs ∨ dv = .par xs) ∧ σ[i]? = some (some (.ref (pa i))) ∧ G (pa i) = none ∧ (c.H0 (pa i) = none ∨ c.W (pa i)) ∧ ∃ vs, H (pa i) = some (.lst vs) ∧ Reps K G xs vs := by
  unfold listAt at h
  cases e : gt ds i with
  | none => rw [e] at h; cases h
  | some dv =>
    rw [e] at h
    have s := E.sl i dv e
    cases dv with
    | val d => cases h
    | own ys =>
      have h : ys = xs := Option.some.inj h
      subst h
      obtain ⟨h1, h2, h3, h4⟩ := s
      exact ⟨_, rfl, rfl, .inl rfl, h1, h2, .inl h3, h4⟩
    | par ys =>
      have h : ys = xs := Option.some.inj h
      subst h
      obtain ⟨h1, h2, h3, h4⟩ := s
      exact ⟨_, rfl, rfl, .inr rfl, h1, h2, .inr h3, h4⟩
theorem Env.ownNe (E : Env K c pa G H σ ds) {i : Nat} {dv : DV} (h : gt ds i = some dv) (o : isO dv = true) : H (pa i) ≠ none := by
  have s := E.sl i dv h
  cases dv with
  | val d => cases o
  | own xs =>
    obtain ⟨_, _, _, vs, e, _⟩ := s
    rw [e]
    exact fun q => nomatch q
  | par xs =>
    obtain ⟨_, _, _, vs, e, _⟩ := s
    rw [e]
    exact fun q => nomatch q
theorem SlotOk.up {p : Addr} {o : Option (Option V)} {dv : DV} {G' : Hp} (s : SlotOk K c G H p o dv) (e : Same H H') (g : Same G G') (n : G' p = none ∨ isO dv = false) : SlotOk K c G' H' p o dv := by
  cases dv with
  | val d =>
    obtain ⟨v, e1, r⟩ := s
    exact ⟨v, e1, r.mono g⟩
  | own xs =>
    obtain ⟨h1, h2, h3, vs, h4, h5⟩ := s
    exact ⟨h1, n.resolve_right (fun q => nomatch q), h3, vs, e _ _ h4, h5.mono g⟩
  | par xs =>
    obtain ⟨h1, h2, h3, vs, h4, h5⟩ := s
    exact ⟨h1, n.resolve_right (fun q => nomatch q), h3, vs, e _ _ h4, h5.mono g⟩
theorem SlotOk.gn {p : Addr} {o : Option (Option V)} {dv : DV} (s : SlotOk K c G H p o dv) (h : isO dv = true) : G p = none := by
  cases dv with
  | val d => cases h
  | own xs => exact s.2.1
  | par xs => exact s.2.1
/-- new things come beside -/
theorem Env.heap (E : Env K c pa G H σ ds) (e : Same H H') : Env K c pa G H' σ ds where
  ex := E.ex.trans e
  fr := fun a o h w => e _ _ (E.fr a o h w)
  dom := fun a h => by
    cases q : H a with
    | none => exact absurd q (E.dom a h)
    | some o =>
      rw [e _ _ q]
      exact fun z => nomatch z
  ge := E.ge
  gf := E.gf
  len := E.len
  sl := fun i dv h => by
    have s := E.sl i dv h
    cases o : isO dv with
    | true => exact s.up e (fun _ _ q => q) (.inl (s.gn o))
    | false => exact s.up e (fun _ _ q => q) (.inr o)
  inj := E.inj
  ps := E.ps
theorem same_new {H : Hp} {p : Addr} {o : HO} (h : H p = none) : Same H (upd H p o) := fun b x e => by
  rw [upd_ne (ne_of_none e h)]
  exact e
theorem same_both {G H : Hp} {p : Addr} {o : HO} (e : Same G H) (h : H p = some o) : Same (upd G p o) H := fun b x q => by
  by_cases hb : b = p
  · rw [hb, upd_same] at q
    rw [hb, h]
    exact q
  · rw [upd_ne hb] at q
    exact e _ _ q
theorem upd_none {H : Hp} {p q : Addr} {o : HO} (h : H q = none) (n : q ≠ p) : upd H p o q = none := by
  rw [upd_ne n]
  exact h
/-- what stands at p, made by the body, stands still from here on -/
theorem Env.still (E : Env K c pa G H σ ds) {p : Addr} {o : HO} (hp : H p = some o) (hg : G p = none) (h0 : c.H0 p = none) (ne : ∀ i dv, gt ds i = some dv → isO dv = true → pa i ≠ p) :
    Env K c pa (upd G p o) H σ ds where
  ex := same_both E.ex hp
  fr := E.fr
  dom := E.dom
  ge := E.ge.trans (same_new hg)
  gf := fun a h => by
    have n : a ≠ p := fun q => by
      rw [q] at h
      exact h h0
    rw [upd_ne n]
    exact E.gf a h
  len := E.len
  sl := fun i dv h => by
    have s := E.sl i dv h
    cases o : isO dv with
    | true => exact s.up (fun _ _ q => q) (same_new hg) (.inl (upd_none (s.gn o) (ne i dv h o)))
    | false => exact s.up (fun _ _ q => q) (same_new hg) (.inr o)
  inj := E.inj
  ps := E.ps
theorem Env.free (E : Env K c pa G H σ ds) {p : Addr} (h : H p = none) : G p = none ∧ c.H0 p = none ∧ ∀ i dv, gt ds i = some dv → isO dv = true → pa i ≠ p :=
  ⟨L2.Same.free E.ex h, by
    cases q : c.H0 p with
    | none => rfl
    | some o => exact absurd h (E.dom p (by rw [q]; exact fun z => nomatch z)), fun i dv hi o q => E.ownNe hi o (q ▸ h)⟩
/-- a new object, standing still at once -/
theorem Env.new (E : Env K c pa G H σ ds) {p : Addr} {o : HO} (h : H p = none) : Env K c pa (upd G p o) (upd H p o) σ ds ∧ Same G (upd G p o) := by
  obtain ⟨h1, h2, h3⟩ := E.free h
  exact ⟨(E.heap (same_new h)).still upd_same h1 h2 h3, same_new h1⟩
/-- a new list of the body's own -/
theorem Env.newOwn (E : Env K c pa G H σ ds) {p : Addr} {vs : List V} {xs : List D} (h : H p = none) (r : Reps K G xs vs) : Env K c pa G (upd H p (.lst vs)) σ ds ∧ Tmp K c pa G (upd H p (.lst vs)) ds p xs := by
  obtain ⟨h1, h2, h3⟩ := E.free h
  exact ⟨E.heap (same_new h), h1, h2, ⟨vs, upd_same, r⟩, h3⟩
theorem Tmp.freeze {p : Addr} {xs : List D} (t : Tmp K c pa G H ds p xs) (E : Env K c pa G H σ ds) : ∃ G', Env K c pa G' H σ ds ∧ Same G G' ∧ Rep K G' (.lst xs) (.ref p) := by
  obtain ⟨vs, h1, h2⟩ := t.here
  exact ⟨_, E.still h1 t.g t.h0 t.ne, same_new t.g, p, vs, rfl, SqL.of upd_same, h2.mono (same_new t.g)⟩
theorem set_get {α : Type} {σ : List α} {i j : Nat} {v : α} (h : i ≠ j) : (σ.set i v)[j]? = σ[j]? := List.getElem?_set_ne h
theorem Env.setVal (E : Env K c pa G H σ ds) {v : V} {d : D} (i : Nat) (r : Rep K G d v) : Env K c pa G H (σ.set i (some v)) (st ds i (.val d)) where
  ex := E.ex
  fr := E.fr
  dom := E.dom
  ge := E.ge
  gf := E.gf
  len := by rw [len_st, List.length_set]; exact E.len
  sl := fun j dv h => by
    rw [gt_st] at h
    by_cases q : j = i ∧ i < ds.length
    · rw [if_pos q] at h
      have h : DV.val d = dv := Option.some.inj h
      subst h
      obtain ⟨e, q⟩ := q
      subst e
      rw [E.len] at q
      exact ⟨v, List.getElem?_set_self q, r⟩
    · rw [if_neg q] at h
      have hj := gt_lt h
      have n : i ≠ j := fun e => q ⟨e.symm, e ▸ hj⟩
      rw [set_get n]
      exact E.sl j dv h
  inj := fun a b dv dv' h h' o o' n => by
    rw [gt_st] at h h'
    by_cases q : a = i ∧ i < ds.length
    · rw [if_pos q] at h
      have h : DV.val d = dv := Option.some.inj h
      subst h
      cases o
    · by_cases q' : b = i ∧ i < ds.length
      · rw [if_pos q'] at h'
        have h' : DV.val d = dv' := Option.some.inj h'
        subst h'
        cases o'
      · rw [if_neg q] at h
        rw [if_neg q'] at h'
        exact E.inj a b dv dv' h h' o o' n
  ps := fun j xs h => by
    rw [gt_st] at h
    by_cases q : j = i ∧ i < ds.length
    · rw [if_pos q] at h
      cases (Option.some.inj h : DV.val d = DV.par xs)
    · rw [if_neg q] at h
      exact E.ps j xs h
theorem Env.setOwn (E : Env K c pa G H σ ds) {p : Addr} {xs : List D} (i : Nat) (t : Tmp K c pa G H ds p xs) : Env K c (fun j => if j = i then p else pa j) G H (σ.set i (some (.ref p))) (st ds i (.own xs)) where
  ex := E.ex
  fr := E.fr
  dom := E.dom
  ge := E.ge
  gf := E.gf
  len := by rw [len_st, List.length_set]; exact E.len
  sl := fun j dv h => by
    rw [gt_st] at h
    by_cases q : j = i ∧ i < ds.length
    · rw [if_pos q] at h
      have h : DV.own xs = dv := Option.some.inj h
      subst h
      obtain ⟨e, q⟩ := q
      subst e
      rw [E.len] at q
      rw [if_pos rfl]
      exact ⟨List.getElem?_set_self q, t.g, t.h0, t.here⟩
    · rw [if_neg q] at h
      have hj := gt_lt h
      have n : i ≠ j := fun e => q ⟨e.symm, e ▸ hj⟩
      rw [set_get n, if_neg n.symm]
      exact E.sl j dv h
  inj := fun a b dv dv' h h' o o' n => by
    rw [gt_st] at h h'
    by_cases q : a = i ∧ i < ds.length
    · by_cases q' : b = i ∧ i < ds.length
      · exact absurd (q.1.trans q'.1.symm) n
      · rw [if_neg q'] at h'
        have nb : b ≠ i := fun e => n (q.1.trans e.symm)
        show (if a = i then p else pa a) ≠ (if b = i then p else pa b)
        rw [if_pos q.1, if_neg nb]
        exact (t.ne b dv' h' o').symm
    · rw [if_neg q] at h
      have ha := gt_lt h
      have na : a ≠ i := fun e => q ⟨e, e ▸ ha⟩
      by_cases q' : b = i ∧ i < ds.length
      · show (if a = i then p else pa a) ≠ (if b = i then p else pa b)
        rw [if_pos q'.1, if_neg na]
        exact t.ne a dv h o
      · rw [if_neg q'] at h'
        have hb := gt_lt h'
        have nb : b ≠ i := fun e => q' ⟨e, e ▸ hb⟩
        show (if a = i then p else pa a) ≠ (if b = i then p else pa b)
        rw [if_neg na, if_neg nb]
        exact E.inj a b dv dv' h h' o o' n
  ps := fun j ys h => by
    rw [gt_st] at h
    by_cases q : j = i ∧ i < ds.length
    · rw [if_pos q] at h
      cases (Option.some.inj h : DV.own xs = DV.par ys)
    · rw [if_neg q] at h
      have hj := gt_lt h
      have n : j ≠ i := fun e => q ⟨e, e ▸ hj⟩
      show (if j = i then p else pa j) = c.P j
      rw [if_neg n]
      exact E.ps j ys h
/-- the slot's word is forgotten; the slot itself may be wiped -/
theorem Env.forget (E : Env K c pa G H σ ds) (i : Nat) (o : Option V) : Env K c pa G H (σ.set i o) (er ds i) where
  ex := E.ex
  fr := E.fr
  dom := E.dom
  ge := E.ge
  gf := E.gf
  len := by rw [len_er, List.length_set]; exact E.len
  sl := fun j dv h => by
    rw [gt_er] at h
    by_cases q : j = i
    · rw [if_pos q] at h
      cases h
    · rw [if_neg q] at h
      rw [set_get (Ne.symm q)]
      exact E.sl j dv h
  inj := fun a b dv dv' h h' o o' n => by
    rw [gt_er] at h h'
    by_cases q : a = i
    · rw [if_pos q] at h
      cases h
    · rw [if_neg q] at h
      by_cases q' : b = i
      · rw [if_pos q'] at h'
        cases h'
      · rw [if_neg q'] at h'
        exact E.inj a b dv dv' h h' o o' n
  ps := fun j ys h => by
    rw [gt_er] at h
    by_cases q : j = i
    · rw [if_pos q] at h
      cases h
    · rw [if_neg q] at h
      exact E.ps j ys h
theorem Env.drop (E : Env K c pa G H σ ds) (i : Nat) : Env K c pa G H σ (er ds i) where
  ex := E.ex
  fr := E.fr
  dom := E.dom
  ge := E.ge
  gf := E.gf
  len := by rw [len_er]; exact E.len
  sl := fun j dv h => by
    rw [gt_er] at h
    by_cases q : j = i
    · rw [if_pos q] at h
      cases h
    · rw [if_neg q] at h
      exact E.sl j dv h
  inj := fun a b dv dv' h h' o o' n => by
    rw [gt_er] at h h'
    by_cases q : a = i
    · rw [if_pos q] at h
      cases h
    · rw [if_neg q] at h
      by_cases q' : b = i
      · rw [if_pos q'] at h'
        cases h'
      · rw [if_neg q'] at h'
        exact E.inj a b dv dv' h h' o o' n
  ps := fun j ys h => by
    rw [gt_er] at h
    by_cases q : j = i
    · rw [if_pos q] at h
      cases h
    · rw [if_neg q] at h
      exact E.ps j ys h
theorem Env.drops (E : Env K c pa G H σ ds) : ∀ vs : List Nat, Env K c pa G H σ (ers ds vs)
  | [] => E
  | v :: vs => (E.drops vs).drop v
theorem Env.wipes (E : Env K c pa G H σ ds) : ∀ vs : List Nat, Env K c pa G H (wipe σ vs) (ers ds vs)
  | [] => E
  | v :: vs => (E.wipes vs).forget v none
theorem gt_refill : ∀ {ds : DS} {i j : Nat} {xs : List D}, gt (refill ds i xs) j = (match gt ds j with
    | some (.own ys) => if j = i then some (.own xs) else some (.own ys)
    | some (.par ys) => if j = i then some (.par xs) else some (.par ys)
    | o => o)
  | [], i, j, xs => rfl
  | o :: r, 0, 0, xs => by
    show fill1 xs o = (match o with
      | some (.own ys) => if 0 = 0 then some (.own xs) else some (.own ys)
      | some (.par ys) => if 0 = 0 then some (.par xs) else some (.par ys)
      | o => o)
    cases o with
    | none => rfl
    | some d => cases d <;> rfl
  | o :: r, 0, j + 1, xs => by
    show gt r j = (match gt r j with
      | some (.own ys) => if j + 1 = 0 then some (.own xs) else some (.own ys)
      | some (.par ys) => if j + 1 = 0 then some (.par xs) else some (.par ys)
      | o => o)
    cases gt r j with
    | none => rfl
    | some d => cases d <;> rfl
  | o :: r, i + 1, 0, xs => by
    show o = (match o with
      | some (.own ys) => if 0 = i + 1 then some (.own xs) else some (.own ys)
      | some (.par ys) => if 0 = i + 1 then some (.par xs) else some (.par ys)
      | o => o)
    cases o with
    | none => rfl
    | some d => cases d <;> rfl
  | o :: r, i + 1, j + 1, xs => by
    show gt (refill r i xs) j = (match gt r j with
      | some (.own ys) => if j + 1 = i + 1 then some (.own xs) else some (.own ys)
      | some (.par ys) => if j + 1 = i + 1 then some (.par xs) else some (.par ys)
      | o => o)
    rw [gt_refill (ds := r) (i := i) (j := j)]
    simp only [Nat.add_right_cancel_iff]
theorem len_refill : ∀ {ds : DS} {i : Nat} {xs : List D}, (refill ds i xs).length = ds.length
  | [], _, _ => rfl
  | o :: r, 0, xs => rfl
  | o :: r, i + 1, xs => by
    show (refill r i xs).length + 1 = r.length + 1
    rw [len_refill]
theorem isO_gt_refill {ds : DS} {i j : Nat} {xs : List D} {dv : DV} (h : gt (refill ds i xs) j = some dv) : ∃ dv', gt ds j = some dv' ∧ isO dv' = isO dv := by
  rw [gt_refill] at h
  cases e : gt ds j with
  | none => rw [e] at h; cases h
  | some d0 =>
    rw [e] at h
    refine ⟨d0, rfl, ?_⟩
    cases d0 with
    | val d =>
      have h : DV.val d = dv := Option.some.inj h
      rw [← h]
    | own ys =>
      simp only at h
      split at h <;> (have h := Option.some.inj h; rw [← h]; try rfl)
    | par ys =>
      simp only at h
      split at h <;> (have h := Option.some.inj h; rw [← h]; try rfl)
/-- the list in slot i is written -/
theorem Env.write (E : Env K c pa G H σ ds) {i : Nat} {xs ys : List D} {ws : List V} (h : listAt ds i = some xs) (r : Reps K G ys ws) : Env K c pa G (upd H (pa i) (.lst ws)) σ (refill ds i ys) := by
  obtain ⟨dv, h1, h2, h3, h4, h5, h6, vs, h7, h8⟩ := E.lst h
  have gne : ∀ a o, G a = some o → a ≠ pa i := fun a o q => ne_of_none q h5
  refine ⟨fun a o q => ?_, fun a o q w => ?_, fun a q => ?_, E.ge, E.gf, ?_, fun j dj q => ?_, fun a b d d' q q' o o' n => ?_, fun j zs q => ?_⟩
  · rw [upd_ne (gne a o q)]
    exact E.ex a o q
  · have n : a ≠ pa i := fun e => by
      subst e
      rcases h6 with z | z
      · rw [z] at q; cases q
      · exact w z
    rw [upd_ne n]
    exact E.fr a o q w
  · by_cases n : a = pa i
    · rw [n, upd_same]
      exact fun z => nomatch z
    · rw [upd_ne n]
      exact E.dom a q
  · rw [len_refill]
    exact E.len
  · by_cases hj : j = i
    · subst hj
      rw [gt_refill, h1] at q
      have s := E.sl j dv h1
      rcases h3 with z | z
      · subst z
        simp only [if_true] at q
        have q := Option.some.inj q
        subst q
        obtain ⟨s1, s2, s3, _⟩ := s
        exact ⟨s1, s2, s3, ws, upd_same, r⟩
      · subst z
        simp only [if_true] at q
        have q := Option.some.inj q
        subst q
        obtain ⟨s1, s2, s3, _⟩ := s
        exact ⟨s1, s2, s3, ws, upd_same, r⟩
    · have q0 : gt ds j = some dj := by
        rw [gt_refill] at q
        cases e : gt ds j with
        | none => rw [e] at q; exact q
        | some d0 =>
          rw [e] at q
          cases d0 with
          | val d => exact q
          | own zs => simpa only [if_neg hj] using q
          | par zs => simpa only [if_neg hj] using q
      have s := E.sl j dj q0
      cases o : isO dj with
      | false =>
        cases dj with
        | val d => exact s
        | own _ => cases o
        | par _ => cases o
      | true =>
        have n : pa j ≠ pa i := E.inj j i dj dv q0 h1 o h2 hj
        cases dj with
        | val d => exact s
        | own zs =>
          obtain ⟨s1, s2, s3, zvs, s4, s5⟩ := s
          exact ⟨s1, s2, s3, zvs, by rw [upd_ne n]; exact s4, s5⟩
        | par zs =>
          obtain ⟨s1, s2, s3, zvs, s4, s5⟩ := s
          exact ⟨s1, s2, s3, zvs, by rw [upd_ne n]; exact s4, s5⟩
  · obtain ⟨d1, e1, o1⟩ := isO_gt_refill q
    obtain ⟨d2, e2, o2⟩ := isO_gt_refill q'
    exact E.inj a b d1 d2 e1 e2 (o1.trans o) (o2.trans o') n
  · rw [gt_refill] at q
    cases e : gt ds j with
    | none => rw [e] at q; cases q
    | some d0 =>
      rw [e] at q
      cases d0 with
      | val d => cases (Option.some.inj q : DV.val d = DV.par zs)
      | own us =>
        simp only at q
        split at q <;> cases q
      | par us => exact E.ps j us e
end
end DW

/-! DwC: readings against transformers: expressions, tests, arguments. -/
namespace DW
open PySem PySem.Spec PyProof.Rows L2

/-- an expression's step: the slots' word again, what stood still stands, all but the body's own lists is as it was -/
structure Stp (K : PySem.W.Frag) (c : C0) (pa : Nat → Addr) (σ : L2.St) (G H : Hp) (ds : DS) (G' H' : Hp) (ds' : DS) : Prop where
  env : Env K c pa G' H' σ ds'
  sg : Same G G'
  fr : ∀ a o, H a = some o → (∀ i dv, gt ds i = some dv → isO dv = true → a ≠ pa i) → H' a = some o ∧ G' a = G a
  sub : ∀ i dv, gt ds' i = some dv → isO dv = true → ∃ dv0, gt ds i = some dv0 ∧ isO dv0 = true
  dom : ∀ a, H a ≠ none → H' a ≠ none
section
variable {K : PySem.W.Frag} {c : C0} {pa : Nat → Addr} {G H G' H' G2 H2 : Hp} {σ : L2.St} {ds ds' ds2 : DS}
theorem Stp.refl (E : Env K c pa G H σ ds) : Stp K c pa σ G H ds G H ds := ⟨E, fun _ _ q => q, fun _ _ h _ => ⟨h, rfl⟩, fun _ dv h o => ⟨dv, h, o⟩, fun _ h => h⟩
theorem Stp.trans (a : Stp K c pa σ G H ds G' H' ds') (b : Stp K c pa σ G' H' ds' G2 H2 ds2) : Stp K c pa σ G H ds G2 H2 ds2 where
  env := b.env
  sg := a.sg.trans b.sg
  fr := fun x o h n => by
    obtain ⟨h1, g1⟩ := a.fr x o h n
    obtain ⟨h2, g2⟩ := b.fr x o h1 fun i dv q oo => by
      obtain ⟨dv0, q0, o0⟩ := a.sub i dv q oo
      exact n i dv0 q0 o0
    exact ⟨h2, g2.trans g1⟩
  sub := fun i dv h o => by
    obtain ⟨d1, h1, o1⟩ := b.sub i dv h o
    exact a.sub i d1 h1 o1
  dom := fun x h => b.dom x (a.dom x h)
/-- a new object -/
theorem Stp.new (E : Env K c pa G H σ ds) {p : Addr} {o : HO} (h : H p = none) : Stp K c pa σ G H ds (upd G p o) (upd H p o) ds :=
  ⟨(E.new h).1, (E.new h).2, fun a u q _ => ⟨by rw [upd_ne (ne_of_none q h)]; exact q, by rw [upd_ne (ne_of_none q h)]⟩, fun _ dv h o => ⟨dv, h, o⟩, fun a q => by
    have n : a ≠ p := fun e => by
      rw [e] at q
      exact q h
    rw [upd_ne n]
    exact q⟩
theorem Stp.newOwn (E : Env K c pa G H σ ds) {p : Addr} {vs : List V} {xs : List D} (h : H p = none) (r : Reps K G xs vs) : Stp K c pa σ G H ds G (upd H p (.lst vs)) ds ∧ Tmp K c pa G (upd H p (.lst vs)) ds p xs :=
  ⟨⟨(E.newOwn h r).1, fun _ _ q => q, fun a u q _ => ⟨by rw [upd_ne (ne_of_none q h)]; exact q, rfl⟩, fun _ dv h o => ⟨dv, h, o⟩, fun a q => by
    have n : a ≠ p := fun e => by
      rw [e] at q
      exact q h
    rw [upd_ne n]
    exact q⟩, (E.newOwn h r).2⟩
/-- a list that was made and that no slot holds stands still from here on -/
theorem Stp.freeze {p : Addr} {xs : List D} (S : Stp K c pa σ G H ds G' H' ds') (t : Tmp K c pa G' H' ds' p xs) (h : H p = none) : ∃ G2, Stp K c pa σ G H ds G2 H' ds' ∧ Rep K G2 (.lst xs) (.ref p) := by
  obtain ⟨vs, h1, h2⟩ := t.here
  refine ⟨upd G' p (.lst vs), ⟨S.env.still h1 t.g t.h0 t.ne, S.sg.trans (same_new t.g), fun a o q n => ?_, S.sub, S.dom⟩, p, vs, rfl, SqL.of upd_same, h2.mono (same_new t.g)⟩
  obtain ⟨e1, e2⟩ := S.fr a o q n
  exact ⟨e1, by rw [upd_ne (ne_of_none q h)]; exact e2⟩
/-- such a list stays as it is meanwhile -/
theorem Tmp.stay {p : Addr} {xs : List D} (t : Tmp K c pa G H ds p xs) (S : Stp K c pa σ G H ds G' H' ds') : Tmp K c pa G' H' ds' p xs := by
  obtain ⟨vs, h1, h2⟩ := t.here
  obtain ⟨e1, e2⟩ := S.fr p _ h1 fun i dv h o e => t.ne i dv h o e.symm
  refine ⟨e2.trans t.g, t.h0, ⟨vs, e1, h2.mono S.sg⟩, fun i dv h o => ?_⟩
  obtain ⟨d0, h0, o0⟩ := S.sub i dv h o
  exact t.ne i d0 h0 o0
end
/-- how an exception lies: its class, its own dict -/
structure ExcAt (K : PySem.W.Frag) (G H : Hp) (e : DX) (cls : Value) (d : Option Addr) : Prop where
  cls : cls = .ref e.cls
  fs : ∃ (dd : Addr) (vs : List V), d = some dd ∧ H dd = some (.xd ((e.fs.map (·.1)).zip vs)) ∧ Reps K G (e.fs.map (·.2)) vs
/-- every exception that is told is what the reading wants of exceptions -/
def XOk (K : PySem.W.Frag) (c : C0) (W : WX) (xk : XKd) : Prop := ∀ e ds, xk e ds → ∀ pa G H σ cls d, Env K c pa G H σ ds → ExcAt K G H e cls d → W cls d σ H

def EW (K : PySem.W.Frag) (W : WX) (te : TE) (w : WE) : Prop := ∀ (c : C0) pa G H σ ds xk (kk : D → DS → Prop) (Q : VK), Env K c pa G H σ ds → w xk ds kk → XOk K c W xk →
  (∀ v G' H' d ds', kk d ds' → Stp K c pa σ G H ds G' H' ds' → Rep K G' d v → Q v H') → te σ H Q
def EO (K : PySem.W.Frag) (W : WX) (te : TE) (w : WO) : Prop := ∀ (c : C0) pa G H σ ds xk (kk : List D → DS → Prop) (Q : VK), Env K c pa G H σ ds → w xk ds kk → XOk K c W xk →
  (∀ p G' H' xs ds', kk xs ds' → Stp K c pa σ G H ds G' H' ds' → Tmp K c pa G' H' ds' p xs → H p = none → Q (.ref p) H') → te σ H Q
def TW (K : PySem.W.Frag) (W : WX) (tt : TT) (w : WT) : Prop := ∀ (c : C0) pa G H σ ds xk (kk : Bool → DS → Prop) (Q : Bool → Hp → Prop), Env K c pa G H σ ds → w xk ds kk → XOk K c W xk →
  (∀ b G' H' ds', kk b ds' → Stp K c pa σ G H ds G' H' ds' → Q b H') → tt σ H Q
def AW (K : PySem.W.Frag) (W : WX) (ta : TA) (as : List WE) : Prop := ∀ (c : C0) pa G H σ ds xk (kk : List D → DS → Prop) (Q : List V → Hp → Prop), Env K c pa G H σ ds → wArgs as xk ds kk → XOk K c W xk →
  (∀ vs G' H' l ds', kk l ds' → Stp K c pa σ G H ds G' H' ds' → Reps K G' l vs → l.length = as.length → Q vs H') → ta σ H Q
/-- an operation on values against one on data, nothing made -/
def RW2 (K : PySem.W.Frag) (r : R2) (f : B2) : Prop := ∀ (G H : Hp) (x y : V) (d e : D) (kk : D → Prop) (Q : VK), Same G H → Rep K G d x → Rep K G e y → f d e kk → (∀ z v, kk z → Rep K G z v → Q v H) → r x y H Q
def RW1 (K : PySem.W.Frag) (r : V → Hp → VK → Prop) (f : B1) : Prop := ∀ (G H : Hp) (x : V) (d : D) (kk : D → Prop) (Q : VK), Same G H → Rep K G d x → f d kk → (∀ z v, kk z → Rep K G z v → Q v H) → r x H Q
def RWC1 (K : PySem.W.Frag) (r : List V → Hp → VK → Prop) (f : B1) : Prop := ∀ (G H : Hp) (x : V) (d : D) (kk : D → Prop) (Q : VK), Same G H → Rep K G d x → f d kk → (∀ z v, kk z → Rep K G z v → Q v H) → r [x] H Q
def RWC2 (K : PySem.W.Frag) (r : List V → Hp → VK → Prop) (f : B2) : Prop := ∀ (G H : Hp) (x y : V) (d e : D) (kk : D → Prop) (Q : VK), Same G H → Rep K G d x → Rep K G e y → f d e kk → (∀ z v, kk z → Rep K G z v → Q v H) → r [x, y] H Q

section
variable {K : PySem.W.Frag} {W : WX} {ta tb te : TE} {a b : WE} {t u : TT} {wt wu : WT}

theorem ew_c {d : D} {v : V} (h : ∀ G, Rep K G d v) : EW K W (tC v) (wC d) := fun c pa G H σ ds xk kk Q E hw hx k => k v G H d ds hw (.refl E) (h G)
theorem ew_var (i : Nat) : EW K W (tVar i) (wVar i) := fun c pa G H σ ds xk kk Q E hw hx k => by
  have hw : (match gt ds i with
    | some (.val d) => kk d ds
    | some (.own xs) => kk (.lst xs) (st ds i (.val (.lst xs)))
    | _ => False) := hw
  cases e : gt ds i with
  | none => rw [e] at hw; exact hw.elim
  | some dv =>
    rw [e] at hw
    cases dv with
    | val d =>
      obtain ⟨v, e1, r⟩ := E.val e
      exact ⟨v, e1, k v G H d ds hw (.refl E) r⟩
    | par xs => exact hw.elim
    | own xs =>
      obtain ⟨e1, g, h0, vs, e2, r⟩ := E.sl i _ e
      have hl := gt_lt e
      -- from here on it stands still
      refine ⟨.ref (pa i), e1, ?_⟩
      have ne : ∀ j dv, gt (er ds i) j = some dv → isO dv = true → pa j ≠ pa i := fun j dv q o => by
        rw [gt_er] at q
        by_cases hj : j = i
        · rw [if_pos hj] at q
          cases q
        · rw [if_neg hj] at q
          exact E.inj j i dv _ q e o rfl hj
      have E1 := (E.drop i).still e2 g h0 ne
      have sg : Same G (upd G (pa i) (.lst vs)) := same_new g
      have rr : Rep K (upd G (pa i) (.lst vs)) (.lst xs) (.ref (pa i)) := ⟨pa i, vs, rfl, SqL.of upd_same, r.mono sg⟩
      have E2 := E1.setVal (v := .ref (pa i)) (d := .lst xs) i rr
      have es : σ.set i (some (.ref (pa i))) = σ := List.ext_getElem? fun j => by
        by_cases hj : i = j
        · subst hj
          rw [E.len] at hl
          rw [List.getElem?_set_self hl, e1]
        · rw [set_get hj]
      have ed : st (er ds i) i (.val (.lst xs)) = st ds i (.val (.lst xs)) := by
        have z : ∀ (l : DS) (j : Nat) (d : DV), st (er l j) j d = st l j d := by
          intro l
          induction l with
          | nil => intro j d; rfl
          | cons x r ih =>
            intro j d
            cases j with
            | zero => rfl
            | succ j =>
              show x :: st (er r j) j d = x :: st r j d
              rw [ih]
        exact z ds i _
      rw [es, ed] at E2
      refine k _ _ H _ _ hw ⟨E2, sg, fun a o q n => ⟨q, by rw [upd_ne (n i _ e rfl)]⟩, fun j dv q o => ?_, fun _ q => q⟩ rr
      rw [gt_st] at q
      by_cases hj : j = i ∧ i < ds.length
      · rw [if_pos hj] at q
        have q : DV.val (.lst xs) = dv := Option.some.inj q
        subst q
        cases o
      · rw [if_neg hj] at q
        exact ⟨dv, q, o⟩
theorem ew_op {r : R2} {f : B2} (hr : RW2 K r f) (ha : EW K W ta a) (hb : EW K W tb b) : EW K W (tOp r ta tb) (wBin f a b) := fun c pa G H σ ds xk kk Q E hw hx k => by
  refine ha c pa G H σ ds xk _ _ E hw hx fun x G1 H1 d ds1 q S1 r1 => ?_
  refine hb c pa G1 H1 σ ds1 xk _ _ S1.env q hx fun y G2 H2 e ds2 q2 S2 r2 => ?_
  exact hr G2 H2 x y d e _ Q S2.env.ex (r1.mono S2.sg) r2 q2 fun z v hz rz => k v G2 H2 z ds2 hz (S1.trans S2) rz
theorem ew_un {r : V → Hp → VK → Prop} {f : B1} (hr : RW1 K r f) (ha : EW K W ta a) : EW K W (tUn r ta) (wUn f a) := fun c pa G H σ ds xk kk Q E hw hx k => by
  refine ha c pa G H σ ds xk _ _ E hw hx fun x G1 H1 d ds1 q S1 r1 => ?_
  exact hr G1 H1 x d _ Q S1.env.ex r1 q fun z v hz rz => k v G1 H1 z ds1 hz S1 rz
theorem aw_nil : AW K W tNil [] := fun c pa G H σ ds xk kk Q E hw hx k => k [] G H [] ds hw (.refl E) rfl rfl
theorem aw_cons {tr : TA} {r : List WE} (ha : EW K W ta a) (hr : AW K W tr r) : AW K W (tCons ta tr) (a :: r) := fun c pa G H σ ds xk kk Q E hw hx k => by
  refine ha c pa G H σ ds xk _ _ E hw hx fun x G1 H1 d ds1 q S1 r1 => ?_
  refine hr c pa G1 H1 σ ds1 xk _ _ S1.env q hx fun vs G2 H2 l ds2 q2 S2 r2 l2 => ?_
  exact k (x :: vs) G2 H2 (d :: l) ds2 q2 (S1.trans S2) ⟨x, vs, rfl, r1.mono S2.sg, r2⟩ (by rw [List.length_cons, List.length_cons, l2])
theorem ew_tup {t : TA} {as : List WE} (h : AW K W t as) (hl : as.length ≤ 100000 := by decide) : EW K W (tTup t) (wTup as) := fun c pa G H σ ds xk kk Q E hw hx k => by
  refine h c pa G H σ ds xk (fun l ds1 => kk (.tup l) ds1) _ E hw hx fun vs G1 H1 l ds1 q S1 r1 l1 => ?_
  refine ⟨?_, fun p hp => ?_⟩
  · rw [← r1.len, l1]
    exact Nat.le_trans hl (by decide)
  · have S2 := Stp.new S1.env (o := .tup vs) hp
    exact k _ _ _ _ _ q (S1.trans S2) ⟨p, vs, rfl, SqT.of upd_same, r1.mono S2.sg⟩
theorem eo_lst {t : TA} {as : List WE} (h : AW K W t as) (hl : as.length ≤ 100000 := by decide) : EO K W (tLst t) (wLst as) := fun c pa G H σ ds xk kk Q E hw hx k => by
  refine h c pa G H σ ds xk (fun l ds1 => kk l ds1) _ E hw hx fun vs G1 H1 l ds1 q S1 r1 l1 => ?_
  refine ⟨?_, fun p hp => ?_⟩
  · rw [← r1.len, l1]
    exact Nat.le_trans hl (by decide)
  · obtain ⟨S2, t2⟩ := Stp.newOwn S1.env hp r1
    refine k _ _ _ _ _ q (S1.trans S2) t2 ?_
    cases z : H p with
    | none => rfl
    | some o => exact absurd hp (S1.dom p (by rw [z]; exact fun y => nomatch y))
theorem ew_frz {o : WO} (h : EO K W te o) : EW K W te (wFrz o) := fun c pa G H σ ds xk kk Q E hw hx k => by
  refine h c pa G H σ ds xk _ _ E hw hx fun p G1 H1 xs ds1 q S1 t1 n1 => ?_
  obtain ⟨G2, S2, r2⟩ := S1.freeze t1 n1
  exact k _ _ _ _ _ q S2 r2
/-! ### the own list in a slot -/
theorem own_ref {c : C0} {pa : Nat → Addr} {G H : Hp} {σ : L2.St} {ds : DS} (E : Env K c pa G H σ ds) {i : Nat} {xs : List D} (h : listAt ds i = some xs) : σ[i]? = some (some (.ref (pa i))) := by
  obtain ⟨_, _, _, _, q, _⟩ := E.lst h
  exact q
theorem listAt_some {ds : DS} {i : Nat} {P : List D → Prop} (h : match listAt ds i with | some xs => P xs | none => False) : ∃ xs, listAt ds i = some xs ∧ P xs := by
  cases e : listAt ds i with
  | none => rw [e] at h; exact h.elim
  | some xs => rw [e] at h; exact ⟨xs, rfl, h⟩
/-! ### choices -/
theorem ew_if (ht : TW K W t wt) (ha : EW K W ta a) (hb : EW K W tb b) : EW K W (tIf t ta tb) (wIf wt a b) := fun c pa G H σ ds xk kk Q E hw hx k => by
  refine ht c pa G H σ ds xk _ _ E hw hx fun v G1 H1 ds1 q S1 => ?_
  cases v with
  | true =>
    rw [if_pos rfl] at q ⊢
    exact ha c pa G1 H1 σ ds1 xk _ _ S1.env q hx fun x G2 H2 d ds2 q2 S2 r2 => k x G2 H2 d ds2 q2 (S1.trans S2) r2
  | false =>
    rw [if_neg Bool.false_ne_true] at q ⊢
    exact hb c pa G1 H1 σ ds1 xk _ _ S1.env q hx fun x G2 H2 d ds2 q2 S2 r2 => k x G2 H2 d ds2 q2 (S1.trans S2) r2
theorem bl_some {d : D} {P : Bool → Prop} (h : match d with | .bl c => P c | _ => False) : ∃ c, d = .bl c ∧ P c := by
  cases d with
  | bl c => exact ⟨c, rfl, h⟩
  | _ => exact h.elim
theorem ew_and (ha : EW K W ta a) (hb : EW K W tb b) : EW K W (tAndV ta tb) (wAndV a b) := fun c pa G H σ ds xk kk Q E hw hx k => by
  refine ha c pa G H σ ds xk _ _ E hw hx fun x G1 H1 d ds1 q S1 r1 => ?_
  obtain ⟨v, rfl, q'⟩ := bl_some q
  have q : if v = true then b xk ds1 kk else kk (.bl false) ds1 := q'
  have r1 : x = .bl v := r1
  refine ⟨v, r1, ?_⟩
  cases v with
  | true =>
    rw [if_pos rfl] at q ⊢
    exact hb c pa G1 H1 σ ds1 xk _ _ S1.env q hx fun x G2 H2 d ds2 q2 S2 r2 => k x G2 H2 d ds2 q2 (S1.trans S2) r2
  | false =>
    rw [if_neg Bool.false_ne_true] at q ⊢
    exact k _ _ _ _ _ q S1 rfl
theorem ew_or (ha : EW K W ta a) (hb : EW K W tb b) : EW K W (tOrV ta tb) (wOrV a b) := fun c pa G H σ ds xk kk Q E hw hx k => by
  refine ha c pa G H σ ds xk _ _ E hw hx fun x G1 H1 d ds1 q S1 r1 => ?_
  obtain ⟨v, rfl, q'⟩ := bl_some q
  have q : if v = true then kk (.bl true) ds1 else b xk ds1 kk := q'
  have r1 : x = .bl v := r1
  refine ⟨v, r1, ?_⟩
  cases v with
  | true =>
    rw [if_pos rfl] at q ⊢
    exact k _ _ _ _ _ q S1 rfl
  | false =>
    rw [if_neg Bool.false_ne_true] at q ⊢
    exact hb c pa G1 H1 σ ds1 xk _ _ S1.env q hx fun x G2 H2 d ds2 q2 S2 r2 => k x G2 H2 d ds2 q2 (S1.trans S2) r2
theorem ew_not (ha : EW K W ta a) : EW K W (tNotV ta) (wNotV a) := fun c pa G H σ ds xk kk Q E hw hx k => by
  refine ha c pa G H σ ds xk _ _ E hw hx fun x G1 H1 d ds1 q S1 r1 => ?_
  obtain ⟨v, rfl, q⟩ := bl_some q
  have r1 : x = .bl v := r1
  exact ⟨v, r1, k _ _ _ _ _ q S1 rfl⟩
/-! ### tests -/
theorem tw_tst (ha : EW K W ta a) : TW K W (tTest ta) (wTst a) := fun c pa G H σ ds xk kk Q E hw hx k => by
  refine ha c pa G H σ ds xk _ _ E hw hx fun x G1 H1 d ds1 q S1 r1 => ?_
  obtain ⟨v, rfl, q⟩ := bl_some q
  have r1 : x = .bl v := r1
  exact ⟨v, r1, k _ _ _ _ q S1⟩
theorem tw_b (ha : EW K W ta a) : TW K W (tB ta) (wTst a) := tw_tst ha
theorem tw_yes : TW K W tYes wYes := fun c pa G H σ ds xk kk Q E hw hx k => k true G H ds hw (.refl E)
theorem tw_and (ha : TW K W t wt) (hb : TW K W u wu) : TW K W (tAnd t u) (wAnd wt wu) := fun c pa G H σ ds xk kk Q E hw hx k => by
  refine ha c pa G H σ ds xk _ _ E hw hx fun v G1 H1 ds1 q S1 => ?_
  cases v with
  | true =>
    rw [if_pos rfl] at q ⊢
    exact hb c pa G1 H1 σ ds1 xk _ _ S1.env q hx fun x G2 H2 ds2 q2 S2 => k x G2 H2 ds2 q2 (S1.trans S2)
  | false =>
    rw [if_neg Bool.false_ne_true] at q ⊢
    exact k _ _ _ _ q S1
theorem tw_or (ha : TW K W t wt) (hb : TW K W u wu) : TW K W (tOr t u) (wOr wt wu) := fun c pa G H σ ds xk kk Q E hw hx k => by
  refine ha c pa G H σ ds xk _ _ E hw hx fun v G1 H1 ds1 q S1 => ?_
  cases v with
  | true =>
    rw [if_pos rfl] at q ⊢
    exact k _ _ _ _ q S1
  | false =>
    rw [if_neg Bool.false_ne_true] at q ⊢
    exact hb c pa G1 H1 σ ds1 xk _ _ S1.env q hx fun x G2 H2 ds2 q2 S2 => k x G2 H2 ds2 q2 (S1.trans S2)
theorem tw_not (ha : TW K W t wt) : TW K W (tNot t) (wNot wt) := fun c pa G H σ ds xk kk Q E hw hx k => by
  refine ha c pa G H σ ds xk _ _ E hw hx fun v G1 H1 ds1 q S1 => ?_
  exact k _ _ _ _ q S1
/-! ### built-ins of values -/
theorem ew_cb1 {r : List V → Hp → VK → Prop} {f : B1} (hr : RWC1 K r f) (ha : EW K W ta a) : EW K W (tCB r (tCons ta tNil)) (wUn f a) := fun c pa G H σ ds xk kk Q E hw hx k => by
  refine ha c pa G H σ ds xk _ _ E hw hx fun x G1 H1 d ds1 q S1 r1 => ?_
  exact hr G1 H1 x d _ Q S1.env.ex r1 q fun z v hz rz => k v G1 H1 z ds1 hz S1 rz
theorem ew_cb2 {r : List V → Hp → VK → Prop} {f : B2} (hr : RWC2 K r f) (ha : EW K W ta a) (hb : EW K W tb b) : EW K W (tCB r (tCons ta (tCons tb tNil))) (wBin f a b) := fun c pa G H σ ds xk kk Q E hw hx k => by
  refine ha c pa G H σ ds xk _ _ E hw hx fun x G1 H1 d ds1 q S1 r1 => ?_
  refine hb c pa G1 H1 σ ds1 xk _ _ S1.env q hx fun y G2 H2 e ds2 q2 S2 r2 => ?_
  exact hr G2 H2 x y d e _ Q S2.env.ex (r1.mono S2.sg) r2 q2 fun z v hz rz => k v G2 H2 z ds2 hz (S1.trans S2) rz
end
end DW

/-! DwD: own lists, calls, targets, statements, loops, comprehensions. -/
namespace DW
open PySem PySem.Spec PyProof.Rows L2

/-! ### promises over data as promises over the heap -/
def ArgOk (K : PySem.W.Frag) (G H : Hp) (p : Addr) (o : Option V) : DV → Prop
  | .val d => ∃ v, o = some v ∧ Rep K G d v
  | .par xs => o = some (.ref p) ∧ G p = none ∧ ∃ vs, H p = some (.lst vs) ∧ Reps K G xs vs
  | .own _ => False
structure Args (K : PySem.W.Frag) (G H : Hp) (pa : Nat → Addr) (vs : List V) (dvs : List DV) : Prop where
  len : dvs.length = vs.length
  here : ∀ i dv, dvs[i]? = some dv → ArgOk K G H (pa i) vs[i]? dv
  inj : ∀ (i j : Nat) xs ys, dvs[i]? = some (.par xs) → dvs[j]? = some (.par ys) → i ≠ j → pa i ≠ pa j
/-- behind a call: what stood stands, the lent lists have new items -/
structure Back (K : PySem.W.Frag) (G H G' H' : Hp) (pa : Nat → Addr) (dvs dvs' : List DV) : Prop where
  ex : Same G' H'
  gg : Same G G'
  gf : ∀ a, H a ≠ none → G' a = G a
  fr : ∀ a o, H a = some o → (∀ i xs, dvs[i]? = some (.par xs) → a ≠ pa i) → H' a = some o
  dom : ∀ a, H a ≠ none → H' a ≠ none
  pars : ∀ (i : Nat) xs, dvs[i]? = some (.par xs) → ∃ ys, dvs'[i]? = some (.par ys) ∧ ∃ ws, H' (pa i) = some (.lst ws) ∧ Reps K G' ys ws
def Res (K : PySem.W.Frag) (H G' H' : Hp) (v : V) : DV → Prop
  | .val d => Rep K G' d v
  | .own xs => ∃ p, v = .ref p ∧ H p = none ∧ G' p = none ∧ ∃ vs, H' p = some (.lst vs) ∧ Reps K G' xs vs
  | .par _ => False
def spOf (K : PySem.W.Frag) (fs : FS) : Sp := fun vs H Q E => ∃ (G : Hp) (pa : Nat → Addr) (dvs : List DV) (kk : Out → List DV → Prop), Same G H ∧ Args K G H pa vs dvs ∧ fs dvs kk ∧
  (∀ v r dvs' G' H', kk (.ret r) dvs' → Back K G H G' H' pa dvs dvs' → Res K H G' H' v r → Q v H') ∧
  (∀ e cls d dvs' G' H', kk (.exc e) dvs' → Back K G H G' H' pa dvs dvs' → ExcAt K G' H' e cls d → E cls d H')
theorem spOf_len {K : PySem.W.Frag} {fs : FS} {n : Nat} (h : ∀ dvs kk, fs dvs kk → dvs.length = n) : ∀ vs H Q E, spOf K fs vs H Q E → vs.length = n := fun vs H Q E ⟨G, pa, dvs, kk, _, ha, hf, _⟩ => ha.len.symm.trans (h dvs kk hf)

/-- the arguments of a call: data, own lists -/
def ArgV (K : PySem.W.Frag) (G : Hp) (pa : Nat → Addr) : AV → V → Prop
  | .v d, v => Rep K G d v
  | .s i, v => v = .ref (pa i)
def ArgVs (K : PySem.W.Frag) (G : Hp) (pa : Nat → Addr) : List AV → List V → Prop
  | [], vs => vs = []
  | a :: as, vs => ∃ x xs, vs = x :: xs ∧ ArgV K G pa a x ∧ ArgVs K G pa as xs
theorem ArgVs.mono {K : PySem.W.Frag} {G G' : Hp} {pa : Nat → Addr} (s : Same G G') : ∀ {as : List AV} {vs : List V}, ArgVs K G pa as vs → ArgVs K G' pa as vs
  | [], _, h => h
  | a :: as, vs, h => by
    obtain ⟨x, xs, e, h1, h2⟩ := h
    refine ⟨x, xs, e, ?_, ArgVs.mono s h2⟩
    cases a with
    | v d => exact Rep.mono s (show Rep K G d x from h1)
    | s i => exact h1
theorem ArgVs.len {K : PySem.W.Frag} {G : Hp} {pa : Nat → Addr} : ∀ {as : List AV} {vs : List V}, ArgVs K G pa as vs → as.length = vs.length
  | [], vs, h => by
    have h : vs = [] := h
    rw [h]
    rfl
  | a :: as, vs, h => by
    obtain ⟨x, xs, e, h1, h2⟩ := h
    rw [e, List.length_cons, List.length_cons, ArgVs.len h2]
def CAW (K : PySem.W.Frag) (W : WX) (ta : TA) (as : List DA) : Prop := ∀ (c : C0) pa G H σ ds xk (kk : List AV → DS → Prop) (Q : List V → Hp → Prop), Env K c pa G H σ ds → wCArgs as xk ds kk → XOk K c W xk →
  (∀ vs G' H' l ds', kk l ds' → Stp K c pa σ G H ds G' H' ds' → ArgVs K G' pa l vs → Q vs H') → ta σ H Q
section
variable {K : PySem.W.Frag} {W : WX} {ta tb te : TE} {a b : WE} {t u : TT} {wt wu : WT}
theorem isSome_at {ds : DS} {i : Nat} (h : (listAt ds i).isSome = true) : ∃ xs, listAt ds i = some xs := by
  cases e : listAt ds i with
  | none => rw [e] at h; cases h
  | some xs => exact ⟨xs, rfl⟩
theorem ca_nil : CAW K W tNil [] := fun c pa G H σ ds xk kk Q E hw hx k => k [] G H [] ds hw (.refl E) rfl
theorem ca_v {tr : TA} {r : List DA} (ha : EW K W ta a) (hr : CAW K W tr r) : CAW K W (tCons ta tr) (.v a :: r) := fun c pa G H σ ds xk kk Q E hw hx k => by
  refine ha c pa G H σ ds xk _ _ E hw hx fun x G1 H1 d ds1 q S1 r1 => ?_
  refine hr c pa G1 H1 σ ds1 xk _ _ S1.env q hx fun vs G2 H2 l ds2 q2 S2 r2 => ?_
  exact k (x :: vs) G2 H2 (.v d :: l) ds2 q2 (S1.trans S2) ⟨x, vs, rfl, Rep.mono S2.sg r1, r2⟩
theorem ca_s {i : Nat} {tr : TA} {r : List DA} (hr : CAW K W tr r) : CAW K W (tCons (tVar i) tr) (.s i :: r) := fun c pa G H σ ds xk kk Q E hw hx k => by
  obtain ⟨h1, h2⟩ := hw
  obtain ⟨xs, hxs⟩ := isSome_at h1
  refine ⟨.ref (pa i), own_ref E hxs, ?_⟩
  refine hr c pa G H σ ds xk _ _ E h2 hx fun vs G2 H2 l ds2 q2 S2 r2 => ?_
  exact k (.ref (pa i) :: vs) G2 H2 (.s i :: l) ds2 q2 S2 ⟨_, vs, rfl, rfl, r2⟩
/-- where the slots stand among the arguments -/
theorem argDv_at {ds : DS} : ∀ {as : List AV} {dvs : List DV}, argDv ds as = some dvs → dvs.length = as.length ∧ (∀ (j : Nat) d, as[j]? = some (.v d) → dvs[j]? = some (.val d)) ∧
    ∀ (j : Nat) i, as[j]? = some (.s i) → ∃ xs, listAt ds i = some xs ∧ dvs[j]? = some (.par xs)
  | [], dvs, h => by
    have h : ([] : List DV) = dvs := Option.some.inj h
    rw [← h]
    exact ⟨rfl, fun j d q => by simp at q, fun j i q => by simp at q⟩
  | .v d0 :: r, dvs, h => by
    have h : (argDv ds r).map (DV.val d0 :: ·) = some dvs := h
    cases e : argDv ds r with
    | none => rw [e] at h; cases h
    | some q =>
      rw [e] at h
      have h : DV.val d0 :: q = dvs := Option.some.inj h
      obtain ⟨h1, h2, h3⟩ := argDv_at e
      rw [← h]
      refine ⟨by rw [List.length_cons, List.length_cons, h1], fun j d z => ?_, fun j i z => ?_⟩
      · cases j with
        | zero =>
          have z : AV.v d0 = AV.v d := Option.some.inj z
          injection z with z
          rw [z]
          rfl
        | succ j => exact h2 j d z
      · cases j with
        | zero => cases (show AV.v d0 = AV.s i from Option.some.inj z)
        | succ j => exact h3 j i z
  | .s i0 :: r, dvs, h => by
    have h : (match listAt ds i0 with | some xs => (argDv ds r).map (DV.par xs :: ·) | none => none) = some dvs := h
    cases e0 : listAt ds i0 with
    | none => rw [e0] at h; cases h
    | some xs =>
      rw [e0] at h
      have h : (argDv ds r).map (DV.par xs :: ·) = some dvs := h
      cases e : argDv ds r with
      | none => rw [e] at h; cases h
      | some q =>
        rw [e] at h
        have h : DV.par xs :: q = dvs := Option.some.inj h
        obtain ⟨h1, h2, h3⟩ := argDv_at e
        rw [← h]
        refine ⟨by rw [List.length_cons, List.length_cons, h1], fun j d z => ?_, fun j i z => ?_⟩
        · cases j with
          | zero => cases (show AV.s i0 = AV.v d from Option.some.inj z)
          | succ j => exact h2 j d z
        · cases j with
          | zero =>
            have z : AV.s i0 = AV.s i := Option.some.inj z
            injection z with z
            rw [← z]
            exact ⟨xs, e0, rfl⟩
          | succ j => exact h3 j i z
theorem slots_mem : ∀ {as : List AV} {j i : Nat}, as[j]? = some (.s i) → i ∈ slotsOf as
  | [], j, i, h => by simp at h
  | .v d :: r, 0, i, h => by cases (show AV.v d = AV.s i from Option.some.inj h)
  | .v d :: r, j + 1, i, h => slots_mem (as := r) (j := j) h
  | .s i0 :: r, 0, i, h => by
    have z : AV.s i0 = AV.s i := Option.some.inj h
    injection z with z
    rw [z]
    exact List.mem_cons_self
  | .s i0 :: r, j + 1, i, h => List.mem_cons_of_mem _ (slots_mem (as := r) (j := j) h)
theorem slots_inj : ∀ {as : List AV} {j j' i : Nat}, (slotsOf as).Nodup → as[j]? = some (.s i) → as[j']? = some (.s i) → j = j'
  | [], j, j', i, _, h, _ => by simp at h
  | .v d :: r, 0, _, i, _, h, _ => by cases (show AV.v d = AV.s i from Option.some.inj h)
  | .v d :: r, _ + 1, 0, i, _, _, h => by cases (show AV.v d = AV.s i from Option.some.inj h)
  | .v d :: r, j + 1, j' + 1, i, n, h, h' => by rw [slots_inj (as := r) n h h']
  | .s i0 :: r, 0, 0, i, _, _, _ => rfl
  | .s i0 :: r, 0, j' + 1, i, n, h, h' => by
    have z : AV.s i0 = AV.s i := Option.some.inj h
    injection z with z
    have n : (i0 :: slotsOf r).Nodup := n
    exact absurd (z ▸ slots_mem (as := r) (j := j') h') (List.nodup_cons.mp n).1
  | .s i0 :: r, j + 1, 0, i, n, h, h' => by
    have z : AV.s i0 = AV.s i := Option.some.inj h'
    injection z with z
    have n : (i0 :: slotsOf r).Nodup := n
    exact absurd (z ▸ slots_mem (as := r) (j := j) h) (List.nodup_cons.mp n).1
  | .s i0 :: r, j + 1, j' + 1, i, n, h, h' => by
    have n : (i0 :: slotsOf r).Nodup := n
    rw [slots_inj (as := r) (List.nodup_cons.mp n).2 h h']
theorem slots_ix : ∀ {as : List AV} {i : Nat}, i ∈ slotsOf as → ∃ j : Nat, as[j]? = some (AV.s i)
  | [], i, h => by simp [slotsOf] at h
  | .v d :: r, i, h => by
    obtain ⟨j, e⟩ := slots_ix (as := r) h
    exact ⟨j + 1, e⟩
  | .s i0 :: r, i, h => by
    rcases List.mem_cons.mp (show i ∈ i0 :: slotsOf r from h) with e | h
    · exact ⟨0, by rw [e]; rfl⟩
    · obtain ⟨j, e⟩ := slots_ix (as := r) h
      exact ⟨j + 1, e⟩
theorem len_backs : ∀ (as : List AV) (vs : List DV) (ds : DS), (backs ds as vs).length = ds.length
  | [], vs, ds => by cases vs <;> rfl
  | .v d :: r, [], ds => rfl
  | .s i :: r, [], ds => rfl
  | .v d :: r, q :: vs, ds => len_backs r vs ds
  | .s i :: r, .par ys :: vs, ds => by
    show (backs (refill ds i ys) r vs).length = _
    rw [len_backs r vs, len_refill]
  | .s i :: r, .val _ :: vs, ds => len_backs r vs ds
  | .s i :: r, .own _ :: vs, ds => len_backs r vs ds
theorem refill_at {ds : DS} {i j : Nat} {ys : List D} (h : j ≠ i) : gt (refill ds i ys) j = gt ds j := by
  rw [gt_refill]
  cases gt ds j with
  | none => rfl
  | some dv => cases dv <;> simp only [if_neg h]
theorem refill_cong {ds ds' : DS} {i : Nat} {ys : List D} (h : gt ds i = gt ds' i) : gt (refill ds i ys) i = gt (refill ds' i ys) i := by
  rw [gt_refill, gt_refill, h]
/-- what the slots hold behind a call -/
theorem backs_out : ∀ (as : List AV) (vs : List DV) (ds : DS) (i : Nat), i ∉ slotsOf as → gt (backs ds as vs) i = gt ds i
  | [], vs, ds, i, _ => by cases vs <;> rfl
  | .v d :: r, [], ds, i, _ => rfl
  | .s i0 :: r, [], ds, i, _ => rfl
  | .v d :: r, q :: vs, ds, i, h => backs_out r vs ds i h
  | .s i0 :: r, .par ys :: vs, ds, i, h => by
    have h : i ∉ i0 :: slotsOf r := h
    have n : i ≠ i0 := fun e => h (e ▸ List.mem_cons_self)
    have m : i ∉ slotsOf r := fun e => h (List.mem_cons_of_mem _ e)
    show gt (backs (refill ds i0 ys) r vs) i = _
    rw [backs_out r vs _ i m, refill_at n]
  | .s i0 :: r, .val _ :: vs, ds, i, h => backs_out r vs ds i fun e => h (List.mem_cons_of_mem _ e)
  | .s i0 :: r, .own _ :: vs, ds, i, h => backs_out r vs ds i fun e => h (List.mem_cons_of_mem _ e)
theorem backs_in : ∀ (as : List AV) (vs : List DV) (ds : DS) (i j : Nat) (ys : List D), (slotsOf as).Nodup → as[j]? = some (.s i) → vs[j]? = some (.par ys) → gt (backs ds as vs) i = gt (refill ds i ys) i
  | [], vs, ds, i, j, ys, _, h, _ => by simp at h
  | _ :: _, [], ds, i, j, ys, _, _, h => by simp at h
  | .v d :: r, q :: vs, ds, i, 0, ys, _, h, _ => by cases (show AV.v d = AV.s i from Option.some.inj h)
  | .v d :: r, q :: vs, ds, i, j + 1, ys, n, h, h' => backs_in r vs ds i j ys n h h'
  | .s i0 :: r, .par zs :: vs, ds, i, 0, ys, n, h, h' => by
    have z : AV.s i0 = AV.s i := Option.some.inj h
    injection z with z
    subst z
    have z : DV.par zs = DV.par ys := Option.some.inj h'
    injection z with z
    subst z
    have n : (i0 :: slotsOf r).Nodup := n
    show gt (backs (refill ds i0 zs) r vs) i0 = _
    rw [backs_out r vs _ i0 (List.nodup_cons.mp n).1]
  | .s i0 :: r, .par zs :: vs, ds, i, j + 1, ys, n, h, h' => by
    have n : (i0 :: slotsOf r).Nodup := n
    have ne : i ≠ i0 := fun e => (List.nodup_cons.mp n).1 (e ▸ slots_mem (as := r) (j := j) h)
    show gt (backs (refill ds i0 zs) r vs) i = _
    rw [backs_in r vs _ i j ys (List.nodup_cons.mp n).2 h h']
    exact refill_cong (refill_at ne)
  | .s i0 :: r, .val _ :: vs, ds, i, 0, ys, n, h, h' => by cases (Option.some.inj h' : DV.val _ = DV.par ys)
  | .s i0 :: r, .own _ :: vs, ds, i, 0, ys, n, h, h' => by cases (Option.some.inj h' : DV.own _ = DV.par ys)
  | .s i0 :: r, .val _ :: vs, ds, i, j + 1, ys, n, h, h' => by
    have n : (i0 :: slotsOf r).Nodup := n
    exact backs_in r vs ds i j ys (List.nodup_cons.mp n).2 h h'
  | .s i0 :: r, .own _ :: vs, ds, i, j + 1, ys, n, h, h' => by
    have n : (i0 :: slotsOf r).Nodup := n
    exact backs_in r vs ds i j ys (List.nodup_cons.mp n).2 h h'
theorem argDv_par {ds : DS} {as : List AV} {dvs : List DV} {j : Nat} {xs : List D} {more : List D} (h : argDv ds as = some dvs) (e : (dvs ++ more.map DV.val)[j]? = some (.par xs)) : ∃ i, as[j]? = some (AV.s i) ∧ listAt ds i = some xs := by
  obtain ⟨h1, h2, h3⟩ := argDv_at h
  by_cases hj : j < dvs.length
  · rw [List.getElem?_append_left hj] at e
    rw [h1] at hj
    cases ea : as[j]? with
    | none => exact absurd (List.getElem?_eq_none_iff.mp ea) (by omega)
    | some av =>
      cases av with
      | v d =>
        rw [h2 j d ea] at e
        cases (Option.some.inj e : DV.val d = DV.par xs)
      | s i =>
        obtain ⟨ys, e1, e2⟩ := h3 j i ea
        rw [e2] at e
        have z : DV.par ys = DV.par xs := Option.some.inj e
        injection z with z
        exact ⟨i, rfl, by rw [e1, z]⟩
  · rw [List.getElem?_append_right (by omega), List.getElem?_map] at e
    cases q : more[j - dvs.length]? with
    | none => rw [q] at e; cases e
    | some d =>
      rw [q] at e
      cases (Option.some.inj e : DV.val d = DV.par xs)
def padr (pa : Nat → Addr) (as : List AV) (j : Nat) : Addr := match as[j]? with | some (.s i) => pa i | _ => 0
theorem padr_s {pa : Nat → Addr} {as : List AV} {j i : Nat} (h : as[j]? = some (AV.s i)) : padr pa as j = pa i := by
  unfold padr
  rw [h]
theorem Env.called {c : C0} {pa : Nat → Addr} {G H G' H' : Hp} {σ : L2.St} {ds : DS} {as : List AV} {dvs dvs' : List DV} {more : List D} (E : Env K c pa G H σ ds) (ha : argDv ds as = some dvs) (nd : (slotsOf as).Nodup)
    (B : Back K G H G' H' (padr pa as) (dvs ++ more.map DV.val) dvs') : Stp K c pa σ G H ds G' H' (backs ds as dvs') := by
  obtain ⟨a1, a2, a3⟩ := argDv_at ha
  have par_of : ∀ (j : Nat) i, as[j]? = some (AV.s i) → ∃ xs, listAt ds i = some xs ∧ (dvs ++ more.map DV.val)[j]? = some (.par xs) := fun j i e => by
    obtain ⟨xs, e1, e2⟩ := a3 j i e
    exact ⟨xs, e1, by rw [List.getElem?_append_left (List.getElem?_eq_some_iff.mp e2).1]; exact e2⟩
  have back : ∀ i dv, gt (backs ds as dvs') i = some dv → isO dv = true → ∃ d0, gt ds i = some d0 ∧ isO d0 = true := fun i dv h o => by
    by_cases hi : i ∈ slotsOf as
    · obtain ⟨j, ej⟩ := slots_ix hi
      obtain ⟨xs, e1, _⟩ := par_of j i ej
      obtain ⟨d0, g1, g2, _⟩ := E.lst e1
      exact ⟨d0, g1, g2⟩
    · rw [backs_out as dvs' ds i hi] at h
      exact ⟨dv, h, o⟩
  refine ⟨⟨B.ex, fun a o h w => ?_, fun a h => B.dom a (E.dom a h), E.ge.trans B.gg, fun a h => (B.gf a (E.dom a h)).trans (E.gf a h), by rw [len_backs]; exact E.len, fun i dv h => ?_, fun i j dv dv' h h' o o' n => ?_, fun i zs h => ?_⟩, B.gg,
    fun a o h n => ⟨B.fr a o h fun j xs e q => ?_, B.gf a (by rw [h]; exact fun z => nomatch z)⟩, back, B.dom⟩
  · refine B.fr a o (E.fr a o h w) fun j xs e q => ?_
    obtain ⟨i, e1, e2⟩ := argDv_par ha e
    rw [padr_s e1] at q
    obtain ⟨_, _, _, _, _, _, h6, _⟩ := E.lst e2
    rw [q] at h w
    rcases h6 with z | z
    · rw [z] at h; cases h
    · exact w z
  · by_cases hi : i ∈ slotsOf as
    · obtain ⟨j, ej⟩ := slots_ix hi
      obtain ⟨xs, e1, e2⟩ := par_of j i ej
      obtain ⟨ys, y1, ws, y2, y3⟩ := B.pars j xs e2
      rw [padr_s ej] at y2
      rw [backs_in as dvs' ds i j ys nd ej y1, gt_refill] at h
      obtain ⟨d0, g1, g2, g3, g4, g5, g6, _⟩ := E.lst e1
      have gn : G' (pa i) = none := (B.gf _ (E.ownNe g1 g2)).trans g5
      have s0 := E.sl i d0 g1
      rw [g1] at h
      rcases g3 with z | z
      · subst z
        simp only [if_true] at h
        have h := Option.some.inj h
        subst h
        obtain ⟨s1, s2, s3, _⟩ := s0
        exact ⟨s1, gn, s3, ws, y2, y3⟩
      · subst z
        simp only [if_true] at h
        have h := Option.some.inj h
        subst h
        obtain ⟨s1, s2, s3, _⟩ := s0
        exact ⟨s1, gn, s3, ws, y2, y3⟩
    · rw [backs_out as dvs' ds i hi] at h
      have s := E.sl i dv h
      have away : isO dv = true → ∀ o, H (pa i) = some o → H' (pa i) = some o := fun o w hw => B.fr _ w hw fun j xs e q => by
        obtain ⟨i', e1, e2⟩ := argDv_par ha e
        rw [padr_s e1] at q
        obtain ⟨d0, g1, g2, _⟩ := E.lst e2
        exact E.inj i i' dv d0 h g1 o g2 (fun z => hi (z ▸ slots_mem e1)) q
      cases dv with
      | val d =>
        obtain ⟨v, e1, r⟩ := s
        exact ⟨v, e1, r.mono B.gg⟩
      | own xs =>
        obtain ⟨s1, s2, s3, vs, s4, s5⟩ := s
        exact ⟨s1, (B.gf _ (by rw [s4]; exact fun z => nomatch z)).trans s2, s3, vs, away rfl _ s4, s5.mono B.gg⟩
      | par xs =>
        obtain ⟨s1, s2, s3, vs, s4, s5⟩ := s
        exact ⟨s1, (B.gf _ (by rw [s4]; exact fun z => nomatch z)).trans s2, s3, vs, away rfl _ s4, s5.mono B.gg⟩
  · obtain ⟨d1, e1, o1⟩ := back i dv h o
    obtain ⟨d2, e2, o2⟩ := back j dv' h' o'
    exact E.inj i j d1 d2 e1 e2 o1 o2 n
  · by_cases hi : i ∈ slotsOf as
    · obtain ⟨j, ej⟩ := slots_ix hi
      obtain ⟨xs, e1, e2⟩ := par_of j i ej
      obtain ⟨ys, y1, _⟩ := B.pars j xs e2
      rw [backs_in as dvs' ds i j ys nd ej y1, gt_refill] at h
      obtain ⟨d0, g1, g2, g3, _⟩ := E.lst e1
      rw [g1] at h
      rcases g3 with z | z
      · subst z
        simp only [if_true] at h
        cases h
      · subst z
        exact E.ps i xs g1
    · rw [backs_out as dvs' ds i hi] at h
      exact E.ps i zs h
  · obtain ⟨i, e1, e2⟩ := argDv_par ha e
    rw [padr_s e1] at q
    obtain ⟨d0, g1, g2, _⟩ := E.lst e2
    exact n i d0 g1 g2 q
theorem ArgVs.get {G : Hp} {pa : Nat → Addr} : ∀ {as : List AV} {vs : List V} {j : Nat} {a : AV}, ArgVs K G pa as vs → as[j]? = some a → ∃ v, vs[j]? = some v ∧ ArgV K G pa a v
  | [], _, j, a, _, e => by simp at e
  | a0 :: r, vs, 0, a, h, e => by
    obtain ⟨x, xs, e1, h1, h2⟩ := h
    have e : a0 = a := Option.some.inj e
    rw [e1, ← e]
    exact ⟨x, rfl, h1⟩
  | a0 :: r, vs, j + 1, a, h, e => by
    obtain ⟨x, xs, e1, h1, h2⟩ := h
    rw [e1]
    exact ArgVs.get (j := j) h2 e
/-- the call's promise from the slots' word -/
theorem Env.args {c : C0} {pa : Nat → Addr} {G H : Hp} {σ : L2.St} {ds : DS} {as : List AV} {dvs : List DV} {more : List D} {vs mv : List V} (E : Env K c pa G H σ ds) (ha : argDv ds as = some dvs) (nd : (slotsOf as).Nodup)
    (hv : ArgVs K G pa as vs) (hm : Reps K G more mv) : Args K G H (padr pa as) (vs ++ mv) (dvs ++ more.map DV.val) := by
  obtain ⟨a1, a2, a3⟩ := argDv_at ha
  have lv := hv.len
  refine ⟨?_, fun j dv e => ?_, fun j j' xs ys e e' n => ?_⟩
  · rw [List.length_append, List.length_append, List.length_map, a1, lv, hm.len]
  · by_cases hj : j < dvs.length
    · rw [List.getElem?_append_left hj] at e
      have hj2 : j < as.length := by omega
      rw [List.getElem?_append_left (by omega)]
      have ea : as[j]? = some as[j] := List.getElem?_eq_getElem hj2
      obtain ⟨v, e1, r⟩ := hv.get ea
      cases q : as[j] with
      | v d =>
        rw [q] at ea r
        rw [a2 j d ea] at e
        have e : DV.val d = dv := Option.some.inj e
        rw [← e]
        exact ⟨v, e1, r⟩
      | s i =>
        rw [q] at ea r
        obtain ⟨xs, e2, e3⟩ := a3 j i ea
        rw [e3] at e
        have e : DV.par xs = dv := Option.some.inj e
        rw [← e]
        obtain ⟨_, _, _, _, _, g5, _, g7⟩ := E.lst e2
        have r : v = .ref (pa i) := r
        rw [padr_s ea]
        exact ⟨by rw [e1, r], g5, g7⟩
    · rw [List.getElem?_append_right (by omega), List.getElem?_map] at e
      rw [List.getElem?_append_right (by omega)]
      have es : j - dvs.length = j - vs.length := by omega
      cases q : more[j - dvs.length]? with
      | none => rw [q] at e; cases e
      | some d =>
        rw [q] at e
        have e : DV.val d = dv := Option.some.inj e
        rw [← e]
        obtain ⟨v, e1, r⟩ := hm.get q
        rw [es] at e1
        exact ⟨v, e1, r⟩
  · obtain ⟨i, e1, e2⟩ := argDv_par ha e
    obtain ⟨i', e1', e2'⟩ := argDv_par ha e'
    rw [padr_s e1, padr_s e1']
    obtain ⟨d0, g1, g2, _⟩ := E.lst e2
    obtain ⟨d0', g1', g2', _⟩ := E.lst e2'
    exact E.inj i i' d0 d0' g1 g1' g2 g2' fun z => n (slots_inj nd e1 (z ▸ e1'))
/-- a call, whatever it hands back -/
theorem call_core {fs : FS} {as : List DA} {more : List D} {mv : List V} {ta : TA} (h : CAW K W ta as) (hm : ∀ G, Reps K G more mv) {c : C0} {pa : Nat → Addr} {G H : Hp} {σ : L2.St} {ds : DS} {xk : XKd} {kk : DV → DS → Prop} {Q : VK}
    (E : Env K c pa G H σ ds) (hw : wCallB fs as more xk ds kk) (hx : XOk K c W xk)
    (k : ∀ v G' H' r ds' (H0 : Hp), kk r ds' → Stp K c pa σ G H ds G' H' ds' → Res K H0 G' H' v r → (∀ a, H a ≠ none → H0 a ≠ none) → (∀ a, c.H0 a ≠ none → H0 a ≠ none) → (∀ i dv, gt ds' i = some dv → isO dv = true → H0 (pa i) ≠ none) → Q v H') :
    tCallSD (spOf K fs) mv (L2.WE W) ta σ H Q := by
  refine h c pa G H σ ds xk _ _ E hw hx fun vs G1 H1 avs ds1 q S1 r1 => ?_
  have E1 := S1.env
  cases ea : argDv ds1 avs with
  | none => rw [ea] at q; exact q.elim
  | some dvs =>
    rw [ea] at q
    obtain ⟨nd, q⟩ := q
    refine ⟨G1, padr pa avs, dvs ++ more.map DV.val, _, E1.ex, E1.args ea nd r1 (hm G1), q, fun v r dvs' G' H' hk B R => ?_, fun e cls d dvs' G' H' hk B X => ?_⟩
    · refine k v G' H' r _ H1 hk (S1.trans (E1.called ea nd B)) R S1.dom E1.dom fun i dv hi o => ?_
      by_cases hm : i ∈ slotsOf avs
      · obtain ⟨j, ej⟩ := slots_ix hm
        obtain ⟨xs, e1, _⟩ := (argDv_at ea).2.2 j i ej
        obtain ⟨d0, g1, g2, _⟩ := E1.lst e1
        exact E1.ownNe g1 g2
      · rw [backs_out avs dvs' ds1 i hm] at hi
        exact E1.ownNe hi o
    · exact hx e _ hk pa G' H' σ cls d (E1.called ea nd B).env X
theorem dv_val {r : DV} {P : D → Prop} {P2 : List D → Prop} (h : match r with | .val d => P d | .own xs => P2 xs | .par _ => False) : (∃ d, r = .val d ∧ P d) ∨ ∃ xs, r = .own xs ∧ P2 xs := by
  cases r with
  | val d => exact .inl ⟨d, rfl, h⟩
  | own xs => exact .inr ⟨xs, rfl, h⟩
  | par _ => exact h.elim
theorem ew_call {fs : FS} {as : List DA} {more : List D} {mv : List V} {ta : TA} (h : CAW K W ta as) (hm : ∀ G, Reps K G more mv) : EW K W (tCallSD (spOf K fs) mv (L2.WE W) ta) (wCall fs as more) := fun c pa G H σ ds xk kk Q E hw hx k => by
  refine call_core h hm E hw hx fun v G' H' r ds' H0 q S R ha hd hn => ?_
  cases r with
  | val d => exact k v G' H' d ds' q S R
  | own xs =>
    obtain ⟨p, rfl, p0, p1, hp⟩ := R
    have t : Tmp K c pa G' H' ds' p xs := ⟨p1, by
      cases z : c.H0 p with
      | none => rfl
      | some o => exact absurd p0 (hd p (by rw [z]; exact fun z => nomatch z)), hp, fun i dv hi o z => hn i dv hi o (z ▸ p0)⟩
    obtain ⟨G2, S2, r2⟩ := S.freeze t (by
      cases z : H p with
      | none => rfl
      | some o => exact absurd p0 (ha p (by rw [z]; exact fun z => nomatch z)))
    exact k _ G2 H' _ ds' q S2 r2
  | par _ => exact q.elim
theorem eo_call {fs : FS} {as : List DA} {more : List D} {mv : List V} {ta : TA} (h : CAW K W ta as) (hm : ∀ G, Reps K G more mv) : EO K W (tCallSD (spOf K fs) mv (L2.WE W) ta) (wCallO fs as more) := fun c pa G H σ ds xk kk Q E hw hx k => by
  refine call_core h hm E hw hx fun v G' H' r ds' H0 q S R ha hd hn => ?_
  cases r with
  | val d => exact (show False from q).elim
  | own xs =>
    obtain ⟨p, rfl, p0, p1, hp⟩ := R
    have t : Tmp K c pa G' H' ds' p xs := ⟨p1, by
      cases z : c.H0 p with
      | none => rfl
      | some o => exact absurd p0 (hd p (by rw [z]; exact fun z => nomatch z)), hp, fun i dv hi o z => hn i dv hi o (z ▸ p0)⟩
    refine k p G' H' xs ds' q S t ?_
    cases z : H p with
    | none => rfl
    | some o => exact absurd p0 (ha p (by rw [z]; exact fun z => nomatch z))
  | par _ => exact (show False from q).elim
end
end DW

/-! DwE: targets, statements, loops, comprehensions. -/
namespace DW
open PySem PySem.Spec PyProof.Rows L2

/-! ### walking a list or a tuple, whichever it is -/
def iSeq (K : PySem.W.Frag) (tl : TE) : TI := fun σ H R => tl σ H fun x H1 => ∃ a, x = .ref a ∧ ((∃ xs, SqL K H1 a xs) ∧ R (Itl K a) H1 ∨ (∃ xs, SqT K H1 a xs) ∧ R (Itt K a) H1)
theorem pi_seq {X : Cx} {tg l : Expr} {tl : TE} (hl : PE X l tl) : PI X tg l (iSeq X.K tl) := ⟨fun pins s σ H R I hw => thn (hl.run pins s σ H _ I hw) fun v s1 hv => by
  obtain ⟨x, H1, I1, rx, a, ex, hq⟩ := hv
  rw [ex] at rx
  have ev : v = Value.ref a := rx
  rw [ev]
  have inew : ∀ (t' : Nat) (ob : Obj), Inv X pins σ H1 { s1 with heap := s1.heap.push ob, toks := t' } := fun t' ob => I1.kept (fun b u z => Heap.get?_push_of_some _ z)
  have own1 : ∀ b ∈ [s1.heap.objs.size], FpOk X pins H1 b := fun b hb => by
    rw [List.mem_singleton.mp hb]
    exact I1.fpOk (Nat.le_refl _) (I1.hok.fresh (Nat.le_refl _))
  rcases hq with ⟨⟨ys, hy⟩, hR⟩ | ⟨⟨ys, hy⟩, hR⟩
  · obtain ⟨its, _, pl, _⟩ := I1.list hy
    exact wpAny_pyIter_list pl.isList ⟨_, _, _, _, H1, rfl, inew _ _, turn_list a _, ⟨_, Heap.get?_push_size _ rfl, rfl, rfl⟩, own1, hR⟩
  · obtain ⟨its, _, pl, _⟩ := I1.tuple hy
    exact wpAny_pyIter_tuple (show s1.heap.IsTuple a its.toArray from pl) ⟨_, _, _, _, H1, rfl, inew _ _, turn_tuple a _, ⟨_, Heap.get?_push_size _ rfl, rfl, rfl⟩, own1, hR⟩⟩

/-! ### wiped slots -/
theorem wipe_at : ∀ (vs : List Nat) (σ : L2.St) (j : Nat), (wipe σ vs)[j]? = if j ∈ vs then σ[j]?.map (fun _ => none) else σ[j]?
  | [], σ, j => by
    rw [if_neg (by simp)]
    rfl
  | v :: vs, σ, j => by
    show ((wipe σ vs).set v none)[j]? = _
    by_cases hj : v = j
    · subst hj
      rw [if_pos List.mem_cons_self]
      cases e : σ[v]? with
      | none =>
        have hl : (wipe σ vs).length ≤ v := by rw [wipe_length]; exact List.getElem?_eq_none_iff.mp e
        rw [List.getElem?_eq_none_iff.mpr (by rw [List.length_set]; exact hl)]
        rfl
      | some o =>
        have hl : v < (wipe σ vs).length := by rw [wipe_length]; exact (List.getElem?_eq_some_iff.mp e).1
        rw [List.getElem?_set_self hl]
        rfl
    · rw [set_get hj, wipe_at vs σ j]
      by_cases hm : j ∈ vs
      · rw [if_pos hm, if_pos (List.mem_cons_of_mem _ hm)]
      · rw [if_neg hm, if_neg (fun z => (List.mem_cons.mp z).elim (fun e => hj e.symm) hm)]
theorem wipe_set {σ : L2.St} {vs : List Nat} {i : Nat} {o : Option V} (h : i ∈ vs) : wipe (σ.set i o) vs = wipe σ vs := List.ext_getElem? fun j => by
  rw [wipe_at, wipe_at]
  by_cases hj : j ∈ vs
  · rw [if_pos hj, if_pos hj]
    by_cases e : i = j
    · subst e
      cases q : σ[i]? with
      | none => rw [List.getElem?_eq_none_iff.mpr (by rw [List.length_set]; exact List.getElem?_eq_none_iff.mp q)]
      | some u => rw [List.getElem?_set_self (List.getElem?_eq_some_iff.mp q).1]; rfl
    · rw [set_get e]
  · have n : i ≠ j := fun e => by
      rw [e] at h
      exact hj h
    rw [if_neg hj, if_neg hj, set_get n]
theorem wipe_wipe {σ : L2.St} {vs : List Nat} : wipe (wipe σ vs) vs = wipe σ vs := List.ext_getElem? fun j => by
  rw [wipe_at, wipe_at]
  by_cases hj : j ∈ vs
  · rw [if_pos hj, if_pos hj, Option.map_map]
    rfl
  · rw [if_neg hj, if_neg hj]

/-! ### targets -/
mutual
def tgn : Tg → List Nat
  | .nm i => [i]
  | .tp ts => tgns ts
def tgns : List Tg → List Nat
  | [] => []
  | t :: ts => tgn t ++ tgns ts
end
def GW (K : PySem.W.Frag) (g : TG) (tg : Tg) : Prop := ∀ (c : C0) pa G H σ ds v d (kk : DS → Prop) (Q : L2.St → Hp → Prop), Env K c pa G H σ ds → Rep K G d v → tga tg d ds kk →
  (∀ σ' ds', kk ds' → Env K c pa G H σ' ds' → (∀ vs, (∀ i ∈ tgn tg, i ∈ vs) → wipe σ' vs = wipe σ vs) → (∀ i dv, gt ds' i = some dv → isO dv = true → gt ds i = some dv) → Q σ' H) → g v σ H Q
def GWs (K : PySem.W.Frag) (g : TGs) (ts : List Tg) : Prop := ∀ (c : C0) pa G H σ ds vs l (kk : DS → Prop) (Q : L2.St → Hp → Prop), Env K c pa G H σ ds → Reps K G l vs → tgas ts l ds kk →
  (∀ σ' ds', kk ds' → Env K c pa G H σ' ds' → (∀ vs, (∀ i ∈ tgns ts, i ∈ vs) → wipe σ' vs = wipe σ vs) → (∀ i dv, gt ds' i = some dv → isO dv = true → gt ds i = some dv) → Q σ' H) → g vs σ H Q
section
variable {K : PySem.W.Frag} {W : WX} {ta tb te : TE} {a b : WE} {t u : TT} {wt wu : WT} {o : WO} {g : TG} {tg : Tg}
theorem gw_nm {i : Nat} : GW K (gName i) (.nm i) := fun c pa G H σ ds v d kk Q E r h k =>
  k _ _ h (E.setVal i r) (fun vs hv => wipe_set (hv i (List.mem_singleton.mpr rfl))) fun j dv q o => by
    rw [gt_st] at q
    by_cases hj : j = i ∧ i < ds.length
    · rw [if_pos hj] at q
      have q : DV.val d = dv := Option.some.inj q
      subst q
      cases o
    · rw [if_neg hj] at q
      exact q
theorem gws_nil : GWs K gNil [] := fun c pa G H σ ds vs l kk Q E r h k => by
  cases l with
  | nil => exact ⟨r, k σ ds h E (fun _ _ => rfl) fun _ _ q _ => q⟩
  | cons d l => exact (show False from h).elim
theorem gws_cons {gs : TGs} {ts : List Tg} (h1 : GW K g tg) (h2 : GWs K gs ts) : GWs K (gCons g gs) (tg :: ts) := fun c pa G H σ ds vs l kk Q E r h k => by
  cases l with
  | nil => exact (show False from h).elim
  | cons d l =>
    obtain ⟨x, xs, e, r1, r2⟩ := r
    refine ⟨x, xs, e, h1 c pa G H σ ds x d _ _ E r1 h fun σ1 ds1 q E1 w1 n1 => h2 c pa G H σ1 ds1 xs l _ _ E1 r2 q fun σ2 ds2 q2 E2 w2 n2 => k σ2 ds2 q2 E2 (fun vs hv => ?_) fun i dv q o => n1 i dv (n2 i dv q o) o⟩
    rw [w2 vs fun i hi => hv i (List.mem_append_right _ hi), w1 vs fun i hi => hv i (List.mem_append_left _ hi)]
theorem tgas_len : ∀ {ts : List Tg} {l : List D} {ds : DS} {kk : DS → Prop}, tgas ts l ds kk → (∀ {t : Tg} {d : D} {ds : DS} {kk : DS → Prop}, tga t d ds kk → ∃ ds', kk ds') → l.length = ts.length
  | [], [], _, _, _, _ => rfl
  | [], _ :: _, _, _, h, _ => (show False from h).elim
  | _ :: _, [], _, _, h, _ => (show False from h).elim
  | t :: ts, d :: l, ds, kk, h, hh => by
    obtain ⟨ds1, q⟩ := hh (show tga t d ds (fun ds1 => tgas ts l ds1 kk) from h)
    rw [List.length_cons, List.length_cons, tgas_len q hh]
mutual
theorem tga_ex : ∀ {t : Tg} {d : D} {ds : DS} {kk : DS → Prop}, tga t d ds kk → ∃ ds', kk ds'
  | .nm i, d, ds, kk, h => ⟨_, h⟩
  | .tp ts, .tup xs, ds, kk, h => tgas_ex (ts := ts) h
  | .tp _, .non, _, _, h => h.elim
  | .tp _, .bl _, _, _, h => h.elim
  | .tp _, .int _, _, _, h => h.elim
  | .tp _, .str _, _, _, h => h.elim
  | .tp _, .lst _, _, _, h => h.elim
theorem tgas_ex : ∀ {ts : List Tg} {l : List D} {ds : DS} {kk : DS → Prop}, tgas ts l ds kk → ∃ ds', kk ds'
  | [], [], ds, kk, h => ⟨_, h⟩
  | [], _ :: _, _, _, h => (show False from h).elim
  | _ :: _, [], _, _, h => (show False from h).elim
  | t :: ts, d :: l, ds, kk, h => by
    obtain ⟨ds1, q⟩ := tga_ex (t := t) (show tga t d ds (fun ds1 => tgas ts l ds1 kk) from h)
    exact tgas_ex (ts := ts) q
end
theorem gw_tp {gs : TGs} {ts : List Tg} {n : Nat} (h : GWs K gs ts) (hn : ts.length = n := by rfl) : GW K (gTup K n gs) (.tp ts) := fun c pa G H σ ds v d kk Q E r hw k => by
  cases d with
  | tup xs =>
    obtain ⟨a, ys, e, h1, h2⟩ := r
    have hw : tgas ts xs ds kk := hw
    exact ⟨a, ys, e, Same.t E.ex h1, by rw [← h2.len, tgas_len hw tga_ex, hn], h c pa G H σ ds ys xs kk Q E h2 hw k⟩
  | _ => exact (show False from hw).elim

/-! ### statements -/
def ResS (K : PySem.W.Frag) (c : C0) (pa : Nat → Addr) (G H : Hp) (ds : DS) (v : V) : DV → Prop
  | .val d => Rep K G d v
  | .own xs => ∃ p, v = .ref p ∧ Tmp K c pa G H ds p xs
  | .par _ => False
structure EndsOk (K : PySem.W.Frag) (c : C0) (P : Post) (D : Ends) : Prop where
  nx : ∀ pa G H σ ds, P.nx ds → Env K c pa G H σ ds → D.nx σ H
  rt : ∀ pa G H σ ds v r, P.rt r ds → Env K c pa G H σ ds → ResS K c pa G H ds v r → D.rt v H
  bk : ∀ pa G H σ ds, P.bk ds → Env K c pa G H σ ds → D.bk σ H
  ct : ∀ pa G H σ ds, P.ct ds → Env K c pa G H σ ds → D.ct σ H
def SW (K : PySem.W.Frag) (W : WX) (ts : TS) (w : WS) : Prop := ∀ (c : C0) pa G H σ ds P D, Env K c pa G H σ ds → w ds P → XOk K c W P.x → EndsOk K c P D → ts D σ H
theorem sw_next : SW K W tNext wNext := fun c pa G H σ ds P D E hw hx he => he.nx pa G H σ ds hw E
theorem sw_seq {t1 t2 : TS} {w1 w2 : WS} (h1 : SW K W t1 w1) (h2 : SW K W t2 w2) : SW K W (tSeq t1 t2) (wSeq w1 w2) := fun c pa G H σ ds P D E hw hx he =>
  h1 c pa G H σ ds _ _ E hw hx ⟨fun pa G H σ ds q E => h2 c pa G H σ ds P D E q hx he, he.rt, he.bk, he.ct⟩
theorem sw_asg (h1 : EW K W te a) (h2 : GW K g tg) : SW K W (tAsg te g) (wAsg a tg) := fun c pa G H σ ds P D E hw hx he =>
  h1 c pa G H σ ds _ _ _ E hw hx fun v G1 H1 d ds1 q S1 r1 => h2 c pa G1 H1 σ ds1 v d _ _ S1.env r1 q fun σ2 ds2 q2 E2 _ _ => he.nx pa G1 H1 σ2 ds2 q2 E2
theorem sw_asgO {i : Nat} (h1 : EO K W te o) : SW K W (tAsg te (gName i)) (wAsgO o i) := fun c pa G H σ ds P D E hw hx he =>
  h1 c pa G H σ ds _ _ _ E hw hx fun p G1 H1 xs ds1 q S1 t1 n1 => he.nx _ G1 H1 _ _ q (S1.env.setOwn i t1)
theorem sw_par {i j : Nat} (h1 : EW K W ta a) (h2 : EW K W tb b) : SW K W (tPar i j (tCons ta (tCons tb tNil))) (wPar i j a b) := fun c pa G H σ ds P D E hw hx he =>
  h1 c pa G H σ ds _ _ _ E hw hx fun v G1 H1 d ds1 q S1 r1 => h2 c pa G1 H1 σ ds1 _ _ _ S1.env q hx fun w G2 H2 e ds2 q2 S2 r2 =>
    ⟨v, w, rfl, he.nx pa G2 H2 _ _ q2 ((S2.env.setVal i (r1.mono S2.sg)).setVal j r2)⟩
theorem sw_ret (h1 : EW K W te a) : SW K W (tRet te) (wRet a) := fun c pa G H σ ds P D E hw hx he =>
  h1 c pa G H σ ds _ _ _ E hw hx fun v G1 H1 d ds1 q S1 r1 => he.rt pa G1 H1 σ ds1 v _ q S1.env r1
theorem sw_retN : SW K W tRetN wRetN := fun c pa G H σ ds P D E hw hx he => he.rt pa G H σ ds .non _ hw E rfl
theorem sw_retO (h1 : EO K W te o) : SW K W (tRet te) (wRetO o) := fun c pa G H σ ds P D E hw hx he =>
  h1 c pa G H σ ds _ _ _ E hw hx fun p G1 H1 xs ds1 q S1 t1 n1 => he.rt pa G1 H1 σ ds1 _ _ q S1.env ⟨p, rfl, t1⟩
theorem sw_retS {i : Nat} : SW K W (tRet (tVar i)) (wRetS i) := fun c pa G H σ ds P D E hw hx he => by
  have hw : (match gt ds i with | some (.own xs) => P.rt (.own xs) (er ds i) | _ => False) := hw
  cases e : gt ds i with
  | none => rw [e] at hw; exact hw.elim
  | some dv =>
    rw [e] at hw
    cases dv with
    | own xs =>
      obtain ⟨e1, g, h0, hv⟩ := E.sl i _ e
      refine ⟨_, e1, he.rt pa G H σ _ _ _ hw (E.drop i) ⟨_, rfl, g, h0, hv, fun j dv q oo => ?_⟩⟩
      rw [gt_er] at q
      by_cases hj : j = i
      · rw [if_pos hj] at q
        cases q
      · rw [if_neg hj] at q
        exact E.inj j i dv _ q e oo rfl hj
    | _ => exact hw.elim
theorem sw_if {t1 t2 : TS} {w1 w2 : WS} (h : TW K W t wt) (h1 : SW K W t1 w1) (h2 : SW K W t2 w2) : SW K W (tIfS t t1 t2) (wIfS wt w1 w2) := fun c pa G H σ ds P D E hw hx he =>
  h c pa G H σ ds _ _ _ E hw hx fun v G1 H1 ds1 q S1 => by
    cases v with
    | true =>
      rw [if_pos rfl] at q ⊢
      exact h1 c pa G1 H1 σ ds1 P D S1.env q hx he
    | false =>
      rw [if_neg Bool.false_ne_true] at q ⊢
      exact h2 c pa G1 H1 σ ds1 P D S1.env q hx he
theorem sw_drop (h1 : EW K W te a) : SW K W (tDrop te) (wDrop a) := fun c pa G H σ ds P D E hw hx he =>
  h1 c pa G H σ ds _ _ _ E hw hx fun v G1 H1 d ds1 q S1 r1 => he.nx pa G1 H1 σ ds1 q S1.env
theorem sw_brk : SW K W tBreak wBrk := fun c pa G H σ ds P D E hw hx he => he.bk pa G H σ ds hw E
theorem sw_cont : SW K W tCont wCont := fun c pa G H σ ds P D E hw hx he => he.ct pa G H σ ds hw E
theorem sw_never {ts : TS} : SW K W ts wNever := fun c pa G H σ ds P D E hw hx he => hw.elim
theorem int_list {n : D} {m : Option (List D)} {P : Int → List D → Prop} (h : match n, m with | .int n, some xs => P n xs | _, _ => False) : ∃ i xs, n = .int i ∧ m = some xs ∧ P i xs := by
  cases n with
  | int i =>
    cases m with
    | none => exact h.elim
    | some xs => exact ⟨i, xs, rfl, rfl, h⟩
  | _ => exact h.elim
/-- xs[e] = v, the list in slot i -/
theorem sw_set {i : Nat} (h1 : EW K W ta a) (h2 : EW K W tb b) : SW K W (tAsg ta (gSub (tVar i) tb rSetL)) (wSet i b a) := fun c pa G H σ ds P D E hw hx he =>
  h1 c pa G H σ ds _ _ _ E hw hx fun v G1 H1 d ds1 q S1 r1 => by
    obtain ⟨q0, q⟩ := q
    obtain ⟨zs, hz⟩ := isSome_at q0
    refine ⟨_, own_ref S1.env hz, h2 c pa G1 H1 σ ds1 _ _ _ S1.env q hx fun y G2 H2 n ds2 q2 S2 r2 => ?_⟩
    obtain ⟨j, xs, rfl, hxs, ⟨j0, j1⟩, q2⟩ := int_list q2
    obtain ⟨_, _, _, _, _, _, _, vs, hh, rr⟩ := S2.env.lst hxs
    have r2 : y = .int j := r2
    refine ⟨pa i, vs, j, j.toNat, rfl, r2, hh, ?_, he.nx pa G2 _ σ _ q2 (S2.env.write hxs (rr.set j.toNat (r1.mono S2.sg)))⟩
    unfold ixN
    rw [if_pos j0, if_pos (by rw [← rr.len]; exact j1)]
/-- xs.append(v), the list in slot i -/
theorem sw_app {i : Nat} (h1 : EW K W ta a) : SW K W (tDrop (tBM K "list" rAppend (tVar i) (tCons ta tNil))) (wApp i a) := fun c pa G H σ ds P D E hw hx he => by
  obtain ⟨q0, hw⟩ := hw
  obtain ⟨zs, hz⟩ := isSome_at q0
  obtain ⟨_, _, _, _, _, _, _, vs0, hh0, _⟩ := E.lst hz
  refine ⟨_, own_ref E hz, .inl ⟨rfl, vs0, SqL.of hh0⟩, h1 c pa G H σ ds _ _ _ E hw hx fun v G1 H1 d ds1 q S1 r1 => ?_⟩
  obtain ⟨xs, hxs, hl, q⟩ := listAt_some q
  obtain ⟨_, _, _, _, _, _, _, vs, hh, rr⟩ := S1.env.lst hxs
  refine ⟨pa i, vs, v, rfl, rfl, hh, ?_, he.nx pa G1 _ σ _ q (S1.env.write hxs (rr.app r1))⟩
  rw [← rr.len]
  exact Nat.lt_of_lt_of_le hl (by decide)
theorem ew_ixO {i : Nat} (h : EW K W tb b) : EW K W (tOp (fun x y H Q => rIxL K x y H Q ∨ rIxT K x y H Q ∨ rIxS x y H Q) (tVar i) tb) (wIxO i b) := fun c pa G H σ ds xk kk Q E hw hx k => by
  obtain ⟨q0, hw⟩ := hw
  obtain ⟨zs, hz⟩ := isSome_at q0
  refine ⟨_, own_ref E hz, h c pa G H σ ds _ _ _ E hw hx fun y G1 H1 n ds1 q S1 r1 => ?_⟩
  obtain ⟨j, xs, rfl, hxs, q⟩ := int_list q
  obtain ⟨_, _, _, _, _, _, _, vs, hh, rr⟩ := S1.env.lst hxs
  have r1 : y = .int j := r1
  cases e : itemAt xs j with
  | none => rw [e] at q; exact q.elim
  | some z =>
    rw [e] at q
    obtain ⟨v, e1, rv⟩ := rr.item e
    exact .inl ⟨pa i, vs, j, v, rfl, r1, SqL.of hh, e1, k v G1 H1 z ds1 q S1 rv⟩
/-- len of the list in slot i -/
theorem ew_lenO {i : Nat} : EW K W (tCB (fun xs H Q => ∃ x n, xs = [x] ∧ LenV K x H n ∧ Q (.int n) H) (tCons (tVar i) tNil)) (wLenO i) := fun c pa G H σ ds xk kk Q E hw hx k => by
  obtain ⟨xs, hxs, q⟩ := listAt_some (P := fun xs => kk (.int xs.length) ds) hw
  obtain ⟨_, _, _, _, _, _, _, vs, hh, rr⟩ := E.lst hxs
  refine ⟨_, own_ref E hxs, _, vs.length, rfl, .inl ⟨vs, SqL.of hh, rfl⟩, k _ G H _ ds q (.refl E) ?_⟩
  show V.int vs.length = V.int xs.length
  rw [rr.len]
/-- x op= e -/
theorem sw_aug {i : Nat} {ti : TIp} {f : B2} (hf : RW2 K ti f) (h : EW K W te a) : SW K W (tAug i te ti) (wAug i f a) := fun c pa G H σ ds P D E hw hx he => by
  have hw : (match gt ds i with
    | some (.val u) => a P.x ds fun v ds1 => f u v fun z => P.nx (st ds1 i (.val z))
    | _ => False) := hw
  cases e : gt ds i with
  | none => rw [e] at hw; exact hw.elim
  | some dv =>
    rw [e] at hw
    cases dv with
    | val u =>
      obtain ⟨x, e1, r0⟩ := E.val e
      refine ⟨x, e1, h c pa G H σ ds _ _ _ E hw hx fun y G1 H1 v ds1 q S1 r1 => ?_⟩
      exact hf G1 H1 x y u v _ _ S1.env.ex (r0.mono S1.sg) r1 q fun z w hz rz => he.nx pa G1 H1 _ _ hz (S1.env.setVal i rz)
    | _ => exact hw.elim
/-! ### loops -/
theorem sw_while {tbd : TS} {wb : WS} (h : TW K W t wt) (hb : SW K W tbd wb) : SW K W (tWhile t tbd) (wWhile wt wb) := fun c pa G H σ ds P D E hw hx he => by
  obtain ⟨I, ⟨m0, h0⟩, hs⟩ := hw
  refine ⟨fun m σ H => ∃ pa G ds, I m ds ∧ Env K c pa G H σ ds, ⟨m0, pa, G, ds, h0, E⟩, fun m σ1 H1 ⟨pa1, G1, ds1, i1, E1⟩ => ?_⟩
  refine h c pa1 G1 H1 σ1 ds1 _ _ _ E1 (hs m ds1 i1) hx fun v G2 H2 ds2 q S2 => ?_
  cases v with
  | true =>
    rw [if_pos rfl] at q ⊢
    refine ⟨fun σ H => ∃ pa G ds, (∃ m', m' < m ∧ I m' ds) ∧ Env K c pa G H σ ds, fun σ' H' ⟨pa', G', ds', ⟨m', l, i'⟩, E'⟩ => ⟨m', l, pa', G', ds', i', E'⟩, ?_⟩
    exact hb c pa1 G2 H2 σ1 ds2 _ _ S2.env q hx ⟨fun pa G H σ ds q E => ⟨pa, G, ds, q, E⟩, he.rt, he.nx, fun pa G H σ ds q E => ⟨pa, G, ds, q, E⟩⟩
  | false =>
    rw [if_neg Bool.false_ne_true] at q ⊢
    exact he.nx pa1 G2 H2 σ1 ds2 q S2.env
theorem items_some {d : D} {P : List D → Prop} (h : match items d with | some xs => P xs | none => False) : ∃ xs, (d = .lst xs ∨ d = .tup xs) ∧ P xs := by
  cases d with
  | lst xs => exact ⟨xs, .inl rfl, h⟩
  | tup xs => exact ⟨xs, .inr rfl, h⟩
  | _ => exact (show False from h).elim
/-- the call's ground, what stands still by now taken in -/
def C0.at_ (c : C0) (G : Hp) : C0 := { c with G0 := G }
theorem Env.into {c : C0} {pa : Nat → Addr} {G H : Hp} {σ : L2.St} {ds : DS} (E : Env K c pa G H σ ds) : Env K (c.at_ G) pa G H σ ds := ⟨E.ex, E.fr, E.dom, fun _ _ q => q, fun _ _ => rfl, E.len, fun i dv h => by
  have s := E.sl i dv h
  cases dv <;> exact s, E.inj, E.ps⟩
theorem Env.out {c : C0} {pa pa' : Nat → Addr} {G G1 H H1 : Hp} {σ σ1 : L2.St} {ds ds1 : DS} (E : Env K c pa G H σ ds) (F : Env K (c.at_ G) pa' G1 H1 σ1 ds1) : Env K c pa' G1 H1 σ1 ds1 :=
  ⟨F.ex, F.fr, F.dom, E.ge.trans F.ge, fun a h => (F.gf a h).trans (E.gf a h), F.len, fun i dv h => by
    have s := F.sl i dv h
    cases dv <;> exact s, F.inj, F.ps⟩
theorem XOk.into {c : C0} {pa : Nat → Addr} {G H : Hp} {σ : L2.St} {ds : DS} {xk : XKd} (E : Env K c pa G H σ ds) (h : XOk K c W xk) : XOk K (c.at_ G) W xk := fun e ds q pa G1 H1 σ1 cls d F X => h e ds q pa G1 H1 σ1 cls d (E.out F) X
theorem EndsOk.into {c : C0} {pa : Nat → Addr} {G H : Hp} {σ : L2.St} {ds : DS} {P : Post} {D : Ends} (E : Env K c pa G H σ ds) (h : EndsOk K c P D) : EndsOk K (c.at_ G) P D where
  nx := fun pa G1 H1 σ1 ds1 q F => h.nx pa G1 H1 σ1 ds1 q (E.out F)
  bk := fun pa G1 H1 σ1 ds1 q F => h.bk pa G1 H1 σ1 ds1 q (E.out F)
  ct := fun pa G1 H1 σ1 ds1 q F => h.ct pa G1 H1 σ1 ds1 q (E.out F)
  rt := fun pa G1 H1 σ1 ds1 v r q F R => h.rt pa G1 H1 σ1 ds1 v r q (E.out F) (by
    cases r with
    | val d => exact R
    | own xs =>
      obtain ⟨p, e, t⟩ := R
      exact ⟨p, e, t.g, t.h0, t.here, t.ne⟩
    | par xs => exact R)
theorem sw_for {tbd : TS} {wb : WS} (h : EW K W te a) (hg : GW K g tg) (hb : SW K W tbd wb) : SW K W (tFor (iSeq K te) g tbd) (wFor a tg wb) := fun c pa G H σ ds P D E hw hx he =>
  h c pa G H σ ds _ _ _ E hw hx fun v G1 H1 d ds1 q S1 r1 => by
    obtain ⟨xs, hd, I, i0, is, ie⟩ := items_some q
    have E1 := S1.env
    have hx1 := hx.into E1
    have he1 := he.into E1
    have body : ∀ (vs : List V) (i : Nat) (x : V) (σ2 : L2.St) (H2 : Hp), Reps K G1 xs vs → vs[i]? = some x → (∃ pa G ds, I i ds ∧ Env K (c.at_ G1) pa G H2 σ2 ds) →
        g x σ2 H2 fun σ3 H3 => tbd { D with nx := fun σ H => ∃ pa G ds, I (i + 1) ds ∧ Env K (c.at_ G1) pa G H σ ds, ct := fun σ H => ∃ pa G ds, I (i + 1) ds ∧ Env K (c.at_ G1) pa G H σ ds, bk := D.nx } σ3 H3 := by
      rintro vs i x σ2 H2 rv ex ⟨pa2, G2, ds2, i2, E2⟩
      obtain ⟨d2, ed, rd⟩ := rv.gev ex
      refine hg _ pa2 G2 H2 σ2 ds2 x d2 _ _ E2 (rd.mono E2.ge) (is i d2 ds2 ed i2) fun σ3 ds3 q3 E3 _ _ => ?_
      exact hb _ pa2 G2 H2 σ3 ds3 _ _ E3 q3 hx1 ⟨fun pa G H σ ds q E => ⟨pa, G, ds, q, E⟩, he1.rt, he1.nx, fun pa G H σ ds q E => ⟨pa, G, ds, q, E⟩⟩
    have done : ∀ (vs : List V) (σ2 : L2.St) (H2 : Hp), Reps K G1 xs vs → (∃ pa G ds, I vs.length ds ∧ Env K (c.at_ G1) pa G H2 σ2 ds) → D.nx σ2 H2 := by
      rintro vs σ2 H2 rv ⟨pa2, G2, ds2, i2, E2⟩
      rw [← rv.len] at i2
      exact he1.nx pa2 G2 H2 σ2 ds2 (ie ds2 i2) E2
    rcases hd with z | z
    · subst z
      obtain ⟨p, vs, ev, hs, rv⟩ := r1
      refine ⟨p, ev, .inl ⟨⟨vs, L2.Same.seq E1.ex hs⟩, ?_⟩⟩
      exact for_list (xs := vs) (fun i σ H => ∃ pa G ds, I i ds ∧ Env K (c.at_ G1) pa G H σ ds) ⟨pa, G1, ds1, i0, E1.into⟩ (fun i σ2 H2 _ ⟨_, _, _, _, F⟩ => L2.Same.seq (F.ge.trans F.ex) hs)
        (fun i x σ2 H2 ex hp => body vs i x σ2 H2 rv ex hp) (fun σ2 H2 hp => done vs σ2 H2 rv hp)
    · subst z
      obtain ⟨p, vs, ev, hs, rv⟩ := r1
      refine ⟨p, ev, .inr ⟨⟨vs, Same.t E1.ex hs⟩, ?_⟩⟩
      exact for_tup (xs := vs) (fun i σ H => ∃ pa G ds, I i ds ∧ Env K (c.at_ G1) pa G H σ ds) ⟨pa, G1, ds1, i0, E1.into⟩ (fun i σ2 H2 _ ⟨_, _, _, _, F⟩ => Same.t (F.ge.trans F.ex) hs)
        (fun i x σ2 H2 ex hp => body vs i x σ2 H2 rv ex hp) (fun σ2 H2 hp => done vs σ2 H2 rv hp)
/-! ranges -/
theorem rangeD_at {lo hi : Int} {i : Nat} (h : i < (hi - lo).toNat) : (rangeD lo hi)[i]? = some (.int (lo + (i : Nat))) := by
  unfold rangeD
  rw [List.getElem?_map, List.getElem?_range h]
  rfl
theorem rangeD_len {lo hi : Int} : (rangeD lo hi).length = (hi - lo).toNat := by
  unfold rangeD
  rw [List.length_map, List.length_range]
theorem sw_range {tbd : TS} {wb : WS} {c : C0} {pa : Nat → Addr} {G H : Hp} {σ : L2.St} {ds : DS} {P : Post} {D : Ends} {lo hi : Int} (hg : GW K g tg) (hb : SW K W tbd wb) (E : Env K c pa G H σ ds) (hw : forI tg wb P (rangeD lo hi) ds) (hx : XOk K c W P.x) (he : EndsOk K c P D) :
    ∃ W : Nat → Nat → L2.St → Hp → Prop, (∃ m, W 0 m σ H) ∧ ∀ i m σ H, W i m σ H →
      ((Itr lo (hi - lo).toNat).stop i H ∧ D.nx σ H) ∨ ((Itr lo (hi - lo).toNat).go i H ∧ ∃ N : L2.St → Hp → Prop, (∀ σ' H', N σ' H' → ∃ m', m' < m ∧ W (i + 1) m' σ' H') ∧ ∀ x H', (Itr lo (hi - lo).toNat).yld i H x H' → g x σ H' fun σ2 H2 => tbd { D with nx := N, ct := N, bk := D.nx } σ2 H2) := by
  obtain ⟨I, i0, is, ie⟩ := hw
  refine for_range (lo := lo) (n := (hi - lo).toNat) (fun i σ H => ∃ pa G ds, I i ds ∧ Env K c pa G H σ ds) ⟨pa, G, ds, i0, E⟩ ?_ ?_
  · rintro i σ2 H2 hi ⟨pa2, G2, ds2, i2, E2⟩
    refine hg _ pa2 G2 H2 σ2 ds2 _ (.int (lo + (i : Nat))) _ _ E2 rfl (is i _ ds2 (rangeD_at hi) i2) fun σ3 ds3 q3 E3 _ _ => ?_
    exact hb _ pa2 G2 H2 σ3 ds3 _ _ E3 q3 hx ⟨fun pa G H σ ds q E => ⟨pa, G, ds, q, E⟩, he.rt, he.nx, fun pa G H σ ds q E => ⟨pa, G, ds, q, E⟩⟩
  · rintro σ2 H2 ⟨pa2, G2, ds2, i2, E2⟩
    rw [← rangeD_len (lo := lo) (hi := hi)] at i2
    exact he.nx pa2 G2 H2 σ2 ds2 (ie ds2 i2) E2
theorem sw_forR1 {tbd : TS} {wb : WS} (h : EW K W te a) (hg : GW K g tg) (hb : SW K W tbd wb) : SW K W (tFor (iRng1 (tCons te tNil)) g tbd) (wForR [a] tg wb) := fun c pa G H σ ds P D E hw hx he =>
  h c pa G H σ ds _ _ _ E hw hx fun v G1 H1 d ds1 q S1 r1 => by
    cases d with
    | int n =>
      obtain ⟨⟨_, h1, h2⟩, q⟩ := q
      have z := sw_range hg hb S1.env q hx he
      rw [Int.sub_zero] at z
      exact ⟨n, by rw [show v = V.int n from r1], h1, h2, z⟩
    | _ => exact (show False from q).elim
theorem sw_forR2 {tbd : TS} {wb : WS} (h : EW K W ta a) (h' : EW K W tb b) (hg : GW K g tg) (hb : SW K W tbd wb) : SW K W (tFor (iRng2 (tCons ta (tCons tb tNil))) g tbd) (wForR [a, b] tg wb) := fun c pa G H σ ds P D E hw hx he =>
  h c pa G H σ ds _ _ _ E hw hx fun v G1 H1 d ds1 q S1 r1 => h' c pa G1 H1 σ ds1 _ _ _ S1.env q hx fun v2 G2 H2 d2 ds2 q2 S2 r2 => by
    cases d with
    | int m =>
      cases d2 with
      | int n =>
        obtain ⟨⟨⟨h3, h4⟩, h1, h2⟩, q⟩ := q2
        exact ⟨m, n, by rw [show v = V.int m from r1, show v2 = V.int n from r2], ⟨h3, h4, h1, h2⟩, sw_range hg hb S2.env q hx he⟩
      | _ => exact (show False from q2).elim
    | _ => exact (show False from q2).elim
end
end DW

/-! DwF: comprehensions, operations, a def's body. -/
namespace DW
open PySem PySem.Spec PyProof.Rows L2

/-- nothing is wanted of exceptions: there are none -/
def Wn : WX := fun _ _ _ _ => False
section
variable {K : PySem.W.Frag} {W : WX} {ta tb te tx : TE} {a b e : WE} {t u : TT} {wt wu : WT} {o : WO} {g : TG} {tg : Tg}
theorem gt_ers {ds : DS} : ∀ (vs : List Nat) (i : Nat), gt (ers ds vs) i = if i ∈ vs then none else gt ds i
  | [], i => by
    rw [if_neg (by simp)]
    rfl
  | v :: vs, i => by
    show gt (er (ers ds vs) v) i = _
    rw [gt_er, gt_ers vs i]
    by_cases h : i = v
    · rw [if_pos h, if_pos (by rw [h]; exact List.mem_cons_self)]
    · by_cases h2 : i ∈ vs
      · rw [if_neg h, if_pos h2, if_pos (List.mem_cons_of_mem _ h2)]
      · rw [if_neg h, if_neg h2, if_neg (fun z => (List.mem_cons.mp z).elim h h2)]
theorem ers_len {ds : DS} : ∀ vs : List Nat, (ers ds vs).length = ds.length
  | [] => rfl
  | v :: vs => by
    show (er (ers ds vs) v).length = _
    rw [len_er, ers_len vs]
/-- the block's slots are its own: outside of it the slots are as they were -/
theorem Env.unwipe {c : C0} {pa : Nat → Addr} {G H : Hp} {σ : L2.St} {ds : DS} {vs : List Nat} (E : Env K c pa G H (wipe σ vs) (ers ds vs)) : Env K c pa G H σ (ers ds vs) := ⟨E.ex, E.fr, E.dom, E.ge, E.gf, by
    have := E.len
    rw [wipe_length] at this
    exact this, fun i dv h => by
    have s := E.sl i dv h
    rw [gt_ers] at h
    by_cases q : i ∈ vs
    · rw [if_pos q] at h
      cases h
    · rw [wipe_at, if_neg q] at s
      exact s, E.inj, E.ps⟩
/-- what one comprehension keeps between its turns -/
def CInv (K : PySem.W.Frag) (c : C0) (pa : Nat → Addr) (σ : L2.St) (vs : List Nat) (G0 H0 : Hp) (ds0 : DS) (I : Nat → List D → DS → Prop) (Dl : Addr) (i : Nat) (H : Hp) : Prop :=
  ∃ G ds acc, I i acc ds ∧ Stp K c pa (wipe σ vs) G0 H0 ds0 G H (ers ds vs) ∧ Tmp K c pa G H (ers ds vs) Dl acc
/-- a list that no slot holds is written -/
theorem Env.tmpWrite {c : C0} {pa : Nat → Addr} {G H : Hp} {σ : L2.St} {ds : DS} {p : Addr} {xs ys : List D} {ws : List V} (E : Env K c pa G H σ ds) (T : Tmp K c pa G H ds p xs) (r : Reps K G ys ws) :
    Env K c pa G (upd H p (.lst ws)) σ ds ∧ Tmp K c pa G (upd H p (.lst ws)) ds p ys := by
  refine ⟨⟨fun a o q => ?_, fun a o q w => ?_, fun a q => ?_, E.ge, E.gf, E.len, fun i dv h => ?_, E.inj, E.ps⟩, T.g, T.h0, ⟨ws, upd_same, r⟩, T.ne⟩
  · rw [upd_ne (ne_of_none q T.g)]
    exact E.ex a o q
  · rw [upd_ne (ne_of_none q T.h0)]
    exact E.fr a o q w
  · by_cases n : a = p
    · rw [n, upd_same]
      exact fun z => nomatch z
    · rw [upd_ne n]
      exact E.dom a q
  · have s := E.sl i dv h
    cases o : isO dv with
    | false =>
      cases dv with
      | val d => exact s
      | own _ => cases o
      | par _ => cases o
    | true =>
      have n : pa i ≠ p := T.ne i dv h o
      cases dv with
      | val d => exact s
      | own zs =>
        obtain ⟨s1, s2, s3, zvs, s4, s5⟩ := s
        exact ⟨s1, s2, s3, zvs, by rw [upd_ne n]; exact s4, s5⟩
      | par zs =>
        obtain ⟨s1, s2, s3, zvs, s4, s5⟩ := s
        exact ⟨s1, s2, s3, zvs, by rw [upd_ne n]; exact s4, s5⟩
theorem Tmp.less {c : C0} {pa : Nat → Addr} {G H : Hp} {ds ds' : DS} {p : Addr} {xs : List D} (T : Tmp K c pa G H ds p xs) (h : ∀ i dv, gt ds' i = some dv → isO dv = true → ∃ d0, gt ds i = some d0 ∧ isO d0 = true) : Tmp K c pa G H ds' p xs :=
  ⟨T.g, T.h0, T.here, fun i dv q o => by
    obtain ⟨d0, q0, o0⟩ := h i dv q o
    exact T.ne i d0 q0 o0⟩
theorem ers_less {ds : DS} {vs : List Nat} : ∀ i dv, gt (ers ds vs) i = some dv → isO dv = true → ∃ d0, gt ds i = some d0 ∧ isO d0 = true := fun i dv q o => by
  rw [gt_ers] at q
  by_cases h : i ∈ vs
  · rw [if_pos h] at q
    cases q
  · rw [if_neg h] at q
    exact ⟨dv, q, o⟩
/-- a turn of it -/
theorem comp_turn {c : C0} {pa : Nat → Addr} {σ : L2.St} {vs : List Nat} {G0 H0 : Hp} {ds0 : DS} {I : Nat → List D → DS → Prop} {Dl : Addr} {i : Nat} {H : Hp} {x : V} {d : D} {xk : XKd} (hg : GW K g tg) (ht : TW K Wn t wt) (he : EW K Wn te e) (hn : ∀ j ∈ tgn tg, j ∈ vs) (hx : XOk K c Wn xk)
    (hD : H0 Dl = none) (hi : CInv K c pa σ vs G0 H0 ds0 I Dl i H) (r : Rep K G0 d x)
    (hs : ∀ acc ds, I i acc ds → tga tg d (ers ds vs) fun ds1 => wt xk ds1 fun b ds2 => if b = true then e xk ds2 fun v ds3 => acc.length < 10000000 ∧ I (i + 1) (acc ++ [v]) ds3 else I (i + 1) acc ds2) :
    g x (wipe σ vs) H fun σ2 H2 => wipe σ2 vs = wipe σ vs ∧ t σ2 H2 fun b H3 =>
      if b = true then te σ2 H3 fun y H4 => ∃ acc, H4 Dl = some (.lst acc) ∧ acc.length < sizeLine ∧ CInv K c pa σ vs G0 H0 ds0 I Dl (i + 1) (upd H4 Dl (.lst (acc ++ [y]))) else CInv K c pa σ vs G0 H0 ds0 I Dl (i + 1) H3 := by
  obtain ⟨G, ds, acc, h1, S, T⟩ := hi
  refine hg c pa G H (wipe σ vs) (ers ds vs) x d _ _ S.env (r.mono S.sg) (hs acc ds h1) fun σ2 ds1 q1 E1 w1 n1 => ?_
  have ew : wipe σ2 vs = wipe σ vs := by
    rw [w1 vs hn, wipe_wipe]
  have T1 : Tmp K c pa G H ds1 Dl acc := T.less fun i dv q o => ⟨dv, n1 i dv q o, o⟩
  have close : ∀ {G5 H5 : Hp} {ds5 : DS}, Stp K c pa σ2 G H ds1 G5 H5 ds5 → Stp K c pa (wipe σ vs) G0 H0 ds0 G5 H5 (ers ds5 vs) := fun {G5 H5 ds5} S5 => by
    refine S.trans ⟨?_, S5.sg, fun a o q n => S5.fr a o q fun i dv h oo => n i dv (n1 i dv h oo) oo, fun i dv h o => ?_, S5.dom⟩
    · rw [← ew]
      exact S5.env.wipes vs
    · obtain ⟨d1, q1, o1⟩ := ers_less i dv h o
      obtain ⟨d2, q2, o2⟩ := S5.sub i d1 q1 o1
      exact ⟨d2, n1 i d2 q2 o2, o2⟩
  refine ⟨ew, ht c pa G H σ2 ds1 xk _ _ E1 q1 hx fun v G3 H3 ds2 q2 S2 => ?_⟩
  cases v with
  | false =>
    rw [if_neg Bool.false_ne_true] at q2 ⊢
    exact ⟨G3, ds2, acc, q2, close S2, (T1.stay S2).less ers_less⟩
  | true =>
    rw [if_pos rfl] at q2 ⊢
    refine he c pa G3 H3 σ2 ds2 xk _ _ S2.env q2 hx fun y G4 H4 z ds3 q3 S3 r3 => ?_
    have S4 := S2.trans S3
    have T4 := T1.stay S4
    obtain ⟨ws, hw, rw_⟩ := T4.here
    obtain ⟨hl, q3⟩ := q3
    refine ⟨ws, hw, ?_, G4, ds3, acc ++ [z], q3, ?_, ?_⟩
    · rw [← rw_.len]
      exact Nat.lt_of_lt_of_le hl (by decide)
    · have C := close S4
      have T5 : Tmp K c pa G4 H4 (ers ds3 vs) Dl acc := T4.less ers_less
      obtain ⟨E6, _⟩ := C.env.tmpWrite T5 (rw_.app r3)
      refine ⟨E6, C.sg, fun a o q n => ?_, C.sub, fun a q => ?_⟩
      · obtain ⟨e1, e2⟩ := C.fr a o q n
        exact ⟨by rw [upd_ne (ne_of_none q hD)]; exact e1, e2⟩
      · by_cases n : a = Dl
        · rw [n, upd_same]
          exact fun z => nomatch z
        · rw [upd_ne n]
          exact C.dom a q
    · exact ((close S4).env.tmpWrite (T4.less ers_less) (rw_.app r3)).2
/-- its beginning, its end -/
theorem comp_begin {c : C0} {pa : Nat → Addr} {G H : Hp} {σ : L2.St} {ds : DS} {vs : List Nat} {I : Nat → List D → DS → Prop} {Dl : Addr} (E : Env K c pa G H σ ds) (hD : H Dl = none) (h : I 0 [] (ers ds vs)) : CInv K c pa σ vs G H (ers ds vs) I Dl 0 (upd H Dl (.lst [])) := by
  have z : ers (ers ds vs) vs = ers ds vs := by
    have gg : ∀ (a b : DS), a.length = b.length → (∀ i, gt a i = gt b i) → a = b := by
      intro a
      induction a with
      | nil =>
        intro b hl _
        cases b with
        | nil => rfl
        | cons y b => simp at hl
      | cons x a ih =>
        intro b hl hh
        cases b with
        | nil => simp at hl
        | cons y b =>
          have e0 : x = y := hh 0
          rw [e0, ih b (by simpa using hl) fun i => hh (i + 1)]
    refine gg _ _ (by rw [ers_len]) fun i => ?_
    rw [gt_ers, gt_ers]
    by_cases hi : i ∈ vs
    · rw [if_pos hi, if_pos hi]
    · rw [if_neg hi]
  obtain ⟨S, T⟩ := Stp.newOwn (vs := []) (xs := []) (E.wipes vs) hD rfl
  exact ⟨G, ers ds vs, [], h, by rw [z]; exact S, by rw [z]; exact T⟩
theorem comp_done {c : C0} {pa : Nat → Addr} {G H H1 : Hp} {σ : L2.St} {ds : DS} {vs : List Nat} {I : Nat → List D → DS → Prop} {Dl : Addr} {n : Nat} {kk : List D → DS → Prop} {Q : VK} (E : Env K c pa G H σ ds) (hD : H Dl = none) (hi : CInv K c pa σ vs G H (ers ds vs) I Dl n H1)
    (he : ∀ acc ds, I n acc ds → kk acc (ers ds vs)) (k : ∀ p G' H' xs ds', kk xs ds' → Stp K c pa σ G H ds G' H' ds' → Tmp K c pa G' H' ds' p xs → H p = none → Q (.ref p) H') : Q (.ref Dl) H1 := by
  obtain ⟨G1, ds1, acc, h1, S, T⟩ := hi
  refine k Dl G1 H1 acc _ (he acc ds1 h1) ⟨S.env.unwipe, S.sg, fun a o q n => S.fr a o q fun i dv h oo => ?_, fun i dv h o => ?_, S.dom⟩ T hD
  · rw [gt_ers] at h
    by_cases hi : i ∈ vs
    · rw [if_pos hi] at h
      cases h
    · rw [if_neg hi] at h
      exact n i dv h oo
  · obtain ⟨d1, q1, o1⟩ := S.sub i dv h o
    exact ers_less i d1 q1 o1
/-- [e for g in src if t], src a list or a tuple -/
theorem eo_lc {vs : List Nat} (h : EW K W tx a) (hg : GW K g tg) (ht : TW K Wn t wt) (he : EW K Wn te e) (hn : ∀ j ∈ tgn tg, j ∈ vs := by decide) : EO K W (tLc (iSeq K tx) g t te vs) (wLc a tg vs wt e) := fun c pa G H σ ds xk kk Q E hw hx k => by
  refine h c pa G H σ ds xk _ _ E hw hx fun v G1 H1 d ds1 q S1 r1 => ?_
  obtain ⟨xs, hd, I, i0, is, ie⟩ := items_some q
  have E1 := S1.env
  have k1 : ∀ p G' H' xs ds', kk xs ds' → Stp K c pa σ G1 H1 ds1 G' H' ds' → Tmp K c pa G' H' ds' p xs → H1 p = none → Q (.ref p) H' := fun p G' H' xs ds' q S T n => k p G' H' xs ds' q (S1.trans S) T (by
    cases z : H p with
    | none => rfl
    | some o => exact absurd n (S1.dom p (by rw [z]; exact fun y => nomatch y)))
  rcases hd with z | z
  · subst z
    obtain ⟨p, ys, ev, hsq, rv⟩ := r1
    refine ⟨p, ev, .inl ⟨⟨ys, L2.Same.seq E1.ex hsq⟩, fun Dl hD => ?_⟩⟩
    refine lc_list (xs := ys) (CInv K c pa σ vs G1 H1 (ers ds1 vs) I Dl) (comp_begin E1 hD i0) (fun i H' _ ⟨G', ds', acc, _, S, _⟩ => L2.Same.seq (S.sg.trans S.env.ex) hsq) (fun i x H' ex hi => ?_) fun H' hi => comp_done E1 hD hi (fun acc ds h => ie acc ds (by rw [rv.len]; exact h)) k1
    obtain ⟨d2, ed, rd⟩ := rv.gev ex
    exact comp_turn hg ht he hn (fun _ _ z => z.elim) hD hi rd fun acc ds h => is i d2 acc ds ed h
  · subst z
    obtain ⟨p, ys, ev, hsq, rv⟩ := r1
    refine ⟨p, ev, .inr ⟨⟨ys, Same.t E1.ex hsq⟩, fun Dl hD => ?_⟩⟩
    refine lc_tup (xs := ys) (CInv K c pa σ vs G1 H1 (ers ds1 vs) I Dl) (comp_begin E1 hD i0) (fun i H' _ ⟨G', ds', acc, _, S, _⟩ => Same.t (S.sg.trans S.env.ex) hsq) (fun i x H' ex hi => ?_) fun H' hi => comp_done E1 hD hi (fun acc ds h => ie acc ds (by rw [rv.len]; exact h)) k1
    obtain ⟨d2, ed, rd⟩ := rv.gev ex
    exact comp_turn hg ht he hn (fun _ _ z => z.elim) hD hi rd fun acc ds h => is i d2 acc ds ed h
theorem comp_range {c : C0} {pa : Nat → Addr} {G H : Hp} {σ : L2.St} {ds : DS} {vs : List Nat} {lo hi : Int} {xk : XKd} {kk : List D → DS → Prop} {Q : VK} (hg : GW K g tg) (ht : TW K Wn t wt) (he : EW K Wn te e) (hn : ∀ j ∈ tgn tg, j ∈ vs) (hx : XOk K c Wn xk) (E : Env K c pa G H σ ds)
    (q : compI tg vs wt e xk (rangeD lo hi) ds kk) (k : ∀ p G' H' xs ds', kk xs ds' → Stp K c pa σ G H ds G' H' ds' → Tmp K c pa G' H' ds' p xs → H p = none → Q (.ref p) H') (Dl : Addr) (hD : H Dl = none) :
    ∃ W : Nat → Nat → Hp → Prop, (∃ m, W 0 m (upd H Dl (.lst []))) ∧ ∀ i m H, W i m H →
      ((Itr lo (hi - lo).toNat).stop i H ∧ Q (.ref Dl) H) ∨ ((Itr lo (hi - lo).toNat).go i H ∧ ∃ Nx : Hp → Prop, (∀ H', Nx H' → ∃ m', m' < m ∧ W (i + 1) m' H') ∧ ∀ x H', (Itr lo (hi - lo).toNat).yld i H x H' → g x (wipe σ vs) H' fun σ2 H2 => wipe σ2 vs = wipe σ vs ∧ t σ2 H2 fun b H3 =>
        if b = true then te σ2 H3 fun y H4 => ∃ acc, H4 Dl = some (.lst acc) ∧ acc.length < sizeLine ∧ Nx (upd H4 Dl (.lst (acc ++ [y]))) else Nx H3) := by
  obtain ⟨I, i0, is, ie⟩ := q
  refine lc_range (lo := lo) (n := (hi - lo).toNat) (CInv K c pa σ vs G H (ers ds vs) I Dl) (comp_begin E hD i0) (fun i H' hl hi => ?_) fun H' hi => comp_done E hD hi (fun acc ds h => ie acc ds (by rw [rangeD_len]; exact h)) k
  exact comp_turn (d := .int (lo + (i : Nat))) hg ht he hn hx hD hi rfl fun acc ds h => is i _ acc ds (rangeD_at hl) h
theorem eo_lcR1 {vs : List Nat} (h : EW K W tx a) (hg : GW K g tg) (ht : TW K Wn t wt) (he : EW K Wn te e) (hn : ∀ j ∈ tgn tg, j ∈ vs := by decide) : EO K W (tLc (iRng1 (tCons tx tNil)) g t te vs) (wLcR [a] tg vs wt e) := fun c pa G H σ ds xk kk Q E hw hx k => by
  refine h c pa G H σ ds xk _ _ E hw hx fun v G1 H1 d ds1 q S1 r1 => ?_
  have k1 : ∀ p G' H' xs ds', kk xs ds' → Stp K c pa σ G1 H1 ds1 G' H' ds' → Tmp K c pa G' H' ds' p xs → H1 p = none → Q (.ref p) H' := fun p G' H' xs ds' q S T n => k p G' H' xs ds' q (S1.trans S) T (by
    cases z : H p with
    | none => rfl
    | some o => exact absurd n (S1.dom p (by rw [z]; exact fun y => nomatch y)))
  cases d with
  | int n =>
    obtain ⟨⟨_, h1, h2⟩, q⟩ := q
    have z := comp_range hg ht he hn (fun _ _ z => z.elim) S1.env q k1
    rw [Int.sub_zero] at z
    exact ⟨n, by rw [show v = V.int n from r1], h1, h2, z⟩
  | _ => exact (show False from q).elim
theorem eo_lcR2 {vs : List Nat} (h : EW K W ta a) (h' : EW K W tb b) (hg : GW K g tg) (ht : TW K Wn t wt) (he : EW K Wn te e) (hn : ∀ j ∈ tgn tg, j ∈ vs := by decide) : EO K W (tLc (iRng2 (tCons ta (tCons tb tNil))) g t te vs) (wLcR [a, b] tg vs wt e) := fun c pa G H σ ds xk kk Q E hw hx k => by
  refine h c pa G H σ ds xk _ _ E hw hx fun v G1 H1 d ds1 q S1 r1 => ?_
  refine h' c pa G1 H1 σ ds1 xk _ _ S1.env q hx fun v2 G2 H2 d2 ds2 q2 S2 r2 => ?_
  have S := S1.trans S2
  have k1 : ∀ p G' H' xs ds', kk xs ds' → Stp K c pa σ G2 H2 ds2 G' H' ds' → Tmp K c pa G' H' ds' p xs → H2 p = none → Q (.ref p) H' := fun p G' H' xs ds' q S' T n => k p G' H' xs ds' q (S.trans S') T (by
    cases z : H p with
    | none => rfl
    | some o => exact absurd n (S.dom p (by rw [z]; exact fun y => nomatch y)))
  cases d with
  | int m =>
    cases d2 with
    | int n =>
      obtain ⟨⟨⟨h3, h4⟩, h1, h2⟩, q⟩ := q2
      exact ⟨m, n, by rw [show v = V.int m from r1, show v2 = V.int n from r2], ⟨h3, h4, h1, h2⟩, comp_range hg ht he hn (fun _ _ z => z.elim) S2.env q k1⟩
    | _ => exact (show False from q2).elim
  | _ => exact (show False from q2).elim

/-! ### operations -/
theorem int2 {f : D → D → (D → Prop) → Prop} {d e : D} {kk : D → Prop} {P : Int → Int → Prop} (h : match d, e with | .int a, .int b => P a b | _, _ => False) : ∃ a b, d = .int a ∧ e = .int b ∧ P a b := by
  cases d with
  | int a =>
    cases e with
    | int b => exact ⟨a, b, rfl, rfl, h⟩
    | _ => exact h.elim
  | _ => exact h.elim
theorem rw_add : RW2 K (rI0 fun i j => .int (i + j)) dAdd := fun G H x y d e kk Q s rx ry h k => by
  cases d <;> try exact (show False from h).elim
  cases e <;> try exact (show False from h).elim
  exact ⟨_, _, rx, ry, k _ _ h rfl⟩
theorem rw_sub : RW2 K (rI0 fun i j => .int (i - j)) dSub := fun G H x y d e kk Q s rx ry h k => by
  cases d <;> try exact (show False from h).elim
  cases e <;> try exact (show False from h).elim
  exact ⟨_, _, rx, ry, k _ _ h rfl⟩
theorem rw_mul : RW2 K (rI CMulW fun i j => .int (i * j)) dMul := fun G H x y d e kk Q s rx ry h k => by
  cases d <;> try exact (show False from h).elim
  cases e <;> try exact (show False from h).elim
  exact ⟨_, _, rx, ry, h.1, k _ _ h.2 rfl⟩
def CDivF (_ j : Int) : Prop := j ≠ 0 ∧ j.natAbs.log2 < 9000
theorem op_fdivF {X : Cx} : OpR X (binaryOp .FloorDiv) (rI CDivF fun i j => .int (i.fdiv j)) := opI fun _ _ _ _ _ _ _ hc q => floordiv_int hc.1 q (.inl (PyProof.noPylong_of_log2 hc.2))
theorem iop_fdivF {X : Cx} : OpR X (inplaceOp .FloorDiv) (rI CDivF fun i j => .int (i.fdiv j)) := opI fun _ _ _ _ _ _ _ hc q => ifloordiv_int hc.1 q (.inl (PyProof.noPylong_of_log2 hc.2))
theorem iop_mulF {X : Cx} : OpR X (inplaceOp .Mult) (rI CMulW fun i j => .int (i * j)) := opI fun _ _ _ _ _ _ _ hc q => imul_int q hc.ok
theorem rw_fdiv : RW2 K (rI CDivF fun i j => .int (i.fdiv j)) dFdiv := fun G H x y d e kk Q s rx ry h k => by
  cases d <;> try exact (show False from h).elim
  cases e <;> try exact (show False from h).elim
  exact ⟨_, _, rx, ry, h.1, k _ _ h.2 rfl⟩
theorem rw_mod : RW2 K (rI (fun _ j => j ≠ 0) fun i j => .int (i.fmod j)) dMod := fun G H x y d e kk Q s rx ry h k => by
  cases d <;> try exact (show False from h).elim
  cases e <;> try exact (show False from h).elim
  exact ⟨_, _, rx, ry, h.1, k _ _ h.2 rfl⟩
theorem rw_pow : RW2 K (rI CPow fun i j => .int (i ^ j.toNat)) dPow := fun G H x y d e kk Q s rx ry h k => by
  cases d <;> try exact (show False from h).elim
  cases e <;> try exact (show False from h).elim
  exact ⟨_, _, rx, ry, h.1, k _ _ h.2 rfl⟩
theorem rw_neg : RW1 K (rU fun i => .int (-i)) dNeg := fun G H x d kk Q s rx h k => by
  cases d <;> try exact (show False from h).elim
  exact ⟨_, rx, k _ _ h rfl⟩
theorem rw_lt : RW2 K (rI0 fun i j => .bl (decide (i < j))) dLt := fun G H x y d e kk Q s rx ry h k => by
  cases d <;> try exact (show False from h).elim
  cases e <;> try exact (show False from h).elim
  exact ⟨_, _, rx, ry, k _ _ h rfl⟩
theorem rw_le : RW2 K (rI0 fun i j => .bl (decide (i ≤ j))) dLe := fun G H x y d e kk Q s rx ry h k => by
  cases d <;> try exact (show False from h).elim
  cases e <;> try exact (show False from h).elim
  exact ⟨_, _, rx, ry, k _ _ h rfl⟩
theorem rw_gt : RW2 K (rI0 fun i j => .bl (decide (j < i))) dGt := fun G H x y d e kk Q s rx ry h k => by
  cases d <;> try exact (show False from h).elim
  cases e <;> try exact (show False from h).elim
  exact ⟨_, _, rx, ry, k _ _ h rfl⟩
theorem rw_ge : RW2 K (rI0 fun i j => .bl (decide (j ≤ i))) dGe := fun G H x y d e kk Q s rx ry h k => by
  cases d <;> try exact (show False from h).elim
  cases e <;> try exact (show False from h).elim
  exact ⟨_, _, rx, ry, k _ _ h rfl⟩
mutual
/-- the kit's own data for these -/
def py : D → PyData
  | .non => .none
  | .bl b => .bool b
  | .int i => .int i
  | .str x => .str x
  | .tup xs => .tuple (pys xs)
  | .lst xs => .list (pys xs)
def pys : List D → List PyData
  | [] => []
  | x :: xs => py x :: pys xs
end
mutual
theorem rep_py {G H : Hp} (s : Same G H) : ∀ {d : D} {v : V}, Rep K G d v → Dp K H v (py d)
  | .non, v, h => by rw [show v = .non from h]; exact .non
  | .bl b, v, h => by rw [show v = .bl b from h]; exact .bl b
  | .int i, v, h => by rw [show v = .int i from h]; exact .int i
  | .str x, v, h => by rw [show v = .str x from h]; exact .str x
  | .tup ds, v, h => by
    obtain ⟨a, xs, e, h1, h2⟩ := h
    rw [e]
    exact .tup (Same.t s h1) (reps_py s h2)
  | .lst ds, v, h => by
    obtain ⟨a, xs, e, h1, h2⟩ := h
    rw [e]
    exact .lst (L2.Same.seq s h1) (reps_py s h2)
theorem reps_py {G H : Hp} (s : Same G H) : ∀ {ds : List D} {vs : List V}, Reps K G ds vs → DpAll K H vs (pys ds)
  | [], vs, h => by rw [show vs = [] from h]; exact .nil
  | d :: ds, vs, h => by
    obtain ⟨x, xs, e, h1, h2⟩ := h
    rw [e]
    exact .cons (rep_py s h1) (reps_py s h2)
end
mutual
theorem deq_py : ∀ (a b : D), PyData.eqv (py a) (py b) = deq a b
  | .tup xs, b => by
    cases b with
    | tup ys => exact deqs_py xs ys
    | _ => rfl
  | .lst xs, b => by
    cases b with
    | lst ys => exact deqs_py xs ys
    | _ => rfl
  | .non, b => by cases b <;> rfl
  | .bl a, b => by cases b <;> rfl
  | .int i, b => by cases b <;> rfl
  | .str x, b => by cases b <;> rfl
theorem deqs_py : ∀ (a b : List D), PyData.eqvAll (pys a) (pys b) = deqs a b
  | [], b => by cases b <;> rfl
  | x :: xs, [] => rfl
  | x :: xs, y :: ys => by
    show (PyData.eqv (py x) (py y) && PyData.eqvAll (pys xs) (pys ys)) = (deq x y && deqs xs ys)
    rw [deq_py x y, deqs_py xs ys]
end
mutual
theorem shp_py : ∀ d : D, (py d).canLay0 = shp d
  | .tup xs => shps_py xs
  | .lst xs => shps_py xs
  | .non => rfl
  | .bl _ => rfl
  | .int _ => rfl
  | .str _ => rfl
theorem shps_py : ∀ ds : List D, PyData.canLayAll0 (pys ds) = shps ds
  | [] => rfl
  | x :: xs => by
    show ((py x).canLay0 && PyData.canLayAll0 (pys xs)) = (shp x && shps xs)
    rw [shp_py x, shps_py xs]
end
mutual
theorem dep_py : ∀ d : D, (py d).depth = dep d
  | .tup xs => congrArg (· + 1) (deps_py xs)
  | .lst xs => congrArg (· + 1) (deps_py xs)
  | .non => rfl
  | .bl _ => rfl
  | .int _ => rfl
  | .str _ => rfl
theorem deps_py : ∀ ds : List D, PyData.depthAll (pys ds) = deps ds
  | [] => rfl
  | x :: xs => by
    show max (py x).depth (PyData.depthAll (pys xs)) = max (dep x) (deps xs)
    rw [dep_py x, deps_py xs]
end
theorem shaped_of {d : D} (h : Shp d) : SeqAt.shaped (py d) = true := by
  unfold SeqAt.shaped
  rw [shp_py, dep_py, h.1, decide_eq_true h.2]
  rfl
theorem rw_eq : RW2 K (rEqD K) dEq := fun G H x y d e kk Q s rx ry h k =>
  ⟨py d, py e, rep_py s rx, rep_py s ry, shaped_of h.1.1, shaped_of h.1.2, by rw [deq_py]; exact k _ _ h.2 rfl⟩
theorem rw_ne : RW2 K (rNeD K) dNe := fun G H x y d e kk Q s rx ry h k =>
  ⟨py d, py e, rep_py s rx, rep_py s ry, shaped_of h.1.1, shaped_of h.1.2, by rw [deq_py]; exact k _ _ h.2 rfl⟩
theorem non_iff {G : Hp} : ∀ {d : D} {v : V}, Rep K G d v → decide (v = .non) = isNon d
  | .non, v, h => by rw [show v = .non from h]; rfl
  | .bl b, v, h => by rw [show v = .bl b from h]; rfl
  | .int i, v, h => by rw [show v = .int i from h]; rfl
  | .str s, v, h => by rw [show v = .str s from h]; rfl
  | .tup _, v, h => by
    obtain ⟨a, xs, e, _⟩ := h
    rw [e]
    rfl
  | .lst _, v, h => by
    obtain ⟨a, xs, e, _⟩ := h
    rw [e]
    rfl
theorem ew_isN (h : EW K W ta a) : EW K W (tIsN ta) (wUn dIsN a) := fun c pa G H σ ds xk kk Q E hw hx k => by
  refine h c pa G H σ ds xk _ _ E hw hx fun x G1 H1 d ds1 q S1 r1 => ?_
  rw [non_iff r1]
  exact k _ G1 H1 _ ds1 q S1 rfl
theorem ew_notN (h : EW K W ta a) : EW K W (tNotN ta) (wUn dNotN a) := fun c pa G H σ ds xk kk Q E hw hx k => by
  refine h c pa G H σ ds xk _ _ E hw hx fun x G1 H1 d ds1 q S1 r1 => ?_
  rw [non_iff r1]
  exact k _ G1 H1 _ ds1 q S1 rfl
theorem rw_ix : RW2 K (rIx K) dIx := fun G H x y d e kk Q s rx ry h k => by
  cases d with
  | tup xs =>
    cases e with
    | int i =>
      obtain ⟨p, vs, ev, h1, h2⟩ := rx
      have h : (match itemAt xs i with | some v => kk v | none => False) := h
      cases q : itemAt xs i with
      | none => rw [q] at h; exact h.elim
      | some z =>
        rw [q] at h
        obtain ⟨v, e1, rv⟩ := h2.item q
        exact .inr (.inl ⟨p, vs, i, v, ev, ry, Same.t s h1, e1, k z v h rv⟩)
    | _ => exact (show False from h).elim
  | lst xs =>
    cases e with
    | int i =>
      obtain ⟨p, vs, ev, h1, h2⟩ := rx
      have h : (match itemAt xs i with | some v => kk v | none => False) := h
      cases q : itemAt xs i with
      | none => rw [q] at h; exact h.elim
      | some z =>
        rw [q] at h
        obtain ⟨v, e1, rv⟩ := h2.item q
        exact .inl ⟨p, vs, i, v, ev, ry, L2.Same.seq s h1, e1, k z v h rv⟩
    | _ => exact (show False from h).elim
  | _ => exact (show False from h).elim
/-! built-ins -/
def rAbs : List V → Hp → VK → Prop := fun xs H Q => ∃ i, xs = [.int i] ∧ Q (.int (if i < 0 then -i else i)) H
theorem rc_abs : RWC1 K rAbs dAbs := fun G H x d kk Q s rx h k => by
  cases d <;> try exact (show False from h).elim
  exact ⟨_, by rw [rx], k _ _ h rfl⟩
def rMx2 : List V → Hp → VK → Prop := fun xs H Q => ∃ i j, xs = [.int i, .int j] ∧ Q (.int (if j > i then j else i)) H
theorem rc_max : RWC2 K rMx2 dMax := fun G H x y d e kk Q s rx ry h k => by
  cases d <;> try exact (show False from h).elim
  cases e <;> try exact (show False from h).elim
  exact ⟨_, _, by rw [rx, ry], k _ _ h rfl⟩
def rMn2 : List V → Hp → VK → Prop := fun xs H Q => ∃ i j, xs = [.int i, .int j] ∧ Q (.int (if j < i then j else i)) H
theorem rc_min : RWC2 K rMn2 dMin := fun G H x y d e kk Q s rx ry h k => by
  cases d <;> try exact (show False from h).elim
  cases e <;> try exact (show False from h).elim
  exact ⟨_, _, by rw [rx, ry], k _ _ h rfl⟩
def rLen (K : PySem.W.Frag) : List V → Hp → VK → Prop := fun xs H Q => ∃ x n, xs = [x] ∧ LenV K x H n ∧ Q (.int n) H
theorem rc_len : RWC1 K (rLen K) dLen := fun G H x d kk Q s rx h k => by
  cases d with
  | tup xs =>
    obtain ⟨p, vs, ev, h1, h2⟩ := rx
    subst ev
    exact ⟨_, vs.length, rfl, .inr ⟨vs, Same.t s h1, rfl⟩, k _ _ h (by show V.int vs.length = V.int xs.length; rw [h2.len])⟩
  | lst xs =>
    obtain ⟨p, vs, ev, h1, h2⟩ := rx
    subst ev
    exact ⟨_, vs.length, rfl, .inl ⟨vs, L2.Same.seq s h1, rfl⟩, k _ _ h (by show V.int vs.length = V.int xs.length; rw [h2.len])⟩
  | _ => exact (show False from h).elim
theorem bools_rep {G : Hp} : ∀ {ds : List D} {vs : List V} {bs : List Bool}, Reps K G ds vs → boolsD ds = some bs → vs = bs.map V.bl
  | [], vs, bs, h, e => by
    have e : ([] : List Bool) = bs := Option.some.inj e
    rw [← e]
    exact h
  | d :: ds, vs, bs, h, e => by
    obtain ⟨x, xs, ev, h1, h2⟩ := h
    cases d with
    | bl b =>
      have e : (boolsD ds).map (b :: ·) = some bs := e
      cases q : boolsD ds with
      | none => rw [q] at e; cases e
      | some r =>
        rw [q] at e
        have e : b :: r = bs := Option.some.inj e
        rw [ev, ← e, bools_rep h2 q, show x = V.bl b from h1]
        rfl
    | _ => cases (show (none : Option (List Bool)) = some bs from e)
theorem ints_rep {G : Hp} : ∀ {ds : List D} {vs : List V} {bs : List Int}, Reps K G ds vs → intsD ds = some bs → vs = bs.map V.int
  | [], vs, bs, h, e => by
    have e : ([] : List Int) = bs := Option.some.inj e
    rw [← e]
    exact h
  | d :: ds, vs, bs, h, e => by
    obtain ⟨x, xs, ev, h1, h2⟩ := h
    cases d with
    | int b =>
      have e : (intsD ds).map (b :: ·) = some bs := e
      cases q : intsD ds with
      | none => rw [q] at e; cases e
      | some r =>
        rw [q] at e
        have e : b :: r = bs := Option.some.inj e
        rw [ev, ← e, ints_rep h2 q, show x = V.int b from h1]
        rfl
    | _ => cases (show (none : Option (List Int)) = some bs from e)
theorem rc_all : RWC1 K (rAll K) dAll := fun G H x d kk Q s rx h k => by
  cases d with
  | lst xs =>
    obtain ⟨p, vs, ev, h1, h2⟩ := rx
    have h : (match boolsD xs with | some bs => kk (.bl (bs.all id)) | none => False) := h
    cases q : boolsD xs with
    | none => rw [q] at h; exact h.elim
    | some bs =>
      rw [q] at h
      exact ⟨p, bs, by rw [ev], by rw [← bools_rep h2 q]; exact L2.Same.seq s h1, k _ _ h rfl⟩
  | _ => exact (show False from h).elim
theorem rc_any : RWC1 K (rAny K) dAny := fun G H x d kk Q s rx h k => by
  cases d with
  | lst xs =>
    obtain ⟨p, vs, ev, h1, h2⟩ := rx
    have h : (match boolsD xs with | some bs => kk (.bl (bs.any id)) | none => False) := h
    cases q : boolsD xs with
    | none => rw [q] at h; exact h.elim
    | some bs =>
      rw [q] at h
      exact ⟨p, bs, by rw [ev], by rw [← bools_rep h2 q]; exact L2.Same.seq s h1, k _ _ h rfl⟩
  | _ => exact (show False from h).elim
theorem rc_sum : RWC1 K (rSum K) dSum := fun G H x d kk Q s rx h k => by
  cases d with
  | lst xs =>
    obtain ⟨p, vs, ev, h1, h2⟩ := rx
    have h : (match intsD xs with | some bs => kk (.int bs.sum) | none => False) := h
    cases q : intsD xs with
    | none => rw [q] at h; exact h.elim
    | some bs =>
      rw [q] at h
      exact ⟨p, bs, by rw [ev], by rw [← ints_rep h2 q]; exact L2.Same.seq s h1, k _ _ h rfl⟩
  | _ => exact (show False from h).elim
def rInt : List V → Hp → VK → Prop := fun xs H Q => (∃ i, xs = [.int i] ∧ Q (.int i) H) ∨ ∃ k, xs = [.bl k] ∧ Q (.int (if k then 1 else 0)) H
theorem rc_int : RWC1 K rInt dInt := fun G H x d kk Q s rx h k => by
  cases d with
  | int i => exact .inl ⟨i, by rw [show x = V.int i from rx], k _ _ h rfl⟩
  | bl b => exact .inr ⟨b, by rw [show x = V.bl b from rx], k _ _ h rfl⟩
  | _ => exact (show False from h).elim
/-! isinstance of a built-in type -/
def tyN : D → String
  | .non => "NoneType" | .bl _ => "bool" | .int _ => "int" | .str _ => "str" | .tup _ => "tuple" | .lst _ => "list"
theorem rep_ty {G H : Hp} (s : Same G H) : ∀ {d : D} {v : V}, Rep K G d v → TyX K H v (.type (tyN d))
  | .non, v, h => by rw [show v = .non from h]; exact .base .non
  | .bl b, v, h => by rw [show v = .bl b from h]; exact .base (.bl b)
  | .int i, v, h => by rw [show v = .int i from h]; exact .base (.int i)
  | .str x, v, h => by rw [show v = .str x from h]; exact .base (.str x)
  | .tup ds, v, h => by
    obtain ⟨a, xs, e, h1, _⟩ := h
    rw [e]
    rcases Same.t s h1 with (q | ⟨o, q⟩) | ⟨o, its, n, q, q2, _⟩
    · exact .base (.tup q)
    · exact .fTuple q
    · exact .kTuple q q2
  | .lst ds, v, h => by
    obtain ⟨a, xs, e, h1, _⟩ := h
    rw [e]
    rcases L2.Same.seq s h1 with (q | ⟨o, q⟩) | ⟨o, its, n, q, q2, _⟩
    · exact .base (.lst q)
    · exact .base (.frz q)
    · exact .kList q q2
def Ty.nm : Ty → String
  | .int => "int" | .bool => "bool" | .str => "str" | .tuple => "tuple" | .list => "list" | .dict => "dict"
theorem kit_of_ty (T : Ty) (d : D) : kitB (tyN d) T.nm = some (isTy T d) := by
  cases T <;> (cases d <;> first
    | exact (by decide +kernel : kitB "NoneType" "int" = some false) | exact (by decide +kernel : kitB "bool" "int" = some true) | exact (by decide +kernel : kitB "int" "int" = some true)
    | exact (by decide +kernel : kitB "str" "int" = some false) | exact (by decide +kernel : kitB "tuple" "int" = some false) | exact (by decide +kernel : kitB "list" "int" = some false)
    | exact (by decide +kernel : kitB "NoneType" "bool" = some false) | exact (by decide +kernel : kitB "bool" "bool" = some true) | exact (by decide +kernel : kitB "int" "bool" = some false)
    | exact (by decide +kernel : kitB "str" "bool" = some false) | exact (by decide +kernel : kitB "tuple" "bool" = some false) | exact (by decide +kernel : kitB "list" "bool" = some false)
    | exact (by decide +kernel : kitB "NoneType" "str" = some false) | exact (by decide +kernel : kitB "bool" "str" = some false) | exact (by decide +kernel : kitB "int" "str" = some false)
    | exact (by decide +kernel : kitB "str" "str" = some true) | exact (by decide +kernel : kitB "tuple" "str" = some false) | exact (by decide +kernel : kitB "list" "str" = some false)
    | exact (by decide +kernel : kitB "NoneType" "tuple" = some false) | exact (by decide +kernel : kitB "bool" "tuple" = some false) | exact (by decide +kernel : kitB "int" "tuple" = some false)
    | exact (by decide +kernel : kitB "str" "tuple" = some false) | exact (by decide +kernel : kitB "tuple" "tuple" = some true) | exact (by decide +kernel : kitB "list" "tuple" = some false)
    | exact (by decide +kernel : kitB "NoneType" "list" = some false) | exact (by decide +kernel : kitB "bool" "list" = some false) | exact (by decide +kernel : kitB "int" "list" = some false)
    | exact (by decide +kernel : kitB "str" "list" = some false) | exact (by decide +kernel : kitB "tuple" "list" = some false) | exact (by decide +kernel : kitB "list" "list" = some true)
    | exact (by decide +kernel : kitB "NoneType" "dict" = some false) | exact (by decide +kernel : kitB "bool" "dict" = some false) | exact (by decide +kernel : kitB "int" "dict" = some false)
    | exact (by decide +kernel : kitB "str" "dict" = some false) | exact (by decide +kernel : kitB "tuple" "dict" = some false) | exact (by decide +kernel : kitB "list" "dict" = some false))
theorem ew_isi (T : Ty) (h : EW K W ta a) : EW K W (tCB (rIsi K) (tCons ta (tCons (tC (.ty T.nm)) tNil))) (wUn (dIsTy T) a) := fun c pa G H σ ds xk kk Q E hw hx k => by
  refine h c pa G H σ ds xk _ _ E hw hx fun x G1 H1 d ds1 q S1 r1 => ?_
  exact ⟨x, .ty T.nm, _, .type T.nm, isTy T d, rfl, .ty T.nm, rep_ty S1.env.ex r1, kit_ty (kit_of_ty T d), k _ G1 H1 _ ds1 q S1 rfl⟩
theorem kits_any {d : D} : ∀ ts : List Ty, PySem.W.kitAny K (.type (tyN d)) (ts.map fun t => Value.type t.nm) = some (ts.any fun t => isTy t d)
  | [] => rfl
  | T :: ts => by
    refine kitAny_cons (b := isTy T d) (kit_ty (kit_of_ty T d)) (fun e => ?_) fun e => ?_
    · rw [kits_any ts, List.any_cons, e]
      rfl
    · rw [List.any_cons, e]
      rfl
theorem cls_all : ∀ ts : List Ty, Paired ClsV (ts.map fun t => V.ty t.nm) (ts.map fun t => Value.type t.nm)
  | [] => .nil
  | T :: ts => .cons (.ty T.nm) (cls_all ts)
/-- the written tuple of types -/
def tTys : List Ty → TA
  | [] => tNil
  | T :: ts => tCons (tC (.ty T.nm)) (tTys ts)
theorem tTys_run : ∀ (ts : List Ty) (σ : L2.St) (H : Hp) (Q : List V → Hp → Prop), Q (ts.map fun t => V.ty t.nm) H → tTys ts σ H Q
  | [], _, _, _, h => h
  | T :: ts, σ, H, Q, h => tTys_run ts σ H _ h
theorem ew_isis {ts : List Ty} (hl : ts.length ≤ 10) (h : EW K W ta a) : EW K W (tCB (rIsiT K) (tCons ta (tCons (tTup (tTys ts)) tNil))) (wUn (dIsTys ts) a) := fun c pa G H σ ds xk kk Q E hw hx k => by
  refine h c pa G H σ ds xk _ _ E hw hx fun x G1 H1 d ds1 q S1 r1 => ?_
  refine tTys_run ts σ H1 _ ⟨by rw [List.length_map]; exact Nat.le_trans hl (by decide), fun p hp => ?_⟩
  have S2 := Stp.new S1.env (o := .tup (ts.map fun t => V.ty t.nm)) hp
  exact ⟨x, p, _, _, _, _, rfl, upd_same, cls_all ts, rep_ty S2.env.ex (r1.mono S2.sg), kits_any ts, k _ _ _ _ ds1 q (S1.trans S2) rfl⟩
end
end DW

/-! DwG: pieces of Python with their transformers: what a derivation is made of. -/
namespace DW
open PySem PySem.Spec PyProof.Rows L2

/-- the places where one piece of text runs (a body: one; a comprehension's block: any entry) -/
structure Fam (P : Program) (w : World) (K : PySem.W.Frag) (mg : Str → Option Value) (base : Heap) (N : List Str) (k : Nat) (W : WX) where
  ι : Type
  X : ι → Cx
  hP : ∀ i, (X i).prog = P
  hw : ∀ i, (X i).w = w
  hK : ∀ i, (X i).K = K
  hm : ∀ i, (X i).mg = mg
  hb : ∀ i, (X i).base = base
  hN : ∀ i, (X i).N = N
  calm : ∀ i, (X i).calm = true
  room : ∀ i, Room k (X i).A
  nd : N.Nodup
  po : ∀ i, PassesOwn (model (X i).prog (X i).w) (X i).A (X i).env (X i).xe
  tk : ∀ i, Takes (X i) W

section
variable {P : Program} {w : World} {K : PySem.W.Frag} {mg : Str → Option Value} {base : Heap} {N : List Str} {k : Nat} {W : WX}

def DE (F : Fam P w K mg base N k W) (e : Expr) (q : WE) : Prop := ∃ te, (∀ i, PE (F.X i) e te) ∧ EW K W te q
def DO (F : Fam P w K mg base N k W) (e : Expr) (q : WO) : Prop := ∃ te, (∀ i, PE (F.X i) e te) ∧ EO K W te q
def DT (F : Fam P w K mg base N k W) (e : Expr) (q : WT) : Prop := ∃ tt, (∀ i, PT (F.X i) e tt) ∧ TW K W tt q
def DP (F : Fam P w K mg base N k W) (e : Expr) (q : WT) : Prop := ∃ tt, (∀ i, PW (F.X i) e tt) ∧ TW K W tt q
def DL (F : Fam P w K mg base N k W) (es : List Expr) (q : List WE) : Prop := ∃ ta, (∀ i, PA (F.X i) es ta) ∧ AW K W ta q
def DC (F : Fam P w K mg base N k W) (es : List Expr) (q : List DA) : Prop := ∃ ta, (∀ i, PA (F.X i) es ta) ∧ CAW K W ta q
def DG (F : Fam P w K mg base N k W) (e : Expr) (q : Tg) : Prop := ∃ g, (∀ i, PG (F.X i) e g) ∧ GW K g q
def DGs (F : Fam P w K mg base N k W) (e : List Expr) (q : List Tg) : Prop := ∃ g, (∀ i, PGs (F.X i) e g) ∧ GWs K g q
def DS1 (F : Fam P w K mg base N k W) (s : Stmt) (q : WS) : Prop := ∃ t, (∀ i, PS (F.X i) s t) ∧ SW K W t q
def DSs (F : Fam P w K mg base N k W) (s : List Stmt) (q : WS) : Prop := ∃ t, (∀ i, PSs (F.X i) s t) ∧ SW K W t q

variable {F : Fam P w K mg base N k W} {a b c e : Expr} {es : List Expr} {x y : Str} {pos p p2 : Pos} {qa qb qc : WE} {q r : WT}

/-! ### names and constants -/
theorem d_var (i : Nat) (h : N[i]? = some x := by rfl) (hv : ∀ j, Vis (F.X j).env.scope x := by intro _; first | exact Or.inl rfl | exact Or.inr (Or.inl rfl) | exact Or.inr (Or.inr rfl))
    (hd : (x == ("__debug__" : Str)) = false := by decide) (hcd : (x == ("__classdict__" : Str)) = false := by decide) : DE F (.Name x pos) (wVar i) :=
  ⟨_, fun j => pe_var (by rw [F.hN j]; exact h) (hv j) hd hcd, ew_var i⟩
theorem d_int {i : Int} {j} : DE F (.Constant (.int i) j pos) (wC (.int i)) := ⟨_, fun _ => pe_int, ew_c fun _ => rfl⟩
theorem d_bl {i : Bool} {j} : DE F (.Constant (.bool i) j pos) (wC (.bl i)) := ⟨_, fun _ => pe_bl, ew_c fun _ => rfl⟩
theorem d_non {j} : DE F (.Constant .none j pos) (wC .non) := ⟨_, fun _ => pe_non, ew_c fun _ => rfl⟩
theorem d_str {i : String} {j} : DE F (.Constant (.str i) j pos) (wC (.str (Str.ofString i))) := ⟨_, fun _ => pe_str, ew_c fun _ => rfl⟩
/-- a module's constant -/
theorem d_glob {d : D} {v : V} {u : Value} (hm : mg x = some u) (r : RelV v u) (hr : ∀ G, Rep K G d v) (hg : ∀ j, Gl (F.X j) x := by intro _; rfl) (hd : (x == ("__debug__" : Str)) = false := by decide) : DE F (.Name x pos) (wC d) :=
  ⟨_, fun j => pe_glob (hg j) (by rw [F.hm j]; exact hm) r hd, ew_c hr⟩
/-! ### operators -/
theorem d_op {op : Operator} {f : B2} {rr : R2} (ho : ∀ X : Cx, OpR X (binaryOp op) rr) (hr : RW2 K rr f) (ha : DE F a qa) (hb : DE F b qb) : DE F (.BinOp a op b pos) (wBin f qa qb) := by
  obtain ⟨ta, a1, a2⟩ := ha
  obtain ⟨tb, b1, b2⟩ := hb
  exact ⟨_, fun i => pe_op (ho _) (a1 i) (b1 i), ew_op hr a2 b2⟩
theorem d_add (ha : DE F a qa) (hb : DE F b qb) : DE F (.BinOp a .Add b pos) (wBin dAdd qa qb) := d_op (fun _ => op_add) rw_add ha hb
theorem d_sub (ha : DE F a qa) (hb : DE F b qb) : DE F (.BinOp a .Sub b pos) (wBin dSub qa qb) := d_op (fun _ => op_sub) rw_sub ha hb
theorem d_mul (ha : DE F a qa) (hb : DE F b qb) : DE F (.BinOp a .Mult b pos) (wBin dMul qa qb) := d_op (fun _ => op_mulW) rw_mul ha hb
theorem d_fdiv (ha : DE F a qa) (hb : DE F b qb) : DE F (.BinOp a .FloorDiv b pos) (wBin dFdiv qa qb) := d_op (fun _ => op_fdivF) rw_fdiv ha hb
theorem d_mod (ha : DE F a qa) (hb : DE F b qb) : DE F (.BinOp a .Mod b pos) (wBin dMod qa qb) := d_op (fun _ => op_modN) rw_mod ha hb
theorem d_pow (ha : DE F a qa) (hb : DE F b qb) : DE F (.BinOp a .Pow b pos) (wBin dPow qa qb) := d_op (fun _ => op_pow) rw_pow ha hb
theorem d_neg (ha : DE F a qa) : DE F (.UnaryOp .USub a pos) (wUn dNeg qa) := by
  obtain ⟨ta, a1, a2⟩ := ha
  exact ⟨_, fun i => pe_un un_neg (a1 i), ew_un rw_neg a2⟩
/-! ### comparisons -/
theorem d_cmp {op : CmpOp} {f : B2} {rr : R2} (ho : ∀ j, OpR (F.X j) (compareOp op) rr) (hr : RW2 K rr f) (ha : DE F a qa) (hb : DE F b qb) (hm : behindInMarks op b = false) : DE F (.Compare a [op] [b] pos) (wBin f qa qb) := by
  obtain ⟨ta, a1, a2⟩ := ha
  obtain ⟨tb, b1, b2⟩ := hb
  exact ⟨_, fun i => pe_cmpR (ho i) (a1 i) (b1 i) hm, ew_op hr a2 b2⟩
theorem t_cmp {op : CmpOp} {f : B2} {rr : R2} (ho : ∀ j, OpR (F.X j) (compareOp op) rr) (hr : RW2 K rr f) (ha : DE F a qa) (hb : DE F b qb) (hm : behindInMarks op b = false) : DT F (.Compare a [op] [b] pos) (wTst (wBin f qa qb)) := by
  obtain ⟨ta, a1, a2⟩ := ha
  obtain ⟨tb, b1, b2⟩ := hb
  exact ⟨_, fun i => pt_cmpR (ho i) (a1 i) (b1 i) hm, tw_tst (ew_op hr a2 b2)⟩
theorem d_lt (ha : DE F a qa) (hb : DE F b qb) : DE F (.Compare a [.Lt] [b] pos) (wBin dLt qa qb) := d_cmp (fun _ => op_lt) rw_lt ha hb (nomark _)
theorem d_le (ha : DE F a qa) (hb : DE F b qb) : DE F (.Compare a [.LtE] [b] pos) (wBin dLe qa qb) := d_cmp (fun _ => op_le) rw_le ha hb (nomark _)
theorem d_gt (ha : DE F a qa) (hb : DE F b qb) : DE F (.Compare a [.Gt] [b] pos) (wBin dGt qa qb) := d_cmp (fun _ => op_gt) rw_gt ha hb (nomark _)
theorem d_ge (ha : DE F a qa) (hb : DE F b qb) : DE F (.Compare a [.GtE] [b] pos) (wBin dGe qa qb) := d_cmp (fun _ => op_ge) rw_ge ha hb (nomark _)
theorem t_lt (ha : DE F a qa) (hb : DE F b qb) : DT F (.Compare a [.Lt] [b] pos) (wTst (wBin dLt qa qb)) := t_cmp (fun _ => op_lt) rw_lt ha hb (nomark _)
theorem t_le (ha : DE F a qa) (hb : DE F b qb) : DT F (.Compare a [.LtE] [b] pos) (wTst (wBin dLe qa qb)) := t_cmp (fun _ => op_le) rw_le ha hb (nomark _)
theorem t_gt (ha : DE F a qa) (hb : DE F b qb) : DT F (.Compare a [.Gt] [b] pos) (wTst (wBin dGt qa qb)) := t_cmp (fun _ => op_gt) rw_gt ha hb (nomark _)
theorem t_ge (ha : DE F a qa) (hb : DE F b qb) : DT F (.Compare a [.GtE] [b] pos) (wTst (wBin dGe qa qb)) := t_cmp (fun _ => op_ge) rw_ge ha hb (nomark _)
theorem eqK {X : Cx} (h : X.K = K) (hu : X.A.units + 64 < cLine) : OpR X (compareOp .Eq) (rEqD K) := by subst h; exact op_eqD hu
theorem neK {X : Cx} (h : X.K = K) (hu : X.A.units + 64 < cLine) : OpR X (compareOp .NotEq) (rNeD K) := by subst h; exact op_neD hu
theorem d_eq (ha : DE F a qa) (hb : DE F b qb) : DE F (.Compare a [.Eq] [b] pos) (wBin dEq qa qb) := d_cmp (fun j => eqK (F.hK j) (F.room j).units) rw_eq ha hb (nomark _)
theorem d_ne (ha : DE F a qa) (hb : DE F b qb) : DE F (.Compare a [.NotEq] [b] pos) (wBin dNe qa qb) := d_cmp (fun j => neK (F.hK j) (F.room j).units) rw_ne ha hb (nomark _)
theorem t_eq (ha : DE F a qa) (hb : DE F b qb) : DT F (.Compare a [.Eq] [b] pos) (wTst (wBin dEq qa qb)) := t_cmp (fun j => eqK (F.hK j) (F.room j).units) rw_eq ha hb (nomark _)
theorem t_ne (ha : DE F a qa) (hb : DE F b qb) : DT F (.Compare a [.NotEq] [b] pos) (wTst (wBin dNe qa qb)) := t_cmp (fun j => neK (F.hK j) (F.room j).units) rw_ne ha hb (nomark _)
theorem d_isN {j} (ha : DE F a qa) : DE F (.Compare a [.Is] [.Constant .none j p] pos) (wUn dIsN qa) := by
  obtain ⟨ta, a1, a2⟩ := ha
  exact ⟨_, fun i => pe_cmp (pc_isN (a1 i)), ew_isN a2⟩
theorem d_notN {j} (ha : DE F a qa) : DE F (.Compare a [.IsNot] [.Constant .none j p] pos) (wUn dNotN qa) := by
  obtain ⟨ta, a1, a2⟩ := ha
  exact ⟨_, fun i => pe_cmp (pc_notN (a1 i)), ew_notN a2⟩
/-- any expression that gives True or False, as a test -/
theorem t_val (ha : DE F a qa) (he : ∀ j, ∀ whole, isTrue a (F.X j).env whole = (do let v ← whole; standAt a.pos; holding [v] (truthy v)) := by intro _ _; rfl) : DT F a (wTst qa) := by
  obtain ⟨ta, a1, a2⟩ := ha
  exact ⟨_, fun i => pt_val (a1 i) (he i), tw_b a2⟩
theorem t_isN {j} (ha : DE F a qa) : DT F (.Compare a [.Is] [.Constant .none j p] pos) (wTst (wUn dIsN qa)) := by
  obtain ⟨ta, a1, a2⟩ := ha
  exact ⟨_, fun i => pt_cmp (pc_isN (a1 i)), tw_b (ew_isN a2)⟩
theorem t_notN {j} (ha : DE F a qa) : DT F (.Compare a [.IsNot] [.Constant .none j p] pos) (wTst (wUn dNotN qa)) := by
  obtain ⟨ta, a1, a2⟩ := ha
  exact ⟨_, fun i => pt_cmp (pc_notN (a1 i)), tw_b (ew_notN a2)⟩
/-! ### and, or, not, if -/
theorem p_pt (h : DP F a q) : DT F a q := by
  obtain ⟨t, h1, h2⟩ := h
  exact ⟨t, fun i => (h1 i).pt, h2⟩
theorem p_and1 (h : DT F a q) : DP F (.BoolOp .And [a] pos) q := by
  obtain ⟨t, h1, h2⟩ := h
  exact ⟨t, fun i => pw_and1 (h1 i), h2⟩
theorem p_or1 (h : DT F a q) : DP F (.BoolOp .Or [a] pos) q := by
  obtain ⟨t, h1, h2⟩ := h
  exact ⟨t, fun i => pw_or1 (h1 i), h2⟩
theorem p_and (h : DT F a q) (h' : DP F (.BoolOp .And (b :: es) pos) r) : DP F (.BoolOp .And (a :: b :: es) pos) (wAnd q r) := by
  obtain ⟨t, h1, h2⟩ := h
  obtain ⟨u, u1, u2⟩ := h'
  exact ⟨_, fun i => pw_and (h1 i) (u1 i), tw_and h2 u2⟩
theorem p_or (h : DT F a q) (h' : DP F (.BoolOp .Or (b :: es) pos) r) : DP F (.BoolOp .Or (a :: b :: es) pos) (wOr q r) := by
  obtain ⟨t, h1, h2⟩ := h
  obtain ⟨u, u1, u2⟩ := h'
  exact ⟨_, fun i => pw_or (h1 i) (u1 i), tw_or h2 u2⟩
theorem t_not (h : DT F a q) : DT F (.UnaryOp .Not a pos) (wNot q) := by
  obtain ⟨t, h1, h2⟩ := h
  exact ⟨_, fun i => pt_not (h1 i), tw_not h2⟩
theorem d_one {op} (h : DE F a qa) : DE F (.BoolOp op [a] pos) qa := by
  obtain ⟨t, h1, h2⟩ := h
  exact ⟨_, fun i => pe_one (h1 i), h2⟩
theorem d_and (h : DE F a qa) (h' : DE F (.BoolOp .And (b :: es) pos) qb) : DE F (.BoolOp .And (a :: b :: es) pos) (wAndV qa qb) := by
  obtain ⟨t, h1, h2⟩ := h
  obtain ⟨u, u1, u2⟩ := h'
  exact ⟨_, fun i => pe_and (h1 i) (u1 i), ew_and h2 u2⟩
theorem d_or (h : DE F a qa) (h' : DE F (.BoolOp .Or (b :: es) pos) qb) : DE F (.BoolOp .Or (a :: b :: es) pos) (wOrV qa qb) := by
  obtain ⟨t, h1, h2⟩ := h
  obtain ⟨u, u1, u2⟩ := h'
  exact ⟨_, fun i => pe_or (h1 i) (u1 i), ew_or h2 u2⟩
theorem d_not (h : DE F a qa) : DE F (.UnaryOp .Not a pos) (wNotV qa) := by
  obtain ⟨t, h1, h2⟩ := h
  exact ⟨_, fun i => pe_not (h1 i), ew_not h2⟩
theorem d_if (h : DT F c q) (ha : DE F a qa) (hb : DE F b qb) : DE F (.IfExp c a b pos) (wIf q qa qb) := by
  obtain ⟨t, h1, h2⟩ := h
  obtain ⟨u, u1, u2⟩ := ha
  obtain ⟨v, v1, v2⟩ := hb
  exact ⟨_, fun i => pe_ifExp (h1 i) (u1 i) (v1 i), ew_if h2 u2 v2⟩
/-! ### arguments, displays, items -/
theorem l_nil : DL F [] [] := ⟨_, fun _ => pa_nil, aw_nil⟩
theorem l_cons {qs : List WE} (ha : DE F a qa) (hr : DL F es qs) (hs : ∀ j, starEach (a :: es) (F.X j).env = (false, eval a (F.X j).env) :: starEach es (F.X j).env := by intro _; rfl) : DL F (a :: es) (qa :: qs) := by
  obtain ⟨t, h1, h2⟩ := ha
  obtain ⟨u, u1, u2⟩ := hr
  exact ⟨_, fun i => pa_cons (h1 i) (u1 i) (hs i), aw_cons h2 u2⟩
theorem d_tup {qs : List WE} {x1} (h : DL F es qs) (hl : qs.length ≤ 100000 := by decide) : DE F (.Tuple es x1 pos) (wTup qs) := by
  obtain ⟨u, u1, u2⟩ := h
  exact ⟨_, fun i => pe_tup (u1 i), ew_tup u2 hl⟩
theorem o_lst {qs : List WE} (h : DL F es qs) (hl : qs.length ≤ 100000 := by decide) : DO F (.List es pos) (wLst qs) := by
  obtain ⟨u, u1, u2⟩ := h
  exact ⟨_, fun i => pe_lst (u1 i), eo_lst u2 hl⟩
theorem d_frz {o : WO} (h : DO F a o) : DE F a (wFrz o) := by
  obtain ⟨u, u1, u2⟩ := h
  exact ⟨_, u1, ew_frz u2⟩
theorem ixK {X : Cx} (h : X.K = K) : IxR X (rIx K) := by subst h; exact ix_seq
theorem d_ix (ha : DE F a qa) (hb : DE F b qb) (hs : PlainIx b := by intro _ _; rfl) : DE F (.Subscript a b pos) (wBin dIx qa qb) := by
  obtain ⟨t, h1, h2⟩ := ha
  obtain ⟨u, u1, u2⟩ := hb
  exact ⟨_, fun i => pe_ix (ixK (F.hK i)) (h1 i) (u1 i) hs, ew_op rw_ix h2 u2⟩
/-- an item of the own list in slot i -/
theorem d_ixO (i : Nat) (hb : DE F b qb) (h : N[i]? = some x := by rfl) (hv : ∀ j, Vis (F.X j).env.scope x := by intro _; first | exact Or.inl rfl | exact Or.inr (Or.inl rfl) | exact Or.inr (Or.inr rfl))
    (hd : (x == ("__debug__" : Str)) = false := by decide) (hcd : (x == ("__classdict__" : Str)) = false := by decide) (hs : PlainIx b := by intro _ _; rfl) : DE F (.Subscript (.Name x p) b pos) (wIxO i qb) := by
  obtain ⟨u, u1, u2⟩ := hb
  exact ⟨_, fun j => pe_ix (ixK (F.hK j)) (pe_var (i := i) (by rw [F.hN j]; exact h) (hv j) hd hcd) (u1 j) hs, ew_ixO u2⟩
/-! ### built-ins -/
theorem d_b1 {id : String} {f : B1} {rr : List V → Hp → VK → Prop} (hc : ∀ j, CallR (F.X j) (.builtin id) rr) (hr : RWC1 K rr f) (hm : mg x = none) (hv : bootBuiltins x = some (.builtin id)) (ha : DE F a qa) (hg : ∀ j, Gl (F.X j) x := by intro _; rfl) (hn : x ≠ "__name__" := by decide)
    (hdb : (x == ("__debug__" : Str)) = false := by decide) (hs : ∀ j, starEach [a] (F.X j).env = (false, eval a (F.X j).env) :: starEach [] (F.X j).env := by intro _; rfl) (hpl : ∀ j, (backTo pos (starEach [] (F.X j).env)).any (·.1) = false := by intro _; rfl) :
    DE F (.Call (.Name x p) [a] [] pos) (wUn f qa) := by
  obtain ⟨t, h1, h2⟩ := ha
  exact ⟨_, fun j => pe_callB (hc j) (hg j) (by rw [F.hm j]; exact hm) hv (pa_cons (h1 j) pa_nil (hs j)) hn hdb (hs j) (hpl j), ew_cb1 hr h2⟩
theorem d_b2 {id : String} {f : B2} {rr : List V → Hp → VK → Prop} (hc : ∀ j, CallR (F.X j) (.builtin id) rr) (hr : RWC2 K rr f) (hm : mg x = none) (hv : bootBuiltins x = some (.builtin id)) (ha : DE F a qa) (hb : DE F b qb) (hg : ∀ j, Gl (F.X j) x := by intro _; rfl) (hn : x ≠ "__name__" := by decide)
    (hdb : (x == ("__debug__" : Str)) = false := by decide) (hs : ∀ j, starEach [a, b] (F.X j).env = (false, eval a (F.X j).env) :: starEach [b] (F.X j).env := by intro _; rfl) (hs2 : ∀ j, starEach [b] (F.X j).env = (false, eval b (F.X j).env) :: starEach [] (F.X j).env := by intro _; rfl)
    (hpl : ∀ j, (backTo pos (starEach [b] (F.X j).env)).any (·.1) = false := by intro _; rfl) : DE F (.Call (.Name x p) [a, b] [] pos) (wBin f qa qb) := by
  obtain ⟨t, h1, h2⟩ := ha
  obtain ⟨u, u1, u2⟩ := hb
  exact ⟨_, fun j => pe_callB (hc j) (hg j) (by rw [F.hm j]; exact hm) hv (pa_cons (h1 j) (pa_cons (u1 j) pa_nil (hs2 j)) (hs j)) hn hdb (hs j) (hpl j), ew_cb2 hr h2 u2⟩
theorem lenK {X : Cx} (h : X.K = K) : CallR X (.builtin "len") (rLen K) := by subst h; exact call_len
theorem allK {X : Cx} (h : X.K = K) (c : X.calm = true) : CallR X (.builtin "all") (rAll K) := by subst h; exact cr_all c
theorem anyK {X : Cx} (h : X.K = K) (c : X.calm = true) : CallR X (.builtin "any") (rAny K) := by subst h; exact cr_any c
theorem sumK {X : Cx} (h : X.K = K) (c : X.calm = true) : CallR X (.builtin "sum") (rSum K) := by subst h; exact cr_sum c
theorem isiK {X : Cx} (h : X.K = K) : CallR X (.builtin "isinstance") (rIsi K) := by subst h; exact call_isi
theorem isiTK {X : Cx} (h : X.K = K) : CallR X (.builtin "isinstance") (rIsiT K) := by subst h; exact call_isiT
theorem d_isi (T : Ty) {u : Value} (hi : mg "isinstance" = none) (hm : mg x = none) (hv : bootBuiltins x = some u) (hu : u = .type T.nm) (ha : DE F a qa) (hgi : ∀ j, Gl (F.X j) "isinstance" := by intro _; rfl) (hg : ∀ j, Gl (F.X j) x := by intro _; rfl) (hn : x ≠ "__name__" := by decide)
    (hdb : (x == ("__debug__" : Str)) = false := by decide) (hs : ∀ j, starEach [a, .Name x p2] (F.X j).env = (false, eval a (F.X j).env) :: starEach [.Name x p2] (F.X j).env := by intro _; rfl) (hs2 : ∀ j, starEach [.Name x p2] (F.X j).env = (false, eval (.Name x p2) (F.X j).env) :: starEach [] (F.X j).env := by intro _; rfl)
    (hpl : ∀ j, (backTo pos (starEach [.Name x p2] (F.X j).env)).any (·.1) = false := by intro _; rfl) : DE F (.Call (.Name "isinstance" p) [a, .Name x p2] [] pos) (wUn (dIsTy T) qa) := by
  obtain ⟨t, h1, h2⟩ := ha
  subst hu
  exact ⟨_, fun j => pe_callB (isiK (F.hK j)) (hgi j) (by rw [F.hm j]; exact hi) (by decide +kernel) (pa_cons (h1 j) (pa_cons (pe_bltn (v := .ty T.nm) (hg j) (by rw [F.hm j]; exact hm) hv rfl hn hdb) pa_nil (hs2 j)) (hs j)) (by decide) (by decide) (hs j) (hpl j), ew_isi T h2⟩
/-! ### calls of the program's own defs -/
theorem c_nil : DC F [] [] := ⟨_, fun _ => pa_nil, ca_nil⟩
theorem c_v {qs : List DA} (ha : DE F a qa) (hr : DC F es qs) (hs : ∀ j, starEach (a :: es) (F.X j).env = (false, eval a (F.X j).env) :: starEach es (F.X j).env := by intro _; rfl) : DC F (a :: es) (.v qa :: qs) := by
  obtain ⟨t, h1, h2⟩ := ha
  obtain ⟨u, u1, u2⟩ := hr
  exact ⟨_, fun i => pa_cons (h1 i) (u1 i) (hs i), ca_v h2 u2⟩
theorem c_s (i : Nat) {qs : List DA} (hr : DC F es qs) (h : N[i]? = some x := by rfl) (hv : ∀ j, Vis (F.X j).env.scope x := by intro _; first | exact Or.inl rfl | exact Or.inr (Or.inl rfl) | exact Or.inr (Or.inr rfl))
    (hd : (x == ("__debug__" : Str)) = false := by decide) (hcd : (x == ("__classdict__" : Str)) = false := by decide) (hs : ∀ j, starEach (.Name x p :: es) (F.X j).env = (false, eval (.Name x p) (F.X j).env) :: starEach es (F.X j).env := by intro _; rfl) : DC F (.Name x p :: es) (.s i :: qs) := by
  obtain ⟨u, u1, u2⟩ := hr
  exact ⟨_, fun j => pa_cons (pe_var (i := i) (by rw [F.hN j]; exact h) (hv j) hd hcd) (u1 j) (hs j), ca_s u2⟩
theorem callX {X : Cx} {CX : CXT} {kf : Nat} {f : Addr} {fd : FuncData} {ps : List Str} {fs : FS} {ta : TA} {mv : List V} {mu : List Value} (hP : X.prog = P) (hw : X.w = w) (hK : X.K = K) (hm : X.mg = mg) (hb : X.base = base) (G : FnOk P w K mg base CX kf f fd ps (spOf K fs)) (hr : Room k X.A) (hk : kf ≤ k)
    (hg : Gl X x) (gm : mg x = some (.ref f)) (kp : PySem.W.keepIn K (.ref f) = true) (bb : Binds K fd ps mu) (hd : Vals mv mu) (hx : ∀ σ, PassesAt CX X σ (L2.WE W σ)) (ha : PA X (a :: es) ta) (hdb : (x == ("__debug__" : Str)) = false)
    (he : starEach (a :: es) X.env = (false, eval a X.env) :: starEach es X.env) (hpl : (backTo pos (starEach es X.env)).any (·.1) = false) : PE X (.Call (.Name x p) (a :: es) [] pos) (tCallSD (spOf K fs) mv (L2.WE W) ta) := by
  subst hP hw hK hm hb
  exact pe_callSD G (hr.mono hk) hg gm kp bb hd hx ha hdb he hpl
/-- f(..), f a def that raises nothing -/
theorem d_call {kf : Nat} {f : Addr} {fd : FuncData} {ps : List Str} {fs : FS} {qs : List DA} (G : FnOk P w K mg base CX0 kf f fd ps (spOf K fs)) (gm : mg x = some (.ref f)) (kp : PySem.W.keepIn K (.ref f) = true) (bb : Binds K fd ps []) (ha : DC F (a :: es) qs) (hk : kf ≤ k := by decide)
    (hg : ∀ j, Gl (F.X j) x := by intro _; rfl) (hdb : (x == ("__debug__" : Str)) = false := by decide) (he : ∀ j, starEach (a :: es) (F.X j).env = (false, eval a (F.X j).env) :: starEach es (F.X j).env := by intro _; rfl)
    (hpl : ∀ j, (backTo pos (starEach es (F.X j).env)).any (·.1) = false := by intro _; rfl) : DE F (.Call (.Name x p) (a :: es) [] pos) (wCall fs qs) := by
  obtain ⟨u, u1, u2⟩ := ha
  exact ⟨_, fun j => callX (F.hP j) (F.hw j) (F.hK j) (F.hm j) (F.hb j) G (F.room j) hk (hg j) gm kp bb .nil (fun _ _ _ _ _ _ _ h => h.elim) (u1 j) hdb (he j) (hpl j), ew_call u2 fun _ => rfl⟩
theorem o_call {kf : Nat} {f : Addr} {fd : FuncData} {ps : List Str} {fs : FS} {qs : List DA} (G : FnOk P w K mg base CX0 kf f fd ps (spOf K fs)) (gm : mg x = some (.ref f)) (kp : PySem.W.keepIn K (.ref f) = true) (bb : Binds K fd ps []) (ha : DC F (a :: es) qs) (hk : kf ≤ k := by decide)
    (hg : ∀ j, Gl (F.X j) x := by intro _; rfl) (hdb : (x == ("__debug__" : Str)) = false := by decide) (he : ∀ j, starEach (a :: es) (F.X j).env = (false, eval a (F.X j).env) :: starEach es (F.X j).env := by intro _; rfl)
    (hpl : ∀ j, (backTo pos (starEach es (F.X j).env)).any (·.1) = false := by intro _; rfl) : DO F (.Call (.Name x p) (a :: es) [] pos) (wCallO fs qs) := by
  obtain ⟨u, u1, u2⟩ := ha
  exact ⟨_, fun j => callX (F.hP j) (F.hw j) (F.hK j) (F.hm j) (F.hb j) G (F.room j) hk (hg j) gm kp bb .nil (fun _ _ _ _ _ _ _ h => h.elim) (u1 j) hdb (he j) (hpl j), eo_call u2 fun _ => rfl⟩
end
end DW

/-! DwH: targets, statements, a def's body. -/
namespace DW
open PySem PySem.Spec PyProof.Rows L2

section
variable {P : Program} {w : World} {K : PySem.W.Frag} {mg : Str → Option Value} {base : Heap} {N : List Str} {k : Nat} {W : WX}
variable {F : Fam P w K mg base N k W} {a b c e : Expr} {es : List Expr} {x y z : Str} {pos p p2 p3 p4 : Pos} {qa qb qc : WE} {q r : WT} {s : Stmt} {ss s1 s2 : List Stmt} {ws wr : WS} {o : WO} {tg : Tg}

/-! ### targets -/
theorem g_nm (i : Nat) (h : N[i]? = some x := by rfl) (hx : ∀ j, Loc (F.X j).env.scope x := by intro _; first | exact Or.inl rfl | exact Or.inr rfl)
    (hf : ∀ j, (F.X j).fn x = true ∨ (F.X j).env.scope.names.lookup x = some .local := by intro _; first | exact .inl rfl | exact .inr rfl) : DG F (.Name x pos) (.nm i) :=
  ⟨_, fun j => pg_name (by rw [F.hN j]; exact F.nd) (by rw [F.hN j]; exact h) (hx j) (hf j), gw_nm⟩
theorem gs_nil : DGs F [] [] := ⟨_, fun _ => pgs_nil, gws_nil⟩
theorem gs_cons {ts : List Tg} (h : DG F e tg) (hr : DGs F es ts) (hn : ∀ j, ((assignEach (e :: es) (F.X j).env).map (·.2)) = assign e (F.X j).env :: (assignEach es (F.X j).env).map (·.2) := by intro _; rfl) : DGs F (e :: es) (tg :: ts) := by
  obtain ⟨t, h1, h2⟩ := h
  obtain ⟨u, u1, u2⟩ := hr
  exact ⟨_, fun j => pgs_cons (h1 j) (u1 j) (hn j), gws_cons h2 u2⟩
theorem gtupK {X : Cx} {g : TGs} {kk : Nat} {n : Nat} (h : X.K = K) (hc : X.calm = true) (hg : PGs X es g) (hn : (assignEach es X.env).length = n) (hst : (assignEach es X.env).findIdx? (·.1) = none) : PG X (.Tuple es kk pos) (gTup K n g) := by
  subst h
  exact pg_tup hc hg hn hst
theorem g_tp {ts : List Tg} {kk : Nat} (h : DGs F es ts) (hn : ∀ j, (assignEach es (F.X j).env).length = ts.length := by intro _; rfl) (hst : ∀ j, (assignEach es (F.X j).env).findIdx? (·.1) = none := by intro _; rfl) : DG F (.Tuple es kk pos) (.tp ts) := by
  obtain ⟨u, u1, u2⟩ := h
  exact ⟨_, fun j => gtupK (F.hK j) (F.calm j) (u1 j) (hn j) (hst j), gw_tp u2⟩
/-! ### statements -/
theorem ss_nil : DSs F [] wNext := ⟨_, fun _ => pss_nil, sw_next⟩
theorem ss_cons (h : DS1 F s ws) (h' : DSs F ss wr) : DSs F (s :: ss) (wSeq ws wr) := by
  obtain ⟨t, h1, h2⟩ := h
  obtain ⟨u, u1, u2⟩ := h'
  exact ⟨_, fun i => pss_cons (h1 i) (u1 i), sw_seq h2 u2⟩
theorem ss_one (h : DS1 F s ws) : DSs F [s] ws := by
  obtain ⟨t, h1, h2⟩ := h
  exact ⟨_, fun i => pss_one (h1 i), h2⟩
/-- name = e -/
theorem s_set (i : Nat) (he : DE F e qa) (h : N[i]? = some x := by rfl) (hx : ∀ j, Loc (F.X j).env.scope x := by intro _; first | exact Or.inl rfl | exact Or.inr rfl) (hs : ∀ j, swapsWith e (some (.Name x p)) pos.line (F.X j).env = pure false := by intro _; rfl)
    (hf : ∀ j, (F.X j).fn x = true ∨ (F.X j).env.scope.names.lookup x = some .local := by intro _; first | exact .inl rfl | exact .inr rfl) : DS1 F (.Assign [.Name x p] e pos) (wAsg qa (.nm i)) := by
  obtain ⟨t, h1, h2⟩ := he
  exact ⟨_, fun j => ps_set (i := i) (by rw [F.hN j]; exact F.nd) (by rw [F.hN j]; exact h) (hx j) (h1 j) (hs j) (hf j), sw_asg h2 gw_nm⟩
/-- name = a list of the body's own -/
theorem s_setO (i : Nat) (he : DO F e o) (h : N[i]? = some x := by rfl) (hx : ∀ j, Loc (F.X j).env.scope x := by intro _; first | exact Or.inl rfl | exact Or.inr rfl) (hs : ∀ j, swapsWith e (some (.Name x p)) pos.line (F.X j).env = pure false := by intro _; rfl)
    (hf : ∀ j, (F.X j).fn x = true ∨ (F.X j).env.scope.names.lookup x = some .local := by intro _; first | exact .inl rfl | exact .inr rfl) : DS1 F (.Assign [.Name x p] e pos) (wAsgO o i) := by
  obtain ⟨t, h1, h2⟩ := he
  exact ⟨_, fun j => ps_set (i := i) (by rw [F.hN j]; exact F.nd) (by rw [F.hN j]; exact h) (hx j) (h1 j) (hs j) (hf j), sw_asgO h2⟩
/-- any other target -/
theorem s_asg (he : DE F e qa) (hg : DG F a tg) (hs : ∀ j, swapsWithSole [a] e pos.line (F.X j).env = pure false := by intro _; rfl) (hw : ∀ j, swappedStores [a] e (F.X j).env = pure none := by intro _; rfl)
    (h1 : ∀ j, (assignEach [a] (F.X j).env).map (·.2) = [assign a (F.X j).env] := by intro _; rfl) : DS1 F (.Assign [a] e pos) (wAsg qa tg) := by
  obtain ⟨t, t1, t2⟩ := he
  obtain ⟨g, g1, g2⟩ := hg
  exact ⟨_, fun j => ps_asg (t1 j) (g1 j) (hs j) (hw j) (h1 j), sw_asg t2 g2⟩
/-- x, y = a, b -/
theorem s_par (i l : Nat) {kt k2 : Nat} (ha : DE F a qa) (hb : DE F b qb) (hi : N[i]? = some x := by rfl) (hl : N[l]? = some y := by rfl) (hn : i ≠ l := by decide) (hx : ∀ j, (F.X j).env.scope.names.lookup x = some .local := by intro _; rfl) (hy : ∀ j, (F.X j).env.scope.names.lookup y = some .local := by intro _; rfl)
    (hw : ∀ j, swappedStores [.Tuple [.Name x p, .Name y p2] kt p3] (.Tuple [a, b] k2 p4) (F.X j).env = pure (some [x, y]) := by intro _; rfl) (hs : ∀ j, swapsWithSole [.Tuple [.Name x p, .Name y p2] kt p3] (.Tuple [a, b] k2 p4) pos.line (F.X j).env = pure false := by intro _; rfl)
    (h1 : ∀ j, starEach [a, b] (F.X j).env = (false, eval a (F.X j).env) :: starEach [b] (F.X j).env := by intro _; rfl) (h2 : ∀ j, starEach [b] (F.X j).env = (false, eval b (F.X j).env) :: starEach [] (F.X j).env := by intro _; rfl) :
    DS1 F (.Assign [.Tuple [.Name x p, .Name y p2] kt p3] (.Tuple [a, b] k2 p4) pos) (wPar i l qa qb) := by
  obtain ⟨t, t1, t2⟩ := ha
  obtain ⟨u, u1, u2⟩ := hb
  exact ⟨_, fun j => ps_par (F.calm j) (by rw [F.hN j]; exact F.nd) (by rw [F.hN j]; exact hi) (by rw [F.hN j]; exact hl) hn (hx j) (hy j) (pa_cons (t1 j) (pa_cons (u1 j) pa_nil (h2 j)) (h1 j)) (hw j) (hs j), sw_par t2 u2⟩
theorem s_ret (he : DE F e qa) : DS1 F (.Return (some e) pos) (wRet qa) := by
  obtain ⟨t, t1, t2⟩ := he
  exact ⟨_, fun j => ps_ret (t1 j), sw_ret t2⟩
theorem s_retO (he : DO F e o) : DS1 F (.Return (some e) pos) (wRetO o) := by
  obtain ⟨t, t1, t2⟩ := he
  exact ⟨_, fun j => ps_ret (t1 j), sw_retO t2⟩
theorem s_retS (i : Nat) (h : N[i]? = some x := by rfl) (hv : ∀ j, Vis (F.X j).env.scope x := by intro _; first | exact Or.inl rfl | exact Or.inr (Or.inl rfl) | exact Or.inr (Or.inr rfl))
    (hd : (x == ("__debug__" : Str)) = false := by decide) (hcd : (x == ("__classdict__" : Str)) = false := by decide) : DS1 F (.Return (some (.Name x p)) pos) (wRetS i) :=
  ⟨_, fun j => ps_ret (pe_var (i := i) (by rw [F.hN j]; exact h) (hv j) hd hcd), sw_retS⟩
theorem s_retN : DS1 F (.Return none pos) wRetN := ⟨_, fun _ => ps_retN, sw_retN⟩
theorem s_if (hc : DT F c q) (h1 : DSs F s1 ws) (h2 : DSs F s2 wr) : DS1 F (.If c s1 s2 pos) (wIfS q ws wr) := by
  obtain ⟨t, t1, t2⟩ := hc
  obtain ⟨u, u1, u2⟩ := h1
  obtain ⟨v, v1, v2⟩ := h2
  exact ⟨_, fun j => ps_if (t1 j) (u1 j) (v1 j), sw_if t2 u2 v2⟩
theorem s_drop (he : DE F e qa) (hs : ∀ j, swapsWith e none pos.line (F.X j).env = pure false := by intro _; rfl) : DS1 F (.Expr e pos) (wDrop qa) := by
  obtain ⟨t, t1, t2⟩ := he
  exact ⟨_, fun j => ps_expr (t1 j) (hs j), sw_drop t2⟩
theorem s_pass : DS1 F (.Pass pos) wNext := ⟨_, fun _ => ps_pass, sw_next⟩
theorem s_brk : DS1 F (.Break pos) wBrk := ⟨_, fun _ => ps_break, sw_brk⟩
theorem s_cont : DS1 F (.Continue pos) wCont := ⟨_, fun _ => ps_continue, sw_cont⟩
theorem s_never : DS1 F s wNever := ⟨_, fun _ => ps_never, sw_never⟩
/-- xs[e] = v, the own list in slot i -/
theorem s_put (i : Nat) (ha : DE F a qa) (hb : DE F b qb) (h : N[i]? = some x := by rfl) (hv : ∀ j, Vis (F.X j).env.scope x := by intro _; first | exact Or.inl rfl | exact Or.inr (Or.inl rfl) | exact Or.inr (Or.inr rfl))
    (hd : (x == ("__debug__" : Str)) = false := by decide) (hcd : (x == ("__classdict__" : Str)) = false := by decide)
    (hs : ∀ j, swapsWithSole [.Subscript (.Name x p) b p2] a pos.line (F.X j).env = pure false := by intro _; rfl) (hw : ∀ j, swappedStores [.Subscript (.Name x p) b p2] a (F.X j).env = pure none := by intro _; rfl)
    (h1 : ∀ j, (assignEach [.Subscript (.Name x p) b p2] (F.X j).env).map (·.2) = [assign (.Subscript (.Name x p) b p2) (F.X j).env] := by intro _; rfl)
    (ha2 : ∀ j, ∀ v, assign (.Subscript (.Name x p) b p2) (F.X j).env v = (do
      let ov ← holding [v] (eval (.Name x p) (F.X j).env)
      let iv ← holding [v, ov] (eval b (F.X j).env)
      standAt p2
      holding [v, ov, iv] (setItem ov iv v)
      release [v, ov, iv] []) := by intro _ _; rfl) : DS1 F (.Assign [.Subscript (.Name x p) b p2] a pos) (wSet i qb qa) := by
  obtain ⟨t, t1, t2⟩ := ha
  obtain ⟨u, u1, u2⟩ := hb
  exact ⟨_, fun j => ps_asg (t1 j) (pg_sub (pe_var (i := i) (by rw [F.hN j]; exact h) (hv j) hd hcd) (u1 j) set_list (ha2 j)) (hs j) (hw j) (h1 j), sw_set t2 u2⟩
theorem appK {X : Cx} {to : TE} {t : TA} {apos : Pos} (h : X.K = K) (ho : PE X e to) (ha : PA X [a] t) (hbase : attributeBase e "append" X.env (eval e X.env) = eval e X.env)
    (hfew : ((backTo pos (starEach [a] X.env)).all (fun x => !x.1) && (backToKw pos (keywordEach [] X.env)).all (fun x => x.1.isSome) && decide ([a].length + ([] : List Keyword).length + (if ([] : List Keyword).isEmpty then 0 else 1) < 30)) = true)
    (hline : (apos.endLine == pos.line) = true) (hs : starEach [a] X.env = (false, eval a X.env) :: starEach [] X.env) (hplain : (backTo pos (starEach [] X.env)).any (·.1) = false) :
    PE X (.Call (.Attribute e "append" apos) [a] [] pos) (tBM K "list" rAppend to t) := by
  subst h
  exact pe_bm PySem.F.plainAttrs_list PySem.F.slot_list_append PySem.F.type_list_append mt_append ho ha hbase hfew hline hs hplain
/-- xs.append(v), the own list in slot i -/
theorem s_app (i : Nat) {apos cpos : Pos} (ha : DE F a qa) (h : N[i]? = some x := by rfl) (hv : ∀ j, Vis (F.X j).env.scope x := by intro _; first | exact Or.inl rfl | exact Or.inr (Or.inl rfl) | exact Or.inr (Or.inr rfl))
    (hd : (x == ("__debug__" : Str)) = false := by decide) (hcd : (x == ("__classdict__" : Str)) = false := by decide) (hbase : ∀ j, attributeBase (.Name x p) "append" (F.X j).env (eval (.Name x p) (F.X j).env) = eval (.Name x p) (F.X j).env := by intro _; rfl)
    (hfew : ∀ j, ((backTo cpos (starEach [a] (F.X j).env)).all (fun x => !x.1) && (backToKw cpos (keywordEach [] (F.X j).env)).all (fun x => x.1.isSome) && decide ([a].length + ([] : List Keyword).length + (if ([] : List Keyword).isEmpty then 0 else 1) < 30)) = true := by intro _; rfl)
    (hline : (apos.endLine == cpos.line) = true := by rfl) (hs : ∀ j, starEach [a] (F.X j).env = (false, eval a (F.X j).env) :: starEach [] (F.X j).env := by intro _; rfl) (hplain : ∀ j, (backTo cpos (starEach [] (F.X j).env)).any (·.1) = false := by intro _; rfl)
    (hsw : ∀ j, swapsWith (.Call (.Attribute (.Name x p) "append" apos) [a] [] cpos) none pos.line (F.X j).env = pure false := by intro _; rfl) : DS1 F (.Expr (.Call (.Attribute (.Name x p) "append" apos) [a] [] cpos) pos) (wApp i qa) := by
  obtain ⟨t, t1, t2⟩ := ha
  exact ⟨_, fun j => ps_expr (appK (F.hK j) (pe_var (i := i) (by rw [F.hN j]; exact h) (hv j) hd hcd) (pa_cons (t1 j) pa_nil (hs j)) (hbase j) (hfew j) hline (hs j) (hplain j)) (hsw j), sw_app t2⟩
/-- x op= e -/
theorem s_aug (i : Nat) {op : Operator} {ti : TIp} {f : B2} (ho : ∀ X : Cx, PIp X op ti) (hr : RW2 K ti f) (he : DE F e qa) (h : N[i]? = some x := by rfl) (hx : ∀ j, Loc (F.X j).env.scope x := by intro _; first | exact Or.inl rfl | exact Or.inr rfl)
    (hf : ∀ j, (F.X j).fn x = true ∨ (F.X j).env.scope.names.lookup x = some .local := by intro _; first | exact .inl rfl | exact .inr rfl) : DS1 F (.AugAssign (.Name x p) op e pos) (wAug i f qa) := by
  obtain ⟨t, t1, t2⟩ := he
  exact ⟨_, fun j => ps_aug (i := i) (by rw [F.hN j]; exact F.nd) (by rw [F.hN j]; exact h) (hx j) (t1 j) (ho _) (hf j), sw_aug hr t2⟩
theorem s_augAdd (i : Nat) (he : DE F e qa) (h : N[i]? = some x := by rfl) (hx : ∀ j, Loc (F.X j).env.scope x := by intro _; first | exact Or.inl rfl | exact Or.inr rfl)
    (hf : ∀ j, (F.X j).fn x = true ∨ (F.X j).env.scope.names.lookup x = some .local := by intro _; first | exact .inl rfl | exact .inr rfl) : DS1 F (.AugAssign (.Name x p) .Add e pos) (wAug i dAdd qa) := s_aug i (fun _ => ip_add) rw_add he h hx hf
theorem s_augSub (i : Nat) (he : DE F e qa) (h : N[i]? = some x := by rfl) (hx : ∀ j, Loc (F.X j).env.scope x := by intro _; first | exact Or.inl rfl | exact Or.inr rfl)
    (hf : ∀ j, (F.X j).fn x = true ∨ (F.X j).env.scope.names.lookup x = some .local := by intro _; first | exact .inl rfl | exact .inr rfl) : DS1 F (.AugAssign (.Name x p) .Sub e pos) (wAug i dSub qa) := s_aug i (fun _ => ip_sub) rw_sub he h hx hf
theorem s_while (hc : DT F c q) (h1 : DSs F s1 ws) : DS1 F (.While c s1 [] pos) (wWhile q ws) := by
  obtain ⟨t, t1, t2⟩ := hc
  obtain ⟨u, u1, u2⟩ := h1
  exact ⟨_, fun j => ps_while (F.po j) (t1 j) (u1 j), sw_while t2 u2⟩
theorem piK {X : Cx} {tl : TE} (h : X.K = K) (hl : PE X a tl) : PI X b a (iSeq K tl) := by subst h; exact pi_seq hl
theorem s_for (he : DE F e qa) (hg : DG F a tg) (h1 : DSs F s1 ws) (hs : ∀ j, ∀ x, foldedSetIterable e (F.X j).env x = pure x := by intro _ _; rfl) : DS1 F (.For a e s1 [] pos) (wFor qa tg ws) := by
  obtain ⟨t, t1, t2⟩ := he
  obtain ⟨g, g1, g2⟩ := hg
  obtain ⟨u, u1, u2⟩ := h1
  exact ⟨_, fun j => ps_for (F.po j) (F.calm j) (piK (F.hK j) (t1 j)) (g1 j) (u1 j) (hs j), sw_for t2 g2 u2⟩
theorem s_forR1 {p pp : Pos} (hm : mg "range" = none) (he : DE F e qa) (hg : DG F a tg) (h1 : DSs F s1 ws) (hgl : ∀ j, Gl (F.X j) "range" := by intro _; rfl) (hs : ∀ j, starEach [e] (F.X j).env = [(false, eval e (F.X j).env)] := by intro _; rfl)
    (hf : ∀ j, ∀ x, foldedSetIterable (.Call (.Name "range" p) [e] [] pp) (F.X j).env x = pure x := by intro _ _; rfl) : DS1 F (.For a (.Call (.Name "range" p) [e] [] pp) s1 [] pos) (wForR [qa] tg ws) := by
  obtain ⟨t, t1, t2⟩ := he
  obtain ⟨g, g1, g2⟩ := hg
  obtain ⟨u, u1, u2⟩ := h1
  exact ⟨_, fun j => ps_for (F.po j) (F.calm j) (pi_range1 (hgl j) (by rw [F.hm j]; exact hm) (pa_cons (t1 j) pa_nil (hs j)) (hs j)) (g1 j) (u1 j) (hf j), sw_forR1 t2 g2 u2⟩
end
end DW

/-! DwI: comprehensions in a derivation, a def's body keeps its promise. -/
namespace DW
open PySem PySem.Spec PyProof.Rows L2

theorem takesN {X : Cx} : Takes X Wn := fun u s' x => by
  obtain ⟨a, B, sI, pins, σ, H, cls, d, e, I, nb, up, sky, na, os, ag, w⟩ := x
  exact w.elim
section
variable {P : Program} {w : World} {K : PySem.W.Frag} {mg : Str → Option Value} {base : Heap} {N : List Str} {k : Nat} {W : WX}
/-- the blocks of a comprehension -/
def Fam.blk (F : Fam P w K mg base N k W) (scope : Scope) : Fam P w K mg base N k Wn where
  ι := F.ι × Shared × Hp × Addr × List (Str × Addr) × List Addr
  X := fun j => (F.X j.1).blk j.2.1 j.2.2.1 scope (compEnvC scope j.2.2.2.2.1 j.2.2.2.1 (F.X j.1).env) j.2.2.2.2.2
  hP := fun j => F.hP j.1
  hw := fun j => F.hw j.1
  hK := fun j => F.hK j.1
  hm := fun j => F.hm j.1
  hb := fun j => F.hb j.1
  hN := fun j => F.hN j.1
  calm := fun j => F.calm j.1
  room := fun j => F.room j.1
  nd := F.nd
  po := fun _ => PassesOwn.never
  tk := fun _ => takesN
def DTs (F : Fam P w K mg base N k W) (es : List Expr) (q : WT) : Prop := ∃ tt, (∀ i, PTs (F.X i) es tt) ∧ TW K W tt q
variable {F : Fam P w K mg base N k W} {a b c e tg it : Expr} {es : List Expr} {x y z : Str} {pos p p2 p3 p4 : Pos} {qa qb qc qe : WE} {q r : WT} {g : Tg}
theorem ts_nil : DTs F [] wYes := ⟨_, fun _ => pts_nil, tw_yes⟩
theorem ts_one (h : DT F c q) : DTs F [c] q := by
  obtain ⟨t, h1, h2⟩ := h
  exact ⟨_, fun i => pts_one (h1 i), h2⟩
/-- [e for tg in it if ..] -/
theorem o_lc (own : List (Str × Nat)) {scope : Scope} (hi : DE F it qa) (hg : DG (F.blk scope) tg g) (ht : DTs (F.blk scope) es q) (he : DE (F.blk scope) e qe) (ok : ∀ j, BlkOk N (F.X j).env.scope scope own) (hn : ∀ i ∈ tgn g, i ∈ own.map (·.2) := by decide)
    (hs : ∀ j, ∀ x, foldedSetIterable it (F.X j).env x = pure x := by intro _ _; rfl) : DO F (.ListComp e [⟨tg, it, es, 0⟩] scope pos) (wLc qa g (own.map (·.2)) q qe) := by
  obtain ⟨t, t1, t2⟩ := hi
  obtain ⟨gg, g1, g2⟩ := hg
  obtain ⟨u, u1, u2⟩ := ht
  obtain ⟨v, v1, v2⟩ := he
  exact ⟨_, fun j => pe_lc (F.calm j) (by rw [F.hN j]; exact F.nd) (piK (F.hK j) (t1 j)) (by rw [F.hN j]; exact ok j) (fun s H C cl fp => g1 (j, s, H, C, cl, fp)) (fun s H C cl fp => u1 (j, s, H, C, cl, fp)) (fun s H C cl fp => v1 (j, s, H, C, cl, fp)) (hs j), eo_lc t2 g2 u2 v2 hn⟩
theorem o_lcR1 (own : List (Str × Nat)) {scope : Scope} {p pp : Pos} (hm : mg "range" = none) (hi : DE F a qa) (hg : DG (F.blk scope) tg g) (ht : DTs (F.blk scope) es q) (he : DE (F.blk scope) e qe) (ok : ∀ j, BlkOk N (F.X j).env.scope scope own) (hn : ∀ i ∈ tgn g, i ∈ own.map (·.2) := by decide)
    (hgl : ∀ j, Gl (F.X j) "range" := by intro _; rfl) (h1 : ∀ j, starEach [a] (F.X j).env = [(false, eval a (F.X j).env)] := by intro _; rfl)
    (hs : ∀ j, ∀ x, foldedSetIterable (.Call (.Name "range" p) [a] [] pp) (F.X j).env x = pure x := by intro _ _; rfl) : DO F (.ListComp e [⟨tg, .Call (.Name "range" p) [a] [] pp, es, 0⟩] scope pos) (wLcR [qa] g (own.map (·.2)) q qe) := by
  obtain ⟨t, t1, t2⟩ := hi
  obtain ⟨gg, g1, g2⟩ := hg
  obtain ⟨u, u1, u2⟩ := ht
  obtain ⟨v, v1, v2⟩ := he
  exact ⟨_, fun j => pe_lc (F.calm j) (by rw [F.hN j]; exact F.nd) (pi_range1 (hgl j) (by rw [F.hm j]; exact hm) (pa_cons (t1 j) pa_nil (h1 j)) (h1 j)) (by rw [F.hN j]; exact ok j) (fun s H C cl fp => g1 (j, s, H, C, cl, fp)) (fun s H C cl fp => u1 (j, s, H, C, cl, fp)) (fun s H C cl fp => v1 (j, s, H, C, cl, fp)) (hs j),
    eo_lcR1 t2 g2 u2 v2 hn⟩
/-! ### a def's body -/
def Fam.body (P : Program) (w : World) (K : PySem.W.Frag) (mg : Str → Option Value) (base : Heap) (N : List Str) (k : Nat) (qual : Str) (scope : Scope) (f : Addr) (cdv : Value) (A : Around) (outer : List PySem.Env) (s : Shared) (H : Hp) (E : XK) (hr : Room k (A.deeper (envOfC qual scope s.heap.objs.size f cdv))) (nd : N.Nodup) : Fam P w K mg base N k Wn where
  ι := Unit
  X := fun _ => (cxOf CX0 P w K mg base N qual scope f cdv A outer s H E).nox
  hP := fun _ => rfl
  hw := fun _ => rfl
  hK := fun _ => rfl
  hm := fun _ => rfl
  hb := fun _ => rfl
  hN := fun _ => rfl
  calm := fun _ => rfl
  room := fun _ => hr
  nd := nd
  po := fun _ => PassesOwn.never
  tk := fun _ => takesN
theorem gt_app : ∀ (l : List DV) (m i : Nat), gt (l.map some ++ List.replicate m none) i = l[i]?
  | [], 0, i => rfl
  | [], m + 1, 0 => rfl
  | [], m + 1, i + 1 => by
    show gt ([].map some ++ List.replicate m none) i = _
    rw [gt_app [] m i]
    rfl
  | d :: l, m, 0 => rfl
  | d :: l, m, i + 1 => gt_app l m i
theorem start_at {vs : List V} {N : List Str} {i : Nat} {v : V} (h : vs[i]? = some v) : (L2.start N vs)[i]? = some (some v) := by
  unfold L2.start
  have hl := (List.getElem?_eq_some_iff.mp h).1
  rw [List.getElem?_append_left (by rw [List.length_map]; exact hl), List.getElem?_map, h]
  rfl
theorem outs_at : ∀ {dvs : List DV} {ds : DS} {o : List DV}, outs dvs ds = some o → ∀ (i : Nat) xs, dvs[i]? = some (.par xs) → ∃ ys, gt ds i = some (.par ys) ∧ o[i]? = some (.par ys)
  | [], ds, o, _, i, xs, e => by simp at e
  | .par _ :: r, some (.par ys) :: s, o, h, i, xs, e => by
    have h : (outs r s).map (DV.par ys :: ·) = some o := h
    cases q : outs r s with
    | none => rw [q] at h; cases h
    | some o' =>
      rw [q] at h
      have h : DV.par ys :: o' = o := Option.some.inj h
      rw [← h]
      cases i with
      | zero => exact ⟨ys, rfl, rfl⟩
      | succ i => exact outs_at q i xs e
  | .par _ :: r, [], o, h, i, xs, e => by cases (show (none : Option (List DV)) = some o from h)
  | .par _ :: r, none :: s, o, h, i, xs, e => by cases (show (none : Option (List DV)) = some o from h)
  | .par _ :: r, some (.val _) :: s, o, h, i, xs, e => by cases (show (none : Option (List DV)) = some o from h)
  | .par _ :: r, some (.own _) :: s, o, h, i, xs, e => by cases (show (none : Option (List DV)) = some o from h)
  | .val d :: r, [], o, h, i, xs, e => by cases (show (none : Option (List DV)) = some o from h)
  | .own d :: r, [], o, h, i, xs, e => by cases (show (none : Option (List DV)) = some o from h)
  | .val d :: r, x :: s, o, h, i, xs, e => by
    have h : (outs r s).map (DV.val d :: ·) = some o := h
    cases q : outs r s with
    | none => rw [q] at h; cases h
    | some o' =>
      rw [q] at h
      have h : DV.val d :: o' = o := Option.some.inj h
      rw [← h]
      cases i with
      | zero => cases (Option.some.inj e : DV.val d = DV.par xs)
      | succ i => exact outs_at q i xs e
  | .own d :: r, x :: s, o, h, i, xs, e => by
    have h : (outs r s).map (DV.own d :: ·) = some o := h
    cases q : outs r s with
    | none => rw [q] at h; cases h
    | some o' =>
      rw [q] at h
      have h : DV.own d :: o' = o := Option.some.inj h
      rw [← h]
      cases i with
      | zero => cases (Option.some.inj e : DV.own d = DV.par xs)
      | succ i => exact outs_at q i xs e
/-- the ground of a call -/
def ground (G H : Hp) (pa : Nat → Addr) (dvs : List DV) : C0 := ⟨H, G, fun a => ∃ i xs, dvs[i]? = some (.par xs) ∧ a = pa i, pa⟩
theorem env_start {G H : Hp} {pa : Nat → Addr} {vs : List V} {dvs : List DV} {N : List Str} (s : Same G H) (ha : Args K G H pa vs dvs) (hl : dvs.length ≤ N.length) : Env K (ground G H pa dvs) pa G H (L2.start N vs) (entry N.length dvs) := by
  have at_ : ∀ i, gt (entry N.length dvs) i = dvs[i]? := fun i => gt_app dvs _ i
  refine ⟨s, fun a o h _ => h, fun a h => h, fun _ _ q => q, fun _ _ => rfl, ?_, fun i dv h => ?_, fun i j dv dv' h h' o o' n => ?_, fun i xs h => rfl⟩
  · unfold entry L2.start
    rw [List.length_append, List.length_append, List.length_map, List.length_map, List.length_replicate, List.length_replicate, ha.len]
  · rw [at_] at h
    have q := ha.here i dv h
    cases dv with
    | val d =>
      obtain ⟨v, e, r⟩ := q
      exact ⟨v, start_at e, r⟩
    | own xs => exact q.elim
    | par xs =>
      obtain ⟨e, g, hh⟩ := q
      exact ⟨start_at e, g, ⟨i, xs, h, rfl⟩, hh⟩
  · rw [at_] at h h'
    have q := ha.here i dv h
    have q' := ha.here j dv' h'
    cases dv with
    | val d => cases o
    | own xs => exact q.elim
    | par xs =>
      cases dv' with
      | val d => cases o'
      | own xs => exact q'.elim
      | par ys => exact ha.inj i j xs ys h h' n
theorem back_of {G H G' H' : Hp} {pa pa' : Nat → Addr} {dvs o : List DV} {σ : L2.St} {ds : DS} (E : Env K (ground G H pa dvs) pa' G' H' σ ds) (ho : outs dvs ds = some o) : Back K G H G' H' pa dvs o where
  ex := E.ex
  gg := E.ge
  gf := E.gf
  fr := fun a u h n => E.fr a u h fun ⟨i, xs, e, q⟩ => n i xs e q
  dom := E.dom
  pars := fun i xs e => by
    obtain ⟨ys, g1, g2⟩ := outs_at ho i xs e
    obtain ⟨_, _, _, hh⟩ := E.sl i _ g1
    rw [E.ps i ys g1] at hh
    exact ⟨ys, g2, hh⟩
theorem out_some {o : Option (List DV)} {P : List DV → Prop} (h : match o with | some x => P x | none => False) : ∃ x, o = some x ∧ P x := by
  cases o with
  | none => exact h.elim
  | some x => exact ⟨x, rfl, h⟩
theorem ends_ok {G H : Hp} {pa : Nat → Addr} {dvs : List DV} {kk : Out → List DV → Prop} {Q : VK} {n : L2.St → Hp → Prop} {xk : XKd} (hn : ∀ σ H', Q .non H' → n σ H')
    (k1 : ∀ v r dvs' G' H', kk (.ret r) dvs' → Back K G H G' H' pa dvs dvs' → Res K H G' H' v r → Q v H') : EndsOk K (ground G H pa dvs) { ends dvs kk with x := xk } { nx := n, rt := Q } where
  nx := fun pa' G' H' σ ds h E => by
    obtain ⟨o, ho, q⟩ := out_some (P := fun o => kk (.ret (.val .non)) o) h
    exact hn σ H' (k1 .non _ o G' H' q (back_of E ho) rfl)
  rt := fun pa' G' H' σ ds v r h E R => by
    obtain ⟨o, ho, q⟩ := out_some (P := fun o => kk (.ret r) o) h
    refine k1 v r o G' H' q (back_of E ho) ?_
    cases r with
    | val d => exact R
    | own xs =>
      obtain ⟨p, e, t⟩ := R
      exact ⟨p, e, t.h0, t.g, t.here⟩
    | par xs => exact R.elim
  bk := fun _ _ _ _ _ h _ => h.elim
  ct := fun _ _ _ _ _ h _ => h.elim
/-- THE RULE: a def of the text that raises nothing keeps its promise over data -/
theorem fn_keeps0 {x qual : Str} {st : Stmt} {f : Addr} {fd : FuncData} {N ps : List Str} {k : Nat} {fs : FS} {ws : WS} (Fn : Fun K x qual st f fd) (S : FnScope N ps (defScope st)) (hl : ∀ dvs kk, fs dvs kk → dvs.length = ps.length) (hN : ps.length ≤ N.length := by decide)
    (hd : ∀ (cdv : Value) (A : Around) (outer : List PySem.Env) (s : Shared) (H : Hp) (E : XK) (hr : Room k (A.deeper (envOfC qual (defScope st) s.heap.objs.size f cdv))), DSs (Fam.body P w K mg base N k qual (defScope st) f cdv A outer s H E hr S.nd) (defBody st) ws)
    (hk : Keeps0 N.length ws fs) : FnOk P w K mg base CX0 (k + 1) f fd ps (spOf K fs) := by
  refine Fn.ok S (spOf_len hl) fun cdv A outer s H vs Q E hr hsp => ?_
  obtain ⟨G, pa, dvs, kk, sg, ha, hf, k1, k2⟩ := hsp
  obtain ⟨t, t1, t2⟩ := hd cdv A outer s H E hr
  refine ⟨t, t1 (), t2 (ground G H pa dvs) pa G H _ _ _ _ (env_start sg ha (by rw [hl dvs kk hf]; exact hN)) (hk dvs kk hf) (fun _ _ z => z.elim) (ends_ok (fun _ _ q => q) k1)⟩
end
end DW

/-! DwJ: calls by their bundles, further pieces. -/
namespace DW
open PySem PySem.Spec PyProof.Rows L2

/-- a def of the text that is called by its name: it stands there, it keeps its promise -/
structure Cal (P : Program) (w : World) (K : PySem.W.Frag) (mg : Str → Option Value) (base : Heap) (k : Nat) (x : Str) (ps : List Str) (fs : FS) : Prop where
  ex : ∃ f fd, FnOk P w K mg base CX0 k f fd ps (spOf K fs) ∧ mg x = some (.ref f) ∧ PySem.W.keepIn K (.ref f) = true ∧ Binds K fd ps []

section
variable {P : Program} {w : World} {K : PySem.W.Frag} {mg : Str → Option Value} {base : Heap} {N : List Str} {k : Nat} {W : WX}
variable {F : Fam P w K mg base N k W} {a b c e tg it : Expr} {es : List Expr} {x y z : Str} {pos p p2 p3 p4 p5 : Pos} {qa qb qc qe : WE} {q r : WT} {g : Tg} {s1 : List Stmt} {ws : WS}
theorem Cal.mk2 {qual : Str} {st : Stmt} {f : Addr} {fd : FuncData} {N ps : List Str} {fs : FS} {ws : WS} {j : Nat} (Fn : Fun K x qual st f fd) (hm : mg x = some (.ref f)) (bb : Binds K fd ps []) (S : FnScope N ps (defScope st)) (hl : ∀ dvs kk, fs dvs kk → dvs.length = ps.length) (hN : ps.length ≤ N.length)
    (hd : ∀ (cdv : Value) (A : Around) (outer : List PySem.Env) (s : Shared) (H : Hp) (E : XK) (hr : Room j (A.deeper (envOfC qual (defScope st) s.heap.objs.size f cdv))), DSs (Fam.body P w K mg base N j qual (defScope st) f cdv A outer s H E hr S.nd) (defBody st) ws)
    (hk : Keeps0 N.length ws fs) : Cal P w K mg base (j + 1) x ps fs := ⟨f, fd, fn_keeps0 Fn S hl hN hd hk, hm, Fn.kp, bb⟩
theorem d_callC {kf : Nat} {ps : List Str} {fs : FS} {qs : List DA} (C : Cal P w K mg base kf x ps fs) (ha : DC F (a :: es) qs) (hk : kf ≤ k := by decide)
    (hg : ∀ j, Gl (F.X j) x := by intro _; rfl) (hdb : (x == ("__debug__" : Str)) = false := by decide) (he : ∀ j, starEach (a :: es) (F.X j).env = (false, eval a (F.X j).env) :: starEach es (F.X j).env := by intro _; rfl)
    (hpl : ∀ j, (backTo pos (starEach es (F.X j).env)).any (·.1) = false := by intro _; rfl) : DE F (.Call (.Name x p) (a :: es) [] pos) (wCall fs qs) := by
  obtain ⟨f, fd, c1, c2, c3, c4⟩ := C.ex
  exact d_call c1 c2 c3 c4 ha hk hg hdb he hpl
theorem o_callC {kf : Nat} {ps : List Str} {fs : FS} {qs : List DA} (C : Cal P w K mg base kf x ps fs) (ha : DC F (a :: es) qs) (hk : kf ≤ k := by decide)
    (hg : ∀ j, Gl (F.X j) x := by intro _; rfl) (hdb : (x == ("__debug__" : Str)) = false := by decide) (he : ∀ j, starEach (a :: es) (F.X j).env = (false, eval a (F.X j).env) :: starEach es (F.X j).env := by intro _; rfl)
    (hpl : ∀ j, (backTo pos (starEach es (F.X j).env)).any (·.1) = false := by intro _; rfl) : DO F (.Call (.Name x p) (a :: es) [] pos) (wCallO fs qs) := by
  obtain ⟨f, fd, c1, c2, c3, c4⟩ := C.ex
  exact o_call c1 c2 c3 c4 ha hk hg hdb he hpl
/-! ### built-ins by name -/
theorem d_abs (hm : mg "abs" = none) (ha : DE F a qa) (hg : ∀ j, Gl (F.X j) "abs" := by intro _; rfl) (hs : ∀ j, starEach [a] (F.X j).env = (false, eval a (F.X j).env) :: starEach [] (F.X j).env := by intro _; rfl) (hpl : ∀ j, (backTo pos (starEach [] (F.X j).env)).any (·.1) = false := by intro _; rfl) :
    DE F (.Call (.Name "abs" p) [a] [] pos) (wUn dAbs qa) := d_b1 (fun _ => call_abs) rc_abs hm (by decide +kernel) ha hg (by decide) (by decide) hs hpl
theorem d_len (hm : mg "len" = none) (ha : DE F a qa) (hg : ∀ j, Gl (F.X j) "len" := by intro _; rfl) (hs : ∀ j, starEach [a] (F.X j).env = (false, eval a (F.X j).env) :: starEach [] (F.X j).env := by intro _; rfl) (hpl : ∀ j, (backTo pos (starEach [] (F.X j).env)).any (·.1) = false := by intro _; rfl) :
    DE F (.Call (.Name "len" p) [a] [] pos) (wUn dLen qa) := d_b1 (fun j => lenK (F.hK j)) rc_len hm (by decide +kernel) ha hg (by decide) (by decide) hs hpl
theorem d_all (hm : mg "all" = none) (ha : DE F a qa) (hg : ∀ j, Gl (F.X j) "all" := by intro _; rfl) (hs : ∀ j, starEach [a] (F.X j).env = (false, eval a (F.X j).env) :: starEach [] (F.X j).env := by intro _; rfl) (hpl : ∀ j, (backTo pos (starEach [] (F.X j).env)).any (·.1) = false := by intro _; rfl) :
    DE F (.Call (.Name "all" p) [a] [] pos) (wUn dAll qa) := d_b1 (fun j => allK (F.hK j) (F.calm j)) rc_all hm (by decide +kernel) ha hg (by decide) (by decide) hs hpl
theorem d_any (hm : mg "any" = none) (ha : DE F a qa) (hg : ∀ j, Gl (F.X j) "any" := by intro _; rfl) (hs : ∀ j, starEach [a] (F.X j).env = (false, eval a (F.X j).env) :: starEach [] (F.X j).env := by intro _; rfl) (hpl : ∀ j, (backTo pos (starEach [] (F.X j).env)).any (·.1) = false := by intro _; rfl) :
    DE F (.Call (.Name "any" p) [a] [] pos) (wUn dAny qa) := d_b1 (fun j => anyK (F.hK j) (F.calm j)) rc_any hm (by decide +kernel) ha hg (by decide) (by decide) hs hpl
theorem d_sum (hm : mg "sum" = none) (ha : DE F a qa) (hg : ∀ j, Gl (F.X j) "sum" := by intro _; rfl) (hs : ∀ j, starEach [a] (F.X j).env = (false, eval a (F.X j).env) :: starEach [] (F.X j).env := by intro _; rfl) (hpl : ∀ j, (backTo pos (starEach [] (F.X j).env)).any (·.1) = false := by intro _; rfl) :
    DE F (.Call (.Name "sum" p) [a] [] pos) (wUn dSum qa) := d_b1 (fun j => sumK (F.hK j) (F.calm j)) rc_sum hm (by decide +kernel) ha hg (by decide) (by decide) hs hpl
theorem d_max (hm : mg "max" = none) (ha : DE F a qa) (hb : DE F b qb) (hg : ∀ j, Gl (F.X j) "max" := by intro _; rfl) (hs : ∀ j, starEach [a, b] (F.X j).env = (false, eval a (F.X j).env) :: starEach [b] (F.X j).env := by intro _; rfl) (hs2 : ∀ j, starEach [b] (F.X j).env = (false, eval b (F.X j).env) :: starEach [] (F.X j).env := by intro _; rfl)
    (hpl : ∀ j, (backTo pos (starEach [b] (F.X j).env)).any (·.1) = false := by intro _; rfl) : DE F (.Call (.Name "max" p) [a, b] [] pos) (wBin dMax qa qb) := d_b2 (fun j => call_max2 (F.calm j)) rc_max hm (by decide +kernel) ha hb hg (by decide) (by decide) hs hs2 hpl
theorem d_min (hm : mg "min" = none) (ha : DE F a qa) (hb : DE F b qb) (hg : ∀ j, Gl (F.X j) "min" := by intro _; rfl) (hs : ∀ j, starEach [a, b] (F.X j).env = (false, eval a (F.X j).env) :: starEach [b] (F.X j).env := by intro _; rfl) (hs2 : ∀ j, starEach [b] (F.X j).env = (false, eval b (F.X j).env) :: starEach [] (F.X j).env := by intro _; rfl)
    (hpl : ∀ j, (backTo pos (starEach [b] (F.X j).env)).any (·.1) = false := by intro _; rfl) : DE F (.Call (.Name "min" p) [a, b] [] pos) (wBin dMin qa qb) := d_b2 (fun j => call_min2 (F.calm j)) rc_min hm (by decide +kernel) ha hb hg (by decide) (by decide) hs hs2 hpl
theorem lenRK {X : Cx} (h : X.K = K) : CallR X (.builtin "len") (fun xs H Q => ∃ x n, xs = [x] ∧ LenV K x H n ∧ Q (.int n) H) := by subst h; exact call_len
theorem d_lenO (i : Nat) (hm : mg "len" = none) (h : N[i]? = some x := by rfl) (hv : ∀ j, Vis (F.X j).env.scope x := by intro _; first | exact Or.inl rfl | exact Or.inr (Or.inl rfl) | exact Or.inr (Or.inr rfl))
    (hd : (x == ("__debug__" : Str)) = false := by decide) (hcd : (x == ("__classdict__" : Str)) = false := by decide) (hg : ∀ j, Gl (F.X j) "len" := by intro _; rfl) (hs : ∀ j, starEach [.Name x p2] (F.X j).env = (false, eval (.Name x p2) (F.X j).env) :: starEach [] (F.X j).env := by intro _; rfl) (hpl : ∀ j, (backTo pos (starEach [] (F.X j).env)).any (·.1) = false := by intro _; rfl) :
    DE F (.Call (.Name "len" p) [.Name x p2] [] pos) (wLenO i) :=
  ⟨_, fun j => pe_callB (lenRK (F.hK j)) (hg j) (by rw [F.hm j]; exact hm) (by decide +kernel) (pa_cons (pe_var (i := i) (by rw [F.hN j]; exact h) (hv j) hd hcd) pa_nil (hs j)) (by decide) (by decide) (hs j) (hpl j), ew_lenO⟩
/-! ### x, y, z = a, b, c -/
theorem sw_par3 {ta tb tc : TE} {i j l : Nat} (h1 : EW K W ta qa) (h2 : EW K W tb qb) (h3 : EW K W tc qc) : SW K W (tPar3 i j l (tCons ta (tCons tb (tCons tc tNil)))) (wPar3 i j l qa qb qc) := fun c pa G H σ ds P D E hw hx he =>
  h1 c pa G H σ ds _ _ _ E hw hx fun v G1 H1 d ds1 q S1 r1 => h2 c pa G1 H1 σ ds1 _ _ _ S1.env q hx fun w G2 H2 e ds2 q2 S2 r2 => h3 c pa G2 H2 σ ds2 _ _ _ S2.env q2 hx fun z G3 H3 f ds3 q3 S3 r3 =>
    ⟨v, w, z, rfl, he.nx pa G3 H3 _ _ q3 (((S3.env.setVal i ((r1.mono S2.sg).mono S3.sg)).setVal j (r2.mono S3.sg)).setVal l r3)⟩
theorem s_par3 (i l m : Nat) {kt k2 : Nat} (ha : DE F a qa) (hb : DE F b qb) (hc : DE F c qc) (hi : N[i]? = some x := by rfl) (hl : N[l]? = some y := by rfl) (hz0 : N[m]? = some z := by rfl) (hn : i ≠ l := by decide) (hn2 : i ≠ m := by decide) (hn3 : l ≠ m := by decide)
    (hx : ∀ j, (F.X j).env.scope.names.lookup x = some .local := by intro _; rfl) (hy : ∀ j, (F.X j).env.scope.names.lookup y = some .local := by intro _; rfl) (hz : ∀ j, (F.X j).env.scope.names.lookup z = some .local := by intro _; rfl)
    (hw : ∀ j, swappedStores [.Tuple [.Name x p, .Name y p2, .Name z p5] kt p3] (.Tuple [a, b, c] k2 p4) (F.X j).env = pure (some [x, y, z]) := by intro _; rfl) (hs : ∀ j, swapsWithSole [.Tuple [.Name x p, .Name y p2, .Name z p5] kt p3] (.Tuple [a, b, c] k2 p4) pos.line (F.X j).env = pure false := by intro _; rfl)
    (h1 : ∀ j, starEach [a, b, c] (F.X j).env = (false, eval a (F.X j).env) :: starEach [b, c] (F.X j).env := by intro _; rfl) (h2 : ∀ j, starEach [b, c] (F.X j).env = (false, eval b (F.X j).env) :: starEach [c] (F.X j).env := by intro _; rfl) (h3 : ∀ j, starEach [c] (F.X j).env = (false, eval c (F.X j).env) :: starEach [] (F.X j).env := by intro _; rfl) :
    DS1 F (.Assign [.Tuple [.Name x p, .Name y p2, .Name z p5] kt p3] (.Tuple [a, b, c] k2 p4) pos) (wPar3 i l m qa qb qc) := by
  obtain ⟨t, t1, t2⟩ := ha
  obtain ⟨u, u1, u2⟩ := hb
  obtain ⟨v, v1, v2⟩ := hc
  exact ⟨_, fun j => ps_par3 (F.calm j) (by rw [F.hN j]; exact F.nd) (by rw [F.hN j]; exact hi) (by rw [F.hN j]; exact hl) (by rw [F.hN j]; exact hz0) hn hn2 hn3 (hx j) (hy j) (hz j) (pa_cons (t1 j) (pa_cons (u1 j) (pa_cons (v1 j) pa_nil (h3 j)) (h2 j)) (h1 j)) (hw j) (hs j), sw_par3 t2 u2 v2⟩
/-! ### range(a, b) -/
theorem s_forR2 {p pp : Pos} (hm : mg "range" = none) (he : DE F a qa) (he2 : DE F b qb) (hg : DG F e g) (h1 : DSs F s1 ws) (hgl : ∀ j, Gl (F.X j) "range" := by intro _; rfl) (hs : ∀ j, starEach [a, b] (F.X j).env = [(false, eval a (F.X j).env), (false, eval b (F.X j).env)] := by intro _; rfl) (hs2 : ∀ j, starEach [b] (F.X j).env = [(false, eval b (F.X j).env)] := by intro _; rfl)
    (hf : ∀ j, ∀ x, foldedSetIterable (.Call (.Name "range" p) [a, b] [] pp) (F.X j).env x = pure x := by intro _ _; rfl) : DS1 F (.For e (.Call (.Name "range" p) [a, b] [] pp) s1 [] pos) (wForR [qa, qb] g ws) := by
  obtain ⟨t, t1, t2⟩ := he
  obtain ⟨t', t1', t2'⟩ := he2
  obtain ⟨g, g1, g2⟩ := hg
  obtain ⟨u, u1, u2⟩ := h1
  exact ⟨_, fun j => ps_for (F.po j) (F.calm j) (pi_range2 (hgl j) (by rw [F.hm j]; exact hm) (pa_cons (t1 j) (pa_cons (t1' j) pa_nil (hs2 j)) ((hs j).trans (by rw [hs2 j]))) (hs j) (hs2 j)) (g1 j) (u1 j) (hf j), sw_forR2 t2 t2' g2 u2⟩
theorem o_lcR2 (own : List (Str × Nat)) {scope : Scope} {p pp : Pos} (hm : mg "range" = none) (hi : DE F a qa) (hi2 : DE F b qb) (hg : DG (F.blk scope) tg g) (ht : DTs (F.blk scope) es q) (he : DE (F.blk scope) e qe) (ok : ∀ j, BlkOk N (F.X j).env.scope scope own) (hn : ∀ i ∈ tgn g, i ∈ own.map (·.2) := by decide)
    (hgl : ∀ j, Gl (F.X j) "range" := by intro _; rfl) (h1 : ∀ j, starEach [a, b] (F.X j).env = [(false, eval a (F.X j).env), (false, eval b (F.X j).env)] := by intro _; rfl) (h2 : ∀ j, starEach [b] (F.X j).env = [(false, eval b (F.X j).env)] := by intro _; rfl)
    (hs : ∀ j, ∀ x, foldedSetIterable (.Call (.Name "range" p) [a, b] [] pp) (F.X j).env x = pure x := by intro _ _; rfl) : DO F (.ListComp e [⟨tg, .Call (.Name "range" p) [a, b] [] pp, es, 0⟩] scope pos) (wLcR [qa, qb] g (own.map (·.2)) q qe) := by
  obtain ⟨t, t1, t2⟩ := hi
  obtain ⟨t', t1', t2'⟩ := hi2
  obtain ⟨gg, g1, g2⟩ := hg
  obtain ⟨u, u1, u2⟩ := ht
  obtain ⟨v, v1, v2⟩ := he
  exact ⟨_, fun j => pe_lc (F.calm j) (by rw [F.hN j]; exact F.nd) (pi_range2 (hgl j) (by rw [F.hm j]; exact hm) (pa_cons (t1 j) (pa_cons (t1' j) pa_nil (h2 j)) ((h1 j).trans (by rw [h2 j]))) (h1 j) (h2 j)) (by rw [F.hN j]; exact ok j) (fun s H C cl fp => g1 (j, s, H, C, cl, fp)) (fun s H C cl fp => u1 (j, s, H, C, cl, fp)) (fun s H C cl fp => v1 (j, s, H, C, cl, fp)) (hs j),
    eo_lcR2 t2 t2' g2 u2 v2 hn⟩
end
theorem ints_reps {K : PySem.W.Frag} {G : Hp} : ∀ ns : List Int, Reps K G (ns.map .int) (ns.map V.int)
  | [] => rfl
  | n :: r => ⟨_, _, rfl, rfl, ints_reps r⟩
/-- the law's call -/
theorem law_sp {K : PySem.W.Frag} {H : Hp} {a : Addr} {ns : List Int} {fs : FS} (hf : fs [.val (.lst (ns.map .int))] fun o _ => o = .ret (.val (.bl true))) (hS : SqL K H a (ns.map V.int)) : spOf K fs [.ref a] H (fun v _ => v = .bl true) fun _ _ _ => False := by
  refine ⟨H, fun _ => 0, _, _, fun _ _ q => q, ⟨rfl, fun i dv e => ?_, fun i j xs ys e => ?_⟩, hf, fun v r dvs' G' H' e _ R => ?_, fun e cls d dvs' G' H' q => by cases q⟩
  · cases i with
    | zero =>
      have e := Option.some.inj e
      subst e
      exact ⟨_, rfl, _, _, rfl, hS, ints_reps ns⟩
    | succ i => cases e
  · cases i with
    | zero => cases e
    | succ i => cases e
  · injection e with e
    subst e
    exact R
end DW

/-! DwL: plain lemmas for promises over data: bounds, choices, remainders. -/
namespace DW
open PySem

/-- below 2^n in size -/
def Bd (n : Nat) (i : Int) : Prop := i.natAbs < 2 ^ n
theorem Bd.mono {n m : Nat} {i : Int} (h : Bd n i) (l : n ≤ m) : Bd m i := Nat.lt_of_lt_of_le h (Nat.pow_le_pow_right (by decide) l)
theorem Bd.add {n : Nat} {i j : Int} (h : Bd n i) (h' : Bd n j) : Bd (n + 1) (i + j) := by
  unfold Bd at *
  have : (i + j).natAbs ≤ i.natAbs + j.natAbs := Int.natAbs_add_le i j
  rw [Nat.pow_succ]
  omega
theorem Bd.sub {n : Nat} {i j : Int} (h : Bd n i) (h' : Bd n j) : Bd (n + 1) (i - j) := by
  unfold Bd at *
  have : (i - j).natAbs ≤ i.natAbs + j.natAbs := Int.natAbs_sub_le i j
  rw [Nat.pow_succ]
  omega
theorem Bd.mul {n m : Nat} {i j : Int} (h : Bd n i) (h' : Bd m j) : Bd (n + m) (i * j) := by
  unfold Bd at *
  rw [Int.natAbs_mul, Nat.pow_add]
  exact Nat.mul_lt_mul_of_lt_of_le h (Nat.le_of_lt h') (Nat.lt_of_le_of_lt (Nat.zero_le _) h')
theorem Bd.neg {n : Nat} {i : Int} (h : Bd n i) : Bd n (-i) := by
  unfold Bd at *
  rw [Int.natAbs_neg]
  exact h
theorem Bd.of {n : Nat} {i : Int} (h : -(2 ^ n : Int) < i) (h' : i < 2 ^ n) : Bd n i := by
  unfold Bd
  have e : ((2 ^ n : Nat) : Int) = 2 ^ n := by rw [Int.natCast_pow]; rfl
  omega
theorem Bd.le {n : Nat} {i j : Int} (h : Bd n j) (l : i.natAbs ≤ j.natAbs) : Bd n i := Nat.lt_of_le_of_lt l h
theorem log2_lt {n i : Nat} (hn : 0 < n) (h : i < 2 ^ n) : i.log2 < n := by
  by_cases h0 : i = 0
  · subst h0
    simpa using hn
  · exact (Nat.log2_lt h0).mpr h
theorem mulOk {n m : Nat} {i j : Int} (h : Bd n i) (h' : Bd m j) (l : n + m ≤ 1000000 := by decide) : MulOk i j := by
  unfold MulOk
  have h1 : i.natAbs.log2 ≤ n := by
    by_cases h0 : i.natAbs = 0
    · rw [h0]
      simp
    · exact Nat.le_of_lt ((Nat.log2_lt h0).mpr h)
  by_cases h0 : j.natAbs = 0
  · by_cases h2 : i.natAbs = 0
    · rw [h0, h2]
      simp
    · have := (Nat.log2_lt h2).mpr h
      rw [h0]
      simp
      omega
  · have := (Nat.log2_lt h0).mpr h'
    omega
theorem divOk {n : Nat} {j : Int} (h0 : j ≠ 0) (h : Bd n j) (l : n ≤ 9000 := by decide) : DivOk j :=
  ⟨h0, Nat.lt_of_lt_of_le ((Nat.log2_lt (by omega)).mpr h) l⟩
theorem ite_both {c : Prop} [Decidable c] {A B : Prop} (h1 : c → A) (h2 : ¬ c → B) : if c then A else B := by
  split
  · exact h1 ‹_›
  · exact h2 ‹_›
theorem fmod_rng {a b : Int} (h : 0 < b) : 0 ≤ a.fmod b ∧ a.fmod b < b := ⟨Int.fmod_nonneg_of_pos a h, Int.fmod_lt_of_pos a h⟩
theorem fdiv_nonneg {a b : Int} (h : 0 ≤ a) (h' : 0 < b) : 0 ≤ a.fdiv b := Int.fdiv_nonneg h (Int.le_of_lt h')
theorem fdiv_le {a b : Int} (h : 0 ≤ a) (h' : 0 < b) : a.fdiv b ≤ a := by
  rw [Int.fdiv_eq_ediv_of_nonneg a (Int.le_of_lt h')]
  exact Int.ediv_le_self b h
/-! ### what may be compared -/
theorem shp_int (i : Int) : Shp (.int i) := ⟨rfl, Nat.le_of_ble_eq_true rfl⟩
theorem shp_bl (i : Bool) : Shp (.bl i) := ⟨rfl, Nat.le_of_ble_eq_true rfl⟩
theorem shp_pr (i j : Int) : Shp (.tup [.int i, .int j]) := ⟨rfl, Nat.le_of_ble_eq_true rfl⟩
theorem shp_prs (i j i' j' : Int) : Shp (.tup [.tup [.int i, .int j], .tup [.int i', .int j']]) := ⟨rfl, Nat.le_of_ble_eq_true rfl⟩
theorem deq_int (i j : Int) : deq (.int i) (.int j) = (i == j) := rfl
theorem deq_pr (i j i' j' : Int) : deq (.tup [.int i, .int j]) (.tup [.int i', .int j']) = (i == i' && (j == j' && true)) := rfl
mutual
theorem deq_refl : ∀ d : D, deq d d = true
  | .non => rfl
  | .bl b => by show (b == b) = true; simp
  | .int i => by show (i == i) = true; simp
  | .str s => by show (s == s) = true; exact BEq.rfl
  | .lst xs => deqs_refl xs
  | .tup xs => deqs_refl xs
theorem deqs_refl : ∀ ds : List D, deqs ds ds = true
  | [] => rfl
  | d :: r => by show (deq d d && deqs r r) = true; rw [deq_refl d, deqs_refl r]; rfl
end
theorem eq_int {i j : Int} (h : deq (.int i) (.int j) = true) : i = j := by simpa [deq_int] using h
theorem eq_int' {i j : Int} (h : ¬ deq (.int i) (.int j) = true) : i ≠ j := by simpa [deq_int] using h
theorem ne_int {i j : Int} (h : (!deq (.int i) (.int j)) = true) : i ≠ j := by simpa [deq_int] using h
theorem ne_int' {i j : Int} (h : ¬ (!deq (.int i) (.int j)) = true) : i = j := by simpa [deq_int] using h
theorem not_self {d : D} {A : Prop} (h : (!deq d d) = true) : A := by rw [deq_refl] at h; cases h
theorem is_lt {i j : Int} (h : decide (i < j) = true) : i < j := of_decide_eq_true h
theorem is_le {i j : Int} (h : decide (i ≤ j) = true) : i ≤ j := of_decide_eq_true h
theorem no_lt {i j : Int} (h : ¬ decide (i < j) = true) : j ≤ i := Int.not_lt.mp fun z => h (decide_eq_true z)
theorem no_le {i j : Int} (h : ¬ decide (i ≤ j) = true) : j < i := Int.not_le.mp fun z => h (decide_eq_true z)
theorem ite_yes {c : Bool} {A B : Prop} (e : c = true) (h : A) : if c = true then A else B := by rw [if_pos e]; exact h
theorem ite_no {c : Bool} {A B : Prop} (e : c = false) (h : B) : if c = true then A else B := by rw [if_neg (by rw [e]; decide)]; exact h
/-! ### the greatest common part -/
theorem abs_eq (a : Int) : (if a < 0 then -a else a) = (a.natAbs : Int) := by split <;> omega
theorem gcd_step (a b : Int) (hb : 0 ≤ b) : Int.gcd b (a.fmod b) = Int.gcd a b := by
  rw [Int.fmod_eq_emod_of_nonneg a hb]
  have e : a = a % b + b * (a / b) := (Int.emod_add_mul_ediv a b).symm
  conv => rhs; rw [e, Int.gcd_comm]
  rw [Int.gcd_add_mul_left_right]
theorem gcd_abs (a b : Int) : Int.gcd (a.natAbs : Int) (b.natAbs : Int) = Int.gcd a b := by unfold Int.gcd; simp
theorem dvd_of_gcd {k m n : Int} (h : Int.gcd k m = 1) (d : k ∣ m * n) : k ∣ n := by
  have := Nat.Coprime.dvd_of_dvd_mul_left (k := k.natAbs) (m := m.natAbs) (n := n.natAbs) h (by rw [← Int.natAbs_mul]; exact Int.natAbs_dvd_natAbs.mpr d)
  exact Int.natAbs_dvd_natAbs.mp this
end DW

/-! DwK: parts of lists, sums of lists, chains, calls by name, lists made for a call. -/
namespace DW
open PySem PySem.Spec PyProof.Rows L2

/-! ### parts of lists -/
theorem cutAt_eq (n d : Nat) : ∀ o : Option Int, HT.sIx n d o = cutAt n d o
  | none => rfl
  | some i => by
    show (if i < 0 then (i + (n : Int)).toNat else min i.toNat n) = if 0 ≤ i then min i.toNat n else ((n : Int) + i).toNat
    by_cases h : 0 ≤ i
    · rw [if_pos h, if_neg (by omega)]
    · rw [if_neg h, if_pos (by omega), Int.add_comm]
theorem cutV_eq (xs : List V) (lo hi : Option Int) : cutV xs lo hi = cutD xs lo hi := by
  unfold cutV cutD
  rw [cutAt_eq, cutAt_eq]
section
variable {K : PySem.W.Frag} {G : Hp}
theorem Reps.drop : ∀ {ds : List D} {vs : List V} (n : Nat), Reps K G ds vs → Reps K G (ds.drop n) (vs.drop n)
  | ds, vs, 0, h => h
  | [], vs, n + 1, h => by
    have h : vs = [] := h
    rw [h]
    rfl
  | d :: ds, vs, n + 1, h => by
    obtain ⟨x, xs, e, _, h2⟩ := h
    rw [e]
    exact Reps.drop n h2
theorem Reps.take : ∀ {ds : List D} {vs : List V} (n : Nat), Reps K G ds vs → Reps K G (ds.take n) (vs.take n)
  | ds, vs, 0, h => rfl
  | [], vs, n + 1, h => by
    have h : vs = [] := h
    rw [h]
    rfl
  | d :: ds, vs, n + 1, h => by
    obtain ⟨x, xs, e, h1, h2⟩ := h
    rw [e]
    exact ⟨x, _, rfl, h1, Reps.take n h2⟩
theorem Reps.append : ∀ {ds es : List D} {vs ws : List V}, Reps K G ds vs → Reps K G es ws → Reps K G (ds ++ es) (vs ++ ws)
  | [], es, vs, ws, h, q => by
    have h : vs = [] := h
    rw [h]
    exact q
  | d :: ds, es, vs, ws, h, q => by
    obtain ⟨x, xs, e, h1, h2⟩ := h
    rw [e]
    exact ⟨x, _, rfl, h1, Reps.append h2 q⟩
theorem Reps.reverse : ∀ {ds : List D} {vs : List V}, Reps K G ds vs → Reps K G ds.reverse vs.reverse
  | [], vs, h => by
    have h : vs = [] := h
    rw [h]
    rfl
  | d :: ds, vs, h => by
    obtain ⟨x, xs, e, h1, h2⟩ := h
    rw [e, List.reverse_cons, List.reverse_cons]
    exact (Reps.reverse h2).append ⟨x, [], rfl, h1, rfl⟩
theorem Reps.cut {ds : List D} {vs : List V} (lo hi : Option Int) (h : Reps K G ds vs) : Reps K G (cutD ds lo hi) (cutD vs lo hi) := by
  unfold cutD
  rw [h.len]
  exact (h.drop _).take _
theorem Reps.pick {ds : List D} {vs : List V} (h : Reps K G ds vs) : ∀ ix : List Nat, Reps K G (pick ix ds) (pick ix vs)
  | [] => rfl
  | i :: r => by
    unfold DW.pick
    cases e : ds[i]? with
    | none =>
      have e2 : vs[i]? = none := by
        rw [List.getElem?_eq_none_iff] at e ⊢
        rw [← h.len]
        exact e
      rw [List.filterMap_cons, List.filterMap_cons, e, e2]
      exact Reps.pick h r
    | some d =>
      obtain ⟨v, e2, rv⟩ := h.get e
      rw [List.filterMap_cons, List.filterMap_cons, e, e2]
      exact ⟨v, _, rfl, rv, Reps.pick h r⟩
end
/-! ### list + list, whatever lists -/
def rCatL (K : PySem.W.Frag) : R2 := fun x y H Q => ∃ a b xs ys, x = .ref a ∧ y = .ref b ∧ SqL K H a xs ∧ SqL K H b ys ∧ xs.length + ys.length ≤ sizeLine ∧ ∀ p, H p = none → Q (.ref p) (upd H p (.lst (xs ++ ys)))
theorem op_catL {X : Cx} : OpR X (binaryOp .Add) (rCatL X.K) := by
  intro pins s σ H x y v u Q I rx ry h
  obtain ⟨a, b, xs, ys, rfl, rfl, hA, hB, hz, q⟩ := h
  cases rx
  cases ry
  obtain ⟨its, r, ht, z1⟩ := I.list hA
  obtain ⟨its2, r2, ht2, z2⟩ := I.list hB
  obtain ⟨⟨cls, dd, data, sl⟩, n, ho, hc, hdd, hd⟩ := ht
  obtain ⟨⟨cls2, dd2, data2, sl2⟩, n2, ho2, hc2, hdd2, hd2⟩ := ht2
  simp only at hc hdd hd hc2 hdd2 hd2
  subst hc hdd hd hc2 hdd2 hd2
  refine concat_meets ⟨_, ho, rfl⟩ ⟨_, ho2, rfl⟩ noFill_list_add seq_list_add PySem.F.slot_list_add PySem.F.entry_list_add (PySem.F.args_list_add_2 _ _) (list_addW a b its.toArray its2.toArray n n2 _ _ sl sl2 (by rw [List.size_toArray, List.size_toArray, ← r.length, ← r2.length]; exact hz)) ⟨ho, ho2, ?_⟩
  have e : its.toArray ++ its2.toArray = (its ++ its2).toArray := by simp
  rw [e]
  refine ⟨.ref s.heap.objs.size, _, I.laid (t' := s.toks) (o := .lst (xs ++ ys)) (fun b ob q => Heap.get?_push_of_some _ q) (Nat.le_refl _) ?_, rfl, q _ (I.hok.fresh (Nat.le_refl _))⟩
  exact ⟨by rw [List.length_append]; exact hz, _, 0, r.append r2, Heap.get?_push_size _ rfl⟩
/-! ### xs[-2::-1] -/
def tRev2 (K : PySem.W.Frag) (te : TE) : TE := fun σ H Q => te σ H fun x H1 => ∃ a xs, x = .ref a ∧ SqL K H1 a xs ∧ ∀ p, H1 p = none → Q (.ref p) (upd H1 p (.lst xs.dropLast.reverse))
theorem pick_rev2 (items : Array Value) : slicePick items (some (-2)) none (some (-1)) = items.toList.dropLast.reverse.toArray := by
  have hb : sliceBounds (some (-2)) none (some (-1)) items.size = (((items.size - 1 : Nat) : Int) - 1, -1, -1) := by
    have e : sliceBounds (some (-2)) none (some (-1)) items.size = (max (-1) (min (-2 + (items.size : Int)) ((items.size : Int) - 1)), -1, -1) := by
      first
      | rfl
      | simp [sliceBounds]
    rw [e]
    have : max (-1) (min (-2 + (items.size : Int)) ((items.size : Int) - 1)) = ((items.size - 1 : Nat) : Int) - 1 := by omega
    rw [this]
  unfold slicePick
  rw [hb]
  show ((sliceRange (((items.size - 1 : Nat) : Int) - 1) (-1) (-1)).filterMap (items[·]?)).toArray = _
  rw [PySem.W.krv_sliceRange, PySem.W.krv_range, List.filterMap_reverse]
  have h := pick_run items 0 (items.size - 1)
  have e : (List.range (items.size - 1)).map (0 + ·) = List.range (items.size - 1) := by
    rw [show ((0 + ·) : Nat → Nat) = id from funext fun k => Nat.zero_add k, List.map_id]
  rw [e, List.drop_zero] at h
  rw [h, List.dropLast_eq_take, Array.length_toList]
theorem pe_rev2 {X : Cx} {e : Expr} {te : TE} {k k2 : Nat} {p1 p2 p3 p4 p5 pos : Pos} (he : PE X e te) : PE X (.Subscript e (.Slice (some (.UnaryOp .USub (.Constant (.int 2) k2 p4) p5)) none (some (.UnaryOp .USub (.Constant (.int 1) k p1) p2)) p3) pos) (tRev2 X.K te) := by
  refine ⟨fun pins s σ H Q I h => ?_⟩
  refine Subscript_ (thn (he.run pins s σ H _ I h) fun v s1 ⟨x, H1, I1, r1, q1⟩ => ?_)
  obtain ⟨a, xs, ex, hx, q⟩ := q1
  subst ex
  cases r1
  have neg : ∀ (n : Int) (k : Nat) (p1 p2 : Pos), PO X (some (.UnaryOp .USub (.Constant (.int n) k p1) p2)) (tPart (tUn (rU fun i => .int (-i)) (tC (.int n)))) := fun n k p1 p2 => po_some (pe_un un_neg pe_int)
  refine wpAny_Slice (thn ((neg 2 k2 p4 p5).run pins s1 σ H1 (fun o H2 => o = some (-2) ∧ H2 = H1) I1 ⟨2, rfl, -2, rfl, rfl, rfl⟩) fun vl s2 ⟨l, H2, I2, pl, el, e2⟩ => ?_)
  subst el e2
  refine thn (po_none.run pins s2 σ H2 (fun o H3 => o = none ∧ H3 = H2) I2 ⟨rfl, rfl⟩) fun vu s3 ⟨u, H3, I3, pu, eu, e3⟩ => ?_
  subst eu e3
  refine thn ((neg 1 k p1 p2).run pins s3 σ H3 (fun o H4 => o = some (-1) ∧ H4 = H3) I3 ⟨1, rfl, -1, rfl, rfl, rfl⟩) fun vs s4 ⟨o, H4, I4, ps, eo, e4⟩ => ?_
  subst eo e4
  have I5 : Inv X pins σ H4 { s4 with heap := s4.heap.push { cls := .type "slice", data := .fields #[vl, vu, vs] } } := I4.kept (t' := s4.toks) fun b ob q => Heap.get?_push_of_some _ q
  obtain ⟨its, r, ht, hz⟩ := I5.list hx
  have hlen := r.length
  have hd : Vals xs.dropLast its.dropLast := by
    rw [List.dropLast_eq_take, List.dropLast_eq_take, ← hlen]
    exact r.take _
  show wpAny (model X.prog X.w) X.A (subscriptTail e (.Slice (some (.UnaryOp .USub (.Constant (.int 2) k2 p4) p5)) none (some (.UnaryOp .USub (.Constant (.int 1) k p1) p2)) p3) (.ref a) (.ref s4.heap.objs.size)) (EP X pins σ Q) X.xe _
  refine tail_any (ops := [.ref a, .ref s4.heap.objs.size]) ht.isList.typeIs (PySem.slot_list_getitem.lookup) ?_ (by with_unfolding_all rfl)
  refine wpAny_getItem_list_slice ht.isList (Heap.IsSliceOf.new _ vl vu vs) pl pu ps (by decide) ?_ (by rw [List.size_toArray]; omega)
  rw [pick_rev2]
  refine ⟨.ref _, _, I5.laid (t' := s4.toks) (o := .lst xs.dropLast.reverse) (fun b ob q => Heap.get?_push_of_some _ q) (Nat.le_refl _) ?_, rfl, q _ (I5.hok.fresh (Nat.le_refl _))⟩
  exact ⟨by rw [List.length_reverse, List.length_dropLast]; omega, _, 0, hd.reverse, Heap.get?_push_size _ rfl⟩
/-! ### readings -/
section
variable {K : PySem.W.Frag} {W : WX} {ta0 : TA} {ta tb tc te : TE} {a b qc : WE} {o : WO} {c : C0} {pa : Nat → Addr} {G H G' H' : Hp} {σ : L2.St} {ds : DS}
/-- a new list behind what was run -/
theorem Stp.made {vs : List V} {xs : List D} {ds1 : DS} {G1 H1 : Hp} {p : Addr} (S1 : Stp K c pa σ G H ds G1 H1 ds1) (hp : H1 p = none) (r : Reps K G1 xs vs) : Stp K c pa σ G H ds G1 (upd H1 p (.lst vs)) ds1 ∧ Tmp K c pa G1 (upd H1 p (.lst vs)) ds1 p xs ∧ H p = none := by
  obtain ⟨S2, t2⟩ := Stp.newOwn S1.env hp r
  refine ⟨S1.trans S2, t2, ?_⟩
  cases z : H p with
  | none => rfl
  | some o => exact absurd hp (S1.dom p (by rw [z]; exact fun y => nomatch y))
theorem eo_cat (ha : EW K W ta a) (hb : EW K W tb b) : EO K W (tOp (rCatL K) ta tb) (wCat a b) := fun c pa G H σ ds xk kk Q E hw hx k => by
  refine ha c pa G H σ ds xk _ _ E hw hx fun x G1 H1 d ds1 q S1 r1 => ?_
  refine hb c pa G1 H1 σ ds1 xk _ _ S1.env q hx fun y G2 H2 e ds2 q2 S2 r2 => ?_
  cases d with
  | lst xs =>
    cases e with
    | lst ys =>
      obtain ⟨hz, q2⟩ := q2
      obtain ⟨p1, vs, e1, h1, m1⟩ := Rep.mono S2.sg r1
      obtain ⟨p2, ws, e2, h2, m2⟩ := r2
      refine ⟨p1, p2, vs, ws, e1, e2, L2.Same.seq S2.env.ex h1, L2.Same.seq S2.env.ex h2, by rw [← m1.len, ← m2.len]; exact Nat.le_trans hz (by decide), fun p hp => ?_⟩
      obtain ⟨S, t, n⟩ := (S1.trans S2).made hp (m1.append m2)
      exact k p _ _ _ _ q2 S t n
    | _ => exact (show False from q2).elim
  | _ => exact (show False from q2).elim
theorem eo_rev (ha : EW K W ta a) : EO K W (tRevL K ta) (wRev a) := fun c pa G H σ ds xk kk Q E hw hx k => by
  refine ha c pa G H σ ds xk _ _ E hw hx fun x G1 H1 d ds1 q S1 r1 => ?_
  cases d with
  | lst xs =>
    obtain ⟨p1, vs, e1, h1, m1⟩ := r1
    refine ⟨p1, vs, e1, L2.Same.seq S1.env.ex h1, fun p hp => ?_⟩
    obtain ⟨S, t, n⟩ := S1.made hp m1.reverse
    exact k p _ _ _ _ q S t n
  | _ => exact (show False from q).elim
theorem eo_rev2 (ha : EW K W ta a) : EO K W (tRev2 K ta) (wRev2 a) := fun c pa G H σ ds xk kk Q E hw hx k => by
  refine ha c pa G H σ ds xk _ _ E hw hx fun x G1 H1 d ds1 q S1 r1 => ?_
  cases d with
  | lst xs =>
    obtain ⟨p1, vs, e1, h1, m1⟩ := r1
    refine ⟨p1, vs, e1, L2.Same.seq S1.env.ex h1, fun p hp => ?_⟩
    have r2 : Reps K G1 xs.dropLast vs.dropLast := by
      rw [List.dropLast_eq_take, List.dropLast_eq_take, ← m1.len]
      exact m1.take _
    obtain ⟨S, t, n⟩ := S1.made hp r2.reverse
    exact k p _ _ _ _ q S t n
  | _ => exact (show False from q).elim
/-- a slice's part -/
def PWt (K : PySem.W.Frag) (W : WX) (tl : TO) (w : WPt) : Prop := ∀ (c : C0) pa G H σ ds xk (kk : Option Int → DS → Prop) (Q : Option Int → Hp → Prop), Env K c pa G H σ ds → w xk ds kk → XOk K c W xk →
  (∀ o G' H' ds', kk o ds' → Stp K c pa σ G H ds G' H' ds' → Q o H') → tl σ H Q
theorem pw_no : PWt K W tNoPart wNoP := fun c pa G H σ ds xk kk Q E hw hx k => k none G H ds hw (.refl E)
theorem pw_p (ha : EW K W ta a) : PWt K W (tPart ta) (wP a) := fun c pa G H σ ds xk kk Q E hw hx k => by
  refine ha c pa G H σ ds xk _ _ E hw hx fun x G1 H1 d ds1 q S1 r1 => ?_
  cases d with
  | int i => exact ⟨i, r1, k (some i) G1 H1 ds1 q S1⟩
  | _ => exact (show False from q).elim
theorem eo_cut {tl th : TO} {lo hi : WPt} (ha : EW K W ta a) (hl : PWt K W tl lo) (hh : PWt K W th hi) : EO K W (tSl (rSlL K) ta tl th) (wCut a lo hi) := fun c pa G H σ ds xk kk Q E hw hx k => by
  refine ha c pa G H σ ds xk _ _ E hw hx fun x G1 H1 d ds1 q S1 r1 => ?_
  refine hl c pa G1 H1 σ ds1 xk _ _ S1.env q hx fun l G2 H2 ds2 q2 S2 => ?_
  refine hh c pa G2 H2 σ ds2 xk _ _ S2.env q2 hx fun u G3 H3 ds3 q3 S3 => ?_
  cases d with
  | lst xs =>
    obtain ⟨p1, vs, e1, h1, m1⟩ := Rep.mono (S2.trans S3).sg r1
    refine ⟨p1, vs, e1, L2.Same.seq S3.env.ex h1, fun p hp => ?_⟩
    rw [cutV_eq]
    obtain ⟨S, t, n⟩ := (S1.trans (S2.trans S3)).made hp (m1.cut l u)
    exact k p _ _ _ _ q3 S t n
  | _ => exact (show False from q3).elim
theorem ew_chain {r r' : R2} {f g : B2} (hr : RW2 K r f) (hr' : RW2 K r' g) (ha : EW K W ta a) (hb : EW K W tb b) (hc : EW K W tc qc) : EW K W (tChain r r' ta tb tc) (wChain f g a b qc) := fun c pa G H σ ds xk kk Q E hw hx k => by
  refine ha c pa G H σ ds xk _ _ E hw hx fun x G1 H1 d ds1 q S1 r1 => ?_
  refine hb c pa G1 H1 σ ds1 xk _ _ S1.env q hx fun y G2 H2 e ds2 q2 S2 r2 => ?_
  refine hr G2 H2 x y d e _ _ S2.env.ex (r1.mono S2.sg) r2 q2 fun z v hz rz => ?_
  cases z with
  | bl t =>
    refine ⟨t, rz, ?_⟩
    cases t with
    | false =>
      rw [if_neg Bool.false_ne_true]
      exact k _ G2 H2 _ ds2 hz (S1.trans S2) rfl
    | true =>
      rw [if_pos rfl]
      refine hc c pa G2 H2 σ ds2 xk _ _ S2.env hz hx fun w G3 H3 u ds3 q3 S3 r3 => ?_
      exact hr' G3 H3 y w e u _ Q S3.env.ex (r2.mono S3.sg) r3 q3 fun z v hz rz => k v G3 H3 z ds3 hz ((S1.trans S2).trans S3) rz
  | _ => exact (show False from hz).elim
/-- behind a call that was lent a list of no slot -/
theorem Stp.calledT {p : Addr} {xs : List D} {dvs' : List DV} {ds1 : DS} {G1 H1 : Hp} (S : Stp K c pa σ G H ds G1 H1 ds1) (n : H p = none) (t : Tmp K c pa G1 H1 ds1 p xs) (B : Back K G1 H1 G' H' (fun _ => p) [.par xs] dvs') : Stp K c pa σ G H ds G' H' ds1 := by
  have E := S.env
  have away : ∀ a o, H1 a = some o → a ≠ p → H' a = some o := fun a o h n => B.fr a o h fun _ _ _ => n
  have slot : ∀ i dv, gt ds1 i = some dv → isO dv = true → ∀ o, H1 (pa i) = some o → H' (pa i) = some o := fun i dv h o u w => away _ _ w (t.ne i dv h o)
  refine ⟨⟨B.ex, fun a o h w => away a o (E.fr a o h w) fun e => ?_, fun a h => B.dom a (E.dom a h), E.ge.trans B.gg, fun a h => (B.gf a (E.dom a h)).trans (E.gf a h), E.len, fun i dv h => ?_, E.inj, E.ps⟩, S.sg.trans B.gg, fun a o h m => ?_, S.sub, fun a h => B.dom a (S.dom a h)⟩
  · have h0 := t.h0
    rw [← e, h] at h0
    cases h0
  · have s := E.sl i dv h
    cases dv with
    | val d =>
      obtain ⟨v, e1, r⟩ := s
      exact ⟨v, e1, r.mono B.gg⟩
    | own xs =>
      obtain ⟨s1, s2, s3, vs, s4, s5⟩ := s
      exact ⟨s1, (B.gf _ (by rw [s4]; exact fun z => nomatch z)).trans s2, s3, vs, slot i _ h rfl _ s4, s5.mono B.gg⟩
    | par xs =>
      obtain ⟨s1, s2, s3, vs, s4, s5⟩ := s
      exact ⟨s1, (B.gf _ (by rw [s4]; exact fun z => nomatch z)).trans s2, s3, vs, slot i _ h rfl _ s4, s5.mono B.gg⟩
  · obtain ⟨e1, e2⟩ := S.fr a o h m
    refine ⟨away a o e1 fun e => ?_, (B.gf a (by rw [e1]; exact fun z => nomatch z)).trans e2⟩
    rw [e, n] at h
    cases h
theorem args_one {p : Addr} {xs : List D} (g : G p = none) (h : ∃ vs, H p = some (.lst vs) ∧ Reps K G xs vs) : Args K G H (fun _ => p) [.ref p] [.par xs] := by
  refine ⟨rfl, fun i dv e => ?_, fun i j xs ys e e' n => ?_⟩
  · cases i with
    | zero =>
      have e := Option.some.inj e
      subst e
      exact ⟨rfl, g, h⟩
    | succ i => cases e
  · cases i with
    | zero =>
      cases j with
      | zero => exact absurd rfl n
      | succ j => cases e'
    | succ i => cases e
theorem ew_callT {fs : FS} (h : EO K W te o) : EW K W (tCallSD (spOf K fs) [] (L2.WE W) (tCons te tNil)) (wCallT fs o) := fun c pa G H σ ds xk kk Q E hw hx k => by
  refine h c pa G H σ ds xk _ _ E hw hx fun p G1 H1 xs ds1 q S1 t1 n1 => ?_
  refine ⟨G1, fun _ => p, [.par xs], _, S1.env.ex, args_one t1.g t1.here, q, fun v r dvs' G' H' hk B R => ?_, fun e cls d dvs' G' H' hk B X => ?_⟩
  · have S := S1.calledT n1 t1 B
    cases r with
    | val d => exact k v G' H' d ds1 hk S R
    | own ys =>
      obtain ⟨p2, rfl, p0, p1, hp⟩ := R
      have t : Tmp K c pa G' H' ds1 p2 ys := ⟨p1, by
        cases z : c.H0 p2 with
        | none => rfl
        | some o => exact absurd p0 (S1.env.dom p2 (by rw [z]; exact fun z => nomatch z)), hp, fun i dv hi o z => S1.env.ownNe hi o (z ▸ p0)⟩
      obtain ⟨G2, S2, r2⟩ := S.freeze t (by
        cases z : H p2 with
        | none => rfl
        | some o => exact absurd p0 (S1.dom p2 (by rw [z]; exact fun z => nomatch z)))
      exact k _ G2 H' _ ds1 hk S2 r2
    | par _ => exact (show False from hk).elim
  · exact hx e _ hk pa G' H' σ cls d (S1.calledT n1 t1 B).env X
/-! ### calls by name -/
/-- behind a call that was given data only -/
theorem Stp.calledK {l : List D} {dvs' : List DV} {ds1 : DS} {G1 H1 : Hp} (S : Stp K c pa σ G H ds G1 H1 ds1) (B : Back K G1 H1 G' H' (fun _ => 0) (l.map .val) dvs') : Stp K c pa σ G H ds G' H' ds1 := by
  have E := S.env
  have non : ∀ (i : Nat) xs, (l.map DV.val)[i]? ≠ some (.par xs) := fun i xs e => by
    rw [List.getElem?_map] at e
    cases q : l[i]? with
    | none => rw [q] at e; cases e
    | some d => rw [q] at e; cases (Option.some.inj e : DV.val d = DV.par xs)
  have away : ∀ a o, H1 a = some o → H' a = some o := fun a o h => B.fr a o h fun i xs e => (non i xs e).elim
  refine ⟨⟨B.ex, fun a o h w => away a o (E.fr a o h w), fun a h => B.dom a (E.dom a h), E.ge.trans B.gg, fun a h => (B.gf a (E.dom a h)).trans (E.gf a h), E.len, fun i dv h => ?_, E.inj, E.ps⟩, S.sg.trans B.gg, fun a o h m => ?_, S.sub, fun a h => B.dom a (S.dom a h)⟩
  · have s := E.sl i dv h
    cases dv with
    | val d =>
      obtain ⟨v, e1, r⟩ := s
      exact ⟨v, e1, r.mono B.gg⟩
    | own xs =>
      obtain ⟨s1, s2, s3, vs, s4, s5⟩ := s
      exact ⟨s1, (B.gf _ (by rw [s4]; exact fun z => nomatch z)).trans s2, s3, vs, away _ _ s4, s5.mono B.gg⟩
    | par xs =>
      obtain ⟨s1, s2, s3, vs, s4, s5⟩ := s
      exact ⟨s1, (B.gf _ (by rw [s4]; exact fun z => nomatch z)).trans s2, s3, vs, away _ _ s4, s5.mono B.gg⟩
  · obtain ⟨e1, e2⟩ := S.fr a o h m
    exact ⟨away a o e1, (B.gf a (by rw [e1]; exact fun z => nomatch z)).trans e2⟩
theorem args_vals {l : List D} {vs : List V} (r : Reps K G l vs) : Args K G H (fun _ => 0) vs (l.map .val) := by
  refine ⟨by rw [List.length_map]; exact r.len, fun i dv e => ?_, fun i j xs ys e _ _ => ?_⟩
  · rw [List.getElem?_map] at e
    cases q : l[i]? with
    | none => rw [q] at e; cases e
    | some d =>
      rw [q] at e
      have e := Option.some.inj e
      subst e
      exact r.get q
  · rw [List.getElem?_map] at e
    cases q : l[i]? with
    | none => rw [q] at e; cases e
    | some d => rw [q] at e; cases (Option.some.inj e : DV.val d = DV.par xs)
/-- the call: n values as they are written, the defaults mv, where each parameter's one stands -/
def tCallP (sp : Sp) (n : Nat) (mv : List V) (ix : List Nat) (E : L2.St → XK) (t : TA) : TE := fun σ H Q => t σ H fun vs H1 => vs.length = n ∧ sp (pick ix (vs ++ mv)) H1 Q (E σ)
theorem ew_callK {fs : FS} {as : List WE} {more : List D} {mv : List V} {ix : List Nat} (h : AW K W ta0 as) (hm : ∀ G, Reps K G more mv) : EW K W (tCallP (spOf K fs) as.length mv ix (L2.WE W) ta0) (wCallK fs as more ix) := fun c pa G H σ ds xk kk Q E hw hx k => by
  refine h c pa G H σ ds xk _ _ E hw hx fun vs G1 H1 l ds1 q S1 r1 l1 => ⟨by rw [← r1.len, l1], ?_⟩
  refine ⟨G1, fun _ => 0, _, _, S1.env.ex, args_vals ((r1.append (hm G1)).pick ix), q, fun v r dvs' G' H' hk B R => ?_, fun e cls d dvs' G' H' hk B X => ?_⟩
  · have S := S1.calledK B
    cases r with
    | val d => exact k v G' H' d ds1 hk S R
    | own ys =>
      obtain ⟨p2, rfl, p0, p1, hp⟩ := R
      have t : Tmp K c pa G' H' ds1 p2 ys := ⟨p1, by
        cases z : c.H0 p2 with
        | none => rfl
        | some o => exact absurd p0 (S1.env.dom p2 (by rw [z]; exact fun z => nomatch z)), hp, fun i dv hi o z => S1.env.ownNe hi o (z ▸ p0)⟩
      obtain ⟨G2, S2, r2⟩ := S.freeze t (by
        cases z : H p2 with
        | none => rfl
        | some o => exact absurd p0 (S1.dom p2 (by rw [z]; exact fun z => nomatch z)))
      exact k _ G2 H' _ ds1 hk S2 r2
    | par _ => exact (show False from hk).elim
  · exact hx e _ hk pa G' H' σ cls d (S1.calledK B).env X
/-- x, y = a, [..] -/
theorem sw_parO {i j : Nat} (hn : i ≠ j) (h1 : EW K W ta a) (h2 : EO K W te o) : SW K W (tPar i j (tCons ta (tCons te tNil))) (wParO i j a o) := fun c pa G H σ ds P D E hw hx he =>
  h1 c pa G H σ ds _ _ _ E hw hx fun v G1 H1 d ds1 q S1 r1 => h2 c pa G1 H1 σ ds1 _ _ _ S1.env q hx fun p G2 H2 xs ds2 q2 S2 t2 n2 =>
    ⟨v, .ref p, rfl, he.nx _ G2 H2 _ _ q2 ((S2.env.setVal i (r1.mono S2.sg)).setOwn j (t2.less fun l dv h o => by
      rw [gt_st] at h
      split at h
      · have h := Option.some.inj h
        subst h
        cases o
      · exact ⟨dv, h, o⟩))⟩
end
/-! ### in a derivation -/
/-- how a call binds: nu values by place, the keywords ks, the defaults mu, where each parameter's one stands -/
structure KB (K : PySem.W.Frag) (fd : FuncData) (ps : List Str) (nu : Nat) (ks : List Str) (mu : List Value) (ix : List Nat) : Prop where
  to : ∀ (s : Shared) (us ws : List Value), K.In s.heap → us.length = nu → ws.length = ks.length → BindsTo s fd ⟨us, ks.zip ws⟩ (ps.zip (pick ix (us ++ ws ++ mu)))
theorem Vals.pick {vs : List V} {us : List Value} (r : Vals vs us) : ∀ ix : List Nat, Vals (pick ix vs) (pick ix us)
  | [] => .nil
  | i :: ix => by
    unfold DW.pick
    have hl := r.length
    cases e : vs[i]? with
    | none =>
      have e2 : us[i]? = none := by
        rw [List.getElem?_eq_none_iff] at e ⊢
        omega
      rw [List.filterMap_cons, List.filterMap_cons, e, e2]
      exact Vals.pick r ix
    | some v =>
      have hi := (List.getElem?_eq_some_iff.mp e).1
      obtain ⟨u, e2, ru⟩ := r.get e
      rw [List.filterMap_cons, List.filterMap_cons, e, e2]
      exact .cons ru (Vals.pick r ix)
section
variable {X : Cx} {CX : CXT} {k : Nat} {f : Addr} {fd : FuncData} {ps ks : List Str} {nu : Nat} {mu : List Value} {mv : List V} {ix : List Nat} {sp : Sp} {E : L2.St → XK} {x : Str} {p pos : Pos} {e : Expr} {es : List Expr} {kws : List Keyword} {t tk ta : TA}
theorem run_P {pins : List (Addr × Obj)} {σ : L2.St} {H : Hp} {s : Shared} {Q : VK} {us ws : List Value} {vs zs : List V} (F : FnOk X.prog X.w X.K X.mg X.base CX k f fd ps sp) (hr : Room k X.A) (hb : KB X.K fd ps nu ks mu ix) (hd : Vals mv mu) (hx : ∀ σ, PassesAt CX X σ (E σ))
    (I : Inv X pins σ H s) (r : Vals vs us) (rz : Vals zs ws) (hu : us.length = nu) (hw : ws.length = ks.length) (h : sp (pick ix (vs ++ zs ++ mv)) H Q (E σ)) : wpAny (model X.prog X.w) X.A (call (.ref f) us (ks.zip ws)) (EP X pins σ Q) X.xe s := by
  have r2 := Vals.pick ((r.append rz).append hd) ix
  refine wpAny_call (codeAny_mono (F.run X.A X.stack s H ⟨us, ks.zip ws⟩ (pick ix (us ++ ws ++ mu)) _ Q (E σ) hr I.env0 (hb.to s us ws I.kIn hu hw) r2 h) fun r s' hq => ?_)
  cases r with
  | error e => exact hx σ pins H s e s' I hq
  | ok fl =>
    cases fl with
    | ret u => exact I.after hq
    | next => exact False.elim hq
    | brk => exact False.elim hq
    | cont => exact False.elim hq
/-- the values by place, then those by name -/
def tTwo (n : Nat) (t tk : TA) : TA := fun σ H Q => t σ H fun vs H1 => tk σ H1 fun zs H2 => vs.length = n ∧ Q (vs ++ zs) H2
theorem pe_callP (F : FnOk X.prog X.w X.K X.mg X.base CX k f fd ps sp) (hr : Room k X.A) (hg : Gl X x) (hm : X.mg x = some (.ref f)) (hk : PySem.W.keepIn X.K (.ref f) = true) (hb : KB X.K fd ps nu ks mu ix) (hd : Vals mv mu) (hx : ∀ σ, PassesAt CX X σ (E σ))
    (ha : PA X (e :: es) t) (hkw : PK X kws tk) (hall : (backToKw pos (keywordEach kws X.env)).all (·.1.isSome) = true := by rfl) (hks : (backToKw pos (keywordEach kws X.env)).filterMap (·.1) = ks := by rfl)
    (hdb : (x == ("__debug__" : Str)) = false := by decide) (he : starEach (e :: es) X.env = (false, eval e X.env) :: starEach es X.env := by rfl)
    (hpl : ((backTo pos (starEach (e :: es) X.env)).any (·.1) || (backToKw pos (keywordEach kws X.env)).any (·.1.isNone)) = false := by rfl) :
    PE X (.Call (.Name x p) (e :: es) kws pos) (tCallP sp (nu + ks.length) mv ix E (tTwo nu t tk)) := by
  refine ⟨fun pins s σ H Q I h => ?_⟩
  refine wpAny_Call_Name_kw (ld_glob I hg hm ?_ hdb)
  refine PySem.W.callWith_KW (h₀ := X.base) I.ok.mod.kin hk hall (thn (ha.run pos pins s σ H _ I h) fun us s1 ⟨vs, H1, I1, r, q⟩ => ?_) hpl he
  refine thn (hkw.run pos pins s1 σ H1 _ I1 q) fun ws s2 ⟨zs, H2, I2, rz, l1, l2, q2⟩ => ⟨I2.kIn, ?_⟩
  rw [hks]
  rw [List.length_append] at l2
  exact run_P (us := us) F hr hb hd hx I2 r rz (by rw [← r.length, l1]) (by rw [← rz.length]; omega) q2
theorem pe_callP0 (F : FnOk X.prog X.w X.K X.mg X.base CX k f fd ps sp) (hr : Room k X.A) (hg : Gl X x) (hm : X.mg x = some (.ref f)) (hk : PySem.W.keepIn X.K (.ref f) = true) (hb : KB X.K fd ps 0 ks mu ix) (hd : Vals mv mu) (hx : ∀ σ, PassesAt CX X σ (E σ))
    (hkw : PK X kws tk) (hall : (backToKw pos (keywordEach kws X.env)).all (·.1.isSome) = true := by rfl) (hks : (backToKw pos (keywordEach kws X.env)).filterMap (·.1) = ks := by rfl)
    (hdb : (x == ("__debug__" : Str)) = false := by decide) (hpl : ((backTo pos (starEach [] X.env)).any (·.1) || (backToKw pos (keywordEach kws X.env)).any (·.1.isNone)) = false := by rfl) :
    PE X (.Call (.Name x p) [] kws pos) (tCallP sp (0 + ks.length) mv ix E (tTwo 0 tNil tk)) := by
  refine ⟨fun pins s σ H Q I h => ?_⟩
  refine wpAny_Call_Name_kw (ld_glob I hg hm ?_ hdb)
  refine PySem.W.callWith_KW0 (h₀ := X.base) I.ok.mod.kin hk hall (thn (hkw.run pos pins s σ H _ I h) fun ws s2 ⟨zs, H2, I2, rz, l1, l2, q2⟩ => ⟨I2.kIn, ?_⟩) hpl
  rw [hks]
  rw [List.length_append] at l2
  exact run_P (us := []) (vs := []) F hr hb hd hx I2 .nil rz rfl (by rw [← rz.length]; have : ([] : List V).length = 0 := rfl; omega) q2
end
theorem wArgs_app : ∀ (as bs : List WE) (x : XKd) (ds : DS) (k : List D → DS → Prop), wArgs (as ++ bs) x ds k = wArgs as x ds fun l ds1 => wArgs bs x ds1 fun m ds2 => k (l ++ m) ds2
  | [], bs, x, ds, k => rfl
  | a :: as, bs, x, ds, k => by
    show (a x ds fun d ds1 => wArgs (as ++ bs) x ds1 fun l ds2 => k (d :: l) ds2) = a x ds fun d ds1 => wArgs as x ds1 fun l ds2 => wArgs bs x ds2 fun m ds3 => k (d :: (l ++ m)) ds3
    congr 1
    funext d ds1
    rw [wArgs_app as bs]
theorem aw_two {K : PySem.W.Frag} {W : WX} {t tk : TA} {as bs : List WE} (h : AW K W t as) (h' : AW K W tk bs) : AW K W (tTwo as.length t tk) (as ++ bs) := fun c pa G H σ ds xk kk Q E hw hx k => by
  rw [wArgs_app] at hw
  refine h c pa G H σ ds xk _ _ E hw hx fun vs G1 H1 l ds1 q S1 r1 l1 => ?_
  refine h' c pa G1 H1 σ ds1 xk _ _ S1.env q hx fun zs G2 H2 m ds2 q2 S2 r2 l2 => ⟨by rw [← r1.len, l1], ?_⟩
  exact k _ G2 H2 _ ds2 q2 (S1.trans S2) ((Reps.mono S2.sg r1).append r2) (by rw [List.length_append, List.length_append, l1, l2])
section
variable {P : Program} {w : World} {K : PySem.W.Frag} {mg : Str → Option Value} {base : Heap} {N : List Str} {k : Nat} {W : WX}
variable {F : Fam P w K mg base N k W} {a b c e tg it : Expr} {es : List Expr} {x y z : Str} {pos p p2 p3 p4 p5 : Pos} {qa qb qc qe : WE} {q r : WT} {g : Tg} {s1 : List Stmt} {ws : WS} {o : WO}
/-- a def that keeps its promise and stands under its name -/
structure CalF (P : Program) (w : World) (K : PySem.W.Frag) (mg : Str → Option Value) (base : Heap) (k : Nat) (x : Str) (ps : List Str) (fs : FS) (f : Addr) (fd : FuncData) : Prop where
  ok : FnOk P w K mg base CX0 k f fd ps (spOf K fs)
  gm : mg x = some (.ref f)
  kp : PySem.W.keepIn K (.ref f) = true
theorem CalF.mk2 {qual : Str} {st : Stmt} {f : Addr} {fd : FuncData} {N ps : List Str} {fs : FS} {ws : WS} {j : Nat} (Fn : Fun K x qual st f fd) (hm : mg x = some (.ref f)) (S : FnScope N ps (defScope st)) (hl : ∀ dvs kk, fs dvs kk → dvs.length = ps.length) (hN : ps.length ≤ N.length)
    (hd : ∀ (cdv : Value) (A : Around) (outer : List PySem.Env) (s : Shared) (H : Hp) (E : XK) (hr : Room j (A.deeper (envOfC qual (defScope st) s.heap.objs.size f cdv))), DSs (Fam.body P w K mg base N j qual (defScope st) f cdv A outer s H E hr S.nd) (defBody st) ws)
    (hk : Keeps0 N.length ws fs) : CalF P w K mg base (j + 1) x ps fs f fd := ⟨fn_keeps0 Fn S hl hN hd hk, hm, Fn.kp⟩
theorem CalF.cal {f : Addr} {fd : FuncData} {ps : List Str} {fs : FS} {j : Nat} (C : CalF P w K mg base j x ps fs f fd) (bb : Binds K fd ps []) : Cal P w K mg base j x ps fs := ⟨f, fd, C.ok, C.gm, C.kp, bb⟩
/-- .. called in a shape of its own: by name, with defaults -/
structure CalP (P : Program) (w : World) (K : PySem.W.Frag) (mg : Str → Option Value) (base : Heap) (k : Nat) (x : Str) (ps : List Str) (fs : FS) (nu : Nat) (ks : List Str) (more : List D) (ix : List Nat) : Prop where
  ex : ∃ f fd mu mv, FnOk P w K mg base CX0 k f fd ps (spOf K fs) ∧ mg x = some (.ref f) ∧ PySem.W.keepIn K (.ref f) = true ∧ KB K fd ps nu ks mu ix ∧ Vals mv mu ∧ ∀ G, Reps K G more mv
theorem CalF.calP {f : Addr} {fd : FuncData} {ps : List Str} {fs : FS} {j nu : Nat} {ks : List Str} {mu : List Value} {mv : List V} {more : List D} {ix : List Nat} (C : CalF P w K mg base j x ps fs f fd) (bb : KB K fd ps nu ks mu ix) (hd : Vals mv mu) (hm : ∀ G, Reps K G more mv) : CalP P w K mg base j x ps fs nu ks more ix :=
  ⟨f, fd, mu, mv, C.ok, C.gm, C.kp, bb, hd, hm⟩
def DKw (F : Fam P w K mg base N k W) (kws : List Keyword) (q : List WE) : Prop := ∃ tk, (∀ i, PK (F.X i) kws tk) ∧ AW K W tk q
theorem kw_nil : DKw F [] [] := ⟨_, fun _ => pk_nil, aw_nil⟩
theorem kw_cons {nm : Option Str} {kws : List Keyword} {qs : List WE} (ha : DE F a qa) (hr : DKw F kws qs) : DKw F (⟨nm, a, p⟩ :: kws) (qa :: qs) := by
  obtain ⟨t, h1, h2⟩ := ha
  obtain ⟨u, u1, u2⟩ := hr
  exact ⟨_, fun i => pk_cons (h1 i) (u1 i), aw_cons h2 u2⟩
theorem callP {X : Cx} {kf nu : Nat} {f : Addr} {fd : FuncData} {ps ks : List Str} {fs : FS} {t tk : TA} {mv : List V} {mu : List Value} {ix : List Nat} {kws : List Keyword} (hP : X.prog = P) (hw : X.w = w) (hK : X.K = K) (hm : X.mg = mg) (hb : X.base = base) (G : FnOk P w K mg base CX0 kf f fd ps (spOf K fs)) (hr : Room k X.A) (hk : kf ≤ k)
    (hg : Gl X x) (gm : mg x = some (.ref f)) (kp : PySem.W.keepIn K (.ref f) = true) (bb : KB K fd ps nu ks mu ix) (hd : Vals mv mu) (ha : PA X (a :: es) t) (hkw : PK X kws tk)
    (hall : (backToKw pos (keywordEach kws X.env)).all (·.1.isSome) = true) (hks : (backToKw pos (keywordEach kws X.env)).filterMap (·.1) = ks) (hdb : (x == ("__debug__" : Str)) = false)
    (he : starEach (a :: es) X.env = (false, eval a X.env) :: starEach es X.env) (hpl : ((backTo pos (starEach (a :: es) X.env)).any (·.1) || (backToKw pos (keywordEach kws X.env)).any (·.1.isNone)) = false) :
    PE X (.Call (.Name x p) (a :: es) kws pos) (tCallP (spOf K fs) (nu + ks.length) mv ix (L2.WE W) (tTwo nu t tk)) := by
  subst hP hw hK hm hb
  exact pe_callP G (hr.mono hk) hg gm kp bb hd (fun _ _ _ _ _ _ _ h => h.elim) ha hkw hall hks hdb he hpl
theorem callP0 {X : Cx} {kf : Nat} {f : Addr} {fd : FuncData} {ps ks : List Str} {fs : FS} {tk : TA} {mv : List V} {mu : List Value} {ix : List Nat} {kws : List Keyword} (hP : X.prog = P) (hw : X.w = w) (hK : X.K = K) (hm : X.mg = mg) (hb : X.base = base) (G : FnOk P w K mg base CX0 kf f fd ps (spOf K fs)) (hr : Room k X.A) (hk : kf ≤ k)
    (hg : Gl X x) (gm : mg x = some (.ref f)) (kp : PySem.W.keepIn K (.ref f) = true) (bb : KB K fd ps 0 ks mu ix) (hd : Vals mv mu) (hkw : PK X kws tk)
    (hall : (backToKw pos (keywordEach kws X.env)).all (·.1.isSome) = true) (hks : (backToKw pos (keywordEach kws X.env)).filterMap (·.1) = ks) (hdb : (x == ("__debug__" : Str)) = false)
    (hpl : ((backTo pos (starEach [] X.env)).any (·.1) || (backToKw pos (keywordEach kws X.env)).any (·.1.isNone)) = false) :
    PE X (.Call (.Name x p) [] kws pos) (tCallP (spOf K fs) (0 + ks.length) mv ix (L2.WE W) (tTwo 0 tNil tk)) := by
  subst hP hw hK hm hb
  exact pe_callP0 G (hr.mono hk) hg gm kp bb hd (fun _ _ _ _ _ _ _ h => h.elim) hkw hall hks hdb hpl
/-- f(a, .., k = v, ..) -/
theorem d_callP {kf nu : Nat} {ps ks : List Str} {fs : FS} {qs rs : List WE} {more : List D} {ix : List Nat} {kws : List Keyword} (C : CalP P w K mg base kf x ps fs nu ks more ix) (ha : DL F (a :: es) qs) (hkw : DKw F kws rs) (hnu : qs.length = nu := by rfl) (hnk : rs.length = ks.length := by rfl) (hk : kf ≤ k := by decide)
    (hg : ∀ j, Gl (F.X j) x := by intro _; rfl) (hdb : (x == ("__debug__" : Str)) = false := by decide) (he : ∀ j, starEach (a :: es) (F.X j).env = (false, eval a (F.X j).env) :: starEach es (F.X j).env := by intro _; rfl)
    (hall : ∀ j, (backToKw pos (keywordEach kws (F.X j).env)).all (·.1.isSome) = true := by intro _; rfl) (hks : ∀ j, (backToKw pos (keywordEach kws (F.X j).env)).filterMap (·.1) = ks := by intro _; rfl)
    (hpl : ∀ j, ((backTo pos (starEach (a :: es) (F.X j).env)).any (·.1) || (backToKw pos (keywordEach kws (F.X j).env)).any (·.1.isNone)) = false := by intro _; rfl) : DE F (.Call (.Name x p) (a :: es) kws pos) (wCallK fs (qs ++ rs) more ix) := by
  obtain ⟨f, fd, mu, mv, c1, c2, c3, c4, c5, c6⟩ := C.ex
  obtain ⟨t, h1, h2⟩ := ha
  obtain ⟨u, u1, u2⟩ := hkw
  subst hnu
  refine ⟨_, fun j => callP (W := W) (F.hP j) (F.hw j) (F.hK j) (F.hm j) (F.hb j) c1 (F.room j) hk (hg j) c2 c3 c4 c5 (h1 j) (u1 j) (hall j) (hks j) hdb (he j) (hpl j), ?_⟩
  have e : qs.length + ks.length = (qs ++ rs).length := by rw [List.length_append, hnk]
  rw [e]
  exact ew_callK (aw_two h2 u2) c6
theorem d_callP0 {kf : Nat} {ps ks : List Str} {fs : FS} {rs : List WE} {more : List D} {ix : List Nat} {kws : List Keyword} (C : CalP P w K mg base kf x ps fs 0 ks more ix) (hkw : DKw F kws rs) (hnk : rs.length = ks.length := by rfl) (hk : kf ≤ k := by decide)
    (hg : ∀ j, Gl (F.X j) x := by intro _; rfl) (hdb : (x == ("__debug__" : Str)) = false := by decide)
    (hall : ∀ j, (backToKw pos (keywordEach kws (F.X j).env)).all (·.1.isSome) = true := by intro _; rfl) (hks : ∀ j, (backToKw pos (keywordEach kws (F.X j).env)).filterMap (·.1) = ks := by intro _; rfl)
    (hpl : ∀ j, ((backTo pos (starEach [] (F.X j).env)).any (·.1) || (backToKw pos (keywordEach kws (F.X j).env)).any (·.1.isNone)) = false := by intro _; rfl) : DE F (.Call (.Name x p) [] kws pos) (wCallK fs rs more ix) := by
  obtain ⟨f, fd, mu, mv, c1, c2, c3, c4, c5, c6⟩ := C.ex
  obtain ⟨u, u1, u2⟩ := hkw
  refine ⟨_, fun j => callP0 (W := W) (F.hP j) (F.hw j) (F.hK j) (F.hm j) (F.hb j) c1 (F.room j) hk (hg j) c2 c3 c4 c5 (u1 j) (hall j) (hks j) hdb (hpl j), ?_⟩
  have e : 0 + ks.length = rs.length := by rw [hnk, Nat.zero_add]
  rw [e]
  exact ew_callK (aw_two (as := []) aw_nil u2) c6
/-- f([..]): a list made for the call -/
theorem d_callT {kf : Nat} {ps : List Str} {fs : FS} (C : Cal P w K mg base kf x ps fs) (ha : DO F a o) (hk : kf ≤ k := by decide)
    (hg : ∀ j, Gl (F.X j) x := by intro _; rfl) (hdb : (x == ("__debug__" : Str)) = false := by decide) (he : ∀ j, starEach [a] (F.X j).env = (false, eval a (F.X j).env) :: starEach [] (F.X j).env := by intro _; rfl)
    (hpl : ∀ j, (backTo pos (starEach [] (F.X j).env)).any (·.1) = false := by intro _; rfl) : DE F (.Call (.Name x p) [a] [] pos) (wCallT fs o) := by
  obtain ⟨f, fd, c1, c2, c3, c4⟩ := C.ex
  obtain ⟨u, u1, u2⟩ := ha
  exact ⟨_, fun j => callX (F.hP j) (F.hw j) (F.hK j) (F.hm j) (F.hb j) c1 (F.room j) hk (hg j) c2 c3 c4 .nil (fun _ _ _ _ _ _ _ h => h.elim) (pa_cons (u1 j) pa_nil (he j)) hdb (he j) (hpl j), ew_callT u2⟩
/-! lists -/
theorem catK {X : Cx} (h : X.K = K) : OpR X (binaryOp .Add) (rCatL K) := by subst h; exact op_catL
theorem o_cat (ha : DE F a qa) (hb : DE F b qb) : DO F (.BinOp a .Add b pos) (wCat qa qb) := by
  obtain ⟨t, h1, h2⟩ := ha
  obtain ⟨u, u1, u2⟩ := hb
  exact ⟨_, fun i => pe_op (catK (F.hK i)) (h1 i) (u1 i), eo_cat h2 u2⟩
theorem revLK {X : Cx} {ta : TE} {kk : Nat} (h : X.K = K) (ha : PE X a ta) : PE X (.Subscript a (.Slice none none (some (.UnaryOp .USub (.Constant (.int 1) kk p) p2)) p3) pos) (tRevL K ta) := by subst h; exact pe_revL ha
theorem rev2K {X : Cx} {ta : TE} {kk k2 : Nat} (h : X.K = K) (ha : PE X a ta) : PE X (.Subscript a (.Slice (some (.UnaryOp .USub (.Constant (.int 2) k2 p4) p5)) none (some (.UnaryOp .USub (.Constant (.int 1) kk p) p2)) p3) pos) (tRev2 K ta) := by subst h; exact pe_rev2 ha
theorem o_rev {kk : Nat} (ha : DE F a qa) : DO F (.Subscript a (.Slice none none (some (.UnaryOp .USub (.Constant (.int 1) kk p) p2)) p3) pos) (wRev qa) := by
  obtain ⟨t, h1, h2⟩ := ha
  exact ⟨_, fun i => revLK (F.hK i) (h1 i), eo_rev h2⟩
theorem o_rev2 {kk k2 : Nat} (ha : DE F a qa) : DO F (.Subscript a (.Slice (some (.UnaryOp .USub (.Constant (.int 2) k2 p4) p5)) none (some (.UnaryOp .USub (.Constant (.int 1) kk p) p2)) p3) pos) (wRev2 qa) := by
  obtain ⟨t, h1, h2⟩ := ha
  exact ⟨_, fun i => rev2K (F.hK i) (h1 i), eo_rev2 h2⟩
def DPt (F : Fam P w K mg base N k W) (e : Option Expr) (q : WPt) : Prop := ∃ tl, (∀ i, PO (F.X i) e tl) ∧ PWt K W tl q
theorem sp_no : DPt F none wNoP := ⟨_, fun _ => po_none, pw_no⟩
theorem sp_at (ha : DE F a qa) : DPt F (some a) (wP qa) := by
  obtain ⟨t, h1, h2⟩ := ha
  exact ⟨_, fun i => po_some (h1 i), pw_p h2⟩
theorem slLK {X : Cx} (h : X.K = K) : SlR X (rSlL K) := by subst h; exact sl_list
theorem o_cut {lo hi : Option Expr} {ql qh : WPt} (ha : DE F a qa) (hl : DPt F lo ql) (hh : DPt F hi qh) : DO F (.Subscript a (.Slice lo hi none p) pos) (wCut qa ql qh) := by
  obtain ⟨t, h1, h2⟩ := ha
  obtain ⟨u, u1, u2⟩ := hl
  obtain ⟨v, v1, v2⟩ := hh
  exact ⟨_, fun i => pe_slice (slLK (F.hK i)) (h1 i) (u1 i) (v1 i), eo_cut h2 u2 v2⟩
/-! a < b < c -/
theorem d_chain {op op' : CmpOp} {f f' : B2} {rr rr' : R2} (ho : ∀ j, OpR (F.X j) (compareOp op) rr) (hr : RW2 K rr f) (ho' : ∀ j, OpR (F.X j) (compareOp op') rr') (hr' : RW2 K rr' f') (ha : DE F a qa) (hb : DE F b qb) (hc : DE F c qc) (hm : lastMarks [op, op'] [b, c] = false := by with_unfolding_all rfl) :
    DE F (.Compare a [op, op'] [b, c] pos) (wChain f f' qa qb qc) := by
  obtain ⟨t, h1, h2⟩ := ha
  obtain ⟨u, u1, u2⟩ := hb
  obtain ⟨v, v1, v2⟩ := hc
  exact ⟨_, fun j => pe_chain (ho j) (ho' j) (h1 j) (u1 j) (v1 j) hm, ew_chain hr hr' h2 u2 v2⟩
theorem t_chain {op op' : CmpOp} {f f' : B2} {rr rr' : R2} (ho : ∀ j, OpR (F.X j) (compareOp op) rr) (hr : RW2 K rr f) (ho' : ∀ j, OpR (F.X j) (compareOp op') rr') (hr' : RW2 K rr' f') (ha : DE F a qa) (hb : DE F b qb) (hc : DE F c qc) (hm : lastMarks [op, op'] [b, c] = false := by with_unfolding_all rfl) :
    DT F (.Compare a [op, op'] [b, c] pos) (wTst (wChain f f' qa qb qc)) := by
  obtain ⟨t, h1, h2⟩ := ha
  obtain ⟨u, u1, u2⟩ := hb
  obtain ⟨v, v1, v2⟩ := hc
  exact ⟨_, fun j => pt_chain (ho j) (ho' j) (h1 j) (u1 j) (v1 j) hm, tw_tst (ew_chain hr hr' h2 u2 v2)⟩
theorem d_globI {i : Int} (h : ∃ t, mg x = some (.int i t)) (hg : ∀ j, Gl (F.X j) x := by intro _; rfl) (hd : (x == ("__debug__" : Str)) = false := by decide) : DE F (.Name x pos) (wC (.int i)) := by
  obtain ⟨t, e⟩ := h
  exact d_glob e (v := .int i) ⟨t, rfl⟩ (fun _ => rfl) hg hd
theorem d_globS {i : Str} (h : ∃ t, mg x = some (.str i t)) (hg : ∀ j, Gl (F.X j) x := by intro _; rfl) (hd : (x == ("__debug__" : Str)) = false := by decide) : DE F (.Name x pos) (wC (.str i)) := by
  obtain ⟨t, e⟩ := h
  exact d_glob e (v := .str i) ⟨t, rfl⟩ (fun _ => rfl) hg hd
theorem d_intf (hm : mg "int" = none) (ha : DE F a qa) (hg : ∀ j, Gl (F.X j) "int" := by intro _; rfl) (hs : ∀ j, starEach [a] (F.X j).env = (false, eval a (F.X j).env) :: starEach [] (F.X j).env := by intro _; rfl) (hpl : ∀ j, (backTo pos (starEach [] (F.X j).env)).any (·.1) = false := by intro _; rfl) :
    DE F (.Call (.Name "int" p) [a] [] pos) (wUn dInt qa) := by
  obtain ⟨t, h1, h2⟩ := ha
  exact ⟨_, fun j => pe_callTy call_int1 (hg j) (by rw [F.hm j]; exact hm) (by decide +kernel) (pa_cons (h1 j) pa_nil (hs j)) (by decide) (by decide) (hs j) (hpl j), ew_cb1 rc_int h2⟩
/-- x, y = a, [..] -/
theorem s_parO (i l : Nat) {kt k2 : Nat} (ha : DE F a qa) (hb : DO F b o) (hi : N[i]? = some x := by rfl) (hl : N[l]? = some y := by rfl) (hn : i ≠ l := by decide) (hx : ∀ j, (F.X j).env.scope.names.lookup x = some .local := by intro _; rfl) (hy : ∀ j, (F.X j).env.scope.names.lookup y = some .local := by intro _; rfl)
    (hw : ∀ j, swappedStores [.Tuple [.Name x p, .Name y p2] kt p3] (.Tuple [a, b] k2 p4) (F.X j).env = pure (some [x, y]) := by intro _; rfl) (hs : ∀ j, swapsWithSole [.Tuple [.Name x p, .Name y p2] kt p3] (.Tuple [a, b] k2 p4) pos.line (F.X j).env = pure false := by intro _; rfl)
    (h1 : ∀ j, starEach [a, b] (F.X j).env = (false, eval a (F.X j).env) :: starEach [b] (F.X j).env := by intro _; rfl) (h2 : ∀ j, starEach [b] (F.X j).env = (false, eval b (F.X j).env) :: starEach [] (F.X j).env := by intro _; rfl) :
    DS1 F (.Assign [.Tuple [.Name x p, .Name y p2] kt p3] (.Tuple [a, b] k2 p4) pos) (wParO i l qa o) := by
  obtain ⟨t, t1, t2⟩ := ha
  obtain ⟨u, u1, u2⟩ := hb
  exact ⟨_, fun j => ps_par (F.calm j) (by rw [F.hN j]; exact F.nd) (by rw [F.hN j]; exact hi) (by rw [F.hN j]; exact hl) hn (hx j) (hy j) (pa_cons (t1 j) (pa_cons (u1 j) pa_nil (h2 j)) (h1 j)) (hw j) (hs j), sw_parO hn t2 u2⟩
end
end DW

/-! K31 math: sums by the exchange of both numbers. -/
namespace K31
/-- what one exchange tells -/
def R (h k : Int) : Rat := ((h * h + k * k + 1 - 3 * h * k : Int) : Rat) / ((12 * h * k : Int) : Rat)
def T (h k : Int) : Rat := if 0 < h ∧ h < k then R h k - T (k % h) h else 0
termination_by k.toNat
decreasing_by omega
theorem T_step {h k : Int} (h0 : 0 < h) (h1 : h < k) : T h k = R h k - T (k % h) h := by
  rw [T, if_pos ⟨h0, h1⟩]
theorem T_zero (k : Int) : T 0 k = 0 := by rw [T, if_neg (by omega)]
theorem T_one (h : Int) : T h 1 = 0 := by rw [T, if_neg (by omega)]
theorem cast_ne {a : Int} (h : a ≠ 0) : (a : Rat) ≠ 0 := by
  intro e
  exact h (by exact_mod_cast e)
theorem mul_ne {a b : Rat} (ha : a ≠ 0) (hb : b ≠ 0) : a * b ≠ 0 := fun e => by
  rcases Rat.mul_eq_zero.mp e with h | h
  · exact ha h
  · exact hb h
theorem R12 {h k : Int} (hh : h ≠ 0) (hk : k ≠ 0) : 12 * R h k = (h : Rat) * (k : Rat)⁻¹ + k * (h : Rat)⁻¹ + (h : Rat)⁻¹ * (k : Rat)⁻¹ - 3 := by
  unfold R
  have a := cast_ne hh
  have b := cast_ne hk
  have c := mul_ne a b
  have e1 : ((h * h + k * k + 1 - 3 * h * k : Int) : Rat) = h * h + k * k + 1 - 3 * h * k := by push_cast; rfl
  have e2 : ((12 * h * k : Int) : Rat) = 12 * h * k := by push_cast; rfl
  rw [e1, e2]
  have d : (12 : Rat) * h * k ≠ 0 := by
    rw [Rat.mul_assoc]
    exact mul_ne (by decide) c
  grind
theorem emod_gcd {h k : Int} (g : Int.gcd h k = 1) : Int.gcd (k % h) h = 1 := by
  have e : k = k % h + h * (k / h) := (Int.emod_add_mul_ediv k h).symm
  rw [Int.gcd_comm] at g
  rw [e, Int.gcd_comm, Int.gcd_add_mul_left_right] at g
  rw [Int.gcd_comm]
  exact g
theorem pos_of_gcd {h k : Int} (g : Int.gcd h k = 1) (h0 : 0 ≤ h) (k1 : 1 < k) : 0 < h := by
  rcases Int.lt_or_eq_of_le h0 with z | z
  · exact z
  · subst z
    rw [Int.gcd_zero_left] at g
    omega
theorem T_odd1 {h k : Int} (h0 : 0 < h) (h1 : h + h < k) : T (k - h) k = -T h k := by
  have e1 : k % (k - h) = h := by
    have : k = h + (k - h) * 1 := by omega
    conv => lhs; lhs; rw [this]
    rw [Int.add_mul_emod_self_left]
    exact Int.emod_eq_of_lt (by omega) (by omega)
  have e2 : (k - h) % h = k % h := by
    have : k - h = k + h * (-1) := by omega
    rw [this, Int.add_mul_emod_self_left]
  rw [T_step (h := k - h) (by omega) (by omega), e1, T_step (h := h) (k := k - h) h0 (by omega), e2, T_step (h := h) (k := k) h0 (by omega)]
  have r1 := R12 (h := k - h) (k := k) (by omega) (by omega)
  have r2 := R12 (h := h) (k := k - h) (by omega) (by omega)
  have r3 := R12 (h := h) (k := k) (by omega) (by omega)
  have a := cast_ne (a := h) (by omega)
  have b := cast_ne (a := k) (by omega)
  have c := cast_ne (a := k - h) (by omega)
  rw [show ((k - h : Int) : Rat) = (k : Rat) - h by push_cast; rfl] at r1 r2 c
  grind
theorem T_half : T 1 2 = 0 := by
  rw [T_step (by decide) (by decide)]
  have e : (2 : Int) % 1 = 0 := by decide
  rw [e, T_zero]
  have r := R12 (h := 1) (k := 2) (by decide) (by decide)
  have e1 : ((1 : Int) : Rat) = 1 := rfl
  have e2 : ((2 : Int) : Rat) = 2 := rfl
  rw [e1, e2] at r
  grind
theorem T_odd {h k : Int} (h0 : 0 < h) (h1 : h < k) (g : Int.gcd h k = 1) : T (k - h) k = -T h k := by
  rcases Int.lt_trichotomy (h + h) k with z | z | z
  · exact T_odd1 h0 z
  · have e : k = h * 2 := by omega
    subst e
    have d : h.natAbs ∣ Int.gcd h (h * 2) := Nat.dvd_gcd (Nat.dvd_refl _) (by rw [Int.natAbs_mul]; exact Nat.dvd_mul_right ..)
    rw [g] at d
    have d := Nat.dvd_one.mp d
    have : h = 1 := by omega
    subst this
    show T 1 2 = -T 1 2
    rw [T_half]
    rfl
  · have := T_odd1 (h := k - h) (k := k) (by omega) (by omega)
    rw [show k - (k - h) = h by omega] at this
    grind
/-- h x = 1 + m k: what is left of k turns into m -/
theorem rest_inv {h k x m : Int} (e : h * x = 1 + m * k) : (k % h) * (h - m) = 1 + (k % h - x + m * (k / h)) * h := by
  have e2 : k % h + h * (k / h) = k := Int.emod_add_mul_ediv k h
  grind
theorem gcd_of_inv {h k x m : Int} (e : h * x = 1 + m * k) : Int.gcd h k = 1 := by
  have h1 : (Int.gcd h k : Int) ∣ h := Int.gcd_dvd_left ..
  have h2 : (Int.gcd h k : Int) ∣ k := Int.gcd_dvd_right ..
  have h3 : (Int.gcd h k : Int) ∣ 1 := by
    have : (1 : Int) = h * x - m * k := by omega
    rw [this]
    exact Int.dvd_sub (Int.dvd_mul_of_dvd_left h1) (Int.dvd_mul_of_dvd_right h2)
  have : (Int.gcd h k) ∣ 1 := by exact_mod_cast h3
  exact Nat.dvd_one.mp this
/-- sizes of m -/
theorem m_rng {h k x m : Int} (h0 : 0 < h) (x0 : 0 < x) (hx : x < k) (e : h * x = 1 + m * k) : 0 ≤ m ∧ m < h ∧ (m = 0 → h = 1 ∧ x = 1) := by
  have p : 0 < h * x := Int.mul_pos h0 x0
  have q : h * x < h * k := Int.mul_lt_mul_of_pos_left hx h0
  refine ⟨?_, ?_, fun z => ?_⟩
  · rcases Int.lt_or_le m 0 with z | z
    · exfalso
      have := Int.mul_le_mul_of_nonneg_right (show m ≤ -1 by omega) (show 0 ≤ k by omega)
      omega
    · exact z
  · rcases Int.lt_or_le m h with z | z
    · exact z
    · exfalso
      have := Int.mul_le_mul_of_nonneg_right z (show 0 ≤ k by omega)
      omega
  · subst z
    have e : h * x = 1 := by omega
    have a := Int.mul_le_mul_of_nonneg_left (show 1 ≤ x by omega) (show 0 ≤ h by omega)
    have b := Int.mul_le_mul_of_nonneg_right (show 1 ≤ h by omega) (show 0 ≤ x by omega)
    omega
theorem T_inv : ∀ (n : Nat) {h k x m : Int}, k.toNat ≤ n → 0 < h → h < k → 0 < x → x < k → h * x = 1 + m * k → T h k = T x k
  | 0, h, k, x, m, hn, h0, h1, x0, x1, e => by omega
  | n + 1, h, k, x, m, hn, h0, h1, x0, x1, e => by
    obtain ⟨m0, m1, mz⟩ := m_rng h0 x0 x1 e
    have e' : x * h = 1 + m * k := by rw [Int.mul_comm]; exact e
    obtain ⟨_, m2, _⟩ := m_rng x0 h0 h1 e'
    rcases Int.lt_or_eq_of_le m0 with z | z
    · -- T h k = R h k + T m h, and so for x
      have half : ∀ {h x : Int}, 0 < h → h < k → m < h → h * x = 1 + m * k → T h k = R h k + T m h := fun {h x} h0 h1 m1 e => by
        have g := gcd_of_inv e
        have k0 : 0 ≤ k % h := Int.emod_nonneg _ (by omega)
        have k1 : k % h < h := Int.emod_lt_of_pos _ h0
        have gp := emod_gcd g
        have kp := pos_of_gcd gp k0 (by omega)
        have i := T_inv n (h := k % h) (k := h) (x := h - m) (m := _) (by omega) kp k1 (by omega) (by omega) (rest_inv e)
        have gm : Int.gcd m h = 1 := gcd_of_inv (x := -k) (m := -x) (by grind)
        have o := T_odd (h := m) (k := h) z m1 gm
        rw [T_step h0 h1, i, o]
        grind
      rw [half h0 h1 m1 e, half x0 x1 m2 e']
      have s1 := T_step (h := m) (k := h) z m1
      have s2 := T_step (h := m) (k := x) z m2
      have t : T (h % m) m = T (x % m) m := by
        by_cases hm : m = 1
        · subst hm
          rw [T_one, T_one]
        · have gh : Int.gcd h m = 1 := gcd_of_inv (x := x) (m := k) (by grind)
          have gx : Int.gcd x m = 1 := gcd_of_inv (x := h) (m := k) (by grind)
          have a0 : 0 ≤ h % m := Int.emod_nonneg _ (by omega)
          have b0 : 0 ≤ x % m := Int.emod_nonneg _ (by omega)
          have ah := pos_of_gcd (h := h % m) (k := m) (emod_gcd (by rw [Int.gcd_comm]; exact gh)) a0 (by omega)
          have bx := pos_of_gcd (h := x % m) (k := m) (emod_gcd (by rw [Int.gcd_comm]; exact gx)) b0 (by omega)
          refine T_inv n (h := h % m) (k := m) (x := x % m) (m := k - (h / m) * x - (h % m) * (x / m)) (by omega) ah (Int.emod_lt_of_pos _ z) bx (Int.emod_lt_of_pos _ z) ?_
          have e1 : h % m + m * (h / m) = h := Int.emod_add_mul_ediv h m
          have e2 : x % m + m * (x / m) = x := Int.emod_add_mul_ediv x m
          grind
      rw [s1, s2, t]
      have r1 := R12 (h := h) (k := k) (by omega) (by omega)
      have r2 := R12 (h := x) (k := k) (by omega) (by omega)
      have r3 := R12 (h := m) (k := h) (by omega) (by omega)
      have r4 := R12 (h := m) (k := x) (by omega) (by omega)
      have ah := cast_ne (a := h) (by omega)
      have ak := cast_ne (a := k) (by omega)
      have ax := cast_ne (a := x) (by omega)
      have am := cast_ne (a := m) (by omega)
      have eq : (h : Rat) * x = 1 + m * k := by exact_mod_cast e
      grind
    · obtain ⟨rfl, rfl⟩ := mz z.symm
      rfl
/-- T h k as the exchange of h and m tells it, h x = 1 + m k -/
theorem T_half_of {h k x m : Int} (h0 : 1 < h) (h1 : h < k) (x0 : 0 < x) (x1 : x < k) (e : h * x = 1 + m * k) : 0 < m ∧ m < h ∧ T h k = R h k + T m h := by
  obtain ⟨m0, m1, mz⟩ := m_rng (by omega) x0 x1 e
  have z : 0 < m := by
    rcases Int.lt_or_eq_of_le m0 with z | z
    · exact z
    · have := mz z.symm
      omega
  refine ⟨z, m1, ?_⟩
  have g := gcd_of_inv e
  have k0 : 0 ≤ k % h := Int.emod_nonneg _ (by omega)
  have k1 : k % h < h := Int.emod_lt_of_pos _ (by omega)
  have gp := emod_gcd g
  have kp := pos_of_gcd gp k0 (by omega)
  have i := T_inv h.toNat (h := k % h) (k := h) (x := h - m) (m := _) (Nat.le_refl _) kp k1 (by omega) (by omega) (rest_inv e)
  have gm : Int.gcd m h = 1 := gcd_of_inv (x := -k) (m := -x) (by grind)
  have o := T_odd (h := m) (k := h) z m1 gm
  rw [T_step (by omega) h1, i, o]
  grind
/-- 12 T less (h + x) / k is a whole number -/
theorem T_int : ∀ (n : Nat) {h k x m : Int}, k.toNat ≤ n → 0 < h → h < k → 0 < x → x < k → h * x = 1 + m * k → ∃ i : Int, 12 * T h k = ((h : Rat) + x) * (k : Rat)⁻¹ + i
  | 0, h, k, x, m, hn, h0, h1, x0, x1, e => by omega
  | n + 1, h, k, x, m, hn, h0, h1, x0, x1, e => by
    have ah := cast_ne (a := h) (by omega)
    have ak := cast_ne (a := k) (by omega)
    have r1 := R12 (h := h) (k := k) (by omega) (by omega)
    have eq : (h : Rat) * x = 1 + m * k := by exact_mod_cast e
    by_cases hh : h = 1
    · subst hh
      have e1 : k % 1 = 0 := Int.emod_one k
      refine ⟨k - 3, ?_⟩
      rw [T_step h0 h1, e1, T_zero]
      have ex : x = 1 := by
        have e3 : x = 1 + m * k := by omega
        have : m * k = 0 ∨ m * k ≠ 0 := by omega
        obtain ⟨m0, m1, mz⟩ := m_rng h0 x0 x1 e
        have := mz (by omega)
        omega
      subst ex
      have c1 : ((1 : Int) : Rat) = 1 := rfl
      have c2 : ((k - 3 : Int) : Rat) = k - 3 := by push_cast; rfl
      rw [c1] at r1 ⊢
      rw [c2]
      grind
    · obtain ⟨z, m1, th⟩ := T_half_of (by omega) h1 x0 x1 e
      have k0 : 0 ≤ k % h := Int.emod_nonneg _ (by omega)
      have k1 : k % h < h := Int.emod_lt_of_pos _ h0
      have kp := pos_of_gcd (emod_gcd (gcd_of_inv e)) k0 (by omega)
      have e5 : k % h = k - h * (k / h) := by
        have := Int.emod_add_mul_ediv k h
        omega
      obtain ⟨i, hi⟩ := T_int n (h := m) (k := h) (x := h - k % h) (m := m - x + m * (k / h)) (by omega) z m1 (by omega) (by omega) (by
        rw [e5]
        grind)
      have c : ((h - k % h : Int) : Rat) = h - (k - h * ((k / h : Int) : Rat)) := by
        rw [e5]
        push_cast
        rfl
      rw [c] at hi
      refine ⟨k / h + i - 2, ?_⟩
      have c2 : ((k / h + i - 2 : Int) : Rat) = ((k / h : Int) : Rat) + i - 2 := by push_cast; rfl
      rw [th, c2]
      generalize ((k / h : Int) : Rat) = q at hi ⊢
      grind
/-- a number that makes 1 -/
theorem inv_ex : ∀ (n : Nat) {h k : Int}, k.toNat ≤ n → Int.gcd h k = 1 → 0 < h → h < k → ∃ x m : Int, 0 < x ∧ x < k ∧ h * x = 1 + m * k
  | 0, h, k, hn, g, h0, h1 => by omega
  | n + 1, h, k, hn, g, h0, h1 => by
    by_cases hh : h = 1
    · subst hh
      exact ⟨1, 0, by omega, by omega, by omega⟩
    · have k0 : 0 ≤ k % h := Int.emod_nonneg _ (by omega)
      have k1 : k % h < h := Int.emod_lt_of_pos _ h0
      have kp := pos_of_gcd (emod_gcd g) k0 (by omega)
      obtain ⟨y, m, y0, y1, e⟩ := inv_ex n (by omega) (emod_gcd g) kp k1
      have e2 : k % h + h * (k / h) = k := Int.emod_add_mul_ediv k h
      -- k y = 1 + c h
      have ec : k * y = 1 + (m + (k / h) * y) * h := by grind
      obtain ⟨c, hc⟩ : ∃ c, c = m + (k / h) * y := ⟨_, rfl⟩
      rw [← hc] at ec
      have p1 : k * y < k * h := Int.mul_lt_mul_of_pos_left y1 (by omega)
      have p2 : k * 1 ≤ k * y := Int.mul_le_mul_of_nonneg_left (by omega) (by omega)
      have c1 : c < k := by
        rcases Int.lt_or_le c k with z | z
        · exact z
        · have := Int.mul_le_mul_of_nonneg_right z (show 0 ≤ h by omega)
          omega
      have c0 : 0 < c := by
        rcases Int.lt_or_le 0 c with z | z
        · exact z
        · have := Int.mul_le_mul_of_nonneg_right z (show 0 ≤ h by omega)
          omega
      exact ⟨k - c, h - y, by omega, by omega, by grind⟩
theorem even_of {h J Q : Int} (o : h % 2 = 1) (e : h * J = 2 * Q) : ∃ i, J = 2 * i := by
  have eh : h = 2 * (h / 2) + 1 := by omega
  refine ⟨Q - (h / 2) * J, ?_⟩
  generalize h / 2 = a at eh
  subst eh
  grind
/-- 6 k T is a whole number -/
theorem T_six : ∀ (n : Nat) {h k : Int}, k.toNat ≤ n → Int.gcd h k = 1 → 0 < h → h < k → ∃ i : Int, 6 * (k : Rat) * T h k = i
  | 0, h, k, hn, g, h0, h1 => by omega
  | n + 1, h, k, hn, g, h0, h1 => by
    have odd : ∀ {h : Int}, Int.gcd h k = 1 → 0 < h → h < k → h % 2 = 1 → ∃ i : Int, 6 * (k : Rat) * T h k = i := fun {h} g h0 h1 o => by
      obtain ⟨x, m, x0, x1, e⟩ := inv_ex k.toNat (Nat.le_refl _) g h0 h1
      obtain ⟨i, hi⟩ := T_int k.toNat (Nat.le_refl _) h0 h1 x0 x1 e
      have ah := cast_ne (a := h) (by omega)
      have ak := cast_ne (a := k) (by omega)
      obtain ⟨N, hN⟩ : ∃ N : Int, 6 * (h : Rat) * T (k % h) h = N := by
        have k0 : 0 ≤ k % h := Int.emod_nonneg _ (by omega)
        have k1 : k % h < h := Int.emod_lt_of_pos _ h0
        by_cases z : k % h = 0
        · rw [z, T_zero]
          exact ⟨0, by rw [Rat.mul_zero]; rfl⟩
        · exact T_six n (by omega) (emod_gcd g) (by omega) k1
      have st := T_step h0 h1
      have r1 := R12 (h := h) (k := k) (by omega) (by omega)
      -- J = 12 k T
      have hJ : 12 * (k : Rat) * T h k = ((h + x + k * i : Int) : Rat) := by
        push_cast
        grind
      have hP : ((h * (h + x + k * i) : Int) : Rat) = ((h * h + k * k + 1 - 3 * h * k - 2 * k * N : Int) : Rat) := by
        push_cast at hJ ⊢
        rw [← hJ, st]
        grind
      have hP : h * (h + x + k * i) = h * h + k * k + 1 - 3 * h * k - 2 * k * N := by exact_mod_cast hP
      have ev : ∃ Q, h * h + k * k + 1 - 3 * h * k - 2 * k * N = 2 * Q := by
        have eh : h = 2 * (h / 2) + 1 := by omega
        generalize h / 2 = a at eh
        have : k % 2 = 0 ∨ k % 2 = 1 := by omega
        rcases this with z | z
        · have ek : k = 2 * (k / 2) := by omega
          generalize k / 2 = b at ek
          exact ⟨2 * a * a + 2 * a + 1 + 2 * b * b - 6 * a * b - 3 * b - k * N, by subst eh ek; grind⟩
        · have ek : k = 2 * (k / 2) + 1 := by omega
          generalize k / 2 = b at ek
          exact ⟨2 * a * a + 2 * a + 1 + 2 * b * b + 2 * b - 6 * a * b - 3 * a - 3 * b - 1 - k * N, by subst eh ek; grind⟩
      obtain ⟨Q, hQ⟩ := ev
      obtain ⟨I, hI⟩ := even_of o (hP.trans hQ)
      refine ⟨I, ?_⟩
      rw [hI] at hJ
      push_cast at hJ
      grind
    by_cases o : h % 2 = 1
    · exact odd g h0 h1 o
    · -- h even: k odd, k - h is odd
      have ko : k % 2 = 1 := by
        by_cases z : k % 2 = 1
        · exact z
        · exfalso
          have d : (2 : Nat) ∣ Int.gcd h k := Nat.dvd_gcd (by omega) (by omega)
          rw [g] at d
          exact absurd d (by decide)
      have g2 : Int.gcd (k - h) k = 1 := by
        have e : k - h = -h + k * 1 := by omega
        rw [e, Int.gcd_comm, Int.gcd_add_mul_left_right, Int.gcd_neg, Int.gcd_comm]
        exact g
      obtain ⟨i, hi⟩ := odd (h := k - h) g2 (by omega) (by omega) (by omega)
      rw [T_odd h0 h1 g] at hi
      refine ⟨-i, ?_⟩
      push_cast
      grind
/-- it is 0 just where k divides h h + 1 -/
theorem T_null {h k : Int} (g : Int.gcd h k = 1) (h0 : 0 < h) (h1 : h < k) : T h k = 0 ↔ k ∣ h * h + 1 := by
  constructor
  · intro z
    obtain ⟨x, m, x0, x1, e⟩ := inv_ex k.toNat (Nat.le_refl _) g h0 h1
    obtain ⟨i, hi⟩ := T_int k.toNat (Nat.le_refl _) h0 h1 x0 x1 e
    rw [z] at hi
    have ak := cast_ne (a := k) (by omega)
    have e1 : ((h + x + k * i : Int) : Rat) = 0 := by
      push_cast
      grind
    have e1 : h + x + k * i = 0 := by exact_mod_cast e1
    refine ⟨-m - h * i, ?_⟩
    have : x = -h - k * i := by omega
    subst this
    grind
  · rintro ⟨c, e⟩
    have o := T_odd h0 h1 g
    have i := T_inv k.toNat (h := h) (k := k) (x := k - h) (m := h - c) (Nat.le_refl _) h0 h1 (by omega) (by omega) (by grind)
    rw [o] at i
    grind
/-- the worth of what the rows in ceil sum up to -/
def Val (h k : Int) (v : Rat) : Prop := (h = 0 ∧ k = 1 ∧ v = 0) ∨ (0 < h ∧ h < k ∧ ∃ x m : Int, 0 < x ∧ x < k ∧ h * x = 1 + m * k ∧ v = 12 * T h k - ((h : Rat) + x) * (k : Rat)⁻¹)
theorem Val_step {h k u : Int} {v : Rat} (h0 : 0 < h) (V : Val h k v) (hu : k ≤ u * h) (hu' : u * h < k + h) : ∃ v2, Val (u * h - k) h v2 ∧ v = (u : Rat) - 3 + v2 := by
  rcases V with ⟨z, _⟩ | ⟨_, h1, x, m, x0, x1, e, ev⟩
  · omega
  have ah := cast_ne (a := h) (by omega)
  have ak := cast_ne (a := k) (by omega)
  have r1 := R12 (h := h) (k := k) (by omega) (by omega)
  have eq : (h : Rat) * x = 1 + m * k := by exact_mod_cast e
  have st := T_step h0 h1
  by_cases hh : h = 1
  · subst hh
    have eu : u = k := by omega
    subst eu
    obtain ⟨m0, m1, mz⟩ := m_rng h0 x0 x1 e
    have ex := mz (by omega)
    refine ⟨0, .inl ⟨by omega, rfl, rfl⟩, ?_⟩
    rw [Int.emod_one, T_zero] at st
    rw [ev, st, ex.2]
    have c1 : ((1 : Int) : Rat) = 1 := rfl
    rw [c1] at r1 ⊢
    grind
  · obtain ⟨z, m1, _⟩ := T_half_of (by omega) h1 x0 x1 e
    have g := gcd_of_inv e
    have k0 : 0 ≤ k % h := Int.emod_nonneg _ (by omega)
    have k1 : k % h < h := Int.emod_lt_of_pos _ h0
    have kp := pos_of_gcd (emod_gcd g) k0 (by omega)
    have e2 : k % h + h * (k / h) = k := Int.emod_add_mul_ediv k h
    have eu : u = k / h + 1 := by
      have a1 : (k / h) * h < u * h := by
        have := Int.mul_comm h (k / h)
        omega
      have a2 : u * h < (k / h + 2) * h := by
        have := Int.mul_comm h (k / h)
        have : (k / h + 2) * h = (k / h) * h + 2 * h := by grind
        omega
      have b1 := Int.lt_of_mul_lt_mul_right a1 (by omega)
      have b2 := Int.lt_of_mul_lt_mul_right a2 (by omega)
      omega
    have e3 : u * h - k = h - k % h := by
      subst eu
      grind
    have o := T_odd (h := k % h) (k := h) kp k1 (emod_gcd g)
    refine ⟨12 * T (u * h - k) h - (((u * h - k : Int) : Rat) + m) * (h : Rat)⁻¹, .inr ⟨by omega, by omega, m, u * m - x, z, m1, by grind, rfl⟩, ?_⟩
    have c : ((u * h - k : Int) : Rat) = u * h - k := by push_cast; rfl
    rw [ev, st, e3, o, ← e3, c]
    grind
end K31

/-! K31: what each def promises. -/
namespace K31
open PySem DW
def Bx (n : Nat) (p : List D) : Prop := ∃ (a : Int) (f : Bool) (b c : Int), p = [.int a, .bl f, .int b, .int c] ∧ 0 ≤ a ∧ 0 ≤ b ∧ b < 2147483629 ∧ 0 ≤ c ∧ c ≤ n
theorem Bx.mono {n m : Nat} {p : List D} (h : Bx n p) (l : n ≤ m) : Bx m p := by
  obtain ⟨a, f, b, c, e, h1, h2, h3, h4, h5⟩ := h
  exact ⟨a, f, b, c, e, h1, h2, h3, h4, by omega⟩
abbrev pr (a b : Int) : D := .tup [.int a, .int b]
abbrev fr (q : Rat) : D := .tup [.int q.num, .int (q.den : Int)]
def Bq (n : Nat) (q : Rat) : Prop := Bd n q.num ∧ Bd n (q.den : Int)
def stillN (k : Nat) : List Nat := (List.range k).filter fun h => (h * h + 1) % k == 0
def rowF : Nat → Int → Int → List Int
  | 0, _, _ => []
  | n + 1, top, base => if 0 < base then (top / base) :: rowF n base (top % base) else []
/-- a number that makes 1 by h, below k -/
def Inv (h k x : Int) : Prop := (k = 1 ∧ x = 0) ∨ (0 < x ∧ x < k ∧ ∃ m : Int, (h % k) * x = 1 + m * k)
def sp_is_number : FS := fun dvs k => ∃ a : Int, dvs = [.val (.int a)] ∧ k (.ret (.val (.bl true))) dvs
def sp_is_whole : FS := fun dvs k => ∃ a l h : Int, dvs = [.val (.int a), .val (.int l), .val (.int h)] ∧ l ≤ a ∧ a ≤ h ∧ k (.ret (.val (.bl true))) dvs
def sp_still_numbers : FS := fun dvs k => ∃ n : Nat, dvs = [.val (.int (n : Int))] ∧ 1 ≤ n ∧ n ≤ 1000 ∧ k (.ret (.val (.lst ((stillN n).map fun h : Nat => D.int (h : Int))))) dvs
def sp__law_box : FS := fun dvs k => ∃ c : Int, dvs = [.val (.int c)] ∧ ∀ p, Bx 0 p → k (.ret (.own p)) dvs
def sp__law_take : FS := fun dvs k => ∃ (p : List D) (m : Int) (n : Nat), dvs = [.par p, .val (.int m)] ∧ Bx n p ∧ n ≤ 1000000000 ∧ 1 ≤ m ∧ m < 2 ^ 100 ∧ ∀ (d : Int) p', 0 ≤ d → d < m → Bx (n + 1) p' → k (.ret (.val (.int d))) [.par p', .val (.int m)]
def sp__law_low : FS := fun dvs k => ∃ a b : Int, dvs = [.val (.int a), .val (.int b)] ∧ b ≠ 0 ∧ Bd 8000 b ∧ k (.ret (.val (fr (Rat.divInt a b)))) dvs
def sp__law_of_row : FS := fun dvs k => ∃ (f : Int) (r : List Int), dvs = [.val (.lst ((f :: r).map .int))] ∧ (-13 ≤ f ∧ f ≤ 13) ∧ (∀ t ∈ r, 1 ≤ t ∧ t ≤ 13) ∧ r.length ≤ 14 ∧ ∀ q, Bq 200 q → k (.ret (.val (fr q))) dvs
def sp__law_digits : FS := fun dvs k => ∃ (p : List D) (f n : Nat), dvs = [.par p, .val (.int f)] ∧ Bx n p ∧ f ≤ 30 ∧ n ≤ 100000000 ∧ ∀ (d : Int) p', 0 ≤ d → d < 10 ^ f → Bx (n + f) p' → k (.ret (.val (.int d))) [.par p', .val (.int f)]
def sp__law_fraction : FS := fun dvs k => ∃ (p : List D) (f n : Nat), dvs = [.par p, .val (.int f)] ∧ Bx n p ∧ f ≤ 30 ∧ n ≤ 10000000 ∧ ∀ q p', Bq 200 q → Bx (n + 100) p' → k (.ret (.val (fr q))) [.par p', .val (.int f)]
/-- a pair that is drawn -/
def Pq (h k : Int) : Prop := 1 ≤ h ∧ 1 ≤ k ∧ Int.gcd h k = 1 ∧ Bd 200 h ∧ Bd 200 k
def sp__law_above : FS := fun dvs k => ∃ (p : List D) (f n : Nat), dvs = [.par p, .val (.int f)] ∧ Bx n p ∧ f ≤ 30 ∧ n ≤ 1000000 ∧ ∀ a b p', Pq a b → Bx (n + 101) p' → k (.ret (.val (pr a b))) [.par p', .val (.int f)]
def sp__law_drawn : FS := fun dvs k => ∃ (p : List D) (f n : Nat), dvs = [.par p, .val (.int f)] ∧ Bx n p ∧ f ≤ 30 ∧ n ≤ 1000000 ∧ ∀ a b p', Pq a b → Bx (n + 101) p' → k (.ret (.val (pr a b))) [.par p', .val (.int f)]
def sp_common : FS := fun dvs k => ∃ a b : Int, dvs = [.val (.int a), .val (.int b)] ∧ k (.ret (.val (.int (Int.gcd a b)))) dvs
def sp_need_pair : FS := fun dvs k => ∃ a b : Int, dvs = [.val (.int a), .val (.int b)] ∧ 1 ≤ b ∧ Int.gcd a b = 1 ∧ k (.ret (.val .non)) dvs
def sp_made : FS := fun dvs k => ∃ a b : Int, dvs = [.val (.int a), .val (.int b)] ∧ 1 ≤ b ∧ Bd 8000 b ∧ k (.ret (.val (fr (Rat.divInt a b)))) dvs
def sp_sum_of : FS := fun dvs k => ∃ a b : Int, dvs = [.val (.int a), .val (.int b)] ∧ 1 ≤ b ∧ Int.gcd a b = 1 ∧ Bd 210 b ∧ k (.ret (.val (fr (T (a % b) b)))) dvs
def sp_saw_sum : FS := fun dvs k => ∃ a b : Int, dvs = [.val (.int a), .val (.int b)] ∧ 1 ≤ b ∧ Int.gcd a b = 1 ∧ Bd 210 b ∧ k (.ret (.val (fr (T (a % b) b)))) dvs
def sp__law_minus : FS := fun dvs k => ∃ p q : Rat, dvs = [.val (fr p), .val (fr q)] ∧ Bq 3000 p ∧ Bq 3000 q ∧ k (.ret (.val (fr (p - q)))) dvs
def sp__law_plus : FS := fun dvs k => ∃ p q : Rat, dvs = [.val (fr p), .val (fr q)] ∧ Bq 3000 p ∧ Bq 3000 q ∧ k (.ret (.val (fr (p + q)))) dvs
def sp__law_times : FS := fun dvs k => ∃ p q : Rat, dvs = [.val (fr p), .val (fr q)] ∧ Bq 3000 p ∧ Bq 3000 q ∧ k (.ret (.val (fr (p * q)))) dvs
def sp__law_inverse : FS := fun dvs k => ∃ a b : Int, dvs = [.val (.int a), .val (.int b)] ∧ 1 ≤ b ∧ Int.gcd a b = 1 ∧ Bd 210 a ∧ Bd 210 b ∧ ∀ x, Inv a b x → k (.ret (.val (.int x))) dvs
def sp__law_row : FS := fun dvs k => ∃ a b : Nat, dvs = [.val (.int (a : Int)), .val (.int (b : Int))] ∧ a ≤ 1000 ∧ b ≤ 1000 ∧ k (.ret (.val (.lst ((rowF 1001 a b).map .int)))) dvs
def sp__law_is_int : FS := fun dvs k => ∃ a : Int, dvs = [.val (.int a)] ∧ k (.ret (.val (.bl true))) dvs
def sp__law_is_fraction : FS := fun dvs k => ∃ q : Rat, dvs = [.val (fr q)] ∧ Bq 3000 q ∧ k (.ret (.val (.bl true))) dvs
def sp__law_sum : FS := fun dvs k => ∃ p q r : Rat, dvs = [.val (.lst [fr p, fr q, fr r])] ∧ Bq 500 p ∧ Bq 500 q ∧ Bq 500 r ∧ k (.ret (.val (fr (0 + p + q + r)))) dvs
def sp__law_same : FS := fun dvs k => ∃ a : Int, dvs = [.val (.int a), .val (.int a)] ∧ k (.ret (.val (.bl true))) dvs
def sp_saw_whole : FS := fun dvs k => ∃ a b : Int, dvs = [.val (.int a), .val (.int b)] ∧ 1 ≤ b ∧ Int.gcd a b = 1 ∧ Bd 210 b ∧ k (.ret (.val (.int ((6 * b * (T (a % b) b).num).fdiv ((T (a % b) b).den : Int))))) dvs
def sp__law_cell_right : FS := fun dvs k => ∃ (p : List D) (n : Nat), dvs = [.par p] ∧ Bx n p ∧ n ≤ 1000 ∧ ∀ p', k (.ret (.val (.bl true))) [.par p']
def sp__law_cell : FS := fun dvs k => ∃ (ns : List Int) (j : Int), dvs = [.val (.lst (ns.map .int)), .val (.int j)] ∧ 0 ≤ j ∧ j < 1000 ∧ ∀ c : Int, k (.ret (.val (.int c))) dvs
def sp_law : FS := fun dvs k => ∃ ns : List Int, dvs = [.val (.lst (ns.map .int))] ∧ ns.length ≤ 63 ∧ k (.ret (.val (.bl true))) dvs
theorem law_ints (ns : List Int) (h : ns.length ≤ 63) : sp_law [.val (.lst (ns.map .int))] fun o _ => o = .ret (.val (.bl true)) := ⟨ns, rfl, h, rfl⟩
end K31

namespace K31
open PySem DW
theorem len_is_number : ∀ dvs kk, sp_is_number dvs kk → dvs.length = 1 := by
  rintro dvs kk ⟨_, rfl, h⟩
  rfl
theorem len_is_whole : ∀ dvs kk, sp_is_whole dvs kk → dvs.length = 3 := by
  rintro dvs kk ⟨_, _, _, rfl, h⟩
  rfl
theorem len_still_numbers : ∀ dvs kk, sp_still_numbers dvs kk → dvs.length = 1 := by
  rintro dvs kk ⟨_, rfl, h⟩
  rfl
theorem len__law_box : ∀ dvs kk, sp__law_box dvs kk → dvs.length = 1 := by
  rintro dvs kk ⟨_, rfl, h⟩
  rfl
theorem len__law_take : ∀ dvs kk, sp__law_take dvs kk → dvs.length = 2 := by
  rintro dvs kk ⟨_, _, _, rfl, h⟩
  rfl
theorem len__law_low : ∀ dvs kk, sp__law_low dvs kk → dvs.length = 2 := by
  rintro dvs kk ⟨_, _, rfl, h⟩
  rfl
theorem len__law_of_row : ∀ dvs kk, sp__law_of_row dvs kk → dvs.length = 1 := by
  rintro dvs kk ⟨_, _, rfl, h⟩
  rfl
theorem len__law_digits : ∀ dvs kk, sp__law_digits dvs kk → dvs.length = 2 := by
  rintro dvs kk ⟨_, _, _, rfl, h⟩
  rfl
theorem len__law_fraction : ∀ dvs kk, sp__law_fraction dvs kk → dvs.length = 2 := by
  rintro dvs kk ⟨_, _, _, rfl, h⟩
  rfl
theorem len__law_above : ∀ dvs kk, sp__law_above dvs kk → dvs.length = 2 := by
  rintro dvs kk ⟨_, _, _, rfl, h⟩
  rfl
theorem len__law_drawn : ∀ dvs kk, sp__law_drawn dvs kk → dvs.length = 2 := by
  rintro dvs kk ⟨_, _, _, rfl, h⟩
  rfl
theorem len_common : ∀ dvs kk, sp_common dvs kk → dvs.length = 2 := by
  rintro dvs kk ⟨_, _, rfl, h⟩
  rfl
theorem len_need_pair : ∀ dvs kk, sp_need_pair dvs kk → dvs.length = 2 := by
  rintro dvs kk ⟨_, _, rfl, h⟩
  rfl
theorem len_made : ∀ dvs kk, sp_made dvs kk → dvs.length = 2 := by
  rintro dvs kk ⟨_, _, rfl, h⟩
  rfl
theorem len_sum_of : ∀ dvs kk, sp_sum_of dvs kk → dvs.length = 2 := by
  rintro dvs kk ⟨_, _, rfl, h⟩
  rfl
theorem len_saw_sum : ∀ dvs kk, sp_saw_sum dvs kk → dvs.length = 2 := by
  rintro dvs kk ⟨_, _, rfl, h⟩
  rfl
theorem len__law_minus : ∀ dvs kk, sp__law_minus dvs kk → dvs.length = 2 := by
  rintro dvs kk ⟨_, _, rfl, h⟩
  rfl
theorem len__law_plus : ∀ dvs kk, sp__law_plus dvs kk → dvs.length = 2 := by
  rintro dvs kk ⟨_, _, rfl, h⟩
  rfl
theorem len__law_times : ∀ dvs kk, sp__law_times dvs kk → dvs.length = 2 := by
  rintro dvs kk ⟨_, _, rfl, h⟩
  rfl
theorem len__law_inverse : ∀ dvs kk, sp__law_inverse dvs kk → dvs.length = 2 := by
  rintro dvs kk ⟨_, _, rfl, h⟩
  rfl
theorem len__law_row : ∀ dvs kk, sp__law_row dvs kk → dvs.length = 2 := by
  rintro dvs kk ⟨_, _, rfl, h⟩
  rfl
theorem len__law_is_int : ∀ dvs kk, sp__law_is_int dvs kk → dvs.length = 1 := by
  rintro dvs kk ⟨_, rfl, h⟩
  rfl
theorem len__law_is_fraction : ∀ dvs kk, sp__law_is_fraction dvs kk → dvs.length = 1 := by
  rintro dvs kk ⟨_, rfl, h⟩
  rfl
theorem len__law_sum : ∀ dvs kk, sp__law_sum dvs kk → dvs.length = 1 := by
  rintro dvs kk ⟨_, _, _, rfl, h⟩
  rfl
theorem len__law_same : ∀ dvs kk, sp__law_same dvs kk → dvs.length = 2 := by
  rintro dvs kk ⟨_, rfl, h⟩
  rfl
theorem len_saw_whole : ∀ dvs kk, sp_saw_whole dvs kk → dvs.length = 2 := by
  rintro dvs kk ⟨_, _, rfl, h⟩
  rfl
theorem len__law_cell_right : ∀ dvs kk, sp__law_cell_right dvs kk → dvs.length = 1 := by
  rintro dvs kk ⟨_, _, rfl, h⟩
  rfl
theorem len__law_cell : ∀ dvs kk, sp__law_cell dvs kk → dvs.length = 2 := by
  rintro dvs kk ⟨_, _, rfl, h⟩
  rfl
theorem len_law : ∀ dvs kk, sp_law dvs kk → dvs.length = 1 := by
  rintro dvs kk ⟨_, rfl, h⟩
  rfl
end K31

/-! the transformers of the defs, printed by gen.py -/
namespace K31
open PySem DW
/-- is_number(thing), slots 0 thing; level 1 -/
def w_is_number : WS := (wRet (wAndV (wUn (dIsTy .int) (wVar 0)) (wNotV (wUn (dIsTy .bool) (wVar 0)))))
/-- is_whole(thing, low, high), slots 0 thing, 1 low, 2 high; level 2 -/
def w_is_whole : WS := (wRet (wAndV (wCall sp_is_number [.v (wVar 0)]) (wChain dLe dLe (wVar 1) (wVar 0) (wVar 2))))
/-- still_numbers(k), slots 0 k, 1 h; level 3 -/
def w_still_numbers : WS := (wSeq (wIfS (wNot (wTst (wCall sp_is_whole [.v (wVar 0), .v (wC (.int 1)), .v (wC (.int 1000))]))) wNever wNext)
    (wRet (wFrz (wLcR [(wVar 0)] (.nm 1) [1] (wTst (wBin dEq (wBin dMod (wBin dAdd (wBin dMul (wVar 1) (wVar 1)) (wC (.int 1))) (wVar 0)) (wC (.int 0)))) (wVar 1)))))
/-- _law_take(box, many), slots 0 box*, 1 many, 2 digit, 3 mixed; level 1 -/
def w__law_take : WS := (wSeq (wIfS (wAnd (wTst (wIxO 0 (wC (.int 1)))) (wTst (wBin dGt (wIxO 0 (wC (.int 0))) (wC (.int 0))))) (wSeq (wAsg (wBin dMod (wUn dInt (wIxO 0 (wC (.int 0)))) (wVar 1)) (.nm 2))
    (wSeq (wSet 0 (wC (.int 0)) (wBin dFdiv (wIxO 0 (wC (.int 0))) (wVar 1)))
    (wRet (wVar 2)))) wNext)
    (wSeq (wSet 0 (wC (.int 3)) (wBin dAdd (wIxO 0 (wC (.int 3))) (wC (.int 1))))
    (wSeq (wAsg (wBin dMod (wUn dInt (wBin dPow (wBin dAdd (wBin dAdd (wIxO 0 (wC (.int 2))) (wBin dMul (wC (.int 15486959)) (wIxO 0 (wC (.int 3))))) (wC (.int 179425573))) (wC (.int 5)))) (wC (.int 2147483647))) (.nm 3))
    (wRet (wBin dMod (wUn dInt (wBin dFdiv (wBin dMod (wUn dInt (wBin dPow (wBin dAdd (wBin dMul (wVar 3) (wC (.int 48271))) (wBin dMul (wC (.int 8741)) (wIxO 0 (wC (.int 3))))) (wC (.int 3)))) (wC (.int 2147483587))) (wC (.int 64)))) (wVar 1))))))
/-- _law_low(top, base), slots 0 top, 1 base, 2 one, 3 other; level 1 -/
def w__law_low : WS := (wSeq (wPar 2 3 (wUn dAbs (wVar 0)) (wUn dAbs (wVar 1)))
    (wSeq (wWhile (wTst (wBin dGt (wVar 3) (wC (.int 0)))) (wPar 2 3 (wVar 3) (wBin dMod (wUn dInt (wVar 2)) (wVar 3))))
    (wRet (wIf (wTst (wBin dGt (wVar 1) (wC (.int 0)))) (wTup [(wBin dFdiv (wVar 0) (wVar 2)), (wBin dFdiv (wVar 1) (wVar 2))]) (wTup [(wBin dFdiv (wUn dNeg (wVar 0)) (wVar 2)), (wBin dFdiv (wUn dNeg (wVar 1)) (wVar 2))])))))
/-- _law_of_row(row), slots 0 row, 1 top, 2 base, 3 term; level 2 -/
def w__law_of_row : WS := (wSeq (wPar 1 2 (wBin dIx (wVar 0) (wUn dNeg (wC (.int 1)))) (wC (.int 1)))
    (wSeq (wFor (wIf (wTst (wBin dGt (wUn dLen (wVar 0)) (wC (.int 1)))) (wFrz (wRev2 (wVar 0))) (wFrz (wLst []))) (.nm 3) (wPar 1 2 (wBin dAdd (wBin dMul (wVar 3) (wVar 1)) (wVar 2)) (wVar 1)))
    (wRet (wCall sp__law_low [.v (wVar 1), .v (wVar 2)]))))
/-- _law_digits(box, figures), slots 0 box*, 1 figures, 2 found, 3 k; level 2 -/
def w__law_digits : WS := (wSeq (wAsg (wC (.int 0)) (.nm 2))
    (wSeq (wForR [(wVar 1)] (.nm 3) (wAsg (wBin dAdd (wBin dMul (wC (.int 10)) (wVar 2)) (wCall sp__law_take [.s 0, .v (wC (.int 10))])) (.nm 2)))
    (wRet (wVar 2))))
/-- _law_fraction(box, figures), slots 0 box*, 1 figures, 2 way, 3 great, 4 row*, 5 k; level 3 -/
def w__law_fraction : WS := (wSeq (wAsg (wCall sp__law_take [.s 0, .v (wC (.int 5))]) (.nm 2))
    (wSeq (wIfS (wTst (wBin dEq (wVar 2) (wC (.int 0)))) (wRet (wCall sp__law_low [.v (wBin dSub (wCall sp__law_take [.s 0, .v (wC (.int 41))]) (wC (.int 20))), .v (wBin dAdd (wC (.int 1)) (wCall sp__law_take [.s 0, .v (wC (.int 12))]))])) wNext)
    (wSeq (wIfS (wTst (wBin dEq (wVar 2) (wC (.int 1)))) (wRet (wCall sp__law_low [.v (wBin dMul (wCall sp__law_digits [.s 0, .v (wVar 1)]) (wBin dSub (wC (.int 1)) (wBin dMul (wC (.int 2)) (wCall sp__law_take [.s 0, .v (wC (.int 2))])))), .v (wBin dAdd (wC (.int 1)) (wCall sp__law_digits [.s 0, .v (wVar 1)]))])) wNext)
    (wSeq (wParO 3 4 (wBin dIx (wFrz (wLst [(wC (.int 2)), (wC (.int 3)), (wC (.int 12))])) (wCall sp__law_take [.s 0, .v (wC (.int 3))])) (wLst [(wBin dSub (wCall sp__law_take [.s 0, .v (wC (.int 7))]) (wC (.int 3)))]))
    (wSeq (wForR [(wCall sp__law_take [.s 0, .v (wBin dIx (wFrz (wLst [(wC (.int 4)), (wC (.int 9)), (wC (.int 14))])) (wCall sp__law_take [.s 0, .v (wC (.int 3))]))])] (.nm 5) (wApp 4 (wBin dAdd (wC (.int 1)) (wCall sp__law_take [.s 0, .v (wVar 3)]))))
    (wRet (wCall sp__law_of_row [.v (wVar 4)])))))))
/-- _law_above(box, figures), slots 0 box*, 1 figures, 2 found; level 4 -/
def w__law_above : WS := (wSeq (wAsg (wCall sp__law_fraction [.s 0, .v (wVar 1)]) (.nm 2))
    (wRet (wIf (wTst (wBin dNe (wBin dIx (wVar 2) (wC (.int 0))) (wC (.int 0)))) (wTup [(wUn dAbs (wBin dIx (wVar 2) (wC (.int 0)))), (wBin dIx (wVar 2) (wC (.int 1)))]) (wTup [(wC (.int 1)), (wBin dAdd (wC (.int 1)) (wCall sp__law_take [.s 0, .v (wC (.int 9))]))]))))
/-- _law_drawn(box, figures), slots 0 box*, 1 figures; level 5 -/
def w__law_drawn : WS := (wRet (wCall sp__law_above [.s 0, .v (wVar 1)]))
/-- common(one, other), slots 0 one, 1 other; level 1 -/
def w_common : WS := (wSeq (wAsg (wUn dAbs (wVar 0)) (.nm 0))
    (wSeq (wAsg (wUn dAbs (wVar 1)) (.nm 1))
    (wSeq (wWhile (wTst (wBin dNe (wVar 1) (wC (.int 0)))) (wPar 0 1 (wVar 1) (wBin dMod (wVar 0) (wVar 1))))
    (wRet (wVar 0)))))
/-- need_pair(h, k), slots 0 h, 1 k; level 2 -/
def w_need_pair : WS := (wSeq (wIfS (wNot (wTst (wCall sp_is_number [.v (wVar 0)]))) wNever wNext)
    (wSeq (wIfS (wOr (wNot (wTst (wCall sp_is_number [.v (wVar 1)]))) (wTst (wBin dLt (wVar 1) (wC (.int 1))))) wNever wNext)
    (wIfS (wTst (wBin dNe (wCall sp_common [.v (wVar 0), .v (wVar 1)]) (wC (.int 1)))) wNever wNext)))
/-- made(top, bottom), slots 0 top, 1 bottom, 2 by; level 2 -/
def w_made : WS := (wSeq (wAsg (wCall sp_common [.v (wVar 0), .v (wVar 1)]) (.nm 2))
    (wSeq (wIfS (wTst (wBin dLt (wVar 1) (wC (.int 0)))) (wAsg (wUn dNeg (wVar 2)) (.nm 2)) wNext)
    (wRet (wTup [(wBin dFdiv (wVar 0) (wVar 2)), (wBin dFdiv (wVar 1) (wVar 2))]))))
/-- sum_of(h, k), slots 0 h, 1 k, 2 top, 3 bottom, 4 side, 5 part; level 3 -/
def w_sum_of : WS := (wSeq (wAsg (wTup [(wC (.int 0)), (wC (.int 1)), (wC (.int 1))]) (.tp [(.nm 2), (.nm 3), (.nm 4)]))
    (wSeq (wAsg (wBin dMod (wVar 0) (wVar 1)) (.nm 0))
    (wSeq (wWhile (wTst (wBin dGt (wVar 1) (wC (.int 1)))) (wSeq (wAsg (wBin dSub (wBin dAdd (wBin dAdd (wBin dMul (wVar 0) (wVar 0)) (wBin dMul (wVar 1) (wVar 1))) (wC (.int 1))) (wBin dMul (wBin dMul (wC (.int 3)) (wVar 0)) (wVar 1))) (.nm 5))
    (wSeq (wAsg (wCall sp_made [.v (wBin dAdd (wBin dMul (wBin dMul (wBin dMul (wVar 2) (wC (.int 12))) (wVar 0)) (wVar 1)) (wBin dMul (wBin dMul (wVar 4) (wVar 5)) (wVar 3))), .v (wBin dMul (wBin dMul (wBin dMul (wVar 3) (wC (.int 12))) (wVar 0)) (wVar 1))]) (.tp [(.nm 2), (.nm 3)]))
    (wPar3 0 1 4 (wBin dMod (wVar 1) (wVar 0)) (wVar 0) (wUn dNeg (wVar 4))))))
    (wRet (wTup [(wVar 2), (wVar 3)])))))
/-- saw_sum(h, k), slots 0 h, 1 k; level 4 -/
def w_saw_sum : WS := (wSeq (wDrop (wCall sp_need_pair [.v (wVar 0), .v (wVar 1)]))
    (wRet (wCall sp_sum_of [.v (wVar 0), .v (wVar 1)])))
/-- _law_minus(one, other), slots 0 one, 1 other; level 2 -/
def w__law_minus : WS := (wRet (wCall sp__law_low [.v (wBin dSub (wBin dMul (wBin dIx (wVar 0) (wC (.int 0))) (wBin dIx (wVar 1) (wC (.int 1)))) (wBin dMul (wBin dIx (wVar 1) (wC (.int 0))) (wBin dIx (wVar 0) (wC (.int 1))))), .v (wBin dMul (wBin dIx (wVar 0) (wC (.int 1))) (wBin dIx (wVar 1) (wC (.int 1))))]))
/-- _law_inverse(h, k), slots 0 h, 1 k, 2 one, 3 other, 4 left, 5 right, 6 times; level 1 -/
def w__law_inverse : WS := (wSeq (wAsg (wTup [(wVar 1), (wBin dSub (wVar 0) (wBin dMul (wBin dFdiv (wVar 0) (wVar 1)) (wVar 1))), (wC (.int 0)), (wC (.int 1))]) (.tp [(.nm 2), (.nm 3), (.nm 4), (.nm 5)]))
    (wSeq (wWhile (wTst (wBin dGt (wVar 3) (wC (.int 0)))) (wSeq (wAsg (wBin dFdiv (wVar 2) (wVar 3)) (.nm 6))
    (wAsg (wTup [(wVar 3), (wBin dSub (wVar 2) (wBin dMul (wVar 6) (wVar 3))), (wVar 5), (wBin dSub (wVar 4) (wBin dMul (wVar 6) (wVar 5)))]) (.tp [(.nm 2), (.nm 3), (.nm 4), (.nm 5)]))))
    (wRet (wBin dSub (wVar 4) (wBin dMul (wBin dFdiv (wVar 4) (wVar 1)) (wVar 1))))))
/-- _law_row(top, base), slots 0 top, 1 base, 2 found*, 3 whole; level 1 -/
def w__law_row : WS := (wSeq (wAsgO (wLst []) 2)
    (wSeq (wWhile (wTst (wBin dGt (wVar 1) (wC (.int 0)))) (wSeq (wAsg (wBin dFdiv (wVar 0) (wVar 1)) (.nm 3))
    (wSeq (wApp 2 (wVar 3))
    (wPar 0 1 (wVar 1) (wBin dSub (wVar 0) (wBin dMul (wVar 3) (wVar 1)))))))
    (wRet (wVar 2))))
/-- _law_times(one, other), slots 0 one, 1 other; level 2 -/
def w__law_times : WS := (wRet (wCall sp__law_low [.v (wBin dMul (wBin dIx (wVar 0) (wC (.int 0))) (wBin dIx (wVar 1) (wC (.int 0)))), .v (wBin dMul (wBin dIx (wVar 0) (wC (.int 1))) (wBin dIx (wVar 1) (wC (.int 1))))]))
/-- _law_plus(one, other), slots 0 one, 1 other; level 2 -/
def w__law_plus : WS := (wRet (wCall sp__law_low [.v (wBin dAdd (wBin dMul (wBin dIx (wVar 0) (wC (.int 0))) (wBin dIx (wVar 1) (wC (.int 1)))) (wBin dMul (wBin dIx (wVar 1) (wC (.int 0))) (wBin dIx (wVar 0) (wC (.int 1))))), .v (wBin dMul (wBin dIx (wVar 0) (wC (.int 1))) (wBin dIx (wVar 1) (wC (.int 1))))]))
/-- _law_is_int(value), slots 0 value; level 1 -/
def w__law_is_int : WS := (wRet (wAndV (wUn (dIsTy .int) (wVar 0)) (wNotV (wUn (dIsTy .bool) (wVar 0)))))
/-- _law_is_fraction(value), slots 0 value; level 2 -/
def w__law_is_fraction : WS := (wSeq (wIfS (wOr (wNot (wTst (wUn (dIsTy .tuple) (wVar 0)))) (wOr (wTst (wBin dNe (wUn dLen (wVar 0)) (wC (.int 2)))) (wOr (wNot (wTst (wCall sp__law_is_int [.v (wBin dIx (wVar 0) (wC (.int 0)))]))) (wOr (wNot (wTst (wCall sp__law_is_int [.v (wBin dIx (wVar 0) (wC (.int 1)))]))) (wTst (wBin dLt (wBin dIx (wVar 0) (wC (.int 1))) (wC (.int 1)))))))) (wRet (wC (.bl false))) wNext)
    (wRet (wBin dEq (wCall sp__law_low [.v (wBin dIx (wVar 0) (wC (.int 0))), .v (wBin dIx (wVar 0) (wC (.int 1)))]) (wVar 0))))
/-- _law_sum(items), slots 0 items, 1 found, 2 item; level 3 -/
def w__law_sum : WS := (wSeq (wAsg (wTup [(wC (.int 0)), (wC (.int 1))]) (.nm 1))
    (wSeq (wFor (wVar 0) (.nm 2) (wAsg (wCall sp__law_plus [.v (wVar 1), .v (wVar 2)]) (.nm 1)))
    (wRet (wVar 1))))
/-- _law_same(given, due), slots 0 given, 1 due, 2 k; level 1 -/
def w__law_same : WS := (wSeq (wIfS (wOr (wTst (wUn dIsN (wVar 1))) (wTst (wUn (dIsTy .bool) (wVar 1)))) wNever wNext)
    (wSeq (wIfS (wTst (wUn (dIsTy .int) (wVar 1))) (wRet (wAndV (wUn (dIsTy .int) (wVar 0)) (wAndV (wNotV (wUn (dIsTy .bool) (wVar 0))) (wBin dEq (wBin dSub (wUn dInt (wVar 0)) (wVar 1)) (wC (.int 0)))))) wNext)
    (wSeq wNever
    (wSeq wNever
    wNever))))
/-- saw_whole(h, k), slots 0 h, 1 k, 2 top, 3 bottom; level 4 -/
def w_saw_whole : WS := (wSeq (wDrop (wCall sp_need_pair [.v (wVar 0), .v (wVar 1)]))
    (wSeq (wAsg (wCall sp_sum_of [.v (wVar 0), .v (wVar 1)]) (.tp [(.nm 2), (.nm 3)]))
    (wRet (wBin dFdiv (wBin dMul (wBin dMul (wC (.int 6)) (wVar 1)) (wVar 2)) (wVar 3)))))
/-- _law_cell_right(box), slots 0 box*, 1 by_name, 2 turn, 3 h, 4 k, 5 one, 6 other, 7 due, 8 many, 9 turn_of, 10 whole, 11 part, 12 terms, 13 top, 14 base, 15 step, 16 up, 17 total, 18 row, 19 longer; level 6 -/
def w__law_cell_right : WS := (wSeq (wAsg (wBin dEq (wCall sp__law_take [.s 0, .v (wC (.int 2))]) (wC (.int 1))) (.nm 1))
    (wSeq (wForR [(wC (.int 3))] (.nm 2) (wSeq (wAsg (wCall sp__law_drawn [.s 0, .v (wBin dIx (wFrz (wLst [(wC (.int 6)), (wC (.int 28)), (wC (.int 14))])) (wVar 2))]) (.tp [(.nm 3), (.nm 4)]))
    (wSeq (wAsg (wIf (wTst (wVar 1)) (wCallK sp_saw_sum [(wVar 3), (wVar 4)] [] [0, 1]) (wCall sp_saw_sum [.v (wVar 3), .v (wVar 4)])) (.nm 5))
    (wSeq (wAsg (wCall sp_saw_sum [.v (wVar 4), .v (wVar 3)]) (.nm 6))
    (wSeq (wIfS (wOr (wNot (wTst (wCall sp__law_is_fraction [.v (wVar 5)]))) (wNot (wTst (wCall sp__law_is_fraction [.v (wVar 6)])))) (wRet (wC (.bl false))) wNext)
    (wSeq (wAsg (wCall sp__law_minus [.v (wCall sp__law_times [.v (wTup [(wC (.int 1)), (wC (.int 12))]), .v (wCall sp__law_sum [.v (wFrz (wLst [(wCall sp__law_low [.v (wVar 3), .v (wVar 4)]), (wCall sp__law_low [.v (wVar 4), .v (wVar 3)]), (wCall sp__law_low [.v (wC (.int 1)), .v (wBin dMul (wVar 3) (wVar 4))])]))])]), .v (wTup [(wC (.int 1)), (wC (.int 4))])]) (.nm 7))
    (wSeq (wIfS (wTst (wBin dNe (wCall sp__law_plus [.v (wVar 5), .v (wVar 6)]) (wVar 7))) (wRet (wC (.bl false))) wNext)
    (wSeq (wAsg (wBin dSub (wCall sp__law_take [.s 0, .v (wC (.int 9))]) (wC (.int 4))) (.nm 8))
    (wSeq (wAsg (wCall sp__law_inverse [.v (wVar 3), .v (wVar 4)]) (.nm 9))
    (wSeq (wIfS (wOr (wTst (wBin dNe (wCall sp_saw_sum [.v (wBin dSub (wC (.int 0)) (wVar 3)), .v (wVar 4)]) (wTup [(wBin dSub (wC (.int 0)) (wBin dIx (wVar 5) (wC (.int 0)))), (wBin dIx (wVar 5) (wC (.int 1)))]))) (wOr (wTst (wBin dNe (wCall sp_saw_sum [.v (wBin dAdd (wVar 3) (wBin dMul (wVar 8) (wVar 4))), .v (wVar 4)]) (wVar 5))) (wTst (wBin dNe (wCall sp_saw_sum [.v (wIf (wTst (wBin dGt (wVar 4) (wC (.int 1)))) (wVar 9) (wVar 3)), .v (wVar 4)]) (wVar 5))))) (wRet (wC (.bl false))) wNext)
    (wSeq (wAsg (wCall sp__law_minus [.v (wCall sp__law_times [.v (wTup [(wC (.int 12)), (wC (.int 1))]), .v (wVar 5)]), .v (wCall sp__law_low [.v (wBin dAdd (wVar 3) (wVar 9)), .v (wVar 4)])]) (.nm 10))
    (wSeq (wIfS (wOr (wTst (wBin dNe (wBin dIx (wVar 10) (wC (.int 1))) (wC (.int 1)))) (wOr (wNot (wTst (wCall sp__law_same [.v (wCall sp_saw_whole [.v (wVar 3), .v (wVar 4)]), .v (wBin dFdiv (wBin dMul (wBin dMul (wC (.int 6)) (wVar 4)) (wBin dIx (wVar 5) (wC (.int 0)))) (wBin dIx (wVar 5) (wC (.int 1))))]))) (wTst (wBin dNe (wBin dMul (wBin dFdiv (wBin dMul (wBin dMul (wC (.int 6)) (wVar 4)) (wBin dIx (wVar 5) (wC (.int 0)))) (wBin dIx (wVar 5) (wC (.int 1)))) (wBin dIx (wVar 5) (wC (.int 1)))) (wBin dMul (wBin dMul (wC (.int 6)) (wVar 4)) (wBin dIx (wVar 5) (wC (.int 0)))))))) (wRet (wC (.bl false))) wNext)
    (wSeq (wIfS (wTst (wBin dNe (wBin dEq (wBin dIx (wVar 5) (wC (.int 0))) (wC (.int 0))) (wBin dEq (wBin dMul (wBin dFdiv (wBin dAdd (wBin dMul (wVar 3) (wVar 3)) (wC (.int 1))) (wVar 4)) (wVar 4)) (wBin dAdd (wBin dMul (wVar 3) (wVar 3)) (wC (.int 1)))))) (wRet (wC (.bl false))) wNext)
    (wIfS (wTst (wBin dGt (wVar 4) (wC (.int 1)))) (wSeq (wAsg (wBin dSub (wVar 3) (wBin dMul (wBin dFdiv (wVar 3) (wVar 4)) (wVar 4))) (.nm 11))
    (wSeq (wPar3 12 13 14 (wFrz (wLst [])) (wVar 4) (wVar 11))
    (wSeq (wForR [(wC (.int 400))] (.nm 15) (wIfS (wAnd (wTst (wBin dGt (wVar 14) (wC (.int 0)))) (wTst (wBin dLt (wUn dLen (wVar 12)) (wC (.int 300))))) (wSeq (wAsg (wBin dSub (wC (.int 0)) (wBin dFdiv (wBin dSub (wC (.int 0)) (wVar 13)) (wVar 14))) (.nm 16))
    (wPar3 12 13 14 (wFrz (wCat (wVar 12) (wFrz (wLst [(wVar 16)])))) (wVar 14) (wBin dSub (wBin dMul (wVar 16) (wVar 14)) (wVar 13)))) wNext))
    (wIfS (wTst (wBin dEq (wVar 14) (wC (.int 0)))) (wSeq (wAsg (wCall sp__law_plus [.v (wTup [(wBin dSub (wUn dSum (wVar 12)) (wBin dMul (wC (.int 3)) (wUn dLen (wVar 12)))), (wC (.int 1))]), .v (wCall sp__law_low [.v (wBin dAdd (wVar 11) (wVar 9)), .v (wVar 4)])]) (.nm 17))
    (wIfS (wTst (wBin dNe (wCall sp__law_times [.v (wTup [(wC (.int 12)), (wC (.int 1))]), .v (wVar 5)]) (wVar 17))) (wRet (wC (.bl false))) wNext)) wNext)))) wNext))))))))))))))
    (wSeq (wAsg (wBin dIx (wFrz (wLst [(wC (.int 5)), (wC (.int 10)), (wC (.int 13)), (wC (.int 17)), (wC (.int 25)), (wC (.int 26)), (wC (.int 29)), (wC (.int 34)), (wC (.int 37)), (wC (.int 41)), (wC (.int 50)), (wC (.int 53)), (wC (.int 65)), (wC (.int 85)), (wC (.int 130)), (wC (.int 145)), (wC (.int 325)), (wC (.int 425)), (wC (.int 901)), (wC (.int 985))])) (wCall sp__law_take [.s 0, .v (wC (.int 20))])) (.nm 4))
    (wSeq (wFor (wCall sp_still_numbers [.v (wVar 4)]) (.nm 3) (wSeq (wIfS (wTst (wBin dNe (wCall sp_saw_sum [.v (wVar 3), .v (wVar 4)]) (wTup [(wC (.int 0)), (wC (.int 1))]))) (wRet (wC (.bl false))) wNext)
    (wSeq (wAsg (wCall sp__law_row [.v (wVar 4), .v (wVar 3)]) (.nm 18))
    (wSeq (wAsg (wFrz (wCat (wFrz (wCut (wVar 18) wNoP (wP (wUn dNeg (wC (.int 1)))))) (wFrz (wLst [(wBin dSub (wBin dIx (wVar 18) (wUn dNeg (wC (.int 1)))) (wC (.int 1))), (wC (.int 1))])))) (.nm 19))
    (wIfS (wAnd (wTst (wBin dNe (wVar 18) (wFrz (wRev (wVar 18))))) (wTst (wBin dNe (wVar 19) (wFrz (wRev (wVar 19)))))) (wRet (wC (.bl false))) wNext)))))
    (wSeq (wIfS (wTst (wBin dNe (wFrz (wLc (wFrz (wLst [(wC (.int 4)), (wC (.int 12)), (wC (.int 3)), (wC (.int 7)), (wC (.int 21)), (wC (.int 11)), (wC (.int 44)), (wC (.int 63))])) (.nm 4) [4] (wTst (wBin dNe (wCall sp_still_numbers [.v (wVar 4)]) (wFrz (wLst [])))) (wVar 4))) (wFrz (wLst [])))) (wRet (wC (.bl false))) wNext)
    (wRet (wC (.bl true))))))))
/-- _law_box(great), slots 0 great; level 1 -/
def w__law_box : WS := (wRetO (wLst [(wUn dAbs (wVar 0)), (wBin dGe (wUn dAbs (wVar 0)) (wBin dPow (wC (.int 10)) (wC (.int 18)))), (wBin dMod (wUn dInt (wUn dAbs (wVar 0))) (wC (.int 2147483629))), (wC (.int 0))]))
/-- _law_cell(script, k), slots 0 script, 1 k; level 1 -/
def w__law_cell : WS := (wRet (wIf (wTst (wBin dLt (wVar 1) (wUn dLen (wVar 0)))) (wBin dIx (wVar 0) (wVar 1)) (wBin dAdd (wBin dMul (wC (.int 8741)) (wVar 1)) (wBin dMod (wUn dInt (wUn dSum (wFrz (wCut (wVar 0) wNoP (wP (wC (.int 1))))))) (wC (.int 1000003))))))
/-- law(script), slots 0 script, 1 k; level 7 -/
def w_law : WS := (wSeq (wForR [(wBin dMax (wC (.int 2)) (wBin dMin (wC (.int 4)) (wUn dLen (wVar 0))))] (.nm 1) (wIfS (wNot (wTst (wCallT sp__law_cell_right (wCallO sp__law_box [.v (wCall sp__law_cell [.v (wVar 0), .v (wVar 1)])])))) (wRet (wC (.bl false))) wNext))
    (wRet (wC (.bl true))))
end K31

namespace K31
open PySem DW
theorem ten_pow {i j : Nat} (h : i ≤ j) : (10 : Int) ^ i ≤ 10 ^ j := by
  have : 10 ^ i ≤ 10 ^ j := Nat.pow_le_pow_right (by decide) h
  exact_mod_cast this
theorem range_get {lo hi : Int} {i : Nat} {d : D} (h : (rangeD lo hi)[i]? = some d) : d = .int (lo + i) ∧ i < (hi - lo).toNat := by
  have hl := (List.getElem?_eq_some_iff.mp h).1
  unfold rangeD at h hl
  rw [List.length_map, List.length_range] at hl
  rw [List.getElem?_map, List.getElem?_range hl] at h
  exact ⟨(Option.some.inj h).symm, hl⟩
theorem kp_is_number : Keeps0 1 w_is_number sp_is_number := by
  rintro dvs k ⟨a, rfl, h⟩
  exact h
theorem kp__law_is_int : Keeps0 1 w__law_is_int sp__law_is_int := by
  rintro dvs k ⟨a, rfl, h⟩
  exact h
theorem kp_is_whole : Keeps0 3 w_is_whole sp_is_whole := by
  rintro dvs k ⟨a, l, u, rfl, h1, h2, h⟩
  refine ⟨List.nodup_nil, _, rfl, ?_⟩
  refine ite_yes rfl (ite_yes (decide_eq_true h1) ?_)
  show k (.ret (.val (.bl (decide (a ≤ u))))) _
  rw [decide_eq_true h2]
  exact h
theorem kp__law_box : Keeps0 1 w__law_box sp__law_box := by
  rintro dvs k ⟨c, rfl, h⟩
  refine ⟨⟨by decide, by decide, by decide⟩, by decide, h _ ⟨_, _, _, _, rfl, ?_, (fmod_rng (by decide)).1, (fmod_rng (by decide)).2, by decide, by decide⟩⟩
  split <;> omega
theorem kp__law_take : Keeps0 4 w__law_take sp__law_take := by
  rintro dvs k ⟨p, m, n, rfl, ⟨a, f, b, c, rfl, ha, hb, hb', hc, hc'⟩, hn, hm, hm', h⟩
  have bm : Bd 100 m := .of (by omega) hm'
  have b1 : Bd 32 b := .of (by omega) (by omega)
  have b2 : Bd 32 (c + 1) := .of (by omega) (by omega)
  have rest : w__law_take (entry 4 [.par [.int a, .bl f, .int b, .int c], .val (.int m)]) (ends0 [.par [.int a, .bl f, .int b, .int c], .val (.int m)] k) := by
    refine ⟨rfl, ?_⟩
    have last : (wSeq (wSet 0 (wC (.int 3)) (wBin dAdd (wIxO 0 (wC (.int 3))) (wC (.int 1))))
        (wSeq (wAsg (wBin dMod (wUn dInt (wBin dPow (wBin dAdd (wBin dAdd (wIxO 0 (wC (.int 2))) (wBin dMul (wC (.int 15486959)) (wIxO 0 (wC (.int 3))))) (wC (.int 179425573))) (wC (.int 5)))) (wC (.int 2147483647))) (.nm 3))
        (wRet (wBin dMod (wUn dInt (wBin dFdiv (wBin dMod (wUn dInt (wBin dPow (wBin dAdd (wBin dMul (wVar 3) (wC (.int 48271))) (wBin dMul (wC (.int 8741)) (wIxO 0 (wC (.int 3))))) (wC (.int 3)))) (wC (.int 2147483587))) (wC (.int 64)))) (wVar 1)))))
        [some (.par [.int a, .bl f, .int b, .int c]), some (.val (.int m)), none, none] (ends0 [.par [.int a, .bl f, .int b, .int c], .val (.int m)] k) := by
      refine ⟨rfl, rfl, (by decide : (0:Int) ≤ 3 ∧ (3:Int) < 4), rfl, rfl, mulOk (n := 32) (.of (by decide) (by decide)) b2, ⟨by decide, by decide, by omega⟩, by decide, ?_, rfl, mulOk (n := 32) (.of (by decide) (by decide)) b2, ⟨by decide, by decide, ?_⟩, by decide, divOk (n := 32) (by decide) (.of (by decide) (by decide)), by omega, ?_⟩
      · have r := fun a => fmod_rng (a := a) (b := 2147483647) (by decide)
        exact mulOk (n := 32) (m := 32) (.of (Int.lt_of_lt_of_le (by decide) (r _).1) (Int.lt_trans (r _).2 (by decide))) (.of (by decide) (by decide))
      · have r := fun a => fmod_rng (a := a) (b := 2147483647) (by decide)
        have r1 := r ((b + 15486959 * (c + 1) + 179425573) ^ (5 : Int).toNat)
        omega
      · have := fun a => fmod_rng (a := a) (b := m) (by omega)
        exact h _ _ (this _).1 (this _).2 ⟨_, _, _, _, rfl, by omega, hb, hb', by omega, by omega⟩
    cases f with
    | false => exact last
    | true =>
      refine ⟨rfl, ?_⟩
      refine ite_both (fun g => ?_) (fun g => ?_)
      · have g : 0 < a := is_lt g
        refine ⟨rfl, by omega, rfl, divOk (by omega) bm, rfl, (by decide : (0:Int) ≤ 0 ∧ (0:Int) < 4), ?_⟩
        have := fmod_rng (a := a) (b := m) (by omega)
        exact h _ _ this.1 this.2 ⟨_, _, _, _, rfl, fdiv_nonneg ha (by omega), hb, hb', hc, by omega⟩
      · exact last
  exact rest
theorem kp__law_digits : Keeps0 4 w__law_digits sp__law_digits := by
  rintro dvs k ⟨p, f, n, rfl, hp, hf, hn, h⟩
  refine ⟨⟨⟨by decide, by decide⟩, by omega, by omega⟩, fun i ds => ∃ (d : Int) (p : List D) (x : Option DV), ds = [some (.par p), some (.val (.int f)), some (.val (.int d)), x] ∧ 0 ≤ d ∧ d < 10 ^ i ∧ Bx (n + i) p, ⟨_, _, _, rfl, by decide, by decide, hp⟩, ?_, ?_⟩
  · rintro i d ds hi ⟨v, p, x, rfl, v0, v1, hp⟩
    obtain ⟨_, il⟩ := range_get hi
    have il : i < f := by omega
    refine ⟨mulOk (n := 10) (m := 110) (.of (by decide) (by decide)) (.of (by omega) ?_), rfl, by simp [slotsOf], _, _, n + i, rfl, hp, by omega, by decide, by decide, fun d p' d0 d1 hp' => ?_⟩
    · have : (10:Int) ^ i ≤ 10 ^ 30 := ten_pow (by omega)
      have : (10:Int)^30 < 2^110 := by decide
      omega
    · refine ⟨_, _, _, rfl, by omega, ?_, hp'⟩
      rw [Int.pow_succ]
      omega
  · rintro ds ⟨v, p, x, rfl, v0, v1, hp⟩
    have e : (rangeD 0 f).length = f := by simp [rangeD]
    rw [e] at v1 hp
    exact h _ _ v0 v1 hp
theorem kp_common : Keeps0 2 w_common sp_common := by
  rintro dvs k ⟨a, b, rfl, h⟩
  refine ⟨fun m ds => ∃ x y : Int, ds = [some (.val (.int x)), some (.val (.int y))] ∧ 0 ≤ x ∧ 0 ≤ y ∧ Int.gcd x y = Int.gcd a b ∧ m = y.toNat, ⟨_, _, _, rfl, ?_, ?_, ?_, rfl⟩, ?_⟩
  · split <;> omega
  · split <;> omega
  · rw [abs_eq, abs_eq, gcd_abs]
  · rintro m ds ⟨x, y, rfl, hx, hy, hg, rfl⟩
    refine ⟨⟨shp_int _, shp_int _⟩, ite_both (fun g => ?_) (fun g => ?_)⟩
    · have g := ne_int g
      have r := fmod_rng (a := x) (b := y) (by omega)
      exact ⟨g, _, by omega, _, _, rfl, hy, r.1, (gcd_step x y hy).trans hg, rfl⟩
    · have g := ne_int' g
      subst g
      have e : x = (Int.gcd a b : Int) := by
        rw [← hg, Int.gcd_zero_right]
        omega
      show k (.ret (.val (.int x))) _
      rw [e]
      exact h
/-- what the lowest form of a / b is -/
theorem low_pos {a b : Int} (hb : 0 < b) : fr (Rat.divInt a b) = pr (a.fdiv (Int.gcd a b)) (b.fdiv (Int.gcd a b)) := by
  have g0 : 0 < Int.gcd a b := Int.gcd_pos_of_ne_zero_right a (by omega)
  show D.tup [.int (Rat.divInt a b).num, .int ((Rat.divInt a b).den : Int)] = _
  rw [Rat.num_divInt, Rat.den_divInt, if_neg (by omega), Int.sign_eq_one_of_pos hb, Int.one_mul, Int.gcd_comm, Int.fdiv_eq_ediv_of_nonneg a (by omega), Int.fdiv_eq_ediv_of_nonneg b (by omega)]
  have e : ((b.natAbs / Int.gcd a b : Nat) : Int) = b / (Int.gcd a b : Int) := by
    rw [Int.natCast_ediv, show ((b.natAbs : Nat) : Int) = b by omega]
  rw [e]
theorem low_neg {a b : Int} (hb : b < 0) : fr (Rat.divInt a b) = pr ((-a).fdiv (Int.gcd a b)) ((-b).fdiv (Int.gcd a b)) := by
  rw [← Rat.neg_divInt_neg, low_pos (by omega), Int.gcd_neg, Int.neg_gcd]
theorem gcd_bd {a b : Int} {n : Nat} (hb : b ≠ 0) (h : Bd n b) : Bd n (Int.gcd a b : Int) := by
  refine h.le ?_
  have : Int.gcd a b ∣ b.natAbs := Nat.gcd_dvd_right ..
  exact Nat.le_of_dvd (by omega) this
theorem kp__law_low : Keeps0 4 w__law_low sp__law_low := by
  rintro dvs k ⟨a, b, rfl, hb0, hb, h⟩
  refine ⟨fun m ds => ∃ x y : Int, ds = [some (.val (.int a)), some (.val (.int b)), some (.val (.int x)), some (.val (.int y))] ∧ 0 ≤ x ∧ 0 ≤ y ∧ Int.gcd x y = Int.gcd a b ∧ m = y.toNat, ⟨_, _, _, rfl, ?_, ?_, ?_, rfl⟩, ?_⟩
  · split <;> omega
  · split <;> omega
  · rw [abs_eq, abs_eq, gcd_abs]
  · rintro m ds ⟨x, y, rfl, hx, hy, hg, rfl⟩
    refine ite_both (fun g => ?_) (fun g => ?_)
    · have g := is_lt g
      have r := fmod_rng (a := x) (b := y) (by omega)
      exact ⟨by omega, _, by omega, _, _, rfl, hy, r.1, (gcd_step x y hy).trans hg, rfl⟩
    · have g := no_lt g
      have g : y = 0 := by omega
      subst g
      have e : x = (Int.gcd a b : Int) := by
        rw [← hg, Int.gcd_zero_right]
        omega
      subst e
      have g0 : 0 < Int.gcd a b := Int.gcd_pos_of_ne_zero_right a hb0
      have o : DivOk (Int.gcd a b : Int) := divOk (by omega) (gcd_bd hb0 hb)
      refine ite_both (fun q => ?_) (fun q => ?_)
      · have q := is_lt q
        rw [low_pos q] at h
        exact ⟨o, o, h⟩
      · have q := no_lt q
        rw [low_neg (by omega)] at h
        exact ⟨o, o, h⟩
theorem kp_made : Keeps0 3 w_made sp_made := by
  rintro dvs k ⟨a, b, rfl, hb0, hb, h⟩
  refine ⟨List.nodup_nil, _, _, rfl, ?_⟩
  refine ite_no (decide_eq_false (by omega)) ?_
  have g0 : 0 < Int.gcd a b := Int.gcd_pos_of_ne_zero_right a (by omega)
  have o : DivOk (Int.gcd a b : Int) := divOk (by omega) (gcd_bd (by omega) hb)
  rw [low_pos (by omega)] at h
  exact ⟨o, o, h⟩
theorem kp_need_pair : Keeps0 2 w_need_pair sp_need_pair := by
  rintro dvs k ⟨a, b, rfl, hb, hg, h⟩
  refine ⟨List.nodup_nil, _, rfl, List.nodup_nil, _, rfl, ite_no rfl (ite_no (decide_eq_false (by omega)) ?_)⟩
  refine ⟨List.nodup_nil, _, _, rfl, ⟨shp_int _, shp_int _⟩, ?_⟩
  rw [hg]
  exact h
end K31

namespace K31
open PySem DW
theorem dvd_bd {a b : Int} {n : Nat} (hb : b ≠ 0) (d : a ∣ b) (h : Bd n b) : Bd n a := h.le (Nat.le_of_dvd (by omega) (Int.natAbs_dvd_natAbs.mpr d))
/-- the lowest form is no greater -/
theorem bq_div {a b : Int} {n : Nat} (hb : b ≠ 0) (ha : Bd n a) (h : Bd n b) : Bq n (Rat.divInt a b) := by
  have g0 : 0 < Int.gcd b a := Int.gcd_pos_of_ne_zero_left a hb
  constructor
  · rw [Rat.num_divInt]
    refine ha.le ?_
    have e : (b.sign * a / (Int.gcd b a : Int)).natAbs = a.natAbs / Int.gcd b a := by
      have d : (Int.gcd b a : Int) ∣ a := Int.gcd_dvd_right ..
      obtain ⟨c, e⟩ := d
      have e2 : b.sign * a / (Int.gcd b a : Int) = b.sign * c := by
        have : b.sign * a = (Int.gcd b a : Int) * (b.sign * c) := by
          conv => lhs; rw [e]
          grind
        rw [this]
        exact Int.mul_ediv_cancel_left _ (by omega)
      have e3 : a.natAbs = Int.gcd b a * c.natAbs := by
        conv => lhs; rw [e]
        rw [Int.natAbs_mul]
        rfl
      rw [e2, Int.natAbs_mul, Int.natAbs_sign_of_ne_zero hb, Nat.one_mul, e3, Nat.mul_div_cancel_left _ g0]
    rw [e]
    exact Nat.div_le_self _ _
  · rw [Rat.den_divInt, if_neg hb]
    refine h.le ?_
    show b.natAbs / Int.gcd b a ≤ b.natAbs
    exact Nat.div_le_self _ _
theorem Bq.mono {n m : Nat} {q : Rat} (h : Bq n q) (l : n ≤ m) : Bq m q := ⟨h.1.mono l, h.2.mono l⟩
theorem den_ne (q : Rat) : (q.den : Int) ≠ 0 := by
  have := q.den_pos
  omega
theorem add_div (p q : Rat) : p + q = Rat.divInt (p.num * q.den + q.num * p.den) (p.den * q.den) := by
  rw [Rat.add_def', ← Rat.divInt_ofNat]
  rfl
theorem sub_div (p q : Rat) : p - q = Rat.divInt (p.num * q.den - q.num * p.den) (p.den * q.den) := by
  rw [Rat.sub_def', ← Rat.divInt_ofNat]
  rfl
theorem mul_div (p q : Rat) : p * q = Rat.divInt (p.num * q.num) (p.den * q.den) := by
  rw [Rat.mul_def', ← Rat.divInt_ofNat]
  rfl
theorem bq_add {n m : Nat} {p q : Rat} (hp : Bq n p) (hq : Bq m q) : Bq (n + m + 1) (p + q) := by
  rw [add_div]
  refine bq_div (Int.mul_ne_zero (den_ne _) (den_ne _)) (Bd.add (hp.1.mul hq.2) ?_) ((hp.2.mul hq.2).mono (by omega))
  rw [Nat.add_comm]
  exact hq.1.mul hp.2
theorem bq_sub {n m : Nat} {p q : Rat} (hp : Bq n p) (hq : Bq m q) : Bq (n + m + 1) (p - q) := by
  rw [sub_div]
  refine bq_div (Int.mul_ne_zero (den_ne _) (den_ne _)) (Bd.sub (hp.1.mul hq.2) ?_) ((hp.2.mul hq.2).mono (by omega))
  rw [Nat.add_comm]
  exact hq.1.mul hp.2
theorem bq_mul {n m : Nat} {p q : Rat} (hp : Bq n p) (hq : Bq m q) : Bq (n + m) (p * q) := by
  rw [mul_div]
  exact bq_div (Int.mul_ne_zero (den_ne _) (den_ne _)) (hp.1.mul hq.1) (hp.2.mul hq.2)
theorem kp__law_plus : Keeps0 2 w__law_plus sp__law_plus := by
  rintro dvs k ⟨p, q, rfl, hp, hq, h⟩
  rw [add_div] at h
  exact ⟨mulOk hp.1 hq.2, mulOk hq.1 hp.2, mulOk hp.2 hq.2, List.nodup_nil, _, _, rfl, Int.mul_ne_zero (den_ne _) (den_ne _), (hp.2.mul hq.2).mono (by decide), h⟩
theorem kp__law_minus : Keeps0 2 w__law_minus sp__law_minus := by
  rintro dvs k ⟨p, q, rfl, hp, hq, h⟩
  rw [sub_div] at h
  exact ⟨mulOk hp.1 hq.2, mulOk hq.1 hp.2, mulOk hp.2 hq.2, List.nodup_nil, _, _, rfl, Int.mul_ne_zero (den_ne _) (den_ne _), (hp.2.mul hq.2).mono (by decide), h⟩
theorem kp__law_times : Keeps0 2 w__law_times sp__law_times := by
  rintro dvs k ⟨p, q, rfl, hp, hq, h⟩
  rw [mul_div] at h
  exact ⟨mulOk hp.1 hq.1, mulOk hp.2 hq.2, List.nodup_nil, _, _, rfl, Int.mul_ne_zero (den_ne _) (den_ne _), (hp.2.mul hq.2).mono (by decide), h⟩
theorem kp__law_is_fraction : Keeps0 1 w__law_is_fraction sp__law_is_fraction := by
  rintro dvs k ⟨q, rfl, hq, h⟩
  have dp := q.den_pos
  refine ⟨⟨shp_int _, shp_int _⟩, List.nodup_nil, _, rfl, List.nodup_nil, _, rfl, ite_no rfl (ite_no (decide_eq_false (by omega)) ?_)⟩
  refine ⟨List.nodup_nil, _, _, rfl, den_ne _, hq.2.mono (by decide), ⟨shp_pr _ _, shp_pr _ _⟩, ?_⟩
  rw [Rat.num_divInt_den, deq_refl]
  exact h
theorem kp__law_same : Keeps0 3 w__law_same sp__law_same := by
  rintro dvs k ⟨a, rfl, h⟩
  refine ⟨⟨shp_int _, shp_int _⟩, ?_⟩
  rw [Int.sub_self]
  exact h
theorem kp__law_sum : Keeps0 3 w__law_sum sp__law_sum := by
  rintro dvs k ⟨p, q, r, rfl, hp, hq, hr, h⟩
  have b0 : Bq 1 0 := ⟨Bd.of (i := 0) (by decide) (by decide), Bd.of (i := 1) (by decide) (by decide)⟩
  have b1 := bq_add b0 hp
  have b2 := bq_add b1 hq
  refine forI_of ⟨List.nodup_nil, 0, p, rfl, b0.mono (by decide), hp.mono (by decide), List.nodup_nil, _, q, rfl, b1.mono (by decide), hq.mono (by decide), List.nodup_nil, _, r, rfl, b2.mono (by decide), hr.mono (by decide), h⟩
theorem intsD_map : ∀ ns : List Int, intsD (ns.map .int) = some ns
  | [] => rfl
  | n :: r => by
    show (intsD (r.map .int)).map (n :: ·) = some (n :: r)
    rw [intsD_map r]
    rfl
theorem map_cut (ns : List Int) (lo hi : Option Int) : cutD (ns.map D.int) lo hi = (cutD ns lo hi).map D.int := by
  unfold cutD
  rw [List.length_map, List.map_take, List.map_drop]
theorem kp__law_cell : Keeps0 2 w__law_cell sp__law_cell := by
  rintro dvs k ⟨ns, j, rfl, h0, h1, h⟩
  have hl : (ns.map D.int).length = ns.length := List.length_map ..
  refine ite_both (fun g => ?_) (fun g => ?_)
  · have g := is_lt g
    rw [hl] at g
    have e : itemAt (ns.map D.int) j = some (.int (ns[j.toNat]'(by omega))) := by
      unfold itemAt
      rw [if_pos h0, List.getElem?_map, List.getElem?_eq_getElem (by omega)]
      rfl
    show match itemAt (ns.map D.int) j with | some v => _ | none => False
    rw [e]
    exact h _
  · refine ⟨mulOk (n := 20) (m := 20) (.of (by decide) (by decide)) (.of (by omega) (by omega)), ?_⟩
    show match intsD (cutD (ns.map D.int) none (some 1)) with | some ns => _ | none => False
    rw [map_cut, intsD_map]
    exact ⟨by decide, h _⟩
/-- items of the row, from the end, but the last one -/
theorem back_item {f : Int} {r : List Int} (hf : -13 ≤ f ∧ f ≤ 13) (hr : ∀ t ∈ r, 1 ≤ t ∧ t ≤ 13) {i : Nat} {t : Int} (h : ((f :: r).dropLast.reverse)[i]? = some t) : i < r.length ∧ (-13 ≤ t ∧ t ≤ 13) ∧ (i + 1 < r.length → 1 ≤ t) := by
  have hi := (List.getElem?_eq_some_iff.mp h).1
  rw [List.length_reverse, List.length_dropLast] at hi
  have hi : i < r.length := by simpa using hi
  have hi2 : i < (f :: r).dropLast.length := by
    rw [List.length_dropLast]
    simpa using hi
  rw [List.getElem?_reverse hi2, List.length_dropLast] at h
  have e : (f :: r).length - 1 - 1 - i = r.length - 1 - i := by simp
  rw [e, List.getElem?_dropLast, if_pos (by simp; omega)] at h
  refine ⟨hi, ?_⟩
  by_cases z : r.length - 1 - i = 0
  · rw [z] at h
    have h : f = t := Option.some.inj h
    subst h
    exact ⟨hf, fun q => by omega⟩
  · obtain ⟨j, ej⟩ : ∃ j, r.length - 1 - i = j + 1 := ⟨r.length - 1 - i - 1, by omega⟩
    rw [ej] at h
    have h : r[j]? = some t := h
    have m := hr t (List.mem_of_getElem? h)
    exact ⟨⟨by omega, by omega⟩, fun _ => m.1⟩
theorem pow16 {i : Nat} (h : i ≤ 15) : (16 : Int) ^ i ≤ 2 ^ 60 := by
  have : 16 ^ i ≤ 16 ^ 15 := Nat.pow_le_pow_right (by decide) h
  have e : (16 : Nat) ^ 15 = 2 ^ 60 := by decide
  rw [e] at this
  exact_mod_cast this
theorem kp__law_of_row : Keeps0 4 w__law_of_row sp__law_of_row := by
  rintro dvs k ⟨f, r, rfl, hf, hr, hl, h⟩
  have len : ((f :: r).map D.int).length = r.length + 1 := by rw [List.length_map]; rfl
  -- what row[-1] is
  obtain ⟨z, hz, zb⟩ : ∃ z, itemAt ((f :: r).map D.int) (-1) = some (.int z) ∧ ((-13 ≤ z ∧ z ≤ 13) ∧ (r ≠ [] → 1 ≤ z)) := by
    unfold itemAt
    rw [if_neg (by decide), len, if_pos (by omega)]
    have e : (-1 + ((r.length + 1 : Nat) : Int)).toNat = r.length := by omega
    rw [e, List.getElem?_map]
    cases r with
    | nil => exact ⟨f, rfl, hf, fun n => (n rfl).elim⟩
    | cons a l =>
      have hi : (a :: l).length < (f :: a :: l).length := by simp
      refine ⟨(f :: a :: l)[(a :: l).length], by rw [List.getElem?_eq_getElem hi]; rfl, ?_⟩
      have m : (f :: a :: l)[(a :: l).length] ∈ a :: l := by
        have : (f :: a :: l)[(a :: l).length]'hi = (a :: l)[l.length]'(by simp) := by simp
        rw [this]
        exact List.getElem_mem _
      have := hr _ m
      exact ⟨⟨by omega, by omega⟩, fun _ => this.1⟩
  show match itemAt ((f :: r).map D.int) (-1) with | some v => _ | none => False
  rw [hz]
  -- the loop, whatever it walks
  have go : ∀ (xs : List D) (P : Post), (∀ i d, xs[i]? = some d → ∃ t, d = .int t ∧ i < r.length ∧ (-13 ≤ t ∧ t ≤ 13) ∧ (i + 1 < r.length → 1 ≤ t)) → xs.length ≤ r.length →
      (∀ t b x, 1 ≤ b → b ≤ 2 ^ 60 → t ≤ 2 ^ 60 → -2 ^ 60 ≤ t → P.nx [some (.val (.lst ((f :: r).map .int))), some (.val (.int t)), some (.val (.int b)), x]) →
      forI (.nm 3) (wPar 1 2 (wBin dAdd (wBin dMul (wVar 3) (wVar 1)) (wVar 2)) (wVar 1)) P xs [some (.val (.lst ((f :: r).map .int))), some (.val (.int z)), some (.val (.int 1)), none] := fun xs P hx hxl hP => by
    refine ⟨fun i ds => ∃ (t b : Int) (x : Option DV), ds = [some (.val (.lst ((f :: r).map .int))), some (.val (.int t)), some (.val (.int b)), x] ∧ (1 ≤ b ∧ b ≤ 16 ^ (i + 1)) ∧ (t ≤ 16 ^ (i + 1) ∧ -16 ^ (i + 1) ≤ t) ∧ (i < r.length → 1 ≤ t),
      ⟨z, 1, none, rfl, by decide, ⟨by show z ≤ 16; omega, by show -16 ≤ z; omega⟩, fun q => zb.2 fun e => by rw [e] at q; exact absurd q (by decide)⟩, ?_, ?_⟩
    · rintro i d ds hi ⟨t, b, x, rfl, ⟨b0, b1⟩, ⟨t1, t2⟩, tp⟩
      obtain ⟨u, rfl, il, ur, up⟩ := hx i d hi
      have tp := tp il
      have p16 := pow16 (i := i + 1) (by omega)
      refine ⟨mulOk (n := 10) (m := 70) (.of (by omega) (by omega)) (.of (by omega) (by omega)), _, _, _, rfl, ⟨tp, ?_⟩, ⟨?_, ?_⟩, fun q => ?_⟩
      · rw [Int.pow_succ]
        omega
      · have := Int.mul_le_mul_of_nonneg_right ur.2 (show 0 ≤ t by omega)
        rw [Int.pow_succ (16 : Int) (i + 1)]
        omega
      · have := Int.mul_le_mul_of_nonneg_right ur.1 (show 0 ≤ t by omega)
        rw [Int.pow_succ (16 : Int) (i + 1)]
        omega
      · have := Int.mul_le_mul_of_nonneg_right (up q) (show 0 ≤ t by omega)
        omega
    · rintro ds ⟨t, b, x, rfl, ⟨b0, b1⟩, ⟨t1, t2⟩, _⟩
      have p16 := pow16 (i := xs.length + 1) (by omega)
      exact hP t b x b0 (by omega) (by omega) (by omega)
  have fin : ∀ t b x, 1 ≤ b → b ≤ 2 ^ 60 → t ≤ 2 ^ 60 → -2 ^ 60 ≤ t → wRet (wCall sp__law_low [.v (wVar 1), .v (wVar 2)]) [some (.val (.lst ((f :: r).map .int))), some (.val (.int t)), some (.val (.int b)), x] (ends0 [.val (.lst ((f :: r).map .int))] k) := fun t b x b0 b1 t1 t2 => by
    have bb : Bd 61 b := .of (by omega) (by omega)
    exact ⟨List.nodup_nil, _, _, rfl, by omega, bb.mono (by decide), h _ ((bq_div (by omega) (Bd.of (n := 61) (by omega) (by omega)) bb).mono (by decide))⟩
  refine ite_both (fun g => ?_) (fun g => ?_)
  · refine go ((f :: r).map .int).dropLast.reverse _ (fun i d hi => ?_) ?_ ?_
    · rw [← List.map_dropLast, ← List.map_reverse, List.getElem?_map] at hi
      cases e : ((f :: r).dropLast.reverse)[i]? with
      | none => rw [e] at hi; cases hi
      | some t =>
        rw [e] at hi
        exact ⟨t, (Option.some.inj hi).symm, back_item hf hr e⟩
    · rw [List.length_reverse, List.length_dropLast, len]
      omega
    · exact fin
  · refine go [] _ (fun i d hi => by cases hi) (Nat.zero_le _) ?_
    exact fin
end K31

namespace K31
open PySem DW
theorem three_of {x y z d : Int} (h0 : 0 ≤ d) (h1 : d < 3) : (d = 0 ∧ itemAt [D.int x, D.int y, D.int z] d = some (.int x)) ∨ (d = 1 ∧ itemAt [D.int x, D.int y, D.int z] d = some (.int y)) ∨ (d = 2 ∧ itemAt [D.int x, D.int y, D.int z] d = some (.int z)) := by
  have : d = 0 ∨ d = 1 ∨ d = 2 := by omega
  rcases this with rfl | rfl | rfl
  · exact .inl ⟨rfl, rfl⟩
  · exact .inr (.inl ⟨rfl, rfl⟩)
  · exact .inr (.inr ⟨rfl, rfl⟩)
theorem kp__law_fraction : Keeps0 6 w__law_fraction sp__law_fraction := by
  rintro dvs k ⟨p, f, n, rfl, hp, hf, hn, h⟩
  refine ⟨rfl, by simp [slotsOf], _, _, n, rfl, hp, by omega, by decide, by decide, fun d p1 d0 d1 hp1 => ?_⟩
  have t30 : (10 : Int) ^ f ≤ 10 ^ 30 := ten_pow hf
  refine ⟨⟨shp_int _, shp_int _⟩, ite_both (fun g => ?_) (fun g => ?_)⟩
  · refine ⟨rfl, by simp [slotsOf], _, _, _, rfl, hp1, by omega, by decide, by decide, fun e p2 e0 e1 hp2 => ?_⟩
    refine ⟨rfl, by simp [slotsOf], _, _, _, rfl, hp2, by omega, by decide, by decide, fun j p3 j0 j1 hp3 => ?_⟩
    have b2 : Bd 10 (1 + j) := .of (by omega) (by omega)
    exact ⟨List.nodup_nil, _, _, rfl, by omega, b2.mono (by decide), h _ _ ((bq_div (by omega) (Bd.of (by omega) (by omega)) b2).mono (by decide)) (hp3.mono (by omega))⟩
  · refine ⟨⟨shp_int _, shp_int _⟩, ite_both (fun g' => ?_) (fun g' => ?_)⟩
    · refine ⟨rfl, by simp [slotsOf], _, f, _, rfl, hp1, hf, by omega, fun e p2 e0 e1 hp2 => ?_⟩
      refine ⟨rfl, by simp [slotsOf], _, _, _, rfl, hp2, by omega, by decide, by decide, fun j p3 j0 j1 hp3 => ?_⟩
      refine ⟨mulOk (n := 10) (m := 10) (.of (by decide) (by decide)) (.of (by omega) (by omega)), mulOk (n := 110) (m := 10) (.of (by omega) (by omega)) (.of (by omega) (by omega)), ?_⟩
      refine ⟨rfl, by simp [slotsOf], _, f, _, rfl, hp3, hf, by omega, fun u p4 u0 u1 hp4 => ?_⟩
      have b2 : Bd 120 (1 + u) := .of (by omega) (by omega)
      have b1 : Bd 120 (e * (1 - 2 * j)) := (Bd.mul (n := 110) (m := 10) (.of (by omega) (by omega)) (.of (by omega) (by omega)))
      exact ⟨List.nodup_nil, _, _, rfl, by omega, b2.mono (by decide), h _ _ ((bq_div (by omega) b1 b2).mono (by decide)) (hp4.mono (by omega))⟩
    · refine ⟨rfl, by simp [slotsOf], _, _, _, rfl, hp1, by omega, by decide, by decide, fun e p2 e0 e1 hp2 => ?_⟩
      obtain ⟨gr, g0, g1, hg⟩ : ∃ g : Int, 1 ≤ g ∧ g ≤ 12 ∧ itemAt [D.int 2, D.int 3, D.int 12] e = some (.int g) := by
        rcases three_of (x := 2) (y := 3) (z := 12) e0 e1 with ⟨_, q⟩ | ⟨_, q⟩ | ⟨_, q⟩
        · exact ⟨2, by decide, by decide, q⟩
        · exact ⟨3, by decide, by decide, q⟩
        · exact ⟨12, by decide, by decide, q⟩
      show match itemAt [D.int 2, D.int 3, D.int 12] e with | some v => _ | none => False
      rw [hg]
      refine ⟨rfl, by simp [slotsOf], _, _, _, rfl, hp2, by omega, by decide, by decide, fun s p3 s0 s1 hp3 => ?_⟩
      refine ⟨rfl, rfl, by simp [slotsOf], _, _, _, rfl, hp3, by omega, by decide, by decide, fun j p4 j0 j1 hp4 => ?_⟩
      obtain ⟨mm, m0, m1, hm⟩ : ∃ g : Int, 1 ≤ g ∧ g ≤ 14 ∧ itemAt [D.int 4, D.int 9, D.int 14] j = some (.int g) := by
        rcases three_of (x := 4) (y := 9) (z := 14) j0 j1 with ⟨_, q⟩ | ⟨_, q⟩ | ⟨_, q⟩
        · exact ⟨4, by decide, by decide, q⟩
        · exact ⟨9, by decide, by decide, q⟩
        · exact ⟨14, by decide, by decide, q⟩
      show match itemAt [D.int 4, D.int 9, D.int 14] j with | some v => _ | none => False
      rw [hm]
      refine ⟨by simp [slotsOf], _, _, _, rfl, hp4, by omega, by omega, by omega, fun c p5 c0 c1 hp5 => ?_⟩
      refine ⟨⟨⟨by decide, by decide⟩, by omega, by omega⟩, fun i ds => ∃ (r : List Int) (p : List D) (x : Option DV), ds = [some (.par p), some (.val (.int f)), some (.val (.int d)), some (.val (.int gr)), some (.own (((s - 3) :: r).map .int)), x] ∧ (∀ t ∈ r, 1 ≤ t ∧ t ≤ 13) ∧ r.length = i ∧ Bx (n + 5 + i) p,
        ⟨[], _, _, rfl, (fun t ht => by cases ht), rfl, hp5⟩, ?_, ?_⟩
      · rintro i q ds hi ⟨r, p, x, rfl, hr, hl, hp⟩
        obtain ⟨_, il⟩ := range_get hi
        refine ⟨rfl, rfl, by simp [slotsOf], _, _, _, rfl, hp, by omega, g0, by omega, fun v p' v0 v1 hp' => ?_⟩
        refine ⟨?_, r ++ [1 + v], p', some (.val q), ?_, fun t ht => ?_, by simp [hl], hp'⟩
        · show (((s - 3) :: r).map D.int).length < 10000000
          rw [List.length_map, List.length_cons]
          omega
        · have : ((s - 3) :: (r ++ [1 + v])).map D.int = ((s - 3) :: r).map D.int ++ [.int (1 + v)] := by simp
          rw [this]
          rfl
        · rcases List.mem_append.mp ht with z | z
          · exact hr t z
          · have : t = 1 + v := by simpa using z
            omega
      · rintro ds ⟨r, p, x, rfl, hr, hl, hp⟩
        have e : (rangeD 0 c).length = c.toNat := by simp [rangeD]
        rw [e] at hl hp
        exact ⟨List.nodup_nil, s - 3, r, rfl, ⟨by omega, by omega⟩, hr, by omega, fun q hq => h _ _ hq (hp.mono (by omega))⟩
theorem kp__law_above : Keeps0 3 w__law_above sp__law_above := by
  rintro dvs k ⟨p, f, n, rfl, hp, hf, hn, h⟩
  refine ⟨rfl, by simp [slotsOf], p, f, n, rfl, hp, hf, by omega, fun q p1 hq hp1 => ?_⟩
  have dp := q.den_pos
  refine ⟨⟨shp_int _, shp_int _⟩, ite_both (fun g => ?_) (fun g => ?_)⟩
  · have g := ne_int g
    refine h _ _ _ ⟨?_, by omega, ?_, ?_, hq.2⟩ (hp1.mono (by omega))
    · rw [abs_eq]
      omega
    · rw [abs_eq]
      have := q.reduced
      show Nat.gcd ((q.num.natAbs : Nat) : Int).natAbs ((q.den : Nat) : Int).natAbs = 1
      rw [Int.natAbs_natCast, Int.natAbs_natCast]
      exact this
    · rw [abs_eq]
      exact hq.1.le (by omega)
  · refine ⟨rfl, by simp [slotsOf], _, _, _, rfl, hp1, by omega, by decide, by decide, fun d p2 d0 d1 hp2 => ?_⟩
    exact h _ _ _ ⟨by decide, by omega, by rw [Int.gcd_comm, Int.gcd_one], Bd.of (by decide) (by decide), (Bd.of (n := 10) (by omega) (by omega)).mono (by decide)⟩ (hp2.mono (by omega))
theorem kp__law_drawn : Keeps0 2 w__law_drawn sp__law_drawn := by
  rintro dvs k ⟨p, f, n, rfl, hp, hf, hn, h⟩
  exact ⟨rfl, by simp [slotsOf], p, f, n, rfl, hp, hf, hn, fun a b p' hq hp' => h a b p' hq hp'⟩
end K31

namespace K31
open PySem DW
theorem fmod_mod {a b : Int} (h : 0 < b) : a.fmod b = a % b := Int.fmod_eq_emod_of_nonneg a (Int.le_of_lt h)
theorem fdiv_div {a b : Int} (h : 0 < b) : a.fdiv b = a / b := Int.fdiv_eq_ediv_of_nonneg a (Int.le_of_lt h)
/-! still numbers -/
theorem kp_still_numbers : Keeps0 2 w_still_numbers sp_still_numbers := by
  rintro dvs k ⟨n, rfl, n0, n1, h⟩
  refine ⟨List.nodup_nil, _, _, _, rfl, by omega, by omega, ?_⟩
  refine ⟨⟨⟨by decide, by decide⟩, by omega, by omega⟩, fun i acc ds => acc = ((List.range i).filter fun h => (h * h + 1) % n == 0).map (fun h : Nat => D.int (h : Int)) ∧ ∃ x, ds = [some (.val (.int (n : Int))), x], ⟨rfl, _, rfl⟩, ?_, ?_⟩
  · rintro i d acc ds hi ⟨rfl, x, rfl⟩
    have hi2 := (List.getElem?_eq_some_iff.mp hi).1
    unfold rangeD at hi hi2
    rw [List.length_map, List.length_range] at hi2
    rw [List.getElem?_map, List.getElem?_range hi2] at hi
    have ed := (Option.some.inj hi).symm
    subst ed
    have il : i < 1000 := by omega
    have b1 : Bd 20 (0 + (i : Int)) := .of (by omega) (by omega)
    refine ⟨mulOk b1 b1, by omega, ⟨shp_int _, shp_int _⟩, ?_⟩
    have e : ((0 + (i : Int)) * (0 + (i : Int)) + 1).fmod (n : Int) = (((i * i + 1) % n : Nat) : Int) := by
      rw [Int.zero_add, fmod_mod (by omega)]
      push_cast
      rfl
    rw [e]
    have lf : ((List.range i).filter fun h => (h * h + 1) % n == 0).length ≤ i := by
      have := List.length_filter_le (fun h => (h * h + 1) % n == 0) (List.range i)
      rw [List.length_range] at this
      exact this
    refine ite_both (fun g => ?_) (fun g => ?_)
    · have g := eq_int g
      have g : (i * i + 1) % n = 0 := by exact_mod_cast g
      refine ⟨?_, ?_, _, rfl⟩
      · rw [List.length_map]
        omega
      · rw [List.range_succ, List.filter_append, List.map_append]
        simp [g]
    · have g := eq_int' g
      have g : (i * i + 1) % n ≠ 0 := fun z => g (by exact_mod_cast z)
      refine ⟨?_, _, rfl⟩
      rw [List.range_succ, List.filter_append, List.map_append]
      simp [g]
  · rintro acc ds ⟨ea, x, rfl⟩
    have e : (rangeD 0 (n : Int)).length = n := by simp [rangeD]
    rw [e] at ea
    subst ea
    exact h
/-! the row -/
theorem rowF_more : ∀ (n m : Nat) {a b : Int}, 0 ≤ b → b < n → n ≤ m → rowF m a b = rowF n a b
  | 0, m, a, b, h0, h1, l => by omega
  | n + 1, 0, a, b, h0, h1, l => by omega
  | n + 1, m + 1, a, b, h0, h1, l => by
    unfold rowF
    by_cases z : 0 < b
    · rw [if_pos z, if_pos z]
      have r0 : 0 ≤ a % b := Int.emod_nonneg _ (by omega)
      have r1 : a % b < b := Int.emod_lt_of_pos _ z
      rw [rowF_more n m r0 (by omega) (by omega)]
    · rw [if_neg z, if_neg z]
theorem kp__law_row : Keeps0 4 w__law_row sp__law_row := by
  rintro dvs k ⟨a, b, rfl, ha, hb, h⟩
  refine ⟨fun m ds => ∃ (x y : Int) (l : List Int) (z : Option DV), ds = [some (.val (.int x)), some (.val (.int y)), some (.own (l.map .int)), z] ∧ (0 ≤ x ∧ x ≤ 1000) ∧ (0 ≤ y ∧ y ≤ 1000) ∧ l.length + y.toNat ≤ 1000 ∧ l ++ rowF 1001 x y = rowF 1001 (a : Int) (b : Int) ∧ m = y.toNat, ⟨_, (a : Int), (b : Int), [], none, rfl, ⟨by omega, by omega⟩, ⟨by omega, by omega⟩, by simp; omega, rfl, rfl⟩, ?_⟩
  rintro m ds ⟨x, y, l, z, rfl, ⟨x0, x1⟩, ⟨y0, y1⟩, hl, e, rfl⟩
  refine ite_both (fun g => ?_) (fun g => ?_)
  · have g := is_lt g
    have r0 : 0 ≤ x % y := Int.emod_nonneg _ (by omega)
    have r1 : x % y < y := Int.emod_lt_of_pos _ g
    have dv := Int.emod_add_mul_ediv x y
    have by20 : Bd 20 y := .of (by omega) (by omega)
    have d0 : 0 ≤ x / y := Int.ediv_nonneg x0 y0
    have d1 : x / y ≤ x := Int.ediv_le_self _ x0
    refine ⟨divOk (by omega) by20, rfl, ?_, ?_⟩
    · show (l.map D.int).length < 10000000
      rw [List.length_map]
      omega
    · rw [fdiv_div g]
      refine ⟨mulOk (n := 20) (.of (by omega) (by omega)) by20, _, ?_, y, x - x / y * y, l ++ [x / y], some (.val (.int (x / y))), ?_, ⟨y0, y1⟩, ⟨?_, ?_⟩, ?_, ?_, rfl⟩
      · have := Int.mul_comm y (x / y)
        omega
      · rw [List.map_append]
        rfl
      · have := Int.mul_comm y (x / y)
        omega
      · have := Int.mul_comm y (x / y)
        omega
      · have := Int.mul_comm y (x / y)
        rw [List.length_append]
        simp
        omega
      · have em : x - x / y * y = x % y := by
          have := Int.mul_comm y (x / y)
          omega
        rw [em, ← e, List.append_assoc]
        congr 1
        rw [rowF_more 1000 1001 r0 (by omega) (by omega)]
        conv => rhs; unfold rowF
        rw [if_pos g]
        rfl
  · have g := no_lt g
    have ey : y = 0 := by omega
    subst ey
    have : rowF 1001 x 0 = [] := by
      unfold rowF
      rw [if_neg (by decide)]
    rw [this, List.append_nil] at e
    show k (.ret (.val (.lst (l.map .int)))) _
    rw [e]
    exact h
end K31

namespace K31
open PySem DW
theorem T_bnd : ∀ (n : Nat) {h k : Int}, k.toNat ≤ n → Int.gcd h k = 1 → 0 < h → h < k → ∃ i : Int, 6 * (k : Rat) * T h k = i ∧ i ≤ 3 * (k * k * k) ∧ -(3 * (k * k * k)) ≤ i
  | 0, h, k, hn, g, h0, h1 => by omega
  | n + 1, h, k, hn, g, h0, h1 => by
    obtain ⟨i, hi⟩ := T_six k.toNat (Nat.le_refl _) g h0 h1
    have ah := cast_ne (a := h) (by omega)
    have ak := cast_ne (a := k) (by omega)
    obtain ⟨N, hN, n1, n2⟩ : ∃ N : Int, 6 * (h : Rat) * T (k % h) h = N ∧ N ≤ 3 * (h * h * h) ∧ -(3 * (h * h * h)) ≤ N := by
      have k0 : 0 ≤ k % h := Int.emod_nonneg _ (by omega)
      have k1 : k % h < h := Int.emod_lt_of_pos _ h0
      by_cases z : k % h = 0
      · rw [z, T_zero]
        have p : 0 ≤ h * h * h := Int.mul_nonneg (Int.mul_nonneg (by omega) (by omega)) (by omega)
        exact ⟨0, by rw [Rat.mul_zero]; rfl, by omega, by omega⟩
      · exact T_bnd n (by omega) (emod_gcd g) (by omega) k1
    have r1 := R12 (h := h) (k := k) (by omega) (by omega)
    have st := T_step h0 h1
    have eq : ((2 * h * i : Int) : Rat) = ((h * h + k * k + 1 - 3 * h * k - 2 * k * N : Int) : Rat) := by
      push_cast
      rw [← hi, st]
      grind
    have eq : 2 * h * i = h * h + k * k + 1 - 3 * h * k - 2 * k * N := by exact_mod_cast eq
    have s1 : h * h ≤ k * k := Int.mul_le_mul (by omega) (by omega) (by omega) (by omega)
    have s2 : h * k ≤ k * k := Int.mul_le_mul_of_nonneg_right (by omega) (by omega)
    have s3 : 1 * 1 ≤ k * k := Int.mul_le_mul (by omega) (by omega) (by omega) (by omega)
    have s4 : 0 ≤ h * k := Int.mul_nonneg (by omega) (by omega)
    have s5 : 0 ≤ h * h := Int.mul_nonneg (by omega) (by omega)
    have p1 : 2 * k * N ≤ 2 * k * (3 * (h * h * h)) := Int.mul_le_mul_of_nonneg_left n1 (by omega)
    have p2 : 2 * k * -(3 * (h * h * h)) ≤ 2 * k * N := Int.mul_le_mul_of_nonneg_left n2 (by omega)
    have key : 3 * (k * k) + 6 * (k * (h * h * h)) ≤ 6 * (h * (k * k * k)) := by
      have a1 : 0 ≤ h * k * (k + h) := Int.mul_nonneg s4 (by omega)
      have a2 : h * k * (k + h) * 1 ≤ h * k * (k + h) * (k - h) := Int.mul_le_mul_of_nonneg_left (by omega) a1
      have a3 : 1 * (k * k) ≤ h * (k * k) := Int.mul_le_mul_of_nonneg_right (by omega) (by omega)
      have a4 : h * k * (k + h) = h * (k * k) + k * (h * h) := by grind
      have a5 : 0 ≤ k * (h * h) := Int.mul_nonneg (by omega) s5
      have a6 : h * k * (k + h) * (k - h) = h * (k * k * k) - k * (h * h * h) := by grind
      omega
    have e1 : 2 * k * (3 * (h * h * h)) = 6 * (k * (h * h * h)) := by grind
    have e2 : 2 * k * -(3 * (h * h * h)) = -(6 * (k * (h * h * h))) := by grind
    have e3 : 3 * h * k = 3 * (h * k) := by grind
    refine ⟨i, hi, ?_, ?_⟩
    · refine Int.le_of_mul_le_mul_left (a := 2 * h) ?_ (by omega)
      have : 2 * h * (3 * (k * k * k)) = 6 * (h * (k * k * k)) := by grind
      omega
    · refine Int.le_of_mul_le_mul_left (a := 2 * h) ?_ (by omega)
      have : 2 * h * -(3 * (k * k * k)) = -(6 * (h * (k * k * k))) := by grind
      omega
theorem T_bq {h k : Int} (g : Int.gcd h k = 1) (h0 : 0 ≤ h) (h1 : h < k) (b : Bd 210 k) : Bq 640 (T h k) := by
  by_cases hk : k = 1
  · subst hk
    rw [T_one]
    exact Bq.mono (n := 1) ⟨Bd.of (i := 0) (by decide) (by decide), Bd.of (i := 1) (by decide) (by decide)⟩ (by decide)
  · obtain ⟨i, hi, i1, i2⟩ := T_bnd k.toNat (Nat.le_refl _) g (pos_of_gcd g h0 (by omega)) h1
    have ak := cast_ne (a := 6 * k) (by omega)
    have e : T h k = Rat.divInt i (6 * k) := by
      rw [Rat.divInt_eq_div, ← hi]
      push_cast at ak ⊢
      grind
    rw [e]
    have b3 : Bd 630 (k * k * k) := ((b.mul b).mul b).mono (by decide)
    have bi : Bd 640 i := (Bd.mul (n := 10) (m := 630) (i := 3) (.of (by decide) (by decide)) b3).le (by omega)
    have b6 : Bd 640 (6 * k) := (Bd.mul (n := 10) (.of (by decide) (by decide)) b).mono (by decide)
    exact bq_div (by omega) bi b6
theorem bq_neg {n : Nat} {q : Rat} (h : Bq n q) : Bq n (-q) := ⟨by rw [Rat.neg_num]; exact h.1.neg, h.2⟩
theorem kp_sum_of : Keeps0 6 w_sum_of sp_sum_of := by
  rintro dvs k ⟨a, b, rfl, hb, hg, hbd, h⟩
  have a0 : 0 ≤ a % b := Int.emod_nonneg _ (by omega)
  have a1 : a % b < b := Int.emod_lt_of_pos _ (by omega)
  have ga : Int.gcd (a % b) b = 1 := emod_gcd (by rw [Int.gcd_comm]; exact hg)
  have t0 := T_bq ga a0 a1 hbd
  refine ⟨by omega, ?_⟩
  rw [fmod_mod (by omega)]
  refine ⟨fun m ds => ∃ (h k : Int) (q : Rat) (s : Int) (x : Option DV), ds = [some (.val (.int h)), some (.val (.int k)), some (.val (.int q.num)), some (.val (.int (q.den : Int))), some (.val (.int s)), x] ∧ (0 ≤ h ∧ h < k ∧ k ≤ b) ∧ Int.gcd h k = 1 ∧ (s = 1 ∨ s = -1) ∧ q + (s : Rat) * T h k = T (a % b) b ∧ m = k.toNat,
    ⟨_, _, _, 0, _, _, rfl, ⟨a0, a1, by omega⟩, ga, .inl rfl, ?_, rfl⟩, ?_⟩
  · rw [Rat.zero_add]
    exact Rat.one_mul _
  · rintro m ds ⟨u, v, q, s, x, rfl, ⟨u0, u1, vb⟩, g, hs, e, rfl⟩
    refine ite_both (fun z => ?_) (fun z => ?_)
    · have z := is_lt z
      have up := pos_of_gcd g u0 z
      have bv : Bd 210 v := hbd.le (by omega)
      have bu : Bd 210 u := hbd.le (by omega)
      have bt := T_bq g u0 u1 bv
      have bq : Bq 1290 q := by
        rcases hs with rfl | rfl
        · have eq : q = T (a % b) b - T u v := by
            have c : ((1 : Int) : Rat) = 1 := rfl
            rw [c] at e
            grind
          rw [eq]
          exact (bq_sub t0 bt).mono (by decide)
        · have eq : q = T (a % b) b + T u v := by
            have c : ((-1 : Int) : Rat) = -1 := rfl
            rw [c] at e
            grind
          rw [eq]
          exact (bq_add t0 bt).mono (by decide)
      have bs : Bd 2 s := by rcases hs with rfl | rfl <;> exact .of (by decide) (by decide)
      have b3 : Bd 10 3 := .of (by decide) (by decide)
      have b12 : Bd 10 12 := .of (by decide) (by decide)
      have buu : Bd 420 (u * u) := Bd.mono (bu.mul bu) (by decide)
      have bvv : Bd 420 (v * v) := Bd.mono (bv.mul bv) (by decide)
      have b3u : Bd 220 (3 * u) := Bd.mono (b3.mul bu) (by decide)
      have b3uv : Bd 430 (3 * u * v) := Bd.mono (b3u.mul bv) (by decide)
      have bP : Bd 435 (u * u + v * v + 1 - 3 * u * v) := by
        have c1 := buu.add bvv
        have c2 := c1.add ((Bd.of (n := 2) (i := 1) (by decide) (by decide)).mono (by decide : 2 ≤ 420 + 1))
        exact ((c2.mono (by decide : 420 + 1 + 1 ≤ 431)).sub (b3uv.mono (by decide : 430 ≤ 431))).mono (by decide)
      have n12 : Bd 1300 (q.num * 12) := Bd.mono (bq.1.mul b12) (by decide)
      have n12u : Bd 1510 (q.num * 12 * u) := Bd.mono (n12.mul bu) (by decide)
      have bsP : Bd 437 (s * (u * u + v * v + 1 - 3 * u * v)) := Bd.mono (bs.mul bP) (by decide)
      have d12 : Bd 1300 ((q.den : Int) * 12) := Bd.mono (bq.2.mul b12) (by decide)
      have d12u : Bd 1510 ((q.den : Int) * 12 * u) := Bd.mono (d12.mul bu) (by decide)
      have d12uv : Bd 1720 ((q.den : Int) * 12 * u * v) := Bd.mono (d12u.mul bv) (by decide)
      have dp := q.den_pos
      have pos : 1 ≤ (q.den : Int) * 12 * u * v := by
        have c1 : 0 < (q.den : Int) * 12 * u := Int.mul_pos (by omega) up
        have c2 : 0 < (q.den : Int) * 12 * u * v := Int.mul_pos c1 (by omega)
        omega
      refine ⟨mulOk bu bu, mulOk bv bv, mulOk b3 bu, mulOk b3u bv, mulOk bq.1 b12, mulOk n12 bu, mulOk n12u bv, mulOk bs bP, mulOk bsP bq.2, mulOk bq.2 b12, mulOk d12 bu, mulOk d12u bv, ?_⟩
      refine ⟨List.nodup_nil, _, _, rfl, pos, d12uv.mono (by decide), ?_⟩
      have eqR : Rat.divInt (q.num * 12 * u * v + s * (u * u + v * v + 1 - 3 * u * v) * q.den) (q.den * 12 * u * v) = q + (s : Rat) * R u v := by
        rw [Rat.divInt_eq_div]
        have hq : (q.num : Rat) = q * ((q.den : Int) : Rat) := by
          have h1 := Rat.num_divInt_den q
          rw [Rat.divInt_eq_div] at h1
          have h2 := cast_ne (den_ne q)
          conv => rhs; lhs; rw [← h1]
          exact (Rat.div_mul_cancel h2).symm
        have cu := cast_ne (a := u) (by omega)
        have cv := cast_ne (a := v) (by omega)
        have cd := cast_ne (den_ne q)
        have r12 := R12 (h := u) (k := v) (by omega) (by omega)
        have cw : ((q.den : Int) : Rat) * 12 * u * v ≠ 0 := mul_ne (mul_ne (mul_ne cd (by decide)) cu) cv
        have e1 : (((q.den : Int) * 12 * u * v : Int) : Rat) = ((q.den : Int) : Rat) * 12 * u * v := by push_cast; rfl
        have e2 : ((q.num * 12 * u * v + s * (u * u + v * v + 1 - 3 * u * v) * (q.den : Int) : Int) : Rat) = q * ((q.den : Int) : Rat) * 12 * u * v + s * (u * u + v * v + 1 - 3 * u * v) * ((q.den : Int) : Rat) := by
          rw [← hq]
          push_cast
          rfl
        rw [e1, e2]
        generalize ((q.den : Int) : Rat) = dd at cd cw ⊢
        generalize (s : Rat) = ss
        have e3 : (q + ss * R u v) * (dd * 12 * u * v) = q * dd * 12 * u * v + ss * (u * u + v * v + 1 - 3 * u * v) * dd := by grind
        rw [← e3]
        exact Rat.mul_div_cancel cw
      rw [eqR]
      refine ⟨by omega, ?_⟩
      rw [fmod_mod up]
      have v0 : 0 ≤ v % u := Int.emod_nonneg _ (by omega)
      have v1 : v % u < u := Int.emod_lt_of_pos _ up
      refine ⟨u.toNat, by omega, v % u, u, _, -s, _, rfl, ⟨v0, v1, by omega⟩, emod_gcd g, ?_, ?_, rfl⟩
      · rcases hs with rfl | rfl
        · exact .inr rfl
        · exact .inl rfl
      · have st := T_step up u1
        rw [st] at e
        have c : ((-s : Int) : Rat) = -s := by push_cast; rfl
        rw [c, ← e]
        grind
    · have z := no_lt z
      have ev : v = 1 := by omega
      subst ev
      rw [T_one, Rat.mul_zero, Rat.add_zero] at e
      show k (.ret (.val (fr q))) _
      rw [e]
      exact h
theorem kp_saw_sum : Keeps0 2 w_saw_sum sp_saw_sum := by
  rintro dvs k ⟨a, b, rfl, hb, hg, hbd, h⟩
  exact ⟨List.nodup_nil, _, _, rfl, hb, hg, List.nodup_nil, _, _, rfl, hb, hg, hbd, h⟩
theorem kp_saw_whole : Keeps0 4 w_saw_whole sp_saw_whole := by
  rintro dvs k ⟨a, b, rfl, hb, hg, hbd, h⟩
  have a0 : 0 ≤ a % b := Int.emod_nonneg _ (by omega)
  have a1 : a % b < b := Int.emod_lt_of_pos _ (by omega)
  have t0 := T_bq (emod_gcd (by rw [Int.gcd_comm]; exact hg)) a0 a1 hbd
  have b6 : Bd 10 6 := .of (by decide) (by decide)
  have b6k : Bd 220 (6 * b) := Bd.mono (b6.mul hbd) (by decide)
  exact ⟨List.nodup_nil, _, _, rfl, hb, hg, List.nodup_nil, _, _, rfl, hb, hg, hbd, mulOk b6 hbd, mulOk b6k t0.1, divOk (den_ne _) t0.2, h⟩
end K31

namespace K31
open PySem DW
theorem neg_le {e r : Int} (h : 0 ≤ e * r) : -e * r ≤ 0 := by
  rw [Int.neg_mul]
  omega
theorem kp__law_inverse : Keeps0 7 w__law_inverse sp__law_inverse := by
  rintro dvs k ⟨a, b, rfl, hb, hg, ba, bb, h⟩
  have q0 : 0 ≤ a % b := Int.emod_nonneg _ (by omega)
  have q1 : a % b < b := Int.emod_lt_of_pos _ (by omega)
  have eq := Int.emod_add_mul_ediv a b
  have eq' : a - a / b * b = a % b := by
    have := Int.mul_comm b (a / b)
    omega
  have bd : ∀ {x : Int}, -b ≤ x → x ≤ b → Bd 210 x := fun h1 h2 => bb.le (by omega)
  have bqd : Bd 210 (a / b) := by
    refine ba.le ?_
    exact Int.natAbs_ediv_le_natAbs a b
  refine ⟨divOk (by omega) bb, ?_⟩
  rw [fdiv_div (by omega)]
  refine ⟨mulOk bqd bb, ?_⟩
  refine ⟨fun m ds => ∃ (o t l r : Int) (x : Option DV), ds = [some (.val (.int a)), some (.val (.int b)), some (.val (.int o)), some (.val (.int t)), some (.val (.int l)), some (.val (.int r)), x] ∧ (1 ≤ o ∧ o ≤ b ∧ 0 ≤ t ∧ t ≤ b) ∧ Int.gcd o t = 1 ∧ (∃ u, a * l = o + u * b) ∧ (∃ v, a * r = t + v * b) ∧
    (∃ e : Int, (e = 1 ∨ e = -1) ∧ o * (e * r) + t * -(e * l) = b ∧ 0 ≤ e * r ∧ e * l ≤ 0) ∧ (-b ≤ l ∧ l ≤ b) ∧ m = t.toNat, ⟨_, b, a - a / b * b, 0, 1, none, rfl, ⟨hb, by omega, by omega, by omega⟩, ?_, ⟨-1, by grind⟩, ⟨a / b, by omega⟩, ⟨1, .inl rfl, by omega, by decide, by decide⟩, ⟨by omega, by omega⟩, rfl⟩, ?_⟩
  · rw [eq', Int.gcd_comm]
    exact emod_gcd (by rw [Int.gcd_comm]; exact hg)
  · rintro m ds ⟨o, t, l, r, x, rfl, ⟨o1, ob, t0, tb⟩, g, ⟨u, hu⟩, ⟨v, hv⟩, ⟨e, he, es, e1, e2⟩, ⟨l1, l2⟩, rfl⟩
    refine ite_both (fun z => ?_) (fun z => ?_)
    · have z := is_lt z
      have m0 : 0 ≤ o % t := Int.emod_nonneg _ (by omega)
      have m1 : o % t < t := Int.emod_lt_of_pos _ z
      have me := Int.emod_add_mul_ediv o t
      have mc := Int.mul_comm t (o / t)
      have d0 : 0 ≤ o / t := Int.ediv_nonneg (by omega) t0
      have d1 : o / t ≤ o := Int.ediv_le_self _ (by omega)
      -- r is within b
      have rb : -b ≤ r ∧ r ≤ b := by
        have c1 : 1 * (e * r) ≤ o * (e * r) := Int.mul_le_mul_of_nonneg_right o1 e1
        have c2 : 0 ≤ t * -(e * l) := Int.mul_nonneg t0 (by omega)
        rcases he with rfl | rfl <;> omega
      refine ⟨divOk (by omega) (bd (by omega) (by omega)), ?_⟩
      rw [fdiv_div z]
      refine ⟨mulOk (bd (x := o / t) (by omega) (by omega)) (bd (x := t) (by omega) (by omega)), mulOk (bd (x := o / t) (by omega) (by omega)) (bd (x := r) rb.1 rb.2), ?_⟩
      refine ⟨_, ?_, t, o - o / t * t, r, l - o / t * r, some (.val (.int (o / t))), rfl, ⟨by omega, tb, by omega, by omega⟩, ?_, ⟨v, hv⟩, ⟨u - (o / t) * v, by grind⟩, ⟨-e, ?_, by grind, ?_, neg_le e1⟩, rb, rfl⟩
      · omega
      · have em : o - o / t * t = o % t := by omega
        rw [em, Int.gcd_comm]
        exact emod_gcd (by rw [Int.gcd_comm]; exact g)
      · rcases he with rfl | rfl
        · exact .inr rfl
        · exact .inl rfl
      · have c : 0 ≤ (o / t) * (e * r) := Int.mul_nonneg d0 e1
        have : -e * (l - o / t * r) = -(e * l) + (o / t) * (e * r) := by grind
        omega
    · have z := no_lt z
      have et : t = 0 := by omega
      subst et
      rw [Int.gcd_zero_right] at g
      have eo : o = 1 := by omega
      subst eo
      have bl : Bd 210 (l / b) := (bd l1 l2).le (Int.natAbs_ediv_le_natAbs l b)
      refine ⟨divOk (by omega) bb, ?_⟩
      rw [fdiv_div (by omega)]
      refine ⟨mulOk bl bb, ?_⟩
      have r0 : 0 ≤ l % b := Int.emod_nonneg _ (by omega)
      have r1 : l % b < b := Int.emod_lt_of_pos _ (by omega)
      have le := Int.emod_add_mul_ediv l b
      have el : l - l / b * b = l % b := by
        have := Int.mul_comm b (l / b)
        omega
      refine h _ ?_
      rw [el]
      by_cases hb1 : b = 1
      · exact .inl ⟨hb1, by omega⟩
      · have key : (a % b) * (l % b) = 1 + (u - (a / b) * (l % b) - a * (l / b)) * b := by grind
        refine .inr ⟨?_, r1, _, key⟩
        rcases Int.lt_or_eq_of_le r0 with q | q
        · exact q
        · exfalso
          rw [← q, Int.mul_zero] at key
          have d : b ∣ 1 := ⟨-(u - (a / b) * 0 - a * (l / b)), by grind⟩
          have := Int.le_of_dvd (by decide) d
          omega
end K31

namespace K31
open PySem DW
/-! what the law asks of the sums, in plain words -/
theorem emod_lt' {h k : Int} (h0 : 0 ≤ h) (h1 : h < k) : h % k = h := Int.emod_eq_of_lt h0 h1
theorem div_rat (a : Int) {b : Int} (hb : b ≠ 0) : Rat.divInt a b = (a : Rat) * (b : Rat)⁻¹ := by rw [Rat.divInt_eq_div]; rfl
theorem both_orders {h k : Int} (h1 : 1 ≤ h) (k1 : 1 ≤ k) (g : Int.gcd h k = 1) : T (h % k) k + T (k % h) h = (Rat.divInt 1 12) * (0 + Rat.divInt h k + Rat.divInt k h + Rat.divInt 1 (h * k)) - Rat.divInt 1 4 := by
  have ah := cast_ne (a := h) (by omega)
  have ak := cast_ne (a := k) (by omega)
  have ahk : h * k ≠ 0 := Int.mul_ne_zero (by omega) (by omega)
  rw [div_rat h (by omega), div_rat k (by omega), div_rat 1 ahk]
  have c1 : Rat.divInt 1 12 = 1 / 12 := by rw [Rat.divInt_eq_div]; rfl
  have c2 : Rat.divInt 1 4 = 1 / 4 := by rw [Rat.divInt_eq_div]; rfl
  have c3 : ((h * k : Int) : Rat)⁻¹ = (h : Rat)⁻¹ * (k : Rat)⁻¹ := by
    have e : ((h * k : Int) : Rat) = (h : Rat) * k := by push_cast; rfl
    rw [e, Rat.inv_mul_rev, Rat.mul_comm]
  have c4 : ((1 : Int) : Rat) = 1 := rfl
  rw [c1, c2, c3, c4]
  rcases Int.lt_trichotomy h k with z | z | z
  · rw [emod_lt' (by omega) z, T_step (by omega) z]
    have r := R12 (h := h) (k := k) (by omega) (by omega)
    grind
  · subst z
    have d : h.natAbs ∣ Int.gcd h h := Nat.dvd_gcd (Nat.dvd_refl _) (Nat.dvd_refl _)
    rw [g] at d
    have d := Nat.dvd_one.mp d
    have : h = 1 := by omega
    subst this
    rw [T_one]
    have c : ((1 : Int) : Rat) = 1 := rfl
    rw [c]
    grind
  · rw [emod_lt' (by omega) z, T_step (h := k) (by omega) z]
    have r := R12 (h := k) (k := h) (by omega) (by omega)
    grind
theorem gcd_mod {h k : Int} (g : Int.gcd h k = 1) : Int.gcd (h % k) k = 1 := emod_gcd (by rw [Int.gcd_comm]; exact g)
theorem T_neg {h k : Int} (k1 : 1 ≤ k) (g : Int.gcd h k = 1) : T ((0 - h) % k) k = -T (h % k) k := by
  by_cases hk : k = 1
  · subst hk
    rw [T_one, T_one]
    rfl
  · have r0 : 0 ≤ h % k := Int.emod_nonneg _ (by omega)
    have r1 : h % k < k := Int.emod_lt_of_pos _ (by omega)
    have rp := pos_of_gcd (gcd_mod g) r0 (by omega)
    have e : (0 - h) % k = k - h % k := by
      have e1 : 0 - h = (k - h % k) + k * (-(h / k) - 1) := by
        have := Int.emod_add_mul_ediv h k
        grind
      rw [e1, Int.add_mul_emod_self_left]
      exact Int.emod_eq_of_lt (by omega) (by omega)
    rw [e, T_odd rp r1 (gcd_mod g)]
theorem Inv.rest {h k x : Int} (k1 : 1 < k) (V : Inv h k x) : 0 < x ∧ x < k ∧ ∃ m : Int, (h % k) * x = 1 + m * k := by
  rcases V with ⟨z, _⟩ | V
  · omega
  · exact V
theorem T_turn {h k x : Int} (k1 : 1 < k) (g : Int.gcd h k = 1) (V : Inv h k x) : Int.gcd x k = 1 ∧ T (x % k) k = T (h % k) k := by
  obtain ⟨x0, x1, m, e⟩ := V.rest k1
  have r0 : 0 ≤ h % k := Int.emod_nonneg _ (by omega)
  have r1 : h % k < k := Int.emod_lt_of_pos _ (by omega)
  have rp := pos_of_gcd (gcd_mod g) r0 (by omega)
  refine ⟨gcd_of_inv (x := h % k) (m := m) (by rw [Int.mul_comm]; exact e), ?_⟩
  rw [emod_lt' (by omega) x1]
  exact (T_inv k.toNat (Nat.le_refl _) rp r1 x0 x1 e).symm
theorem T_whole {h k x : Int} (k1 : 1 ≤ k) (g : Int.gcd h k = 1) (V : Inv h k x) : ∃ i : Int, 12 * T (h % k) k - Rat.divInt (h + x) k = (i : Rat) := by
  have ak := cast_ne (a := k) (by omega)
  rw [div_rat _ (by omega)]
  rcases V with ⟨rfl, rfl⟩ | ⟨x0, x1, m, e⟩
  · rw [T_one]
    refine ⟨-h, ?_⟩
    push_cast
    have c : ((1 : Int) : Rat) = 1 := rfl
    have c0 : ((0 : Int) : Rat) = 0 := rfl
    grind
  · have r0 : 0 ≤ h % k := Int.emod_nonneg _ (by omega)
    have r1 : h % k < k := Int.emod_lt_of_pos _ (by omega)
    have rp := pos_of_gcd (gcd_mod g) r0 (by omega)
    obtain ⟨i, hi⟩ := T_int k.toNat (Nat.le_refl _) rp r1 x0 x1 e
    refine ⟨i - h / k, ?_⟩
    have eh : h % k = h - k * (h / k) := by
      have := Int.emod_add_mul_ediv h k
      omega
    have c : ((h % k : Int) : Rat) = h - k * ((h / k : Int) : Rat) := by
      conv => lhs; rw [eh]
      push_cast
      rfl
    rw [hi, c]
    have c2 : ((i - h / k : Int) : Rat) = i - ((h / k : Int) : Rat) := by push_cast; rfl
    have c3 : ((h + x : Int) : Rat) = (h : Rat) + x := by push_cast; rfl
    rw [c2, c3]
    generalize ((h / k : Int) : Rat) = q
    grind
theorem num_den (q : Rat) : (q.num : Rat) = q * ((q.den : Int) : Rat) := by
  have h1 := Rat.num_divInt_den q
  rw [Rat.divInt_eq_div] at h1
  have h2 := cast_ne (den_ne q)
  conv => rhs; lhs; rw [← h1]
  exact (Rat.div_mul_cancel h2).symm
/-- 6 k T times its bottom comes out even -/
theorem T_even {h k : Int} (k1 : 1 ≤ k) (g : Int.gcd h k = 1) : (6 * k * (T (h % k) k).num).fdiv ((T (h % k) k).den : Int) * ((T (h % k) k).den : Int) = 6 * k * (T (h % k) k).num := by
  have hi : ∃ i : Int, 6 * (k : Rat) * T (h % k) k = i := by
    by_cases hk : k = 1
    · subst hk
      rw [T_one]
      exact ⟨0, by rw [Rat.mul_zero]; rfl⟩
    · have r0 : 0 ≤ h % k := Int.emod_nonneg _ (by omega)
      have r1 : h % k < k := Int.emod_lt_of_pos _ (by omega)
      exact T_six k.toNat (Nat.le_refl _) (gcd_mod g) (pos_of_gcd (gcd_mod g) r0 (by omega)) r1
  obtain ⟨i, hi⟩ := hi
  generalize T (h % k) k = q at hi
  have dp := q.den_pos
  have nd := num_den q
  have e : ((6 * k * q.num : Int) : Rat) = ((i * (q.den : Int) : Int) : Rat) := by
    have e1 : ((6 * k * q.num : Int) : Rat) = 6 * (k : Rat) * (q.num : Rat) := by push_cast; rfl
    have e2 : ((i * (q.den : Int) : Int) : Rat) = (i : Rat) * ((q.den : Int) : Rat) := by rw [Rat.intCast_mul]
    rw [e1, e2, nd, ← hi]
    grind
  have e : 6 * k * q.num = i * (q.den : Int) := by exact_mod_cast e
  rw [e, Int.fdiv_eq_ediv_of_nonneg _ (by omega), Int.mul_ediv_cancel _ (by omega)]
/-- whether it is 0 -/
theorem T_asks {h k : Int} (k1 : 1 ≤ k) (g : Int.gcd h k = 1) : deq (.int (T (h % k) k).num) (.int 0) = deq (.int ((h * h + 1).fdiv k * k)) (.int (h * h + 1)) := by
  have a : T (h % k) k = 0 ↔ k ∣ h * h + 1 := by
    by_cases hk : k = 1
    · subst hk
      rw [T_one]
      exact ⟨fun _ => Int.one_dvd _, fun _ => rfl⟩
    · have r0 : 0 ≤ h % k := Int.emod_nonneg _ (by omega)
      have r1 : h % k < k := Int.emod_lt_of_pos _ (by omega)
      rw [T_null (gcd_mod g) (pos_of_gcd (gcd_mod g) r0 (by omega)) r1]
      have e : h * h + 1 = (h % k) * (h % k) + 1 + k * ((h / k) * (h + h % k)) := by
        have := Int.emod_add_mul_ediv h k
        grind
      rw [e]
      exact ⟨fun d => Int.dvd_add d (Int.dvd_mul_right ..), fun d => (Int.dvd_add_left (Int.dvd_mul_right ..)).mp d⟩
  have b : (T (h % k) k).num = 0 ↔ T (h % k) k = 0 := Rat.num_eq_zero
  have c : (h * h + 1).fdiv k * k = h * h + 1 ↔ k ∣ h * h + 1 := by
    rw [fdiv_div (by omega)]
    exact ⟨fun e => ⟨(h * h + 1) / k, by rw [Int.mul_comm k]; exact e.symm⟩, fun d => Int.ediv_mul_cancel d⟩
  rw [deq_int, deq_int]
  rw [Bool.eq_iff_iff, beq_iff_eq, beq_iff_eq, b, a, c]
end K31

namespace K31
open PySem DW
def cr_ceil : WS := (wIfS (wTst (wBin dGt (wVar 4) (wC (.int 1)))) (wSeq (wAsg (wBin dSub (wVar 3) (wBin dMul (wBin dFdiv (wVar 3) (wVar 4)) (wVar 4))) (.nm 11)) (wSeq (wPar3 12 13 14 (wFrz (wLst [])) (wVar 4) (wVar 11)) (wSeq (wForR [(wC (.int 400))] (.nm 15) (wIfS (wAnd (wTst (wBin dGt (wVar 14) (wC (.int 0)))) (wTst (wBin dLt (wUn dLen (wVar 12)) (wC (.int 300))))) (wSeq (wAsg (wBin dSub (wC (.int 0)) (wBin dFdiv (wBin dSub (wC (.int 0)) (wVar 13)) (wVar 14))) (.nm 16)) (wPar3 12 13 14 (wFrz (wCat (wVar 12) (wFrz (wLst [(wVar 16)])))) (wVar 14) (wBin dSub (wBin dMul (wVar 16) (wVar 14)) (wVar 13)))) wNext)) (wIfS (wTst (wBin dEq (wVar 14) (wC (.int 0)))) (wSeq (wAsg (wCall sp__law_plus [.v (wTup [(wBin dSub (wUn dSum (wVar 12)) (wBin dMul (wC (.int 3)) (wUn dLen (wVar 12)))), (wC (.int 1))]), .v (wCall sp__law_low [.v (wBin dAdd (wVar 11) (wVar 9)), .v (wVar 4)])]) (.nm 17)) (wIfS (wTst (wBin dNe (wCall sp__law_times [.v (wTup [(wC (.int 12)), (wC (.int 1))]), .v (wVar 5)]) (wVar 17))) (wRet (wC (.bl false))) wNext)) wNext)))) wNext)
def cr_rest : WS := (wSeq (wAsg (wCall sp_saw_sum [.v (wVar 4), .v (wVar 3)]) (.nm 6))
    (wSeq (wIfS (wOr (wNot (wTst (wCall sp__law_is_fraction [.v (wVar 5)]))) (wNot (wTst (wCall sp__law_is_fraction [.v (wVar 6)])))) (wRet (wC (.bl false))) wNext)
    (wSeq (wAsg (wCall sp__law_minus [.v (wCall sp__law_times [.v (wTup [(wC (.int 1)), (wC (.int 12))]), .v (wCall sp__law_sum [.v (wFrz (wLst [(wCall sp__law_low [.v (wVar 3), .v (wVar 4)]), (wCall sp__law_low [.v (wVar 4), .v (wVar 3)]), (wCall sp__law_low [.v (wC (.int 1)), .v (wBin dMul (wVar 3) (wVar 4))])]))])]), .v (wTup [(wC (.int 1)), (wC (.int 4))])]) (.nm 7))
    (wSeq (wIfS (wTst (wBin dNe (wCall sp__law_plus [.v (wVar 5), .v (wVar 6)]) (wVar 7))) (wRet (wC (.bl false))) wNext)
    (wSeq (wAsg (wBin dSub (wCall sp__law_take [.s 0, .v (wC (.int 9))]) (wC (.int 4))) (.nm 8))
    (wSeq (wAsg (wCall sp__law_inverse [.v (wVar 3), .v (wVar 4)]) (.nm 9))
    (wSeq (wIfS (wOr (wTst (wBin dNe (wCall sp_saw_sum [.v (wBin dSub (wC (.int 0)) (wVar 3)), .v (wVar 4)]) (wTup [(wBin dSub (wC (.int 0)) (wBin dIx (wVar 5) (wC (.int 0)))), (wBin dIx (wVar 5) (wC (.int 1)))]))) (wOr (wTst (wBin dNe (wCall sp_saw_sum [.v (wBin dAdd (wVar 3) (wBin dMul (wVar 8) (wVar 4))), .v (wVar 4)]) (wVar 5))) (wTst (wBin dNe (wCall sp_saw_sum [.v (wIf (wTst (wBin dGt (wVar 4) (wC (.int 1)))) (wVar 9) (wVar 3)), .v (wVar 4)]) (wVar 5))))) (wRet (wC (.bl false))) wNext)
    (wSeq (wAsg (wCall sp__law_minus [.v (wCall sp__law_times [.v (wTup [(wC (.int 12)), (wC (.int 1))]), .v (wVar 5)]), .v (wCall sp__law_low [.v (wBin dAdd (wVar 3) (wVar 9)), .v (wVar 4)])]) (.nm 10))
    (wSeq (wIfS (wOr (wTst (wBin dNe (wBin dIx (wVar 10) (wC (.int 1))) (wC (.int 1)))) (wOr (wNot (wTst (wCall sp__law_same [.v (wCall sp_saw_whole [.v (wVar 3), .v (wVar 4)]), .v (wBin dFdiv (wBin dMul (wBin dMul (wC (.int 6)) (wVar 4)) (wBin dIx (wVar 5) (wC (.int 0)))) (wBin dIx (wVar 5) (wC (.int 1))))]))) (wTst (wBin dNe (wBin dMul (wBin dFdiv (wBin dMul (wBin dMul (wC (.int 6)) (wVar 4)) (wBin dIx (wVar 5) (wC (.int 0)))) (wBin dIx (wVar 5) (wC (.int 1)))) (wBin dIx (wVar 5) (wC (.int 1)))) (wBin dMul (wBin dMul (wC (.int 6)) (wVar 4)) (wBin dIx (wVar 5) (wC (.int 0)))))))) (wRet (wC (.bl false))) wNext)
    (wSeq (wIfS (wTst (wBin dNe (wBin dEq (wBin dIx (wVar 5) (wC (.int 0))) (wC (.int 0))) (wBin dEq (wBin dMul (wBin dFdiv (wBin dAdd (wBin dMul (wVar 3) (wVar 3)) (wC (.int 1))) (wVar 4)) (wVar 4)) (wBin dAdd (wBin dMul (wVar 3) (wVar 3)) (wC (.int 1)))))) (wRet (wC (.bl false))) wNext)
    cr_ceil))))))))))
def cr_tail : WS := (wSeq (wAsg (wBin dIx (wFrz (wLst [(wC (.int 5)), (wC (.int 10)), (wC (.int 13)), (wC (.int 17)), (wC (.int 25)), (wC (.int 26)), (wC (.int 29)), (wC (.int 34)), (wC (.int 37)), (wC (.int 41)), (wC (.int 50)), (wC (.int 53)), (wC (.int 65)), (wC (.int 85)), (wC (.int 130)), (wC (.int 145)), (wC (.int 325)), (wC (.int 425)), (wC (.int 901)), (wC (.int 985))])) (wCall sp__law_take [.s 0, .v (wC (.int 20))])) (.nm 4))
    (wSeq (wFor (wCall sp_still_numbers [.v (wVar 4)]) (.nm 3) (wSeq (wIfS (wTst (wBin dNe (wCall sp_saw_sum [.v (wVar 3), .v (wVar 4)]) (wTup [(wC (.int 0)), (wC (.int 1))]))) (wRet (wC (.bl false))) wNext) (wSeq (wAsg (wCall sp__law_row [.v (wVar 4), .v (wVar 3)]) (.nm 18)) (wSeq (wAsg (wFrz (wCat (wFrz (wCut (wVar 18) wNoP (wP (wUn dNeg (wC (.int 1)))))) (wFrz (wLst [(wBin dSub (wBin dIx (wVar 18) (wUn dNeg (wC (.int 1)))) (wC (.int 1))), (wC (.int 1))])))) (.nm 19)) (wIfS (wAnd (wTst (wBin dNe (wVar 18) (wFrz (wRev (wVar 18))))) (wTst (wBin dNe (wVar 19) (wFrz (wRev (wVar 19)))))) (wRet (wC (.bl false))) wNext)))))
    (wSeq (wIfS (wTst (wBin dNe (wFrz (wLc (wFrz (wLst [(wC (.int 4)), (wC (.int 12)), (wC (.int 3)), (wC (.int 7)), (wC (.int 21)), (wC (.int 11)), (wC (.int 44)), (wC (.int 63))])) (.nm 4) [4] (wTst (wBin dNe (wCall sp_still_numbers [.v (wVar 4)]) (wFrz (wLst [])))) (wVar 4))) (wFrz (wLst [])))) (wRet (wC (.bl false))) wNext)
    (wRet (wC (.bl true))))))
end K31
namespace K31
open PySem DW
theorem fdiv_mul_le {a b : Int} (h : 0 < b) : a.fdiv b * b ≤ a := by
  rw [fdiv_div h]
  exact Int.ediv_mul_le a (by omega)
theorem lt_fdiv {a b : Int} (h : 0 < b) : a < (a.fdiv b + 1) * b := by
  rw [fdiv_div h]
  exact Int.lt_ediv_add_one_mul_self a h
theorem Val_rng {h k : Int} {v : Rat} (V : Val h k v) : 0 ≤ h ∧ h < k := by
  rcases V with ⟨a, b, _⟩ | ⟨a, b, _⟩
  · omega
  · omega
theorem sum_app (l : List Int) (u : Int) : (l ++ [u]).sum = l.sum + u := by simp
theorem cr_ceil_ok {P : Post} {h k x : Int} {y0 y1 y2 y6 y7 y8 y10 y11 y12 y13 y14 y15 y16 y17 y18 y19 : Option DV} (k1 : 1 ≤ k) (g : Int.gcd h k = 1) (bh : Bd 210 h) (bk : Bd 210 k) (V : Inv h k x)
    (hP : ∀ y11 y12 y13 y14 y15 y16 y17, P.nx [y0, y1, y2, some (.val (.int h)), some (.val (.int k)), some (.val (fr (T (h % k) k))), y6, y7, y8, some (.val (.int x)), y10, y11, y12, y13, y14, y15, y16, y17, y18, y19]) :
    cr_ceil [y0, y1, y2, some (.val (.int h)), some (.val (.int k)), some (.val (fr (T (h % k) k))), y6, y7, y8, some (.val (.int x)), y10, y11, y12, y13, y14, y15, y16, y17, y18, y19] P := by
  refine ite_both (fun z => ?_) (fun z => hP _ _ _ _ _ _ _)
  have z := is_lt z
  have r0 : 0 ≤ h % k := Int.emod_nonneg _ (by omega)
  have r1 : h % k < k := Int.emod_lt_of_pos _ (by omega)
  have gm := gcd_mod g
  have rp := pos_of_gcd gm r0 z
  obtain ⟨x0, x1, m, e⟩ := V.rest z
  have bdiv : Bd 210 (h / k) := bh.le (Int.natAbs_ediv_le_natAbs h k)
  refine ⟨divOk (by omega) bk, ?_⟩
  rw [fdiv_div (by omega)]
  refine ⟨mulOk bdiv bk, ?_⟩
  have ep : h - h / k * k = h % k := by
    have := Int.emod_add_mul_ediv h k
    have := Int.mul_comm k (h / k)
    omega
  obtain ⟨pt, ept⟩ : ∃ pt, pt = h - h / k * k := ⟨_, rfl⟩
  have hpt : pt = h % k := ept.trans ep
  have bd : ∀ {y : Int}, -k ≤ y → y ≤ k → Bd 210 y := fun h1 h2 => bk.le (by omega)
  have V0 : Val (h % k) k (12 * T (h % k) k - (((h % k : Int) : Rat) + x) * (k : Rat)⁻¹) := .inr ⟨rp, r1, x, m, x0, x1, e, rfl⟩
  refine ⟨⟨⟨by decide, by decide⟩, by decide, by decide⟩, fun i ds => ∃ (ts : List Int) (top base : Int) (v : Rat) (y15 y16 : Option DV), ds = [y0, y1, y2, some (.val (.int h)), some (.val (.int k)), some (.val (fr (T (h % k) k))), y6, y7, y8, some (.val (.int x)), y10, some (.val (.int pt)), some (.val (.lst (ts.map .int))), some (.val (.int top)), some (.val (.int base)), y15, y16, y17, y18, y19] ∧
    (top ≤ k ∧ ts.length ≤ 300) ∧ (0 ≤ ts.sum ∧ ts.sum ≤ ts.length * k) ∧ Val base top v ∧ 12 * T (h % k) k - (((h % k : Int) : Rat) + x) * (k : Rat)⁻¹ = ((ts.sum - 3 * (ts.length : Int) : Int) : Rat) + v,
    ⟨[], k, pt, _, _, _, by rw [ept]; rfl, ⟨by omega, by decide⟩, ⟨by decide, by show (0 : Int) ≤ 0 * k; omega⟩, by rw [hpt]; exact V0, ?_⟩, ?_, ?_⟩
  · have : (([] : List Int).sum - 3 * ((([] : List Int).length : Nat) : Int) : Int) = 0 := rfl
    rw [this]
    exact (Rat.zero_add _).symm
  · rintro i d ds hi ⟨ts, top, base, v, y15, y16, rfl, ⟨tk, tl⟩, ⟨s0, s1⟩, W, ev⟩
    obtain ⟨w0, w1⟩ := Val_rng W
    refine ite_both (fun q => ?_) (fun q => ⟨ts, top, base, v, _, _, rfl, ⟨tk, tl⟩, ⟨s0, s1⟩, W, ev⟩)
    have q := is_lt q
    refine ite_both (fun q2 => ?_) (fun q2 => ⟨ts, top, base, v, _, _, rfl, ⟨tk, tl⟩, ⟨s0, s1⟩, W, ev⟩)
    have q2 := is_lt q2
    have tlen : (ts.map D.int).length = ts.length := List.length_map ..
    rw [tlen] at q2
    have f1 := fdiv_mul_le (a := 0 - top) (b := base) q
    have f2 := lt_fdiv (a := 0 - top) (b := base) q
    refine ⟨divOk (by omega) (bd (by omega) (by omega)), ?_⟩
    obtain ⟨u, eu⟩ : ∃ u, u = 0 - (0 - top).fdiv base := ⟨_, rfl⟩
    have eu' : (0 - top).fdiv base = -u := by omega
    rw [eu'] at f1 f2
    have g1 : top ≤ u * base := by
      have : -u * base = -(u * base) := Int.neg_mul ..
      omega
    have g2 : u * base < top + base := by
      have : (-u + 1) * base = -(u * base) + base := by grind
      omega
    have u1 : 1 ≤ u := by
      rcases Int.lt_or_le 0 u with c | c
      · omega
      · have := Int.mul_le_mul_of_nonneg_right c (show 0 ≤ base by omega)
        omega
    have u2 : u ≤ top := by
      have a : (u - 1) * 1 ≤ (u - 1) * base := Int.mul_le_mul_of_nonneg_left (by omega) (by omega)
      have b : (u - 1) * base = u * base - base := by grind
      omega
    obtain ⟨v2, W2, ev2⟩ := Val_step q W g1 g2
    have mu : MulOk u base := mulOk (bd (y := u) (by omega) (by omega)) (bd (y := base) (by omega) (by omega))
    refine ⟨?_, by rw [← eu]; exact mu, ts ++ [u], base, u * base - top, v2, some (.val d), some (.val (.int u)), ?_, ⟨by omega, ?_⟩, ⟨?_, ?_⟩, W2, ?_⟩
    · show (ts.map D.int).length + 1 ≤ 10000000
      rw [tlen]
      omega
    · rw [List.map_append, eu]
      rfl
    · rw [List.length_append]
      show ts.length + 1 ≤ 300
      omega
    · rw [sum_app]
      omega
    · rw [sum_app, List.length_append]
      show ts.sum + u ≤ ((ts.length + 1 : Nat) : Int) * k
      have : ((ts.length + 1 : Nat) : Int) * k = ts.length * k + k := by
        push_cast
        grind
      omega
    · rw [ev, ev2, sum_app, List.length_append]
      have c1 : ((ts.sum - 3 * (ts.length : Int) : Int) : Rat) = (ts.sum : Rat) - 3 * ((ts.length : Int) : Rat) := by push_cast; rfl
      have c2 : ((ts.sum + u - 3 * ((ts.length + [u].length : Nat) : Int) : Int) : Rat) = (ts.sum : Rat) + u - 3 * (((ts.length : Int) : Rat) + 1) := by
        have : ((ts.length + [u].length : Nat) : Int) = (ts.length : Int) + 1 := rfl
        rw [this]
        push_cast
        rfl
      rw [c1, c2]
      grind
  · rintro ds ⟨ts, top, base, v, y15, y16, rfl, ⟨tk, tl⟩, ⟨s0, s1⟩, W, ev⟩
    refine ⟨⟨shp_int _, shp_int _⟩, ite_both (fun q => ?_) (fun q => hP _ _ _ _ _ _ _)⟩
    have q := eq_int q
    have v0 : v = 0 := by
      rcases W with ⟨_, _, e⟩ | ⟨e, _⟩
      · exact e
      · omega
    show match intsD (ts.map D.int) with | some ns => _ | none => False
    rw [intsD_map]
    have tlen : (ts.map D.int).length = ts.length := List.length_map ..
    refine ⟨mulOk (n := 10) (m := 20) (.of (by decide) (by decide)) (.of (by omega) (by omega)), ?_⟩
    have bpx : Bd 211 (pt + x) := Bd.add (bd (y := pt) (by omega) (by omega)) (bd (y := x) (by omega) (by omega))
    refine ⟨List.nodup_nil, _, _, rfl, by omega, bk.mono (by decide), ?_⟩
    have bt := T_bq gm r0 r1 bk
    have bsum : Bd 240 (ts.sum - 3 * ((ts.map D.int).length : Int)) := by
      rw [tlen]
      have b1 : Bd 230 (ts.sum) := by
        have b2 : Bd 220 (300 * k) := (Bd.mul (n := 10) (.of (by decide) (by decide)) bk)
        refine (b2.le ?_).mono (by decide)
        have : (ts.length : Int) * k ≤ 300 * k := Int.mul_le_mul_of_nonneg_right (by omega) (by omega)
        omega
      exact (b1.sub ((Bd.of (n := 20) (i := 3 * (ts.length : Int)) (by omega) (by omega)).mono (by decide))).mono (by decide)
    have bn : Bq 3000 ((ts.sum - 3 * ((ts.map D.int).length : Int) : Int) : Rat) := ⟨bsum.mono (by decide), (Bd.of (n := 2) (i := 1) (by decide) (by decide)).mono (by decide)⟩
    refine ⟨List.nodup_nil, ((ts.sum - 3 * ((ts.map D.int).length : Int) : Int) : Rat), _, rfl, bn, (bq_div (by omega) bpx (bk.mono (by decide))).mono (by decide), ?_⟩
    have b12 : Bq 10 ((12 : Int) : Rat) := ⟨Bd.of (i := 12) (by decide) (by decide), Bd.of (i := 1) (by decide) (by decide)⟩
    refine ⟨List.nodup_nil, ((12 : Int) : Rat), _, rfl, b12.mono (by decide), bt.mono (by decide), ⟨shp_pr _ _, shp_pr _ _⟩, ?_⟩
    have eq : ((12 : Int) : Rat) * T (h % k) k = ((ts.sum - 3 * ((ts.map D.int).length : Int) : Int) : Rat) + Rat.divInt (pt + x) k := by
      rw [tlen, hpt, div_rat _ (by omega)]
      have c : ((12 : Int) : Rat) = 12 := rfl
      have c3 : ((h % k + x : Int) : Rat) = ((h % k : Int) : Rat) + x := by push_cast; rfl
      rw [c, c3]
      rw [v0] at ev
      grind
    rw [eq]
    exact ite_no (by rw [deq_refl]; rfl) (hP _ _ _ _ _ _ _)
end K31

namespace K31
open PySem DW
theorem bq_lit {n d : Int} (h : Bd 10 n) (h' : Bd 10 d) (h0 : d ≠ 0) : Bq 10 (Rat.divInt n d) := bq_div h0 h h'
def cr_more : WS := (wSeq (wAsg (wCall sp__law_minus [.v (wCall sp__law_times [.v (wTup [(wC (.int 12)), (wC (.int 1))]), .v (wVar 5)]), .v (wCall sp__law_low [.v (wBin dAdd (wVar 3) (wVar 9)), .v (wVar 4)])]) (.nm 10))
    (wSeq (wIfS (wOr (wTst (wBin dNe (wBin dIx (wVar 10) (wC (.int 1))) (wC (.int 1)))) (wOr (wNot (wTst (wCall sp__law_same [.v (wCall sp_saw_whole [.v (wVar 3), .v (wVar 4)]), .v (wBin dFdiv (wBin dMul (wBin dMul (wC (.int 6)) (wVar 4)) (wBin dIx (wVar 5) (wC (.int 0)))) (wBin dIx (wVar 5) (wC (.int 1))))]))) (wTst (wBin dNe (wBin dMul (wBin dFdiv (wBin dMul (wBin dMul (wC (.int 6)) (wVar 4)) (wBin dIx (wVar 5) (wC (.int 0)))) (wBin dIx (wVar 5) (wC (.int 1)))) (wBin dIx (wVar 5) (wC (.int 1)))) (wBin dMul (wBin dMul (wC (.int 6)) (wVar 4)) (wBin dIx (wVar 5) (wC (.int 0)))))))) (wRet (wC (.bl false))) wNext)
    (wSeq (wIfS (wTst (wBin dNe (wBin dEq (wBin dIx (wVar 5) (wC (.int 0))) (wC (.int 0))) (wBin dEq (wBin dMul (wBin dFdiv (wBin dAdd (wBin dMul (wVar 3) (wVar 3)) (wC (.int 1))) (wVar 4)) (wVar 4)) (wBin dAdd (wBin dMul (wVar 3) (wVar 3)) (wC (.int 1)))))) (wRet (wC (.bl false))) wNext)
    cr_ceil)))
theorem cr_more_ok {P : Post} {h k x : Int} {y0 y1 y2 y6 y7 y8 y10 y11 y12 y13 y14 y15 y16 y17 y18 y19 : Option DV} (hq : Pq h k) (V : Inv h k x)
    (hP : ∀ y10 y11 y12 y13 y14 y15 y16 y17, P.nx [y0, y1, y2, some (.val (.int h)), some (.val (.int k)), some (.val (fr (T (h % k) k))), y6, y7, y8, some (.val (.int x)), y10, y11, y12, y13, y14, y15, y16, y17, y18, y19]) :
    cr_more [y0, y1, y2, some (.val (.int h)), some (.val (.int k)), some (.val (fr (T (h % k) k))), y6, y7, y8, some (.val (.int x)), y10, y11, y12, y13, y14, y15, y16, y17, y18, y19] P := by
  obtain ⟨h1, k1, g, bh, bk⟩ := hq
  have bh' : Bd 210 h := bh.mono (by decide)
  have bk' : Bd 210 k := bk.mono (by decide)
  have bT := T_bq (gcd_mod g) (Int.emod_nonneg h (by omega)) (Int.emod_lt_of_pos h (by omega)) bk'
  have xr : 0 ≤ x ∧ x ≤ k := by
    rcases V with ⟨_, rfl⟩ | ⟨a, b, _⟩ <;> omega
  have bx : Bd 210 x := bk'.le (by omega)
  obtain ⟨i, hi⟩ := T_whole k1 g V
  have b12 : Bq 10 ((12 : Int) : Rat) := ⟨Bd.of (i := 12) (by decide) (by decide), Bd.of (i := 1) (by decide) (by decide)⟩
  have bl := bq_div (a := h + x) (b := k) (n := 210 + 1) (by omega) (bh'.add bx) (bk'.mono (by decide))
  refine ⟨List.nodup_nil, ((12 : Int) : Rat), _, rfl, b12.mono (by decide), bT.mono (by decide), ?_⟩
  refine ⟨List.nodup_nil, _, _, rfl, by omega, bk.mono (by decide), ?_⟩
  refine ⟨List.nodup_nil, _, _, rfl, (bq_mul b12 bT).mono (by decide), bl.mono (by decide), ?_⟩
  have c12 : ((12 : Int) : Rat) = 12 := rfl
  rw [c12, hi]
  refine ⟨⟨shp_int _, shp_int _⟩, ite_no rfl ?_⟩
  have b6 : Bd 10 6 := .of (by decide) (by decide)
  have b6k : Bd 220 (6 * k) := Bd.mono (b6.mul bk') (by decide)
  have b6n : Bd 860 (6 * k * (T (h % k) k).num) := Bd.mono (b6k.mul bT.1) (by decide)
  have dp := (T (h % k) k).den_pos
  have bf : Bd 860 ((6 * k * (T (h % k) k).num).fdiv ((T (h % k) k).den : Int)) := by
    rw [fdiv_div (by omega)]
    exact b6n.le (Int.natAbs_ediv_le_natAbs _ _)
  refine ⟨List.nodup_nil, _, _, rfl, k1, g, bk', mulOk b6 bk', mulOk b6k bT.1, divOk (den_ne _) bT.2, List.nodup_nil, _, rfl, ite_no rfl ?_⟩
  refine ⟨mulOk b6 bk', mulOk b6k bT.1, divOk (den_ne _) bT.2, mulOk bf bT.2, mulOk b6 bk', mulOk b6k bT.1, ⟨shp_int _, shp_int _⟩, ?_⟩
  rw [T_even k1 g]
  refine ite_no (by rw [deq_refl]; rfl) ?_
  have bhh : Bd 430 (h * h) := Bd.mono (bh'.mul bh') (by decide)
  have bh1 : Bd 431 (h * h + 1) := Bd.mono (bhh.add ((Bd.of (n := 2) (i := 1) (by decide) (by decide)).mono (by decide))) (by decide)
  have bhf : Bd 431 ((h * h + 1).fdiv k) := by
    rw [fdiv_div (by omega)]
    exact bh1.le (Int.natAbs_ediv_le_natAbs _ _)
  refine ⟨⟨shp_int _, shp_int _⟩, mulOk bh' bh', divOk (by omega) bk', mulOk bhf bk', mulOk bh' bh', ⟨shp_int _, shp_int _⟩, ⟨shp_bl _, shp_bl _⟩, ?_⟩
  rw [T_asks k1 g]
  refine ite_no (by rw [deq_refl]; rfl) ?_
  exact cr_ceil_ok k1 g bh' bk' V fun y11 y12 y13 y14 y15 y16 y17 => hP _ _ _ _ _ _ _ _
theorem cr_rest_ok {P : Post} {h k : Int} {p : List D} {n : Nat} {y1 y2 y6 y7 y8 y9 y10 y11 y12 y13 y14 y15 y16 y17 y18 y19 : Option DV} (hq : Pq h k) (hp : Bx n p) (hn : n ≤ 100000)
    (hP : ∀ p' y6 y7 y8 y9 y10 y11 y12 y13 y14 y15 y16 y17, Bx (n + 1) p' → P.nx [some (.par p'), y1, y2, some (.val (.int h)), some (.val (.int k)), some (.val (fr (T (h % k) k))), y6, y7, y8, y9, y10, y11, y12, y13, y14, y15, y16, y17, y18, y19]) :
    cr_rest [some (.par p), y1, y2, some (.val (.int h)), some (.val (.int k)), some (.val (fr (T (h % k) k))), y6, y7, y8, y9, y10, y11, y12, y13, y14, y15, y16, y17, y18, y19] P := by
  obtain ⟨h1, k1, g, bh, bk⟩ := hq
  have bh' : Bd 210 h := bh.mono (by decide)
  have bk' : Bd 210 k := bk.mono (by decide)
  have g' : Int.gcd k h = 1 := by rw [Int.gcd_comm]; exact g
  have bT := T_bq (gcd_mod g) (Int.emod_nonneg h (by omega)) (Int.emod_lt_of_pos h (by omega)) bk'
  have bT' := T_bq (gcd_mod g') (Int.emod_nonneg k (by omega)) (Int.emod_lt_of_pos k (by omega)) bh'
  -- other = saw_sum(k, h); both are fractions
  refine ⟨List.nodup_nil, _, _, rfl, h1, g', bh', ?_⟩
  refine ⟨List.nodup_nil, _, rfl, bT.mono (by decide), List.nodup_nil, _, rfl, bT'.mono (by decide), ite_no rfl ?_⟩
  -- due
  have bhk : Bd 400 (h * k) := Bd.mono (bh.mul bk) (by decide)
  have hk0 : h * k ≠ 0 := Int.mul_ne_zero (by omega) (by omega)
  have b1 := bq_div (a := h) (b := k) (n := 200) (by omega) bh bk
  have b2 := bq_div (a := k) (b := h) (n := 200) (by omega) bk bh
  have b3 := bq_div (a := 1) (b := h * k) (n := 400) hk0 ((Bd.of (n := 2) (by decide) (by decide)).mono (by decide)) bhk
  have b0 : Bq 1 0 := ⟨Bd.of (i := 0) (by decide) (by decide), Bd.of (i := 1) (by decide) (by decide)⟩
  have c1 := bq_add (bq_add (bq_add b0 b1) b2) b3
  have l12 : fr (Rat.divInt 1 12) = pr 1 12 := rfl
  have l4 : fr (Rat.divInt 1 4) = pr 1 4 := rfl
  have b12 : Bq 10 (Rat.divInt 1 12) := bq_lit (.of (by decide) (by decide)) (.of (by decide) (by decide)) (by decide)
  have b4 : Bq 10 (Rat.divInt 1 4) := bq_lit (.of (by decide) (by decide)) (.of (by decide) (by decide)) (by decide)
  have bdue := bq_sub (bq_mul b12 c1) b4
  refine ⟨List.nodup_nil, _, _, rfl, by omega, bk.mono (by decide), List.nodup_nil, _, _, rfl, by omega, bh.mono (by decide), mulOk bh bk, List.nodup_nil, _, _, rfl, hk0, bhk.mono (by decide), ?_⟩
  refine ⟨List.nodup_nil, _, _, _, rfl, b1.mono (by decide), b2.mono (by decide), b3.mono (by decide), ?_⟩
  refine ⟨List.nodup_nil, Rat.divInt 1 12, _, rfl, b12.mono (by decide), c1.mono (by decide), ?_⟩
  refine ⟨List.nodup_nil, _, Rat.divInt 1 4, rfl, (bq_mul b12 c1).mono (by decide), b4.mono (by decide), ?_⟩
  -- plus(one, other) != due
  refine ⟨List.nodup_nil, _, _, rfl, bT.mono (by decide), bT'.mono (by decide), ⟨shp_pr _ _, shp_pr _ _⟩, ?_⟩
  rw [both_orders h1 k1 g]
  refine ite_no (by rw [deq_refl]; rfl) ?_
  -- many, turn_of
  refine ⟨rfl, by simp [slotsOf], _, _, n, rfl, hp, by omega, by decide, by decide, fun d p' d0 d1 hp' => ?_⟩
  refine ⟨List.nodup_nil, _, _, rfl, k1, g, bh', bk', fun x V => ?_⟩
  -- three saw sums
  have gn : Int.gcd (0 - h) k = 1 := by
    rw [Int.zero_sub, Int.neg_gcd]
    exact g
  have xr : 0 ≤ x ∧ x ≤ k := by
    rcases V with ⟨_, rfl⟩ | ⟨a, b, _⟩ <;> omega
  refine ⟨List.nodup_nil, _, _, rfl, k1, gn, bk', ⟨shp_pr _ _, shp_pr _ _⟩, ?_⟩
  have en : pr (0 - (T (h % k) k).num) ((T (h % k) k).den : Int) = fr (-T (h % k) k) := by
    show pr (0 - (T (h % k) k).num) _ = pr (-(T (h % k) k).num) _
    rw [Int.zero_sub]
    rfl
  have t1 : (!deq (fr (T ((0 - h) % k) k)) (pr (0 - (T (h % k) k).num) ((T (h % k) k).den : Int))) = false := by
    rw [en, T_neg k1 g, deq_refl]
    rfl
  refine ite_no t1 ?_
  have bmk : Bd 210 ((d - 4) * k) := Bd.mono (Bd.mul (n := 10) (.of (by omega) (by omega)) bk) (by decide)
  have gmk : Int.gcd (h + (d - 4) * k) k = 1 := by
    rw [Int.mul_comm, Int.gcd_comm, Int.gcd_add_mul_left_right]
    exact g'
  refine ⟨mulOk (n := 10) (m := 200) (.of (by omega) (by omega)) bk, List.nodup_nil, _, _, rfl, k1, gmk, bk', ⟨shp_pr _ _, shp_pr _ _⟩, ?_⟩
  have em : (h + (d - 4) * k) % k = h % k := Int.add_mul_emod_self_right ..
  rw [em]
  refine ite_no (by rw [deq_refl]; rfl) ?_
  refine ite_both (fun z => ?_) (fun z => ?_)
  · have z := is_lt z
    obtain ⟨gx, ex⟩ := T_turn z g V
    refine ⟨List.nodup_nil, _, _, rfl, k1, gx, bk', ⟨shp_pr _ _, shp_pr _ _⟩, ?_⟩
    rw [ex]
    exact ite_no (by rw [deq_refl]; rfl) (cr_more_ok ⟨h1, k1, g, bh, bk⟩ V fun y10 y11 y12 y13 y14 y15 y16 y17 => hP p' _ _ _ _ _ _ _ _ _ _ _ _ hp')
  · refine ⟨List.nodup_nil, _, _, rfl, k1, g, bk', ⟨shp_pr _ _, shp_pr _ _⟩, ?_⟩
    exact ite_no (by rw [deq_refl]; rfl) (cr_more_ok ⟨h1, k1, g, bh, bk⟩ V fun y10 y11 y12 y13 y14 y15 y16 y17 => hP p' _ _ _ _ _ _ _ _ _ _ _ _ hp')
end K31

namespace K31
open PySem DW
def l20 : List Nat := [5, 10, 13, 17, 25, 26, 29, 34, 37, 41, 50, 53, 65, 85, 130, 145, 325, 425, 901, 985]
def longer (r : List Int) : List Int := r.dropLast ++ [r.getLastD 0 - 1, 1]
def chk (k h : Nat) : Bool := decide (0 < h) && decide (h < k) && (Nat.gcd h k == 1) && decide (rowF 1001 k h ≠ []) && (rowF 1001 k h == (rowF 1001 k h).reverse || longer (rowF 1001 k h) == (longer (rowF 1001 k h)).reverse)
theorem all_chk : ∀ k ∈ l20, ∀ h ∈ stillN k, chk k h = true := by decide +kernel
theorem none_still : ∀ k ∈ [4, 12, 3, 7, 21, 11, 44, 63], stillN k = [] := by decide +kernel
theorem shps_ints : ∀ ns : List Int, shps (ns.map .int) = true
  | [] => rfl
  | n :: r => by
    show (true && shps (r.map .int)) = true
    rw [shps_ints r]
    rfl
theorem deps_ints : ∀ ns : List Int, deps (ns.map .int) = 0
  | [] => rfl
  | n :: r => by
    show max 0 (deps (r.map .int)) = 0
    rw [deps_ints r]
    rfl
theorem shp_ints (ns : List Int) : Shp (.lst (ns.map .int)) := ⟨shps_ints ns, by
  show deps (ns.map .int) + 1 ≤ 64
  rw [deps_ints]
  decide⟩
theorem cut_last {α : Type} (l : List α) : cutD l none (some (-1)) = l.dropLast := by
  unfold cutD
  show (l.drop 0).take (cutAt l.length l.length (some (-1)) - 0) = _
  have e : cutAt l.length l.length (some (-1)) = l.length - 1 := by
    show (if (0 : Int) ≤ -1 then min (-1 : Int).toNat l.length else ((l.length : Int) + -1).toNat) = l.length - 1
    rw [if_neg (by decide)]
    omega
  rw [e, List.drop_zero, Nat.sub_zero, List.dropLast_eq_take]
theorem at_last {l : List Int} (h : l ≠ []) : itemAt (l.map D.int) (-1) = some (.int (l.getLastD 0)) := by
  have hl : 0 < l.length := List.length_pos_iff.mpr h
  unfold itemAt
  rw [if_neg (by decide), List.length_map, if_pos (by omega)]
  have e : (-1 + (l.length : Int)).toNat = l.length - 1 := by omega
  rw [e, List.getElem?_map, List.getElem?_eq_getElem (by omega)]
  have : l.getLastD 0 = l[l.length - 1]'(by omega) := by
    rw [List.getLastD_eq_getLast?, List.getLast?_eq_getElem?, List.getElem?_eq_getElem (by omega)]
    rfl
  rw [this]
  rfl
theorem rowF_len : ∀ (n : Nat) (a b : Int), (rowF n a b).length ≤ n
  | 0, a, b => Nat.le_refl _
  | n + 1, a, b => by
    unfold rowF
    split
    · rw [List.length_cons]
      exact Nat.succ_le_succ (rowF_len n _ _)
    · exact Nat.zero_le _
theorem longer_map (r : List Int) : (r.map D.int).dropLast ++ [D.int (r.getLastD 0 - 1), D.int 1] = (longer r).map D.int := by
  unfold longer
  rw [List.map_append, List.map_dropLast]
  rfl
theorem item20 {d : Int} (h0 : 0 ≤ d) (h1 : d < 20) : ∃ n ∈ l20, itemAt (l20.map fun n : Nat => D.int (n : Int)) d = some (.int (n : Int)) := by
  have hl : d.toNat < l20.length := by
    show d.toNat < 20
    omega
  refine ⟨l20[d.toNat], List.getElem_mem _, ?_⟩
  unfold itemAt
  rw [if_pos h0, List.getElem?_map, List.getElem?_eq_getElem hl]
  rfl
theorem l20_small : ∀ k ∈ l20, 1 < k ∧ k ≤ 1000 := by decide
theorem cr_tail_ok {P : Post} {p : List D} {n : Nat} {y1 y2 y3 y4 y5 y6 y7 y8 y9 y10 y11 y12 y13 y14 y15 y16 y17 y18 y19 : Option DV} (hp : Bx n p) (hn : n ≤ 100000)
    (hP : ∀ p' y3 y4 y18 y19, P.rt (.val (.bl true)) [some (.par p'), y1, y2, y3, y4, y5, y6, y7, y8, y9, y10, y11, y12, y13, y14, y15, y16, y17, y18, y19]) :
    cr_tail [some (.par p), y1, y2, y3, y4, y5, y6, y7, y8, y9, y10, y11, y12, y13, y14, y15, y16, y17, y18, y19] P := by
  refine ⟨rfl, by simp [slotsOf], _, _, n, rfl, hp, by omega, by decide, by decide, fun d p' d0 d1 hp' => ?_⟩
  obtain ⟨k, kl, hk⟩ := item20 d0 d1
  obtain ⟨k1, k2⟩ := l20_small k kl
  show match itemAt (l20.map fun n : Nat => D.int (n : Int)) d with | some v => _ | none => False
  rw [hk]
  refine ⟨List.nodup_nil, k, rfl, by omega, k2, ?_⟩
  refine ⟨fun i ds => ∃ y3 y18 y19, ds = [some (.par p'), y1, y2, y3, some (.val (.int (k : Int))), y5, y6, y7, y8, y9, y10, y11, y12, y13, y14, y15, y16, y17, y18, y19], ⟨_, _, _, rfl⟩, ?_, ?_⟩
  · rintro i d ds hi ⟨y3, y18, y19, rfl⟩
    rw [List.getElem?_map] at hi
    cases eh : (stillN k)[i]? with
    | none => rw [eh] at hi; cases hi
    | some h =>
      rw [eh] at hi
      have ed := (Option.some.inj hi).symm
      subst ed
      have mem := List.mem_of_getElem? eh
      have c := all_chk k kl h mem
      unfold chk at c
      simp only [Bool.and_eq_true, Bool.or_eq_true, decide_eq_true_eq, beq_iff_eq] at c
      obtain ⟨⟨⟨⟨c1, c2⟩, c3⟩, c4⟩, c5⟩ := c
      have g : Int.gcd (h : Int) (k : Int) = 1 := by
        show Nat.gcd (h : Int).natAbs (k : Int).natAbs = 1
        rw [Int.natAbs_natCast, Int.natAbs_natCast]
        exact c3
      have st : (h * h + 1) % k = 0 := by
        have := (List.mem_filter.mp mem).2
        simpa using this
      have hm : (h : Int) % (k : Int) = h := emod_lt' (by omega) (by omega)
      have t0 : T ((h : Int) % (k : Int)) k = 0 := by
        rw [hm, T_null g (by omega) (by omega)]
        have := Nat.dvd_of_mod_eq_zero st
        exact_mod_cast this
      refine ⟨List.nodup_nil, _, _, rfl, by omega, g, Bd.of (by omega) (by omega), ⟨shp_pr _ _, shp_pr _ _⟩, ?_⟩
      rw [t0]
      refine ite_no rfl ?_
      refine ⟨List.nodup_nil, k, h, rfl, by omega, by omega, ?_⟩
      obtain ⟨r, er⟩ : ∃ r, r = rowF 1001 (k : Int) (h : Int) := ⟨_, rfl⟩
      have lr : r.length ≤ 1001 := by
        rw [er]
        exact rowF_len _ _ _
      rw [← er] at c4 c5 ⊢
      show match itemAt (r.map D.int) (-1) with | some v => _ | none => False
      rw [at_last c4]
      have ll : (cutD (r.map D.int) none (some (-1))).length + 2 ≤ 10000000 := by
        rw [cut_last, List.length_dropLast, List.length_map]
        omega
      refine ⟨ll, ?_⟩
      have e2 : cutD (r.map D.int) none (some (-1)) ++ [D.int (r.getLastD 0 - 1), D.int 1] = (longer r).map D.int := by
        rw [cut_last, longer_map]
      have rv : ∀ l : List Int, (l.map D.int).reverse = l.reverse.map D.int := fun l => by rw [List.map_reverse]
      refine ⟨⟨shp_ints r, by rw [rv]; exact shp_ints _⟩, ite_both (fun q => ?_) (fun q => ⟨_, _, _, rfl⟩)⟩
      have c6 : longer r = (longer r).reverse := by
        rcases c5 with e | e
        · rw [rv, ← e, deq_refl] at q
          cases q
        · exact e
      refine ⟨⟨?_, ?_⟩, ite_no ?_ ⟨_, _, _, rfl⟩⟩
      · show Shp (.lst (cutD (r.map D.int) none (some (-1)) ++ [D.int (r.getLastD 0 - 1), D.int 1]))
        rw [e2]
        exact shp_ints _
      · show Shp (.lst (cutD (r.map D.int) none (some (-1)) ++ [D.int (r.getLastD 0 - 1), D.int 1]).reverse)
        rw [e2, rv]
        exact shp_ints _
      · show (!deq (.lst (cutD (r.map D.int) none (some (-1)) ++ [D.int (r.getLastD 0 - 1), D.int 1])) (.lst (cutD (r.map D.int) none (some (-1)) ++ [D.int (r.getLastD 0 - 1), D.int 1]).reverse)) = false
        rw [e2, rv, ← c6, deq_refl]
        rfl
  · rintro ds ⟨y3, y18, y19, rfl⟩
    refine ⟨fun i acc ds => acc = [] ∧ ∃ y4, ds = [some (.par p'), y1, y2, y3, y4, y5, y6, y7, y8, y9, y10, y11, y12, y13, y14, y15, y16, y17, y18, y19], ⟨rfl, _, rfl⟩, ?_, ?_⟩
    · rintro i d acc ds hi ⟨rfl, y4, rfl⟩
      have hd : ∃ n : Nat, d = .int (n : Int) ∧ n ∈ [4, 12, 3, 7, 21, 11, 44, 63] := by
        have m := List.mem_of_getElem? hi
        have m : d ∈ [4, 12, 3, 7, 21, 11, 44, 63].map fun n : Nat => D.int (n : Int) := m
        obtain ⟨n, hn, e⟩ := List.mem_map.mp m
        exact ⟨n, e.symm, hn⟩
      obtain ⟨n, rfl, hn⟩ := hd
      have sn := none_still n hn
      have nb : 1 ≤ n ∧ n ≤ 1000 := by
        have : ∀ n ∈ [4, 12, 3, 7, 21, 11, 44, 63], 1 ≤ n ∧ n ≤ 1000 := by decide
        exact this n hn
      refine ⟨List.nodup_nil, n, rfl, nb.1, nb.2, ?_⟩
      rw [sn]
      exact ⟨⟨⟨rfl, by decide⟩, ⟨rfl, by decide⟩⟩, ite_no rfl ⟨rfl, _, rfl⟩⟩
    · rintro acc ds ⟨rfl, y4, rfl⟩
      exact ⟨⟨⟨rfl, by decide⟩, ⟨rfl, by decide⟩⟩, ite_no rfl (hP _ _ _ _ _)⟩
end K31

namespace K31
open PySem DW
theorem kp__law_cell_right : Keeps0 20 w__law_cell_right sp__law_cell_right := by
  rintro dvs k ⟨p, n, rfl, hp, hn, h⟩
  refine ⟨rfl, by simp [slotsOf], _, _, n, rfl, hp, by omega, by decide, by decide, fun d p1 d0 d1 hp1 => ⟨⟨shp_int _, shp_int _⟩, ?_⟩⟩
  obtain ⟨bn, ebn⟩ : ∃ bn, bn = deq (.int d) (.int 1) := ⟨_, rfl⟩
  refine ⟨⟨⟨by decide, by decide⟩, by decide, by decide⟩, fun i ds => ∃ p y2 y3 y4 y5 y6 y7 y8 y9 y10 y11 y12 y13 y14 y15 y16 y17 y18 y19, ds = [some (.par p), some (.val (.bl bn)), y2, y3, y4, y5, y6, y7, y8, y9, y10, y11, y12, y13, y14, y15, y16, y17, y18, y19] ∧ Bx (n + 1 + 102 * i) p,
    ⟨_, _, _, _, _, _, _, _, _, _, _, _, _, _, _, _, _, _, _, by rw [ebn]; rfl, hp1⟩, ?_, ?_⟩
  · rintro i q ds hi ⟨p, y2, y3, y4, y5, y6, y7, y8, y9, y10, y11, y12, y13, y14, y15, y16, y17, y18, y19, rfl, hp⟩
    obtain ⟨rfl, il⟩ := range_get hi
    have il : i < 3 := by simpa using il
    obtain ⟨f, hf, hdf⟩ : ∃ f : Nat, f ≤ 30 ∧ itemAt [D.int 6, D.int 28, D.int 14] (0 + (i : Int)) = some (.int (f : Int)) := by
      have : i = 0 ∨ i = 1 ∨ i = 2 := by omega
      rcases this with rfl | rfl | rfl
      · exact ⟨6, by decide, rfl⟩
      · exact ⟨28, by decide, rfl⟩
      · exact ⟨14, by decide, rfl⟩
    refine ⟨rfl, ?_⟩
    show match itemAt [D.int 6, D.int 28, D.int 14] (0 + (i : Int)) with | some v => _ | none => False
    rw [hdf]
    refine ⟨by simp [slotsOf], p, f, _, rfl, hp, hf, by omega, fun a b p' hq hp' => ?_⟩
    have hq' := hq
    obtain ⟨a1, b1, g, ba, bb⟩ := hq'
    have bb' : Bd 210 b := bb.mono (by decide)
    refine ite_both (fun _ => ?_) (fun _ => ?_)
    · refine ⟨_, _, rfl, b1, g, bb', ?_⟩
      exact cr_rest_ok hq hp' (by omega) fun p2 z6 z7 z8 z9 z10 z11 z12 z13 z14 z15 z16 z17 hp2 => ⟨p2, _, _, _, _, _, _, _, _, _, _, _, _, _, _, _, _, _, _, rfl, hp2.mono (by omega)⟩
    · refine ⟨List.nodup_nil, _, _, rfl, b1, g, bb', ?_⟩
      exact cr_rest_ok hq hp' (by omega) fun p2 z6 z7 z8 z9 z10 z11 z12 z13 z14 z15 z16 z17 hp2 => ⟨p2, _, _, _, _, _, _, _, _, _, _, _, _, _, _, _, _, _, _, rfl, hp2.mono (by omega)⟩
  · rintro ds ⟨p, y2, y3, y4, y5, y6, y7, y8, y9, y10, y11, y12, y13, y14, y15, y16, y17, y18, y19, rfl, hp⟩
    have e : (rangeD 0 3).length = 3 := by decide
    rw [e] at hp
    exact cr_tail_ok hp (by omega) fun p' y3 y4 y18 y19 => h p'
theorem kp_law : Keeps0 2 w_law sp_law := by
  rintro dvs k ⟨ns, rfl, hns, h⟩
  have hl : (ns.map D.int).length = ns.length := List.length_map ..
  refine ⟨⟨⟨by decide, by decide⟩, ?_, ?_⟩, fun i ds => ∃ x1, ds = [some (.val (.lst (ns.map .int))), x1], ⟨_, rfl⟩, ?_, ?_⟩
  · split <;> split <;> omega
  · split <;> split <;> omega
  · rintro i d ds hi ⟨x1, rfl⟩
    obtain ⟨rfl, il⟩ := range_get hi
    have il : i < 10 := by
      split at il <;> split at il <;> omega
    exact ⟨List.nodup_nil, ns, _, rfl, by omega, by omega, fun c => ⟨List.nodup_nil, _, rfl, fun p hp => ⟨p, 0, rfl, hp, by decide, fun p' => ite_no rfl ⟨_, rfl⟩⟩⟩⟩
  · rintro ds ⟨x1, rfl⟩
    exact h
end K31

/-! the defs of the text keep their promises, printed by gen.py -/
namespace K31
open PySem PySem.Spec PyProof.Rows L2 DW
def topS (i : Nat) : Stmt := PySem.Challenge.pw_termwide_k31_whole_exchanged_saw_sums.main.body.getD i (.Pass ⟨0, 0, 0, 0⟩)
abbrev s_is_number : Stmt := topS 5
abbrev N_is_number : List Str := ["thing"]
theorem sc_is_number : FnScope N_is_number ["thing"] (defScope s_is_number) := ⟨rfl, rfl, rfl, by decide +kernel, rfl, by decide +kernel, by decide +kernel⟩
abbrev s_is_whole : Stmt := topS 6
abbrev N_is_whole : List Str := ["thing", "low", "high"]
theorem sc_is_whole : FnScope N_is_whole ["thing", "low", "high"] (defScope s_is_whole) := ⟨rfl, rfl, rfl, by decide +kernel, rfl, by decide +kernel, by decide +kernel⟩
abbrev s_still_numbers : Stmt := topS 16
abbrev N_still_numbers : List Str := ["k", "h"]
theorem sc_still_numbers : FnScope N_still_numbers ["k"] (defScope s_still_numbers) := ⟨rfl, rfl, rfl, by decide +kernel, rfl, by decide +kernel, by decide +kernel⟩
abbrev s__law_take : Stmt := topS 20
abbrev N__law_take : List Str := ["box", "many", "digit", "mixed"]
theorem sc__law_take : FnScope N__law_take ["box", "many"] (defScope s__law_take) := ⟨rfl, rfl, rfl, by decide +kernel, rfl, by decide +kernel, by decide +kernel⟩
abbrev s__law_low : Stmt := topS 23
abbrev N__law_low : List Str := ["top", "base", "one", "other"]
theorem sc__law_low : FnScope N__law_low ["top", "base"] (defScope s__law_low) := ⟨rfl, rfl, rfl, by decide +kernel, rfl, by decide +kernel, by decide +kernel⟩
abbrev s__law_of_row : Stmt := topS 30
abbrev N__law_of_row : List Str := ["row", "top", "base", "term"]
theorem sc__law_of_row : FnScope N__law_of_row ["row"] (defScope s__law_of_row) := ⟨rfl, rfl, rfl, by decide +kernel, rfl, by decide +kernel, by decide +kernel⟩
abbrev s__law_digits : Stmt := topS 31
abbrev N__law_digits : List Str := ["box", "figures", "found", "k"]
theorem sc__law_digits : FnScope N__law_digits ["box", "figures"] (defScope s__law_digits) := ⟨rfl, rfl, rfl, by decide +kernel, rfl, by decide +kernel, by decide +kernel⟩
abbrev s__law_fraction : Stmt := topS 32
abbrev N__law_fraction : List Str := ["box", "figures", "way", "great", "row", "k"]
theorem sc__law_fraction : FnScope N__law_fraction ["box", "figures"] (defScope s__law_fraction) := ⟨rfl, rfl, rfl, by decide +kernel, rfl, by decide +kernel, by decide +kernel⟩
abbrev s__law_above : Stmt := topS 33
abbrev N__law_above : List Str := ["box", "figures", "found"]
theorem sc__law_above : FnScope N__law_above ["box", "figures"] (defScope s__law_above) := ⟨rfl, rfl, rfl, by decide +kernel, rfl, by decide +kernel, by decide +kernel⟩
abbrev s__law_drawn : Stmt := topS 34
abbrev N__law_drawn : List Str := ["box", "figures"]
theorem sc__law_drawn : FnScope N__law_drawn ["box", "figures"] (defScope s__law_drawn) := ⟨rfl, rfl, rfl, by decide +kernel, rfl, by decide +kernel, by decide +kernel⟩
abbrev s_common : Stmt := topS 8
abbrev N_common : List Str := ["one", "other"]
theorem sc_common : FnScope N_common ["one", "other"] (defScope s_common) := ⟨rfl, rfl, rfl, by decide +kernel, rfl, by decide +kernel, by decide +kernel⟩
abbrev s_need_pair : Stmt := topS 12
abbrev N_need_pair : List Str := ["h", "k"]
theorem sc_need_pair : FnScope N_need_pair ["h", "k"] (defScope s_need_pair) := ⟨rfl, rfl, rfl, by decide +kernel, rfl, by decide +kernel, by decide +kernel⟩
abbrev s_made : Stmt := topS 9
abbrev N_made : List Str := ["top", "bottom", "by"]
theorem sc_made : FnScope N_made ["top", "bottom"] (defScope s_made) := ⟨rfl, rfl, rfl, by decide +kernel, rfl, by decide +kernel, by decide +kernel⟩
abbrev s_sum_of : Stmt := topS 13
abbrev N_sum_of : List Str := ["h", "k", "top", "bottom", "side", "part"]
theorem sc_sum_of : FnScope N_sum_of ["h", "k"] (defScope s_sum_of) := ⟨rfl, rfl, rfl, by decide +kernel, rfl, by decide +kernel, by decide +kernel⟩
abbrev s_saw_sum : Stmt := topS 14
abbrev N_saw_sum : List Str := ["h", "k"]
theorem sc_saw_sum : FnScope N_saw_sum ["h", "k"] (defScope s_saw_sum) := ⟨rfl, rfl, rfl, by decide +kernel, rfl, by decide +kernel, by decide +kernel⟩
abbrev s__law_minus : Stmt := topS 25
abbrev N__law_minus : List Str := ["one", "other"]
theorem sc__law_minus : FnScope N__law_minus ["one", "other"] (defScope s__law_minus) := ⟨rfl, rfl, rfl, by decide +kernel, rfl, by decide +kernel, by decide +kernel⟩
abbrev s__law_inverse : Stmt := topS 35
abbrev N__law_inverse : List Str := ["h", "k", "one", "other", "left", "right", "times"]
theorem sc__law_inverse : FnScope N__law_inverse ["h", "k"] (defScope s__law_inverse) := ⟨rfl, rfl, rfl, by decide +kernel, rfl, by decide +kernel, by decide +kernel⟩
abbrev s__law_row : Stmt := topS 29
abbrev N__law_row : List Str := ["top", "base", "found", "whole"]
theorem sc__law_row : FnScope N__law_row ["top", "base"] (defScope s__law_row) := ⟨rfl, rfl, rfl, by decide +kernel, rfl, by decide +kernel, by decide +kernel⟩
abbrev s__law_times : Stmt := topS 26
abbrev N__law_times : List Str := ["one", "other"]
theorem sc__law_times : FnScope N__law_times ["one", "other"] (defScope s__law_times) := ⟨rfl, rfl, rfl, by decide +kernel, rfl, by decide +kernel, by decide +kernel⟩
abbrev s__law_plus : Stmt := topS 24
abbrev N__law_plus : List Str := ["one", "other"]
theorem sc__law_plus : FnScope N__law_plus ["one", "other"] (defScope s__law_plus) := ⟨rfl, rfl, rfl, by decide +kernel, rfl, by decide +kernel, by decide +kernel⟩
abbrev s__law_is_int : Stmt := topS 22
abbrev N__law_is_int : List Str := ["value"]
theorem sc__law_is_int : FnScope N__law_is_int ["value"] (defScope s__law_is_int) := ⟨rfl, rfl, rfl, by decide +kernel, rfl, by decide +kernel, by decide +kernel⟩
abbrev s__law_is_fraction : Stmt := topS 28
abbrev N__law_is_fraction : List Str := ["value"]
theorem sc__law_is_fraction : FnScope N__law_is_fraction ["value"] (defScope s__law_is_fraction) := ⟨rfl, rfl, rfl, by decide +kernel, rfl, by decide +kernel, by decide +kernel⟩
abbrev s__law_sum : Stmt := topS 27
abbrev N__law_sum : List Str := ["items", "found", "item"]
theorem sc__law_sum : FnScope N__law_sum ["items"] (defScope s__law_sum) := ⟨rfl, rfl, rfl, by decide +kernel, rfl, by decide +kernel, by decide +kernel⟩
abbrev s__law_same : Stmt := topS 21
abbrev N__law_same : List Str := ["given", "due", "k"]
theorem sc__law_same : FnScope N__law_same ["given", "due"] (defScope s__law_same) := ⟨rfl, rfl, rfl, by decide +kernel, rfl, by decide +kernel, by decide +kernel⟩
abbrev s_saw_whole : Stmt := topS 15
abbrev N_saw_whole : List Str := ["h", "k", "top", "bottom"]
theorem sc_saw_whole : FnScope N_saw_whole ["h", "k"] (defScope s_saw_whole) := ⟨rfl, rfl, rfl, by decide +kernel, rfl, by decide +kernel, by decide +kernel⟩
abbrev s__law_cell_right : Stmt := topS 36
abbrev N__law_cell_right : List Str := ["box", "by_name", "turn", "h", "k", "one", "other", "due", "many", "turn_of", "whole", "part", "terms", "top", "base", "step", "up", "total", "row", "longer"]
theorem sc__law_cell_right : FnScope N__law_cell_right ["box"] (defScope s__law_cell_right) := ⟨rfl, rfl, rfl, by decide +kernel, rfl, by decide +kernel, by decide +kernel⟩
abbrev s__law_box : Stmt := topS 19
abbrev N__law_box : List Str := ["great"]
theorem sc__law_box : FnScope N__law_box ["great"] (defScope s__law_box) := ⟨rfl, rfl, rfl, by decide +kernel, rfl, by decide +kernel, by decide +kernel⟩
abbrev s__law_cell : Stmt := topS 18
abbrev N__law_cell : List Str := ["script", "k"]
theorem sc__law_cell : FnScope N__law_cell ["script", "k"] (defScope s__law_cell) := ⟨rfl, rfl, rfl, by decide +kernel, rfl, by decide +kernel, by decide +kernel⟩
abbrev s_law : Stmt := topS 37
abbrev N_law : List Str := ["script", "k"]
theorem sc_law : FnScope N_law ["script"] (defScope s_law) := ⟨rfl, rfl, rfl, by decide +kernel, rfl, by decide +kernel, by decide +kernel⟩
section
variable {P : Program} {w : World} {K : PySem.W.Frag} {mg : Str → Option Value} {base : Heap}
theorem ok_is_number {f : Addr} {fd : FuncData} (Fn : Fun K "is_number" "is_number" s_is_number f fd) (hm : mg "is_number" = some (.ref f)) (m_isinstance : mg "isinstance" = none) (m_int : mg "int" = none) (m_bool : mg "bool" = none) :
    CalF P w K mg base 1 "is_number" ["thing"] sp_is_number f fd :=
  .mk2 Fn hm sc_is_number len_is_number (by decide) (fun cdv A outer s H E hr => (ss_one (s_ret (d_and (d_isi .int m_isinstance m_int (by decide +kernel) rfl (d_var 0)) (d_one (d_not (d_isi .bool m_isinstance m_bool (by decide +kernel) rfl (d_var 0)))))))) kp_is_number
theorem ok_is_whole {f : Addr} {fd : FuncData} (Fn : Fun K "is_whole" "is_whole" s_is_whole f fd) (hm : mg "is_whole" = some (.ref f)) (c_is_number : Cal P w K mg base 1 "is_number" ["thing"] sp_is_number) :
    CalF P w K mg base 2 "is_whole" ["thing", "low", "high"] sp_is_whole f fd :=
  .mk2 Fn hm sc_is_whole len_is_whole (by decide) (fun cdv A outer s H E hr => (ss_one (s_ret (d_and (d_callC c_is_number (c_v (d_var 0) c_nil)) (d_one (d_chain (fun _ => op_le) rw_le (fun _ => op_le) rw_le (d_var 1) (d_var 0) (d_var 2))))))) kp_is_whole
theorem ok_still_numbers {f : Addr} {fd : FuncData} (Fn : Fun K "still_numbers" "still_numbers" s_still_numbers f fd) (hm : mg "still_numbers" = some (.ref f)) (m_range : mg "range" = none) (c_is_whole : Cal P w K mg base 2 "is_whole" ["thing", "low", "high"] sp_is_whole) (g_MOST_STILL : ∃ t, mg "MOST_STILL" = some (.int 1000 t)) :
    CalF P w K mg base 3 "still_numbers" ["k"] sp_still_numbers f fd :=
  .mk2 Fn hm sc_still_numbers len_still_numbers (by decide) (fun cdv A outer s H E hr => (ss_cons (s_if (t_not (t_val (d_callC c_is_whole (c_v (d_var 0) (c_v d_int (c_v (d_globI g_MOST_STILL) c_nil)))))) (ss_one s_never) ss_nil)
    (ss_one (s_ret (d_frz (o_lcR1 [("h", 1)] m_range (d_var 0) (g_nm 1) (ts_one (t_eq (d_mod (d_add (d_mul (d_var 1) (d_var 1)) d_int) (d_var 0)) d_int)) (d_var 1) (fun _ => blkOk_by (N := N_still_numbers) (sc := defScope s_still_numbers) (by decide +kernel)))))))) kp_still_numbers
theorem ok__law_take {f : Addr} {fd : FuncData} (Fn : Fun K "_law_take" "_law_take" s__law_take f fd) (hm : mg "_law_take" = some (.ref f)) (m_int : mg "int" = none) :
    CalF P w K mg base 1 "_law_take" ["box", "many"] sp__law_take f fd :=
  .mk2 Fn hm sc__law_take len__law_take (by decide) (fun cdv A outer s H E hr => (ss_cons (s_if (p_pt (p_and (t_val (d_ixO 0 d_int)) (p_and1 (t_gt (d_ixO 0 d_int) d_int)))) (ss_cons (s_set 2 (d_mod (d_intf m_int (d_ixO 0 d_int)) (d_var 1)))
    (ss_cons (s_put 0 (d_fdiv (d_ixO 0 d_int) (d_var 1)) d_int)
    (ss_one (s_ret (d_var 2))))) ss_nil)
    (ss_cons (s_put 0 (d_add (d_ixO 0 d_int) d_int) d_int)
    (ss_cons (s_set 3 (d_mod (d_intf m_int (d_pow (d_add (d_add (d_ixO 0 d_int) (d_mul d_int (d_ixO 0 d_int))) d_int) d_int)) d_int))
    (ss_one (s_ret (d_mod (d_intf m_int (d_fdiv (d_mod (d_intf m_int (d_pow (d_add (d_mul (d_var 3) d_int) (d_mul d_int (d_ixO 0 d_int))) d_int)) d_int) d_int)) (d_var 1)))))))) kp__law_take
theorem ok__law_low {f : Addr} {fd : FuncData} (Fn : Fun K "_law_low" "_law_low" s__law_low f fd) (hm : mg "_law_low" = some (.ref f)) (m_abs : mg "abs" = none) (m_int : mg "int" = none) :
    CalF P w K mg base 1 "_law_low" ["top", "base"] sp__law_low f fd :=
  .mk2 Fn hm sc__law_low len__law_low (by decide) (fun cdv A outer s H E hr => (ss_cons (s_par 2 3 (d_abs m_abs (d_var 0)) (d_abs m_abs (d_var 1)))
    (ss_cons (s_while (t_gt (d_var 3) d_int) (ss_one (s_par 2 3 (d_var 3) (d_mod (d_intf m_int (d_var 2)) (d_var 3)))))
    (ss_one (s_ret (d_if (t_gt (d_var 1) d_int) (d_tup (l_cons (d_fdiv (d_var 0) (d_var 2)) (l_cons (d_fdiv (d_var 1) (d_var 2)) l_nil))) (d_tup (l_cons (d_fdiv (d_neg (d_var 0)) (d_var 2)) (l_cons (d_fdiv (d_neg (d_var 1)) (d_var 2)) l_nil))))))))) kp__law_low
theorem ok__law_of_row {f : Addr} {fd : FuncData} (Fn : Fun K "_law_of_row" "_law_of_row" s__law_of_row f fd) (hm : mg "_law_of_row" = some (.ref f)) (m_len : mg "len" = none) (c__law_low : Cal P w K mg base 1 "_law_low" ["top", "base"] sp__law_low) :
    CalF P w K mg base 2 "_law_of_row" ["row"] sp__law_of_row f fd :=
  .mk2 Fn hm sc__law_of_row len__law_of_row (by decide) (fun cdv A outer s H E hr => (ss_cons (s_par 1 2 (d_ix (d_var 0) (d_neg d_int)) d_int)
    (ss_cons (s_for (d_if (t_gt (d_len m_len (d_var 0)) d_int) (d_frz (o_rev2 (d_var 0))) (d_frz (o_lst l_nil))) (g_nm 3) (ss_one (s_par 1 2 (d_add (d_mul (d_var 3) (d_var 1)) (d_var 2)) (d_var 1))))
    (ss_one (s_ret (d_callC c__law_low (c_v (d_var 1) (c_v (d_var 2) c_nil)))))))) kp__law_of_row
theorem ok__law_digits {f : Addr} {fd : FuncData} (Fn : Fun K "_law_digits" "_law_digits" s__law_digits f fd) (hm : mg "_law_digits" = some (.ref f)) (m_range : mg "range" = none) (c__law_take : Cal P w K mg base 1 "_law_take" ["box", "many"] sp__law_take) :
    CalF P w K mg base 2 "_law_digits" ["box", "figures"] sp__law_digits f fd :=
  .mk2 Fn hm sc__law_digits len__law_digits (by decide) (fun cdv A outer s H E hr => (ss_cons (s_set 2 d_int)
    (ss_cons (s_forR1 m_range (d_var 1) (g_nm 3) (ss_one (s_set 2 (d_add (d_mul d_int (d_var 2)) (d_callC c__law_take (c_s 0 (c_v d_int c_nil)))))))
    (ss_one (s_ret (d_var 2)))))) kp__law_digits
theorem ok__law_fraction {f : Addr} {fd : FuncData} (Fn : Fun K "_law_fraction" "_law_fraction" s__law_fraction f fd) (hm : mg "_law_fraction" = some (.ref f)) (m_range : mg "range" = none) (c__law_take : Cal P w K mg base 1 "_law_take" ["box", "many"] sp__law_take) (c__law_low : Cal P w K mg base 1 "_law_low" ["top", "base"] sp__law_low) (c__law_digits : Cal P w K mg base 2 "_law_digits" ["box", "figures"] sp__law_digits) (c__law_of_row : Cal P w K mg base 2 "_law_of_row" ["row"] sp__law_of_row) :
    CalF P w K mg base 3 "_law_fraction" ["box", "figures"] sp__law_fraction f fd :=
  .mk2 Fn hm sc__law_fraction len__law_fraction (by decide) (fun cdv A outer s H E hr => (ss_cons (s_set 2 (d_callC c__law_take (c_s 0 (c_v d_int c_nil))))
    (ss_cons (s_if (t_eq (d_var 2) d_int) (ss_one (s_ret (d_callC c__law_low (c_v (d_sub (d_callC c__law_take (c_s 0 (c_v d_int c_nil))) d_int) (c_v (d_add d_int (d_callC c__law_take (c_s 0 (c_v d_int c_nil)))) c_nil))))) ss_nil)
    (ss_cons (s_if (t_eq (d_var 2) d_int) (ss_one (s_ret (d_callC c__law_low (c_v (d_mul (d_callC c__law_digits (c_s 0 (c_v (d_var 1) c_nil))) (d_sub d_int (d_mul d_int (d_callC c__law_take (c_s 0 (c_v d_int c_nil)))))) (c_v (d_add d_int (d_callC c__law_digits (c_s 0 (c_v (d_var 1) c_nil)))) c_nil))))) ss_nil)
    (ss_cons (s_parO 3 4 (d_ix (d_frz (o_lst (l_cons d_int (l_cons d_int (l_cons d_int l_nil))))) (d_callC c__law_take (c_s 0 (c_v d_int c_nil)))) (o_lst (l_cons (d_sub (d_callC c__law_take (c_s 0 (c_v d_int c_nil))) d_int) l_nil)))
    (ss_cons (s_forR1 m_range (d_callC c__law_take (c_s 0 (c_v (d_ix (d_frz (o_lst (l_cons d_int (l_cons d_int (l_cons d_int l_nil))))) (d_callC c__law_take (c_s 0 (c_v d_int c_nil)))) c_nil))) (g_nm 5) (ss_one (s_app 4 (d_add d_int (d_callC c__law_take (c_s 0 (c_v (d_var 3) c_nil)))))))
    (ss_one (s_ret (d_callC c__law_of_row (c_v (d_var 4) c_nil)))))))))) kp__law_fraction
theorem ok__law_above {f : Addr} {fd : FuncData} (Fn : Fun K "_law_above" "_law_above" s__law_above f fd) (hm : mg "_law_above" = some (.ref f)) (m_abs : mg "abs" = none) (c__law_fraction : Cal P w K mg base 3 "_law_fraction" ["box", "figures"] sp__law_fraction) (c__law_take : Cal P w K mg base 1 "_law_take" ["box", "many"] sp__law_take) :
    CalF P w K mg base 4 "_law_above" ["box", "figures"] sp__law_above f fd :=
  .mk2 Fn hm sc__law_above len__law_above (by decide) (fun cdv A outer s H E hr => (ss_cons (s_set 2 (d_callC c__law_fraction (c_s 0 (c_v (d_var 1) c_nil))))
    (ss_one (s_ret (d_if (t_ne (d_ix (d_var 2) d_int) d_int) (d_tup (l_cons (d_abs m_abs (d_ix (d_var 2) d_int)) (l_cons (d_ix (d_var 2) d_int) l_nil))) (d_tup (l_cons d_int (l_cons (d_add d_int (d_callC c__law_take (c_s 0 (c_v d_int c_nil)))) l_nil)))))))) kp__law_above
theorem ok__law_drawn {f : Addr} {fd : FuncData} (Fn : Fun K "_law_drawn" "_law_drawn" s__law_drawn f fd) (hm : mg "_law_drawn" = some (.ref f)) (c__law_above : Cal P w K mg base 4 "_law_above" ["box", "figures"] sp__law_above) :
    CalF P w K mg base 5 "_law_drawn" ["box", "figures"] sp__law_drawn f fd :=
  .mk2 Fn hm sc__law_drawn len__law_drawn (by decide) (fun cdv A outer s H E hr => (ss_one (s_ret (d_callC c__law_above (c_s 0 (c_v (d_var 1) c_nil)))))) kp__law_drawn
theorem ok_common {f : Addr} {fd : FuncData} (Fn : Fun K "common" "common" s_common f fd) (hm : mg "common" = some (.ref f)) (m_abs : mg "abs" = none) :
    CalF P w K mg base 1 "common" ["one", "other"] sp_common f fd :=
  .mk2 Fn hm sc_common len_common (by decide) (fun cdv A outer s H E hr => (ss_cons (s_set 0 (d_abs m_abs (d_var 0)))
    (ss_cons (s_set 1 (d_abs m_abs (d_var 1)))
    (ss_cons (s_while (t_ne (d_var 1) d_int) (ss_one (s_par 0 1 (d_var 1) (d_mod (d_var 0) (d_var 1)))))
    (ss_one (s_ret (d_var 0))))))) kp_common
theorem ok_need_pair {f : Addr} {fd : FuncData} (Fn : Fun K "need_pair" "need_pair" s_need_pair f fd) (hm : mg "need_pair" = some (.ref f)) (c_is_number : Cal P w K mg base 1 "is_number" ["thing"] sp_is_number) (c_common : Cal P w K mg base 1 "common" ["one", "other"] sp_common) :
    CalF P w K mg base 2 "need_pair" ["h", "k"] sp_need_pair f fd :=
  .mk2 Fn hm sc_need_pair len_need_pair (by decide) (fun cdv A outer s H E hr => (ss_cons (s_if (t_not (t_val (d_callC c_is_number (c_v (d_var 0) c_nil)))) (ss_one s_never) ss_nil)
    (ss_cons (s_if (p_pt (p_or (t_not (t_val (d_callC c_is_number (c_v (d_var 1) c_nil)))) (p_or1 (t_lt (d_var 1) d_int)))) (ss_one s_never) ss_nil)
    (ss_one (s_if (t_ne (d_callC c_common (c_v (d_var 0) (c_v (d_var 1) c_nil))) d_int) (ss_one s_never) ss_nil))))) kp_need_pair
theorem ok_made {f : Addr} {fd : FuncData} (Fn : Fun K "made" "made" s_made f fd) (hm : mg "made" = some (.ref f)) (c_common : Cal P w K mg base 1 "common" ["one", "other"] sp_common) :
    CalF P w K mg base 2 "made" ["top", "bottom"] sp_made f fd :=
  .mk2 Fn hm sc_made len_made (by decide) (fun cdv A outer s H E hr => (ss_cons (s_set 2 (d_callC c_common (c_v (d_var 0) (c_v (d_var 1) c_nil))))
    (ss_cons (s_if (t_lt (d_var 1) d_int) (ss_one (s_set 2 (d_neg (d_var 2)))) ss_nil)
    (ss_one (s_ret (d_tup (l_cons (d_fdiv (d_var 0) (d_var 2)) (l_cons (d_fdiv (d_var 1) (d_var 2)) l_nil)))))))) kp_made
theorem ok_sum_of {f : Addr} {fd : FuncData} (Fn : Fun K "sum_of" "sum_of" s_sum_of f fd) (hm : mg "sum_of" = some (.ref f)) (c_made : Cal P w K mg base 2 "made" ["top", "bottom"] sp_made) :
    CalF P w K mg base 3 "sum_of" ["h", "k"] sp_sum_of f fd :=
  .mk2 Fn hm sc_sum_of len_sum_of (by decide) (fun cdv A outer s H E hr => (ss_cons (s_asg (d_tup (l_cons d_int (l_cons d_int (l_cons d_int l_nil)))) (g_tp (gs_cons (g_nm 2) (gs_cons (g_nm 3) (gs_cons (g_nm 4) gs_nil)))))
    (ss_cons (s_set 0 (d_mod (d_var 0) (d_var 1)))
    (ss_cons (s_while (t_gt (d_var 1) d_int) (ss_cons (s_set 5 (d_sub (d_add (d_add (d_mul (d_var 0) (d_var 0)) (d_mul (d_var 1) (d_var 1))) d_int) (d_mul (d_mul d_int (d_var 0)) (d_var 1))))
    (ss_cons (s_asg (d_callC c_made (c_v (d_add (d_mul (d_mul (d_mul (d_var 2) d_int) (d_var 0)) (d_var 1)) (d_mul (d_mul (d_var 4) (d_var 5)) (d_var 3))) (c_v (d_mul (d_mul (d_mul (d_var 3) d_int) (d_var 0)) (d_var 1)) c_nil))) (g_tp (gs_cons (g_nm 2) (gs_cons (g_nm 3) gs_nil))))
    (ss_one (s_par3 0 1 4 (d_mod (d_var 1) (d_var 0)) (d_var 0) (d_neg (d_var 4)))))))
    (ss_one (s_ret (d_tup (l_cons (d_var 2) (l_cons (d_var 3) l_nil))))))))) kp_sum_of
theorem ok_saw_sum {f : Addr} {fd : FuncData} (Fn : Fun K "saw_sum" "saw_sum" s_saw_sum f fd) (hm : mg "saw_sum" = some (.ref f)) (c_need_pair : Cal P w K mg base 2 "need_pair" ["h", "k"] sp_need_pair) (c_sum_of : Cal P w K mg base 3 "sum_of" ["h", "k"] sp_sum_of) :
    CalF P w K mg base 4 "saw_sum" ["h", "k"] sp_saw_sum f fd :=
  .mk2 Fn hm sc_saw_sum len_saw_sum (by decide) (fun cdv A outer s H E hr => (ss_cons (s_drop (d_callC c_need_pair (c_v (d_var 0) (c_v (d_var 1) c_nil))))
    (ss_one (s_ret (d_callC c_sum_of (c_v (d_var 0) (c_v (d_var 1) c_nil))))))) kp_saw_sum
theorem ok__law_minus {f : Addr} {fd : FuncData} (Fn : Fun K "_law_minus" "_law_minus" s__law_minus f fd) (hm : mg "_law_minus" = some (.ref f)) (c__law_low : Cal P w K mg base 1 "_law_low" ["top", "base"] sp__law_low) :
    CalF P w K mg base 2 "_law_minus" ["one", "other"] sp__law_minus f fd :=
  .mk2 Fn hm sc__law_minus len__law_minus (by decide) (fun cdv A outer s H E hr => (ss_one (s_ret (d_callC c__law_low (c_v (d_sub (d_mul (d_ix (d_var 0) d_int) (d_ix (d_var 1) d_int)) (d_mul (d_ix (d_var 1) d_int) (d_ix (d_var 0) d_int))) (c_v (d_mul (d_ix (d_var 0) d_int) (d_ix (d_var 1) d_int)) c_nil)))))) kp__law_minus
theorem ok__law_inverse {f : Addr} {fd : FuncData} (Fn : Fun K "_law_inverse" "_law_inverse" s__law_inverse f fd) (hm : mg "_law_inverse" = some (.ref f))  :
    CalF P w K mg base 1 "_law_inverse" ["h", "k"] sp__law_inverse f fd :=
  .mk2 Fn hm sc__law_inverse len__law_inverse (by decide) (fun cdv A outer s H E hr => (ss_cons (s_asg (d_tup (l_cons (d_var 1) (l_cons (d_sub (d_var 0) (d_mul (d_fdiv (d_var 0) (d_var 1)) (d_var 1))) (l_cons d_int (l_cons d_int l_nil))))) (g_tp (gs_cons (g_nm 2) (gs_cons (g_nm 3) (gs_cons (g_nm 4) (gs_cons (g_nm 5) gs_nil))))))
    (ss_cons (s_while (t_gt (d_var 3) d_int) (ss_cons (s_set 6 (d_fdiv (d_var 2) (d_var 3)))
    (ss_one (s_asg (d_tup (l_cons (d_var 3) (l_cons (d_sub (d_var 2) (d_mul (d_var 6) (d_var 3))) (l_cons (d_var 5) (l_cons (d_sub (d_var 4) (d_mul (d_var 6) (d_var 5))) l_nil))))) (g_tp (gs_cons (g_nm 2) (gs_cons (g_nm 3) (gs_cons (g_nm 4) (gs_cons (g_nm 5) gs_nil)))))))))
    (ss_one (s_ret (d_sub (d_var 4) (d_mul (d_fdiv (d_var 4) (d_var 1)) (d_var 1)))))))) kp__law_inverse
theorem ok__law_row {f : Addr} {fd : FuncData} (Fn : Fun K "_law_row" "_law_row" s__law_row f fd) (hm : mg "_law_row" = some (.ref f))  :
    CalF P w K mg base 1 "_law_row" ["top", "base"] sp__law_row f fd :=
  .mk2 Fn hm sc__law_row len__law_row (by decide) (fun cdv A outer s H E hr => (ss_cons (s_setO 2 (o_lst l_nil))
    (ss_cons (s_while (t_gt (d_var 1) d_int) (ss_cons (s_set 3 (d_fdiv (d_var 0) (d_var 1)))
    (ss_cons (s_app 2 (d_var 3))
    (ss_one (s_par 0 1 (d_var 1) (d_sub (d_var 0) (d_mul (d_var 3) (d_var 1))))))))
    (ss_one (s_ret (d_var 2)))))) kp__law_row
theorem ok__law_times {f : Addr} {fd : FuncData} (Fn : Fun K "_law_times" "_law_times" s__law_times f fd) (hm : mg "_law_times" = some (.ref f)) (c__law_low : Cal P w K mg base 1 "_law_low" ["top", "base"] sp__law_low) :
    CalF P w K mg base 2 "_law_times" ["one", "other"] sp__law_times f fd :=
  .mk2 Fn hm sc__law_times len__law_times (by decide) (fun cdv A outer s H E hr => (ss_one (s_ret (d_callC c__law_low (c_v (d_mul (d_ix (d_var 0) d_int) (d_ix (d_var 1) d_int)) (c_v (d_mul (d_ix (d_var 0) d_int) (d_ix (d_var 1) d_int)) c_nil)))))) kp__law_times
theorem ok__law_plus {f : Addr} {fd : FuncData} (Fn : Fun K "_law_plus" "_law_plus" s__law_plus f fd) (hm : mg "_law_plus" = some (.ref f)) (c__law_low : Cal P w K mg base 1 "_law_low" ["top", "base"] sp__law_low) :
    CalF P w K mg base 2 "_law_plus" ["one", "other"] sp__law_plus f fd :=
  .mk2 Fn hm sc__law_plus len__law_plus (by decide) (fun cdv A outer s H E hr => (ss_one (s_ret (d_callC c__law_low (c_v (d_add (d_mul (d_ix (d_var 0) d_int) (d_ix (d_var 1) d_int)) (d_mul (d_ix (d_var 1) d_int) (d_ix (d_var 0) d_int))) (c_v (d_mul (d_ix (d_var 0) d_int) (d_ix (d_var 1) d_int)) c_nil)))))) kp__law_plus
theorem ok__law_is_int {f : Addr} {fd : FuncData} (Fn : Fun K "_law_is_int" "_law_is_int" s__law_is_int f fd) (hm : mg "_law_is_int" = some (.ref f)) (m_isinstance : mg "isinstance" = none) (m_int : mg "int" = none) (m_bool : mg "bool" = none) :
    CalF P w K mg base 1 "_law_is_int" ["value"] sp__law_is_int f fd :=
  .mk2 Fn hm sc__law_is_int len__law_is_int (by decide) (fun cdv A outer s H E hr => (ss_one (s_ret (d_and (d_isi .int m_isinstance m_int (by decide +kernel) rfl (d_var 0)) (d_one (d_not (d_isi .bool m_isinstance m_bool (by decide +kernel) rfl (d_var 0)))))))) kp__law_is_int
theorem ok__law_is_fraction {f : Addr} {fd : FuncData} (Fn : Fun K "_law_is_fraction" "_law_is_fraction" s__law_is_fraction f fd) (hm : mg "_law_is_fraction" = some (.ref f)) (m_isinstance : mg "isinstance" = none) (m_tuple : mg "tuple" = none) (m_len : mg "len" = none) (c__law_is_int : Cal P w K mg base 1 "_law_is_int" ["value"] sp__law_is_int) (c__law_low : Cal P w K mg base 1 "_law_low" ["top", "base"] sp__law_low) :
    CalF P w K mg base 2 "_law_is_fraction" ["value"] sp__law_is_fraction f fd :=
  .mk2 Fn hm sc__law_is_fraction len__law_is_fraction (by decide) (fun cdv A outer s H E hr => (ss_cons (s_if (p_pt (p_or (t_not (t_val (d_isi .tuple m_isinstance m_tuple (by decide +kernel) rfl (d_var 0)))) (p_or (t_ne (d_len m_len (d_var 0)) d_int) (p_or (t_not (t_val (d_callC c__law_is_int (c_v (d_ix (d_var 0) d_int) c_nil)))) (p_or (t_not (t_val (d_callC c__law_is_int (c_v (d_ix (d_var 0) d_int) c_nil)))) (p_or1 (t_lt (d_ix (d_var 0) d_int) d_int))))))) (ss_one (s_ret d_bl)) ss_nil)
    (ss_one (s_ret (d_eq (d_callC c__law_low (c_v (d_ix (d_var 0) d_int) (c_v (d_ix (d_var 0) d_int) c_nil))) (d_var 0)))))) kp__law_is_fraction
theorem ok__law_sum {f : Addr} {fd : FuncData} (Fn : Fun K "_law_sum" "_law_sum" s__law_sum f fd) (hm : mg "_law_sum" = some (.ref f)) (c__law_plus : Cal P w K mg base 2 "_law_plus" ["one", "other"] sp__law_plus) :
    CalF P w K mg base 3 "_law_sum" ["items"] sp__law_sum f fd :=
  .mk2 Fn hm sc__law_sum len__law_sum (by decide) (fun cdv A outer s H E hr => (ss_cons (s_set 1 (d_tup (l_cons d_int (l_cons d_int l_nil))))
    (ss_cons (s_for (d_var 0) (g_nm 2) (ss_one (s_set 1 (d_callC c__law_plus (c_v (d_var 1) (c_v (d_var 2) c_nil))))))
    (ss_one (s_ret (d_var 1)))))) kp__law_sum
theorem ok__law_same {f : Addr} {fd : FuncData} (Fn : Fun K "_law_same" "_law_same" s__law_same f fd) (hm : mg "_law_same" = some (.ref f)) (m_isinstance : mg "isinstance" = none) (m_bool : mg "bool" = none) (m_int : mg "int" = none) :
    CalF P w K mg base 1 "_law_same" ["given", "due"] sp__law_same f fd :=
  .mk2 Fn hm sc__law_same len__law_same (by decide) (fun cdv A outer s H E hr => (ss_cons (s_if (p_pt (p_or (t_isN (d_var 1)) (p_or1 (t_val (d_isi .bool m_isinstance m_bool (by decide +kernel) rfl (d_var 1)))))) (ss_one s_never) ss_nil)
    (ss_cons (s_if (t_val (d_isi .int m_isinstance m_int (by decide +kernel) rfl (d_var 1))) (ss_one (s_ret (d_and (d_isi .int m_isinstance m_int (by decide +kernel) rfl (d_var 0)) (d_and (d_not (d_isi .bool m_isinstance m_bool (by decide +kernel) rfl (d_var 0))) (d_one (d_eq (d_sub (d_intf m_int (d_var 0)) (d_var 1)) d_int)))))) ss_nil)
    (ss_cons s_never
    (ss_cons s_never
    (ss_one s_never)))))) kp__law_same
theorem ok_saw_whole {f : Addr} {fd : FuncData} (Fn : Fun K "saw_whole" "saw_whole" s_saw_whole f fd) (hm : mg "saw_whole" = some (.ref f)) (c_need_pair : Cal P w K mg base 2 "need_pair" ["h", "k"] sp_need_pair) (c_sum_of : Cal P w K mg base 3 "sum_of" ["h", "k"] sp_sum_of) :
    CalF P w K mg base 4 "saw_whole" ["h", "k"] sp_saw_whole f fd :=
  .mk2 Fn hm sc_saw_whole len_saw_whole (by decide) (fun cdv A outer s H E hr => (ss_cons (s_drop (d_callC c_need_pair (c_v (d_var 0) (c_v (d_var 1) c_nil))))
    (ss_cons (s_asg (d_callC c_sum_of (c_v (d_var 0) (c_v (d_var 1) c_nil))) (g_tp (gs_cons (g_nm 2) (gs_cons (g_nm 3) gs_nil))))
    (ss_one (s_ret (d_fdiv (d_mul (d_mul d_int (d_var 1)) (d_var 2)) (d_var 3))))))) kp_saw_whole
theorem ok__law_cell_right {f : Addr} {fd : FuncData} (Fn : Fun K "_law_cell_right" "_law_cell_right" s__law_cell_right f fd) (hm : mg "_law_cell_right" = some (.ref f)) (m_len : mg "len" = none) (m_range : mg "range" = none) (m_sum : mg "sum" = none) (c__law_take : Cal P w K mg base 1 "_law_take" ["box", "many"] sp__law_take) (c__law_drawn : Cal P w K mg base 5 "_law_drawn" ["box", "figures"] sp__law_drawn) (c_saw_sum : Cal P w K mg base 4 "saw_sum" ["h", "k"] sp_saw_sum) (c__law_is_fraction : Cal P w K mg base 2 "_law_is_fraction" ["value"] sp__law_is_fraction) (c__law_minus : Cal P w K mg base 2 "_law_minus" ["one", "other"] sp__law_minus) (c__law_times : Cal P w K mg base 2 "_law_times" ["one", "other"] sp__law_times) (c__law_sum : Cal P w K mg base 3 "_law_sum" ["items"] sp__law_sum) (c__law_low : Cal P w K mg base 1 "_law_low" ["top", "base"] sp__law_low) (c__law_plus : Cal P w K mg base 2 "_law_plus" ["one", "other"] sp__law_plus) (c__law_inverse : Cal P w K mg base 1 "_law_inverse" ["h", "k"] sp__law_inverse) (c__law_same : Cal P w K mg base 1 "_law_same" ["given", "due"] sp__law_same) (c_saw_whole : Cal P w K mg base 4 "saw_whole" ["h", "k"] sp_saw_whole) (c_still_numbers : Cal P w K mg base 3 "still_numbers" ["k"] sp_still_numbers) (c__law_row : Cal P w K mg base 1 "_law_row" ["top", "base"] sp__law_row) (cp_saw_sum_0 : CalP P w K mg base 4 "saw_sum" ["h", "k"] sp_saw_sum 0 ["h", "k"] [] [0, 1]) :
    CalF P w K mg base 6 "_law_cell_right" ["box"] sp__law_cell_right f fd :=
  .mk2 Fn hm sc__law_cell_right len__law_cell_right (by decide) (fun cdv A outer s H E hr => (ss_cons (s_set 1 (d_eq (d_callC c__law_take (c_s 0 (c_v d_int c_nil))) d_int))
    (ss_cons (s_forR1 m_range d_int (g_nm 2) (ss_cons (s_asg (d_callC c__law_drawn (c_s 0 (c_v (d_ix (d_frz (o_lst (l_cons d_int (l_cons d_int (l_cons d_int l_nil))))) (d_var 2)) c_nil))) (g_tp (gs_cons (g_nm 3) (gs_cons (g_nm 4) gs_nil))))
    (ss_cons (s_set 5 (d_if (t_val (d_var 1)) (d_callP0 cp_saw_sum_0 (kw_cons (d_var 3) (kw_cons (d_var 4) kw_nil))) (d_callC c_saw_sum (c_v (d_var 3) (c_v (d_var 4) c_nil)))))
    (ss_cons (s_set 6 (d_callC c_saw_sum (c_v (d_var 4) (c_v (d_var 3) c_nil))))
    (ss_cons (s_if (p_pt (p_or (t_not (t_val (d_callC c__law_is_fraction (c_v (d_var 5) c_nil)))) (p_or1 (t_not (t_val (d_callC c__law_is_fraction (c_v (d_var 6) c_nil))))))) (ss_one (s_ret d_bl)) ss_nil)
    (ss_cons (s_set 7 (d_callC c__law_minus (c_v (d_callC c__law_times (c_v (d_tup (l_cons d_int (l_cons d_int l_nil))) (c_v (d_callC c__law_sum (c_v (d_frz (o_lst (l_cons (d_callC c__law_low (c_v (d_var 3) (c_v (d_var 4) c_nil))) (l_cons (d_callC c__law_low (c_v (d_var 4) (c_v (d_var 3) c_nil))) (l_cons (d_callC c__law_low (c_v d_int (c_v (d_mul (d_var 3) (d_var 4)) c_nil))) l_nil))))) c_nil)) c_nil))) (c_v (d_tup (l_cons d_int (l_cons d_int l_nil))) c_nil))))
    (ss_cons (s_if (t_ne (d_callC c__law_plus (c_v (d_var 5) (c_v (d_var 6) c_nil))) (d_var 7)) (ss_one (s_ret d_bl)) ss_nil)
    (ss_cons (s_set 8 (d_sub (d_callC c__law_take (c_s 0 (c_v d_int c_nil))) d_int))
    (ss_cons (s_set 9 (d_callC c__law_inverse (c_v (d_var 3) (c_v (d_var 4) c_nil))))
    (ss_cons (s_if (p_pt (p_or (t_ne (d_callC c_saw_sum (c_v (d_sub d_int (d_var 3)) (c_v (d_var 4) c_nil))) (d_tup (l_cons (d_sub d_int (d_ix (d_var 5) d_int)) (l_cons (d_ix (d_var 5) d_int) l_nil)))) (p_or (t_ne (d_callC c_saw_sum (c_v (d_add (d_var 3) (d_mul (d_var 8) (d_var 4))) (c_v (d_var 4) c_nil))) (d_var 5)) (p_or1 (t_ne (d_callC c_saw_sum (c_v (d_if (t_gt (d_var 4) d_int) (d_var 9) (d_var 3)) (c_v (d_var 4) c_nil))) (d_var 5)))))) (ss_one (s_ret d_bl)) ss_nil)
    (ss_cons (s_set 10 (d_callC c__law_minus (c_v (d_callC c__law_times (c_v (d_tup (l_cons d_int (l_cons d_int l_nil))) (c_v (d_var 5) c_nil))) (c_v (d_callC c__law_low (c_v (d_add (d_var 3) (d_var 9)) (c_v (d_var 4) c_nil))) c_nil))))
    (ss_cons (s_if (p_pt (p_or (t_ne (d_ix (d_var 10) d_int) d_int) (p_or (t_not (t_val (d_callC c__law_same (c_v (d_callC c_saw_whole (c_v (d_var 3) (c_v (d_var 4) c_nil))) (c_v (d_fdiv (d_mul (d_mul d_int (d_var 4)) (d_ix (d_var 5) d_int)) (d_ix (d_var 5) d_int)) c_nil))))) (p_or1 (t_ne (d_mul (d_fdiv (d_mul (d_mul d_int (d_var 4)) (d_ix (d_var 5) d_int)) (d_ix (d_var 5) d_int)) (d_ix (d_var 5) d_int)) (d_mul (d_mul d_int (d_var 4)) (d_ix (d_var 5) d_int))))))) (ss_one (s_ret d_bl)) ss_nil)
    (ss_cons (s_if (t_ne (d_eq (d_ix (d_var 5) d_int) d_int) (d_eq (d_mul (d_fdiv (d_add (d_mul (d_var 3) (d_var 3)) d_int) (d_var 4)) (d_var 4)) (d_add (d_mul (d_var 3) (d_var 3)) d_int))) (ss_one (s_ret d_bl)) ss_nil)
    (ss_one (s_if (t_gt (d_var 4) d_int) (ss_cons (s_set 11 (d_sub (d_var 3) (d_mul (d_fdiv (d_var 3) (d_var 4)) (d_var 4))))
    (ss_cons (s_par3 12 13 14 (d_frz (o_lst l_nil)) (d_var 4) (d_var 11))
    (ss_cons (s_forR1 m_range d_int (g_nm 15) (ss_one (s_if (p_pt (p_and (t_gt (d_var 14) d_int) (p_and1 (t_lt (d_len m_len (d_var 12)) d_int)))) (ss_cons (s_set 16 (d_sub d_int (d_fdiv (d_sub d_int (d_var 13)) (d_var 14))))
    (ss_one (s_par3 12 13 14 (d_frz (o_cat (d_var 12) (d_frz (o_lst (l_cons (d_var 16) l_nil))))) (d_var 14) (d_sub (d_mul (d_var 16) (d_var 14)) (d_var 13))))) ss_nil)))
    (ss_one (s_if (t_eq (d_var 14) d_int) (ss_cons (s_set 17 (d_callC c__law_plus (c_v (d_tup (l_cons (d_sub (d_sum m_sum (d_var 12)) (d_mul d_int (d_len m_len (d_var 12)))) (l_cons d_int l_nil))) (c_v (d_callC c__law_low (c_v (d_add (d_var 11) (d_var 9)) (c_v (d_var 4) c_nil))) c_nil))))
    (ss_one (s_if (t_ne (d_callC c__law_times (c_v (d_tup (l_cons d_int (l_cons d_int l_nil))) (c_v (d_var 5) c_nil))) (d_var 17)) (ss_one (s_ret d_bl)) ss_nil))) ss_nil))))) ss_nil)))))))))))))))
    (ss_cons (s_set 4 (d_ix (d_frz (o_lst (l_cons d_int (l_cons d_int (l_cons d_int (l_cons d_int (l_cons d_int (l_cons d_int (l_cons d_int (l_cons d_int (l_cons d_int (l_cons d_int (l_cons d_int (l_cons d_int (l_cons d_int (l_cons d_int (l_cons d_int (l_cons d_int (l_cons d_int (l_cons d_int (l_cons d_int (l_cons d_int l_nil)))))))))))))))))))))) (d_callC c__law_take (c_s 0 (c_v d_int c_nil)))))
    (ss_cons (s_for (d_callC c_still_numbers (c_v (d_var 4) c_nil)) (g_nm 3) (ss_cons (s_if (t_ne (d_callC c_saw_sum (c_v (d_var 3) (c_v (d_var 4) c_nil))) (d_tup (l_cons d_int (l_cons d_int l_nil)))) (ss_one (s_ret d_bl)) ss_nil)
    (ss_cons (s_set 18 (d_callC c__law_row (c_v (d_var 4) (c_v (d_var 3) c_nil))))
    (ss_cons (s_set 19 (d_frz (o_cat (d_frz (o_cut (d_var 18) sp_no (sp_at (d_neg d_int)))) (d_frz (o_lst (l_cons (d_sub (d_ix (d_var 18) (d_neg d_int)) d_int) (l_cons d_int l_nil)))))))
    (ss_one (s_if (p_pt (p_and (t_ne (d_var 18) (d_frz (o_rev (d_var 18)))) (p_and1 (t_ne (d_var 19) (d_frz (o_rev (d_var 19))))))) (ss_one (s_ret d_bl)) ss_nil))))))
    (ss_cons (s_if (t_ne (d_frz (o_lc [("k", 4)] (d_frz (o_lst (l_cons d_int (l_cons d_int (l_cons d_int (l_cons d_int (l_cons d_int (l_cons d_int (l_cons d_int (l_cons d_int l_nil)))))))))) (g_nm 4) (ts_one (t_ne (d_callC c_still_numbers (c_v (d_var 4) c_nil)) (d_frz (o_lst l_nil)))) (d_var 4) (fun _ => blkOk_by (N := N__law_cell_right) (sc := defScope s__law_cell_right) (by decide +kernel)))) (d_frz (o_lst l_nil))) (ss_one (s_ret d_bl)) ss_nil)
    (ss_one (s_ret d_bl)))))))) kp__law_cell_right
theorem ok__law_box {f : Addr} {fd : FuncData} (Fn : Fun K "_law_box" "_law_box" s__law_box f fd) (hm : mg "_law_box" = some (.ref f)) (m_abs : mg "abs" = none) (m_int : mg "int" = none) :
    CalF P w K mg base 1 "_law_box" ["great"] sp__law_box f fd :=
  .mk2 Fn hm sc__law_box len__law_box (by decide) (fun cdv A outer s H E hr => (ss_one (s_retO (o_lst (l_cons (d_abs m_abs (d_var 0)) (l_cons (d_ge (d_abs m_abs (d_var 0)) (d_pow d_int d_int)) (l_cons (d_mod (d_intf m_int (d_abs m_abs (d_var 0))) d_int) (l_cons d_int l_nil)))))))) kp__law_box
theorem ok__law_cell {f : Addr} {fd : FuncData} (Fn : Fun K "_law_cell" "_law_cell" s__law_cell f fd) (hm : mg "_law_cell" = some (.ref f)) (m_len : mg "len" = none) (m_sum : mg "sum" = none) (m_int : mg "int" = none) :
    CalF P w K mg base 1 "_law_cell" ["script", "k"] sp__law_cell f fd :=
  .mk2 Fn hm sc__law_cell len__law_cell (by decide) (fun cdv A outer s H E hr => (ss_one (s_ret (d_if (t_lt (d_var 1) (d_len m_len (d_var 0))) (d_ix (d_var 0) (d_var 1)) (d_add (d_mul d_int (d_var 1)) (d_mod (d_intf m_int (d_sum m_sum (d_frz (o_cut (d_var 0) sp_no (sp_at d_int))))) d_int)))))) kp__law_cell
theorem ok_law {f : Addr} {fd : FuncData} (Fn : Fun K "law" "law" s_law f fd) (hm : mg "law" = some (.ref f)) (m_len : mg "len" = none) (m_min : mg "min" = none) (m_max : mg "max" = none) (m_range : mg "range" = none) (c__law_box : Cal P w K mg base 1 "_law_box" ["great"] sp__law_box) (c__law_cell : Cal P w K mg base 1 "_law_cell" ["script", "k"] sp__law_cell) (c__law_cell_right : Cal P w K mg base 6 "_law_cell_right" ["box"] sp__law_cell_right) :
    CalF P w K mg base 7 "law" ["script"] sp_law f fd :=
  .mk2 Fn hm sc_law len_law (by decide) (fun cdv A outer s H E hr => (ss_cons (s_forR1 m_range (d_max m_max d_int (d_min m_min d_int (d_len m_len (d_var 0)))) (g_nm 1) (ss_one (s_if (t_not (t_val (d_callT c__law_cell_right (o_callC c__law_box (c_v (d_callC c__law_cell (c_v (d_var 0) (c_v (d_var 1) c_nil))) c_nil))))) (ss_one (s_ret d_bl)) ss_nil)))
    (ss_one (s_ret d_bl)))) kp_law
end
theorem all_mk {l : PySem.W.OpenLaw} {w : World} {K : PySem.W.Frag} {h : Heap} {mg : Str → Option Value} {fa f1 f2 f3 f4 f5 f6 f7 f8 f9 f10 f11 f12 f13 f14 f15 f16 f17 f18 f19 f20 f21 f22 f23 f24 f25 f26 f27 f28 f29 : Addr} (X : K.In h) (G : h.Ns mainGlobals mg) (hfa : mg "law" = some (.ref fa))
    {od1 an1 od2 an2 od3 an3 od4 an4 od5 an5 od6 an6 od7 an7 od8 an8 od9 an9 od10 an10 od11 an11 od12 an12 od13 an13 od14 an14 od15 an15 od16 an16 od17 an17 od18 an18 od19 an19 od20 an20 od21 an21 od22 an22 od23 an23 od24 an24 od25 an25 od26 an26 od27 an27 od28 an28 od29 an29 : Option Addr} {sl1 sl2 sl3 sl4 sl5 sl6 sl7 sl8 sl9 sl10 sl11 sl12 sl13 sl14 sl15 sl16 sl17 sl18 sl19 sl20 sl21 sl22 sl23 sl24 sl25 sl26 sl27 sl28 sl29 : Array (Option Value)} {oc1 kV1 dc1 pm1 cd1 ct1 oc2 kV2 dc2 pm2 cd2 ct2 oc3 kV3 dc3 pm3 cd3 ct3 oc4 kV4 dc4 pm4 cd4 ct4 oc5 kV5 dc5 pm5 cd5 ct5 oc6 kV6 dc6 pm6 cd6 ct6 oc7 kV7 dc7 pm7 cd7 ct7 oc8 kV8 dc8 pm8 cd8 ct8 oc9 kV9 dc9 pm9 cd9 ct9 oc10 kV10 dc10 pm10 cd10 ct10 oc11 kV11 dc11 pm11 cd11 ct11 oc12 kV12 dc12 pm12 cd12 ct12 oc13 kV13 dc13 pm13 cd13 ct13 oc14 kV14 dc14 pm14 cd14 ct14 oc15 kV15 dc15 pm15 cd15 ct15 oc16 kV16 dc16 pm16 cd16 ct16 oc17 kV17 dc17 pm17 cd17 ct17 oc18 kV18 dc18 pm18 cd18 ct18 oc19 kV19 dc19 pm19 cd19 ct19 oc20 kV20 dc20 pm20 cd20 ct20 oc21 kV21 dc21 pm21 cd21 ct21 oc22 kV22 dc22 pm22 cd22 ct22 oc23 kV23 dc23 pm23 cd23 ct23 oc24 kV24 dc24 pm24 cd24 ct24 oc25 kV25 dc25 pm25 cd25 ct25 oc26 kV26 dc26 pm26 cd26 ct26 oc27 kV27 dc27 pm27 cd27 ct27 oc28 kV28 dc28 pm28 cd28 ct28 oc29 kV29 dc29 pm29 cd29 ct29 : Value}
    (a1 : PySem.W.nsIn K mainGlobals "is_number" = some (some (.ref f1))) (l1 : K.lookup f1 = some ⟨oc1, od1, .func (PySem.W.fnOf "is_number" "is_number" (defArgs s_is_number) (defBody s_is_number) (defScope s_is_number) .none kV1 dc1 pm1 an1 cd1 ct1), sl1⟩) (c1 : PySem.W.codeIn K cd1 "is_number" = true) (k1 : PySem.W.keepIn K (.ref f1) = true)
    (a2 : PySem.W.nsIn K mainGlobals "is_whole" = some (some (.ref f2))) (l2 : K.lookup f2 = some ⟨oc2, od2, .func (PySem.W.fnOf "is_whole" "is_whole" (defArgs s_is_whole) (defBody s_is_whole) (defScope s_is_whole) .none kV2 dc2 pm2 an2 cd2 ct2), sl2⟩) (c2 : PySem.W.codeIn K cd2 "is_whole" = true) (k2 : PySem.W.keepIn K (.ref f2) = true)
    (a3 : PySem.W.nsIn K mainGlobals "still_numbers" = some (some (.ref f3))) (l3 : K.lookup f3 = some ⟨oc3, od3, .func (PySem.W.fnOf "still_numbers" "still_numbers" (defArgs s_still_numbers) (defBody s_still_numbers) (defScope s_still_numbers) .none kV3 dc3 pm3 an3 cd3 ct3), sl3⟩) (c3 : PySem.W.codeIn K cd3 "still_numbers" = true) (k3 : PySem.W.keepIn K (.ref f3) = true)
    (a4 : PySem.W.nsIn K mainGlobals "_law_take" = some (some (.ref f4))) (l4 : K.lookup f4 = some ⟨oc4, od4, .func (PySem.W.fnOf "_law_take" "_law_take" (defArgs s__law_take) (defBody s__law_take) (defScope s__law_take) .none kV4 dc4 pm4 an4 cd4 ct4), sl4⟩) (c4 : PySem.W.codeIn K cd4 "_law_take" = true) (k4 : PySem.W.keepIn K (.ref f4) = true)
    (a5 : PySem.W.nsIn K mainGlobals "_law_low" = some (some (.ref f5))) (l5 : K.lookup f5 = some ⟨oc5, od5, .func (PySem.W.fnOf "_law_low" "_law_low" (defArgs s__law_low) (defBody s__law_low) (defScope s__law_low) .none kV5 dc5 pm5 an5 cd5 ct5), sl5⟩) (c5 : PySem.W.codeIn K cd5 "_law_low" = true) (k5 : PySem.W.keepIn K (.ref f5) = true)
    (a6 : PySem.W.nsIn K mainGlobals "_law_of_row" = some (some (.ref f6))) (l6 : K.lookup f6 = some ⟨oc6, od6, .func (PySem.W.fnOf "_law_of_row" "_law_of_row" (defArgs s__law_of_row) (defBody s__law_of_row) (defScope s__law_of_row) .none kV6 dc6 pm6 an6 cd6 ct6), sl6⟩) (c6 : PySem.W.codeIn K cd6 "_law_of_row" = true) (k6 : PySem.W.keepIn K (.ref f6) = true)
    (a7 : PySem.W.nsIn K mainGlobals "_law_digits" = some (some (.ref f7))) (l7 : K.lookup f7 = some ⟨oc7, od7, .func (PySem.W.fnOf "_law_digits" "_law_digits" (defArgs s__law_digits) (defBody s__law_digits) (defScope s__law_digits) .none kV7 dc7 pm7 an7 cd7 ct7), sl7⟩) (c7 : PySem.W.codeIn K cd7 "_law_digits" = true) (k7 : PySem.W.keepIn K (.ref f7) = true)
    (a8 : PySem.W.nsIn K mainGlobals "_law_fraction" = some (some (.ref f8))) (l8 : K.lookup f8 = some ⟨oc8, od8, .func (PySem.W.fnOf "_law_fraction" "_law_fraction" (defArgs s__law_fraction) (defBody s__law_fraction) (defScope s__law_fraction) .none kV8 dc8 pm8 an8 cd8 ct8), sl8⟩) (c8 : PySem.W.codeIn K cd8 "_law_fraction" = true) (k8 : PySem.W.keepIn K (.ref f8) = true)
    (a9 : PySem.W.nsIn K mainGlobals "_law_above" = some (some (.ref f9))) (l9 : K.lookup f9 = some ⟨oc9, od9, .func (PySem.W.fnOf "_law_above" "_law_above" (defArgs s__law_above) (defBody s__law_above) (defScope s__law_above) .none kV9 dc9 pm9 an9 cd9 ct9), sl9⟩) (c9 : PySem.W.codeIn K cd9 "_law_above" = true) (k9 : PySem.W.keepIn K (.ref f9) = true)
    (a10 : PySem.W.nsIn K mainGlobals "_law_drawn" = some (some (.ref f10))) (l10 : K.lookup f10 = some ⟨oc10, od10, .func (PySem.W.fnOf "_law_drawn" "_law_drawn" (defArgs s__law_drawn) (defBody s__law_drawn) (defScope s__law_drawn) .none kV10 dc10 pm10 an10 cd10 ct10), sl10⟩) (c10 : PySem.W.codeIn K cd10 "_law_drawn" = true) (k10 : PySem.W.keepIn K (.ref f10) = true)
    (a11 : PySem.W.nsIn K mainGlobals "common" = some (some (.ref f11))) (l11 : K.lookup f11 = some ⟨oc11, od11, .func (PySem.W.fnOf "common" "common" (defArgs s_common) (defBody s_common) (defScope s_common) .none kV11 dc11 pm11 an11 cd11 ct11), sl11⟩) (c11 : PySem.W.codeIn K cd11 "common" = true) (k11 : PySem.W.keepIn K (.ref f11) = true)
    (a12 : PySem.W.nsIn K mainGlobals "need_pair" = some (some (.ref f12))) (l12 : K.lookup f12 = some ⟨oc12, od12, .func (PySem.W.fnOf "need_pair" "need_pair" (defArgs s_need_pair) (defBody s_need_pair) (defScope s_need_pair) .none kV12 dc12 pm12 an12 cd12 ct12), sl12⟩) (c12 : PySem.W.codeIn K cd12 "need_pair" = true) (k12 : PySem.W.keepIn K (.ref f12) = true)
    (a13 : PySem.W.nsIn K mainGlobals "made" = some (some (.ref f13))) (l13 : K.lookup f13 = some ⟨oc13, od13, .func (PySem.W.fnOf "made" "made" (defArgs s_made) (defBody s_made) (defScope s_made) .none kV13 dc13 pm13 an13 cd13 ct13), sl13⟩) (c13 : PySem.W.codeIn K cd13 "made" = true) (k13 : PySem.W.keepIn K (.ref f13) = true)
    (a14 : PySem.W.nsIn K mainGlobals "sum_of" = some (some (.ref f14))) (l14 : K.lookup f14 = some ⟨oc14, od14, .func (PySem.W.fnOf "sum_of" "sum_of" (defArgs s_sum_of) (defBody s_sum_of) (defScope s_sum_of) .none kV14 dc14 pm14 an14 cd14 ct14), sl14⟩) (c14 : PySem.W.codeIn K cd14 "sum_of" = true) (k14 : PySem.W.keepIn K (.ref f14) = true)
    (a15 : PySem.W.nsIn K mainGlobals "saw_sum" = some (some (.ref f15))) (l15 : K.lookup f15 = some ⟨oc15, od15, .func (PySem.W.fnOf "saw_sum" "saw_sum" (defArgs s_saw_sum) (defBody s_saw_sum) (defScope s_saw_sum) .none kV15 dc15 pm15 an15 cd15 ct15), sl15⟩) (c15 : PySem.W.codeIn K cd15 "saw_sum" = true) (k15 : PySem.W.keepIn K (.ref f15) = true)
    (a16 : PySem.W.nsIn K mainGlobals "_law_minus" = some (some (.ref f16))) (l16 : K.lookup f16 = some ⟨oc16, od16, .func (PySem.W.fnOf "_law_minus" "_law_minus" (defArgs s__law_minus) (defBody s__law_minus) (defScope s__law_minus) .none kV16 dc16 pm16 an16 cd16 ct16), sl16⟩) (c16 : PySem.W.codeIn K cd16 "_law_minus" = true) (k16 : PySem.W.keepIn K (.ref f16) = true)
    (a17 : PySem.W.nsIn K mainGlobals "_law_inverse" = some (some (.ref f17))) (l17 : K.lookup f17 = some ⟨oc17, od17, .func (PySem.W.fnOf "_law_inverse" "_law_inverse" (defArgs s__law_inverse) (defBody s__law_inverse) (defScope s__law_inverse) .none kV17 dc17 pm17 an17 cd17 ct17), sl17⟩) (c17 : PySem.W.codeIn K cd17 "_law_inverse" = true) (k17 : PySem.W.keepIn K (.ref f17) = true)
    (a18 : PySem.W.nsIn K mainGlobals "_law_row" = some (some (.ref f18))) (l18 : K.lookup f18 = some ⟨oc18, od18, .func (PySem.W.fnOf "_law_row" "_law_row" (defArgs s__law_row) (defBody s__law_row) (defScope s__law_row) .none kV18 dc18 pm18 an18 cd18 ct18), sl18⟩) (c18 : PySem.W.codeIn K cd18 "_law_row" = true) (k18 : PySem.W.keepIn K (.ref f18) = true)
    (a19 : PySem.W.nsIn K mainGlobals "_law_times" = some (some (.ref f19))) (l19 : K.lookup f19 = some ⟨oc19, od19, .func (PySem.W.fnOf "_law_times" "_law_times" (defArgs s__law_times) (defBody s__law_times) (defScope s__law_times) .none kV19 dc19 pm19 an19 cd19 ct19), sl19⟩) (c19 : PySem.W.codeIn K cd19 "_law_times" = true) (k19 : PySem.W.keepIn K (.ref f19) = true)
    (a20 : PySem.W.nsIn K mainGlobals "_law_plus" = some (some (.ref f20))) (l20 : K.lookup f20 = some ⟨oc20, od20, .func (PySem.W.fnOf "_law_plus" "_law_plus" (defArgs s__law_plus) (defBody s__law_plus) (defScope s__law_plus) .none kV20 dc20 pm20 an20 cd20 ct20), sl20⟩) (c20 : PySem.W.codeIn K cd20 "_law_plus" = true) (k20 : PySem.W.keepIn K (.ref f20) = true)
    (a21 : PySem.W.nsIn K mainGlobals "_law_is_int" = some (some (.ref f21))) (l21 : K.lookup f21 = some ⟨oc21, od21, .func (PySem.W.fnOf "_law_is_int" "_law_is_int" (defArgs s__law_is_int) (defBody s__law_is_int) (defScope s__law_is_int) .none kV21 dc21 pm21 an21 cd21 ct21), sl21⟩) (c21 : PySem.W.codeIn K cd21 "_law_is_int" = true) (k21 : PySem.W.keepIn K (.ref f21) = true)
    (a22 : PySem.W.nsIn K mainGlobals "_law_is_fraction" = some (some (.ref f22))) (l22 : K.lookup f22 = some ⟨oc22, od22, .func (PySem.W.fnOf "_law_is_fraction" "_law_is_fraction" (defArgs s__law_is_fraction) (defBody s__law_is_fraction) (defScope s__law_is_fraction) .none kV22 dc22 pm22 an22 cd22 ct22), sl22⟩) (c22 : PySem.W.codeIn K cd22 "_law_is_fraction" = true) (k22 : PySem.W.keepIn K (.ref f22) = true)
    (a23 : PySem.W.nsIn K mainGlobals "_law_sum" = some (some (.ref f23))) (l23 : K.lookup f23 = some ⟨oc23, od23, .func (PySem.W.fnOf "_law_sum" "_law_sum" (defArgs s__law_sum) (defBody s__law_sum) (defScope s__law_sum) .none kV23 dc23 pm23 an23 cd23 ct23), sl23⟩) (c23 : PySem.W.codeIn K cd23 "_law_sum" = true) (k23 : PySem.W.keepIn K (.ref f23) = true)
    (a24 : PySem.W.nsIn K mainGlobals "_law_same" = some (some (.ref f24))) (l24 : K.lookup f24 = some ⟨oc24, od24, .func (PySem.W.fnOf "_law_same" "_law_same" (defArgs s__law_same) (defBody s__law_same) (defScope s__law_same) .none kV24 dc24 pm24 an24 cd24 ct24), sl24⟩) (c24 : PySem.W.codeIn K cd24 "_law_same" = true) (k24 : PySem.W.keepIn K (.ref f24) = true)
    (a25 : PySem.W.nsIn K mainGlobals "saw_whole" = some (some (.ref f25))) (l25 : K.lookup f25 = some ⟨oc25, od25, .func (PySem.W.fnOf "saw_whole" "saw_whole" (defArgs s_saw_whole) (defBody s_saw_whole) (defScope s_saw_whole) .none kV25 dc25 pm25 an25 cd25 ct25), sl25⟩) (c25 : PySem.W.codeIn K cd25 "saw_whole" = true) (k25 : PySem.W.keepIn K (.ref f25) = true)
    (a26 : PySem.W.nsIn K mainGlobals "_law_cell_right" = some (some (.ref f26))) (l26 : K.lookup f26 = some ⟨oc26, od26, .func (PySem.W.fnOf "_law_cell_right" "_law_cell_right" (defArgs s__law_cell_right) (defBody s__law_cell_right) (defScope s__law_cell_right) .none kV26 dc26 pm26 an26 cd26 ct26), sl26⟩) (c26 : PySem.W.codeIn K cd26 "_law_cell_right" = true) (k26 : PySem.W.keepIn K (.ref f26) = true)
    (a27 : PySem.W.nsIn K mainGlobals "_law_box" = some (some (.ref f27))) (l27 : K.lookup f27 = some ⟨oc27, od27, .func (PySem.W.fnOf "_law_box" "_law_box" (defArgs s__law_box) (defBody s__law_box) (defScope s__law_box) .none kV27 dc27 pm27 an27 cd27 ct27), sl27⟩) (c27 : PySem.W.codeIn K cd27 "_law_box" = true) (k27 : PySem.W.keepIn K (.ref f27) = true)
    (a28 : PySem.W.nsIn K mainGlobals "_law_cell" = some (some (.ref f28))) (l28 : K.lookup f28 = some ⟨oc28, od28, .func (PySem.W.fnOf "_law_cell" "_law_cell" (defArgs s__law_cell) (defBody s__law_cell) (defScope s__law_cell) .none kV28 dc28 pm28 an28 cd28 ct28), sl28⟩) (c28 : PySem.W.codeIn K cd28 "_law_cell" = true) (k28 : PySem.W.keepIn K (.ref f28) = true)
    (a29 : PySem.W.nsIn K mainGlobals "law" = some (some (.ref f29))) (l29 : K.lookup f29 = some ⟨oc29, od29, .func (PySem.W.fnOf "law" "law" (defArgs s_law) (defBody s_law) (defScope s_law) .none kV29 dc29 pm29 an29 cd29 ct29), sl29⟩) (c29 : PySem.W.codeIn K cd29 "law" = true) (k29 : PySem.W.keepIn K (.ref f29) = true)
    (z_isinstance : PySem.W.nsIn K mainGlobals "isinstance" = some none) (z_int : PySem.W.nsIn K mainGlobals "int" = some none) (z_bool : PySem.W.nsIn K mainGlobals "bool" = some none) (z_range : PySem.W.nsIn K mainGlobals "range" = some none) (z_abs : PySem.W.nsIn K mainGlobals "abs" = some none) (z_len : PySem.W.nsIn K mainGlobals "len" = some none) (z_tuple : PySem.W.nsIn K mainGlobals "tuple" = some none) (z_sum : PySem.W.nsIn K mainGlobals "sum" = some none) (z_min : PySem.W.nsIn K mainGlobals "min" = some none) (z_max : PySem.W.nsIn K mainGlobals "max" = some none) {t_MOST_STILL : Tok} (y_MOST_STILL : PySem.W.nsIn K mainGlobals "MOST_STILL" = some (some (.int 1000 t_MOST_STILL))) :
    ∃ fd : FuncData, (∀ (s : Shared) (v : Value), BindsTo s fd ⟨[v], []⟩ [("script", v)]) ∧ ∀ base : Heap, K.In base → base.Ns mainGlobals mg → FnOk l.prog w K mg base CX0 7 fa fd ["script"] (spOf K sp_law) := by
  have e := hfa.symm.trans (PySem.W.mg_of X G a29)
  cases e
  have m_isinstance := PySem.W.mg_none_of X G z_isinstance
  have m_int := PySem.W.mg_none_of X G z_int
  have m_bool := PySem.W.mg_none_of X G z_bool
  have m_range := PySem.W.mg_none_of X G z_range
  have m_abs := PySem.W.mg_none_of X G z_abs
  have m_len := PySem.W.mg_none_of X G z_len
  have m_tuple := PySem.W.mg_none_of X G z_tuple
  have m_sum := PySem.W.mg_none_of X G z_sum
  have m_min := PySem.W.mg_none_of X G z_min
  have m_max := PySem.W.mg_none_of X G z_max
  refine ⟨PySem.W.fnOf "law" "law" (defArgs s_law) (defBody s_law) (defScope s_law) .none kV29 dc29 pm29 an29 cd29 ct29, fun s v => .of_eq rfl, fun base _ _ => ?_⟩
  have g_MOST_STILL : ∃ t, mg "MOST_STILL" = some (.int 1000 t) := ⟨_, PySem.W.mg_of X G y_MOST_STILL⟩
  have F_is_number := fun_mk (st := s_is_number) l1 c1 k1
  have o_is_number := ok_is_number (P := l.prog) (w := w) (base := base) F_is_number (PySem.W.mg_of X G a1) m_isinstance m_int m_bool
  have c_is_number := o_is_number.cal (F_is_number.binds (ps := ["thing"]) fun _ _ _ _ _ _ us hl => match us, hl with | [_], _ => rfl)
  have F_is_whole := fun_mk (st := s_is_whole) l2 c2 k2
  have o_is_whole := ok_is_whole (P := l.prog) (w := w) (base := base) F_is_whole (PySem.W.mg_of X G a2) c_is_number
  have c_is_whole := o_is_whole.cal (F_is_whole.binds (ps := ["thing", "low", "high"]) fun _ _ _ _ _ _ us hl => match us, hl with | [_, _, _], _ => rfl)
  have F_still_numbers := fun_mk (st := s_still_numbers) l3 c3 k3
  have o_still_numbers := ok_still_numbers (P := l.prog) (w := w) (base := base) F_still_numbers (PySem.W.mg_of X G a3) m_range c_is_whole g_MOST_STILL
  have c_still_numbers := o_still_numbers.cal (F_still_numbers.binds (ps := ["k"]) fun _ _ _ _ _ _ us hl => match us, hl with | [_], _ => rfl)
  have F__law_take := fun_mk (st := s__law_take) l4 c4 k4
  have o__law_take := ok__law_take (P := l.prog) (w := w) (base := base) F__law_take (PySem.W.mg_of X G a4) m_int
  have c__law_take := o__law_take.cal (F__law_take.binds (ps := ["box", "many"]) fun _ _ _ _ _ _ us hl => match us, hl with | [_, _], _ => rfl)
  have F__law_low := fun_mk (st := s__law_low) l5 c5 k5
  have o__law_low := ok__law_low (P := l.prog) (w := w) (base := base) F__law_low (PySem.W.mg_of X G a5) m_abs m_int
  have c__law_low := o__law_low.cal (F__law_low.binds (ps := ["top", "base"]) fun _ _ _ _ _ _ us hl => match us, hl with | [_, _], _ => rfl)
  have F__law_of_row := fun_mk (st := s__law_of_row) l6 c6 k6
  have o__law_of_row := ok__law_of_row (P := l.prog) (w := w) (base := base) F__law_of_row (PySem.W.mg_of X G a6) m_len c__law_low
  have c__law_of_row := o__law_of_row.cal (F__law_of_row.binds (ps := ["row"]) fun _ _ _ _ _ _ us hl => match us, hl with | [_], _ => rfl)
  have F__law_digits := fun_mk (st := s__law_digits) l7 c7 k7
  have o__law_digits := ok__law_digits (P := l.prog) (w := w) (base := base) F__law_digits (PySem.W.mg_of X G a7) m_range c__law_take
  have c__law_digits := o__law_digits.cal (F__law_digits.binds (ps := ["box", "figures"]) fun _ _ _ _ _ _ us hl => match us, hl with | [_, _], _ => rfl)
  have F__law_fraction := fun_mk (st := s__law_fraction) l8 c8 k8
  have o__law_fraction := ok__law_fraction (P := l.prog) (w := w) (base := base) F__law_fraction (PySem.W.mg_of X G a8) m_range c__law_take c__law_low c__law_digits c__law_of_row
  have c__law_fraction := o__law_fraction.cal (F__law_fraction.binds (ps := ["box", "figures"]) fun _ _ _ _ _ _ us hl => match us, hl with | [_, _], _ => rfl)
  have F__law_above := fun_mk (st := s__law_above) l9 c9 k9
  have o__law_above := ok__law_above (P := l.prog) (w := w) (base := base) F__law_above (PySem.W.mg_of X G a9) m_abs c__law_fraction c__law_take
  have c__law_above := o__law_above.cal (F__law_above.binds (ps := ["box", "figures"]) fun _ _ _ _ _ _ us hl => match us, hl with | [_, _], _ => rfl)
  have F__law_drawn := fun_mk (st := s__law_drawn) l10 c10 k10
  have o__law_drawn := ok__law_drawn (P := l.prog) (w := w) (base := base) F__law_drawn (PySem.W.mg_of X G a10) c__law_above
  have c__law_drawn := o__law_drawn.cal (F__law_drawn.binds (ps := ["box", "figures"]) fun _ _ _ _ _ _ us hl => match us, hl with | [_, _], _ => rfl)
  have F_common := fun_mk (st := s_common) l11 c11 k11
  have o_common := ok_common (P := l.prog) (w := w) (base := base) F_common (PySem.W.mg_of X G a11) m_abs
  have c_common := o_common.cal (F_common.binds (ps := ["one", "other"]) fun _ _ _ _ _ _ us hl => match us, hl with | [_, _], _ => rfl)
  have F_need_pair := fun_mk (st := s_need_pair) l12 c12 k12
  have o_need_pair := ok_need_pair (P := l.prog) (w := w) (base := base) F_need_pair (PySem.W.mg_of X G a12) c_is_number c_common
  have c_need_pair := o_need_pair.cal (F_need_pair.binds (ps := ["h", "k"]) fun _ _ _ _ _ _ us hl => match us, hl with | [_, _], _ => rfl)
  have F_made := fun_mk (st := s_made) l13 c13 k13
  have o_made := ok_made (P := l.prog) (w := w) (base := base) F_made (PySem.W.mg_of X G a13) c_common
  have c_made := o_made.cal (F_made.binds (ps := ["top", "bottom"]) fun _ _ _ _ _ _ us hl => match us, hl with | [_, _], _ => rfl)
  have F_sum_of := fun_mk (st := s_sum_of) l14 c14 k14
  have o_sum_of := ok_sum_of (P := l.prog) (w := w) (base := base) F_sum_of (PySem.W.mg_of X G a14) c_made
  have c_sum_of := o_sum_of.cal (F_sum_of.binds (ps := ["h", "k"]) fun _ _ _ _ _ _ us hl => match us, hl with | [_, _], _ => rfl)
  have F_saw_sum := fun_mk (st := s_saw_sum) l15 c15 k15
  have o_saw_sum := ok_saw_sum (P := l.prog) (w := w) (base := base) F_saw_sum (PySem.W.mg_of X G a15) c_need_pair c_sum_of
  have c_saw_sum := o_saw_sum.cal (F_saw_sum.binds (ps := ["h", "k"]) fun _ _ _ _ _ _ us hl => match us, hl with | [_, _], _ => rfl)
  have cp_saw_sum_0 : CalP l.prog w K mg base 4 "saw_sum" ["h", "k"] sp_saw_sum 0 ["h", "k"] [] [0, 1] := o_saw_sum.calP ⟨fun s us ws X h1 h2 => match us, ws, h1, h2 with | [], [_, _], _, _ => .of_eq rfl⟩ .nil fun _ => rfl
  have F__law_minus := fun_mk (st := s__law_minus) l16 c16 k16
  have o__law_minus := ok__law_minus (P := l.prog) (w := w) (base := base) F__law_minus (PySem.W.mg_of X G a16) c__law_low
  have c__law_minus := o__law_minus.cal (F__law_minus.binds (ps := ["one", "other"]) fun _ _ _ _ _ _ us hl => match us, hl with | [_, _], _ => rfl)
  have F__law_inverse := fun_mk (st := s__law_inverse) l17 c17 k17
  have o__law_inverse := ok__law_inverse (P := l.prog) (w := w) (base := base) F__law_inverse (PySem.W.mg_of X G a17) 
  have c__law_inverse := o__law_inverse.cal (F__law_inverse.binds (ps := ["h", "k"]) fun _ _ _ _ _ _ us hl => match us, hl with | [_, _], _ => rfl)
  have F__law_row := fun_mk (st := s__law_row) l18 c18 k18
  have o__law_row := ok__law_row (P := l.prog) (w := w) (base := base) F__law_row (PySem.W.mg_of X G a18) 
  have c__law_row := o__law_row.cal (F__law_row.binds (ps := ["top", "base"]) fun _ _ _ _ _ _ us hl => match us, hl with | [_, _], _ => rfl)
  have F__law_times := fun_mk (st := s__law_times) l19 c19 k19
  have o__law_times := ok__law_times (P := l.prog) (w := w) (base := base) F__law_times (PySem.W.mg_of X G a19) c__law_low
  have c__law_times := o__law_times.cal (F__law_times.binds (ps := ["one", "other"]) fun _ _ _ _ _ _ us hl => match us, hl with | [_, _], _ => rfl)
  have F__law_plus := fun_mk (st := s__law_plus) l20 c20 k20
  have o__law_plus := ok__law_plus (P := l.prog) (w := w) (base := base) F__law_plus (PySem.W.mg_of X G a20) c__law_low
  have c__law_plus := o__law_plus.cal (F__law_plus.binds (ps := ["one", "other"]) fun _ _ _ _ _ _ us hl => match us, hl with | [_, _], _ => rfl)
  have F__law_is_int := fun_mk (st := s__law_is_int) l21 c21 k21
  have o__law_is_int := ok__law_is_int (P := l.prog) (w := w) (base := base) F__law_is_int (PySem.W.mg_of X G a21) m_isinstance m_int m_bool
  have c__law_is_int := o__law_is_int.cal (F__law_is_int.binds (ps := ["value"]) fun _ _ _ _ _ _ us hl => match us, hl with | [_], _ => rfl)
  have F__law_is_fraction := fun_mk (st := s__law_is_fraction) l22 c22 k22
  have o__law_is_fraction := ok__law_is_fraction (P := l.prog) (w := w) (base := base) F__law_is_fraction (PySem.W.mg_of X G a22) m_isinstance m_tuple m_len c__law_is_int c__law_low
  have c__law_is_fraction := o__law_is_fraction.cal (F__law_is_fraction.binds (ps := ["value"]) fun _ _ _ _ _ _ us hl => match us, hl with | [_], _ => rfl)
  have F__law_sum := fun_mk (st := s__law_sum) l23 c23 k23
  have o__law_sum := ok__law_sum (P := l.prog) (w := w) (base := base) F__law_sum (PySem.W.mg_of X G a23) c__law_plus
  have c__law_sum := o__law_sum.cal (F__law_sum.binds (ps := ["items"]) fun _ _ _ _ _ _ us hl => match us, hl with | [_], _ => rfl)
  have F__law_same := fun_mk (st := s__law_same) l24 c24 k24
  have o__law_same := ok__law_same (P := l.prog) (w := w) (base := base) F__law_same (PySem.W.mg_of X G a24) m_isinstance m_bool m_int
  have c__law_same := o__law_same.cal (F__law_same.binds (ps := ["given", "due"]) fun _ _ _ _ _ _ us hl => match us, hl with | [_, _], _ => rfl)
  have F_saw_whole := fun_mk (st := s_saw_whole) l25 c25 k25
  have o_saw_whole := ok_saw_whole (P := l.prog) (w := w) (base := base) F_saw_whole (PySem.W.mg_of X G a25) c_need_pair c_sum_of
  have c_saw_whole := o_saw_whole.cal (F_saw_whole.binds (ps := ["h", "k"]) fun _ _ _ _ _ _ us hl => match us, hl with | [_, _], _ => rfl)
  have F__law_cell_right := fun_mk (st := s__law_cell_right) l26 c26 k26
  have o__law_cell_right := ok__law_cell_right (P := l.prog) (w := w) (base := base) F__law_cell_right (PySem.W.mg_of X G a26) m_len m_range m_sum c__law_take c__law_drawn c_saw_sum c__law_is_fraction c__law_minus c__law_times c__law_sum c__law_low c__law_plus c__law_inverse c__law_same c_saw_whole c_still_numbers c__law_row cp_saw_sum_0
  have c__law_cell_right := o__law_cell_right.cal (F__law_cell_right.binds (ps := ["box"]) fun _ _ _ _ _ _ us hl => match us, hl with | [_], _ => rfl)
  have F__law_box := fun_mk (st := s__law_box) l27 c27 k27
  have o__law_box := ok__law_box (P := l.prog) (w := w) (base := base) F__law_box (PySem.W.mg_of X G a27) m_abs m_int
  have c__law_box := o__law_box.cal (F__law_box.binds (ps := ["great"]) fun _ _ _ _ _ _ us hl => match us, hl with | [_], _ => rfl)
  have F__law_cell := fun_mk (st := s__law_cell) l28 c28 k28
  have o__law_cell := ok__law_cell (P := l.prog) (w := w) (base := base) F__law_cell (PySem.W.mg_of X G a28) m_len m_sum m_int
  have c__law_cell := o__law_cell.cal (F__law_cell.binds (ps := ["script", "k"]) fun _ _ _ _ _ _ us hl => match us, hl with | [_, _], _ => rfl)
  exact fn_keeps0 (fun_mk (st := s_law) l29 c29 k29) sc_law len_law (by decide) (fun cdv A outer s H E hr => (ss_cons (s_forR1 m_range (d_max m_max d_int (d_min m_min d_int (d_len m_len (d_var 0)))) (g_nm 1) (ss_one (s_if (t_not (t_val (d_callT c__law_cell_right (o_callC c__law_box (c_v (d_callC c__law_cell (c_v (d_var 0) (c_v (d_var 1) c_nil))) c_nil))))) (ss_one (s_ret d_bl)) ss_nil)))
    (ss_one (s_ret d_bl)))) kp_law
end K31
open PySem PySem.W PyProof.Rows in
set_option maxRecDepth 100000 in
set_option maxHeartbeats 0 in
theorem PySem.Challenge.cw_termwide_k31_whole_exchanged_saw_sums_holds : PySem.Challenge.rw_termwide_k31_whole_exchanged_saw_sums.Holds := by
  w_on; o_law; k_head; (case hw => w_witness2)
  k_fill
  refine L2.walk_of (l := PySem.Challenge.rw_termwide_k31_whole_exchanged_saw_sums) (n := 63) (k := 7) (x := "script") (CX := fun _ => L2.CX0) (sp := fun w => DW.spOf _ K31.sp_law) rfl (by decide) rfl ⟨rfl, by decide, by decide⟩ (fun w h Y => PySem.W.kIn_of Y) ?F (fun _ _ a ns hl _ hS => DW.law_sp (K31.law_ints ns hl) hS) (fun _ _ _ _ _ h => h)
  case F =>
    intro w mg fa h KX G hmg
    refine' K31.all_mk KX G hmg ?a1 ?l1 ?c1 ?k1 ?a2 ?l2 ?c2 ?k2 ?a3 ?l3 ?c3 ?k3 ?a4 ?l4 ?c4 ?k4 ?a5 ?l5 ?c5 ?k5 ?a6 ?l6 ?c6 ?k6 ?a7 ?l7 ?c7 ?k7 ?a8 ?l8 ?c8 ?k8 ?a9 ?l9 ?c9 ?k9 ?a10 ?l10 ?c10 ?k10 ?a11 ?l11 ?c11 ?k11 ?a12 ?l12 ?c12 ?k12 ?a13 ?l13 ?c13 ?k13 ?a14 ?l14 ?c14 ?k14 ?a15 ?l15 ?c15 ?k15 ?a16 ?l16 ?c16 ?k16 ?a17 ?l17 ?c17 ?k17 ?a18 ?l18 ?c18 ?k18 ?a19 ?l19 ?c19 ?k19 ?a20 ?l20 ?c20 ?k20 ?a21 ?l21 ?c21 ?k21 ?a22 ?l22 ?c22 ?k22 ?a23 ?l23 ?c23 ?k23 ?a24 ?l24 ?c24 ?k24 ?a25 ?l25 ?c25 ?k25 ?a26 ?l26 ?c26 ?k26 ?a27 ?l27 ?c27 ?k27 ?a28 ?l28 ?c28 ?k28 ?a29 ?l29 ?c29 ?k29 ?z_isinstance ?z_int ?z_bool ?z_range ?z_abs ?z_len ?z_tuple ?z_sum ?z_min ?z_max ?y_MOST_STILL
    (case a1 => k_is)
    (case l1 => k_is)
    (case c1 => k_is)
    (case k1 => k_is)
    (case a2 => k_is)
    (case l2 => k_is)
    (case c2 => k_is)
    (case k2 => k_is)
    (case a3 => k_is)
    (case l3 => k_is)
    (case c3 => k_is)
    (case k3 => k_is)
    (case a4 => k_is)
    (case l4 => k_is)
    (case c4 => k_is)
    (case k4 => k_is)
    (case a5 => k_is)
    (case l5 => k_is)
    (case c5 => k_is)
    (case k5 => k_is)
    (case a6 => k_is)
    (case l6 => k_is)
    (case c6 => k_is)
    (case k6 => k_is)
    (case a7 => k_is)
    (case l7 => k_is)
    (case c7 => k_is)
    (case k7 => k_is)
    (case a8 => k_is)
    (case l8 => k_is)
    (case c8 => k_is)
    (case k8 => k_is)
    (case a9 => k_is)
    (case l9 => k_is)
    (case c9 => k_is)
    (case k9 => k_is)
    (case a10 => k_is)
    (case l10 => k_is)
    (case c10 => k_is)
    (case k10 => k_is)
    (case a11 => k_is)
    (case l11 => k_is)
    (case c11 => k_is)
    (case k11 => k_is)
    (case a12 => k_is)
    (case l12 => k_is)
    (case c12 => k_is)
    (case k12 => k_is)
    (case a13 => k_is)
    (case l13 => k_is)
    (case c13 => k_is)
    (case k13 => k_is)
    (case a14 => k_is)
    (case l14 => k_is)
    (case c14 => k_is)
    (case k14 => k_is)
    (case a15 => k_is)
    (case l15 => k_is)
    (case c15 => k_is)
    (case k15 => k_is)
    (case a16 => k_is)
    (case l16 => k_is)
    (case c16 => k_is)
    (case k16 => k_is)
    (case a17 => k_is)
    (case l17 => k_is)
    (case c17 => k_is)
    (case k17 => k_is)
    (case a18 => k_is)
    (case l18 => k_is)
    (case c18 => k_is)
    (case k18 => k_is)
    (case a19 => k_is)
    (case l19 => k_is)
    (case c19 => k_is)
    (case k19 => k_is)
    (case a20 => k_is)
    (case l20 => k_is)
    (case c20 => k_is)
    (case k20 => k_is)
    (case a21 => k_is)
    (case l21 => k_is)
    (case c21 => k_is)
    (case k21 => k_is)
    (case a22 => k_is)
    (case l22 => k_is)
    (case c22 => k_is)
    (case k22 => k_is)
    (case a23 => k_is)
    (case l23 => k_is)
    (case c23 => k_is)
    (case k23 => k_is)
    (case a24 => k_is)
    (case l24 => k_is)
    (case c24 => k_is)
    (case k24 => k_is)
    (case a25 => k_is)
    (case l25 => k_is)
    (case c25 => k_is)
    (case k25 => k_is)
    (case a26 => k_is)
    (case l26 => k_is)
    (case c26 => k_is)
    (case k26 => k_is)
    (case a27 => k_is)
    (case l27 => k_is)
    (case c27 => k_is)
    (case k27 => k_is)
    (case a28 => k_is)
    (case l28 => k_is)
    (case c28 => k_is)
    (case k28 => k_is)
    (case a29 => k_is)
    (case l29 => k_is)
    (case c29 => k_is)
    (case k29 => k_is)
    (case z_isinstance => k_is)
    (case z_int => k_is)
    (case z_bool => k_is)
    (case z_range => k_is)
    (case z_abs => k_is)
    (case z_len => k_is)
    (case z_tuple => k_is)
    (case z_sum => k_is)
    (case z_min => k_is)
    (case z_max => k_is)
    (case y_MOST_STILL => k_is)
