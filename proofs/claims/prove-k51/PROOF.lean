import PyProof.Rows.All
import Wide.All
import OpenK.AllK
import Wide.FinOn
import PySem.Str
import HandS.ForMost
import HandS.Wide
import HandS.IsInst
import HandS.ForExc
import HandS.CallSlots
import HandS.Style
import HandS.Flow
import PySem.Challenge.RW_termwide_k51_whole_neighbours
set_option Elab.async false
set_option linter.all false
set_option maxRecDepth 100000
set_option maxHeartbeats 4000000
/-! DwA: data, slots, and what a piece of Python wants of them: transformers over data, no heap in sight. -/
namespace DW
open PySem

/-- data: what a value is worth, lists as they stand -/
inductive D where
  | non | bl (b : Bool) | int (i : Int) | str (s : Str) | tup (xs : List D) | lst (xs : List D)
  deriving Inhabited

/-- what a slot holds: data that stands still; a list of the body's own; a list that the caller lent -/
inductive DV where
  | val (d : D) | own (xs : List D) | par (xs : List D)

abbrev DS := List (Option DV)
structure DX where
  cls : Nat
  fs : List (Str × D)
abbrev XKd := DX → DS → Prop
inductive Out where
  | ret (r : DV) | exc (x : DX)
/-- a def's promise over data -/
abbrev FS := List DV → (Out → List DV → Prop) → Prop

abbrev WE := XKd → DS → (D → DS → Prop) → Prop
abbrev WO := XKd → DS → (List D → DS → Prop) → Prop
abbrev WT := XKd → DS → (Bool → DS → Prop) → Prop
structure Post where
  nx : DS → Prop
  rt : DV → DS → Prop
  bk : DS → Prop
  ct : DS → Prop
  x : XKd
abbrev WS := DS → Post → Prop

def gt : DS → Nat → Option DV
  | [], _ => none
  | x :: _, 0 => x
  | _ :: r, i + 1 => gt r i
def st : DS → Nat → DV → DS
  | [], _, _ => []
  | _ :: r, 0, d => some d :: r
  | x :: r, i + 1, d => x :: st r i d
def er : DS → Nat → DS
  | [], _ => []
  | _ :: r, 0 => none :: r
  | x :: r, i + 1 => x :: er r i
def ers (ds : DS) : List Nat → DS
  | [] => ds
  | v :: vs => er (ers ds vs) v
/-- new items for what a slot holds -/
def fill1 (xs : List D) : Option DV → Option DV
  | some (.own _) => some (.own xs)
  | some (.par _) => some (.par xs)
  | o => o
/-- .. put back the own list at i -/
def refill : DS → Nat → List D → DS
  | [], _, _ => []
  | o :: r, 0, xs => fill1 xs o :: r
  | o :: r, i + 1, xs => o :: refill r i xs
def listAt (ds : DS) (i : Nat) : Option (List D) :=
  match gt ds i with
  | some (.own xs) => some xs
  | some (.par xs) => some xs
  | _ => none

/-! ### operations on data -/
def itemAt {α : Type} (xs : List α) (i : Int) : Option α := if 0 ≤ i then xs[i.toNat]? else if -(xs.length : Int) ≤ i then xs[(i + xs.length).toNat]? else none
def MulOk (i j : Int) : Prop := i.natAbs.log2 + j.natAbs.log2 < 1000000
def DivOk (j : Int) : Prop := j ≠ 0 ∧ j.natAbs.log2 < 9000
abbrev B2 := D → D → (D → Prop) → Prop
abbrev B1 := D → (D → Prop) → Prop
def dAdd : B2 | .int a, .int b, k => k (.int (a + b)) | _, _, _ => False
def dSub : B2 | .int a, .int b, k => k (.int (a - b)) | _, _, _ => False
def dMul : B2 | .int a, .int b, k => MulOk a b ∧ k (.int (a * b)) | _, _, _ => False
def dFdiv : B2 | .int a, .int b, k => DivOk b ∧ k (.int (a.fdiv b)) | _, _, _ => False
def dMod : B2 | .int a, .int b, k => b ≠ 0 ∧ k (.int (a.fmod b)) | _, _, _ => False
def dPow : B2 | .int a, .int b, k => (0 ≤ b ∧ b ≤ 1000000 ∧ a.natAbs < 2 ^ 64) ∧ k (.int (a ^ b.toNat)) | _, _, _ => False
def dNeg : B1 | .int a, k => k (.int (-a)) | _, _ => False
def dAbs : B1 | .int a, k => k (.int (if a < 0 then -a else a)) | _, _ => False
def dMin : B2 | .int a, .int b, k => k (.int (if b < a then b else a)) | _, _, _ => False
def dMax : B2 | .int a, .int b, k => k (.int (if b > a then b else a)) | _, _, _ => False
def dLt : B2 | .int a, .int b, k => k (.bl (decide (a < b))) | _, _, _ => False
def dLe : B2 | .int a, .int b, k => k (.bl (decide (a ≤ b))) | _, _, _ => False
def dGt : B2 | .int a, .int b, k => k (.bl (decide (b < a))) | _, _, _ => False
def dGe : B2 | .int a, .int b, k => k (.bl (decide (b ≤ a))) | _, _, _ => False
mutual
def deq : D → D → Bool
  | .non, .non => true
  | .bl a, .bl b => a == b
  | .bl a, .int j => (if a then 1 else 0) == j
  | .int i, .bl b => i == (if b then 1 else 0)
  | .int i, .int j => i == j
  | .str x, .str y => x == y
  | .lst xs, .lst ys => deqs xs ys
  | .tup xs, .tup ys => deqs xs ys
  | _, _ => false
def deqs : List D → List D → Bool
  | [], [] => true
  | x :: xs, y :: ys => deq x y && deqs xs ys
  | _, _ => false
end
mutual
/-- how deep -/
def dep : D → Nat
  | .lst xs => deps xs + 1
  | .tup xs => deps xs + 1
  | _ => 0
def deps : List D → Nat
  | [] => 0
  | x :: xs => max (dep x) (deps xs)
end
mutual
def shp : D → Bool
  | .str s => s.cps.all (· < 0x110000)
  | .lst xs => shps xs
  | .tup xs => shps xs
  | _ => true
def shps : List D → Bool
  | [] => true
  | x :: xs => shp x && shps xs
end
/-- what may be compared: signs as signs are, not too deep -/
def Shp (x : D) : Prop := shp x = true ∧ dep x ≤ 64
def dEq : B2 := fun x y k => (Shp x ∧ Shp y) ∧ k (.bl (deq x y))
def dNe : B2 := fun x y k => (Shp x ∧ Shp y) ∧ k (.bl (!deq x y))
def isNon : D → Bool | .non => true | _ => false
def dIsN : B1 := fun x k => k (.bl (isNon x))
def dNotN : B1 := fun x k => k (.bl (!isNon x))
def dIx : B2
  | .tup xs, .int i, k => match itemAt xs i with | some v => k v | none => False
  | .lst xs, .int i, k => match itemAt xs i with | some v => k v | none => False
  | _, _, _ => False
def dLen : B1
  | .tup xs, k => k (.int xs.length)
  | .lst xs, k => k (.int xs.length)
  | _, _ => False
/-- the built-in types that are asked for -/
inductive Ty where
  | int | bool | str | tuple | list | dict
def isTy : Ty → D → Bool
  | .int, .int _ => true
  | .int, .bl _ => true
  | .bool, .bl _ => true
  | .str, .str _ => true
  | .tuple, .tup _ => true
  | .list, .lst _ => true
  | _, _ => false
def dIsTy (t : Ty) : B1 := fun x k => k (.bl (isTy t x))
def dIsTys (ts : List Ty) : B1 := fun x k => k (.bl (ts.any fun t => isTy t x))
def boolsD : List D → Option (List Bool)
  | [] => some []
  | .bl b :: r => (boolsD r).map (b :: ·)
  | _ => none
def intsD : List D → Option (List Int)
  | [] => some []
  | .int b :: r => (intsD r).map (b :: ·)
  | _ => none
def dAll : B1 | .lst xs, k => (match boolsD xs with | some bs => k (.bl (bs.all id)) | none => False) | _, _ => False
def dAny : B1 | .lst xs, k => (match boolsD xs with | some bs => k (.bl (bs.any id)) | none => False) | _, _ => False
def dSum : B1 | .lst xs, k => (match intsD xs with | some ns => k (.int ns.sum) | none => False) | _, _ => False
def dInt : B1 | .int a, k => k (.int a) | .bl b, k => k (.int (if b then 1 else 0)) | _, _ => False

/-! ### expressions -/
def wC (d : D) : WE := fun _ ds k => k d ds
def wVar (i : Nat) : WE := fun _ ds k =>
  match gt ds i with
  | some (.val d) => k d ds
  | some (.own xs) => k (.lst xs) (st ds i (.val (.lst xs)))
  | _ => False
def wBin (f : B2) (a b : WE) : WE := fun x ds k => a x ds fun u ds1 => b x ds1 fun v ds2 => f u v fun z => k z ds2
def wUn (f : B1) (a : WE) : WE := fun x ds k => a x ds fun u ds1 => f u fun z => k z ds1
def wArgs : List WE → XKd → DS → (List D → DS → Prop) → Prop
  | [], _, ds, k => k [] ds
  | a :: r, x, ds, k => a x ds fun d ds1 => wArgs r x ds1 fun l ds2 => k (d :: l) ds2
def wTup (as : List WE) : WE := fun x ds k => wArgs as x ds fun l ds1 => k (.tup l) ds1
def wLst (as : List WE) : WO := fun x ds k => wArgs as x ds fun l ds1 => k l ds1
/-- an own list stands still from here on -/
def wFrz (o : WO) : WE := fun x ds k => o x ds fun xs ds1 => k (.lst xs) ds1
/-- an item of the own list in slot i -/
def wIxO (i : Nat) (b : WE) : WE := fun x ds k => (listAt ds i).isSome = true ∧ b x ds fun v ds1 =>
  match v, listAt ds1 i with
  | .int n, some xs => (match itemAt xs n with | some z => k z ds1 | none => False)
  | _, _ => False
def wLenO (i : Nat) : WE := fun _ ds k => match listAt ds i with | some xs => k (.int xs.length) ds | none => False
def wIf (t : WT) (a b : WE) : WE := fun x ds k => t x ds fun c ds1 => if c = true then a x ds1 k else b x ds1 k
def wAndV (a b : WE) : WE := fun x ds k => a x ds fun u ds1 => match u with | .bl c => (if c = true then b x ds1 k else k (.bl false) ds1) | _ => False
def wOrV (a b : WE) : WE := fun x ds k => a x ds fun u ds1 => match u with | .bl c => (if c = true then k (.bl true) ds1 else b x ds1 k) | _ => False
def wNotV (a : WE) : WE := fun x ds k => a x ds fun u ds1 => match u with | .bl c => k (.bl (!c)) ds1 | _ => False
/-! tests -/
def wTst (a : WE) : WT := fun x ds k => a x ds fun u ds1 => match u with | .bl c => k c ds1 | _ => False
def wAnd (a b : WT) : WT := fun x ds k => a x ds fun c ds1 => if c = true then b x ds1 k else k false ds1
def wOr (a b : WT) : WT := fun x ds k => a x ds fun c ds1 => if c = true then k true ds1 else b x ds1 k
def wNot (a : WT) : WT := fun x ds k => a x ds fun c ds1 => k (!c) ds1
def wYes : WT := fun _ ds k => k true ds
/-! calls -/
inductive DA where
  | v (e : WE) | s (i : Nat)
inductive AV where
  | v (d : D) | s (i : Nat)
def wCArgs : List DA → XKd → DS → (List AV → DS → Prop) → Prop
  | [], _, ds, k => k [] ds
  | .v a :: r, x, ds, k => a x ds fun d ds1 => wCArgs r x ds1 fun l ds2 => k (.v d :: l) ds2
  | .s i :: r, x, ds, k => (listAt ds i).isSome = true ∧ wCArgs r x ds fun l ds2 => k (.s i :: l) ds2
def argDv (ds : DS) : List AV → Option (List DV)
  | [] => some []
  | .v d :: r => (argDv ds r).map (.val d :: ·)
  | .s i :: r => match listAt ds i with | some xs => (argDv ds r).map (.par xs :: ·) | none => none
def backs : DS → List AV → List DV → DS
  | ds, .s i :: r, .par ys :: q => backs (refill ds i ys) r q
  | ds, _ :: r, _ :: q => backs ds r q
  | ds, _, _ => ds
def slotsOf : List AV → List Nat
  | [] => []
  | .v _ :: r => slotsOf r
  | .s i :: r => i :: slotsOf r
def wCallB (sp : FS) (as : List DA) (dvs : List D) : XKd → DS → (DV → DS → Prop) → Prop := fun x ds k => wCArgs as x ds fun avs ds1 =>
  match argDv ds1 avs with
  | some vs => (slotsOf avs).Nodup ∧ sp (vs ++ dvs.map .val) fun out vs' => match out with
    | .ret r => k r (backs ds1 avs vs')
    | .exc e => x e (backs ds1 avs vs')
  | none => False
/-- a call that hands back data | a list of the caller's own -/
def wCall (sp : FS) (as : List DA) (dvs : List D := []) : WE := fun x ds k => wCallB sp as dvs x ds fun r ds1 => match r with | .val d => k d ds1 | .own xs => k (.lst xs) ds1 | _ => False
def wCallO (sp : FS) (as : List DA) (dvs : List D := []) : WO := fun x ds k => wCallB sp as dvs x ds fun r ds1 => match r with | .own xs => k xs ds1 | _ => False
/-! targets -/
inductive Tg where
  | nm (i : Nat) | tp (ts : List Tg)
mutual
def tga : Tg → D → DS → (DS → Prop) → Prop
  | .nm i, d, ds, k => k (st ds i (.val d))
  | .tp ts, .tup xs, ds, k => tgas ts xs ds k
  | .tp _, _, _, _ => False
def tgas : List Tg → List D → DS → (DS → Prop) → Prop
  | [], [], ds, k => k ds
  | t :: ts, d :: r, ds, k => tga t d ds fun ds1 => tgas ts r ds1 k
  | _, _, _, _ => False
end
/-! comprehensions -/
def items : D → Option (List D)
  | .lst xs => some xs
  | .tup xs => some xs
  | _ => none
/-- nothing may be raised -/
def nox : XKd := fun _ _ => False
/-- one comprehension, by what holds ahead of each turn: how far, what is made, the slots -/
def compI (g : Tg) (vs : List Nat) (t : WT) (e : WE) (x : XKd) (xs : List D) (ds : DS) (k : List D → DS → Prop) : Prop :=
  ∃ I : Nat → List D → DS → Prop, I 0 [] (ers ds vs) ∧ (∀ i d acc ds, xs[i]? = some d → I i acc ds → tga g d (ers ds vs) fun ds1 => t x ds1 fun b ds2 =>
    if b = true then e x ds2 fun v ds3 => acc.length < 10000000 ∧ I (i + 1) (acc ++ [v]) ds3 else I (i + 1) acc ds2) ∧ ∀ acc ds, I xs.length acc ds → k acc (ers ds vs)
/-- .. turn by turn -/
def compD (g : Tg) (vs : List Nat) (t : WT) (e : WE) (x : XKd) (k : List D → DS → Prop) : List D → List D → DS → Prop
  | [], acc, ds => k acc (ers ds vs)
  | d :: r, acc, ds => tga g d (ers ds vs) fun ds1 => t x ds1 fun b ds2 =>
    if b = true then e x ds2 fun v ds3 => acc.length < 10000000 ∧ compD g vs t e x k r (acc ++ [v]) ds3 else compD g vs t e x k r acc ds2
def wLc (src : WE) (g : Tg) (vs : List Nat) (t : WT) (e : WE) : WO := fun x ds k => src x ds fun u ds1 => match items u with | some xs => compI g vs t e nox xs ds1 k | none => False
def rangeD (lo hi : Int) : List D := (List.range (hi - lo).toNat).map fun i => .int (lo + (i : Nat))
def RngOk (lo hi : Int) : Prop := (-(2 ^ 62) ≤ lo ∧ lo < 2 ^ 62) ∧ (-(2 ^ 62) ≤ hi ∧ hi < 2 ^ 62)
/-- range(a), range(a, b) as what is walked -/
def wRng (as : List WE) : XKd → DS → (List D → DS → Prop) → Prop := fun x ds k => wArgs as x ds fun l ds1 => match l with
  | [.int n] => RngOk 0 n ∧ k (rangeD 0 n) ds1
  | [.int a, .int b] => RngOk a b ∧ k (rangeD a b) ds1
  | _ => False
def wLcR (as : List WE) (g : Tg) (vs : List Nat) (t : WT) (e : WE) : WO := fun x ds k => wRng as x ds fun xs ds1 => compI g vs t e nox xs ds1 k

/-! ### statements -/
def wSeq (a b : WS) : WS := fun ds P => a ds { P with nx := fun ds1 => b ds1 P }
def wNext : WS := fun ds P => P.nx ds
def wAsg (e : WE) (g : Tg) : WS := fun ds P => e P.x ds fun d ds1 => tga g d ds1 P.nx
def wAsgO (o : WO) (i : Nat) : WS := fun ds P => o P.x ds fun xs ds1 => P.nx (st ds1 i (.own xs))
/-- x, y = a, b -/
def wPar (i j : Nat) (a b : WE) : WS := fun ds P => a P.x ds fun u ds1 => b P.x ds1 fun v ds2 => P.nx (st (st ds2 i (.val u)) j (.val v))
def wRet (e : WE) : WS := fun ds P => e P.x ds fun d ds1 => P.rt (.val d) ds1
def wRetN : WS := fun ds P => P.rt (.val .non) ds
def wRetO (o : WO) : WS := fun ds P => o P.x ds fun xs ds1 => P.rt (.own xs) ds1
def wRetS (i : Nat) : WS := fun ds P => match gt ds i with | some (.own xs) => P.rt (.own xs) (er ds i) | _ => False
def wIfS (t : WT) (a b : WS) : WS := fun ds P => t P.x ds fun c ds1 => if c = true then a ds1 P else b ds1 P
def wDrop (e : WE) : WS := fun ds P => e P.x ds fun _ ds1 => P.nx ds1
def wBrk : WS := fun ds P => P.bk ds
def wCont : WS := fun ds P => P.ct ds
def wNever : WS := fun _ _ => False
/-- purse[e] = v, the list in slot i -/
def wSet (i : Nat) (b v : WE) : WS := fun ds P => v P.x ds fun z ds1 => (listAt ds1 i).isSome = true ∧ b P.x ds1 fun n ds2 =>
  match n, listAt ds2 i with
  | .int n, some xs => (0 ≤ n ∧ n < xs.length) ∧ P.nx (refill ds2 i (xs.set n.toNat z))
  | _, _ => False
def wApp (i : Nat) (v : WE) : WS := fun ds P => (listAt ds i).isSome = true ∧ v P.x ds fun z ds1 =>
  match listAt ds1 i with
  | some xs => xs.length < 10000000 ∧ P.nx (refill ds1 i (xs ++ [z]))
  | none => False
def wAug (i : Nat) (f : B2) (e : WE) : WS := fun ds P => match gt ds i with
  | some (.val u) => e P.x ds fun v ds1 => f u v fun z => P.nx (st ds1 i (.val z))
  | _ => False
def wWhile (t : WT) (b : WS) : WS := fun ds P => ∃ I : Nat → DS → Prop, (∃ m, I m ds) ∧ ∀ m ds, I m ds → t P.x ds fun c ds1 =>
  if c = true then b ds1 { nx := fun ds2 => ∃ m', m' < m ∧ I m' ds2, ct := fun ds2 => ∃ m', m' < m ∧ I m' ds2, bk := P.nx, rt := P.rt, x := P.x } else P.nx ds1
def forI (g : Tg) (b : WS) (P : Post) (xs : List D) (ds : DS) : Prop :=
  ∃ I : Nat → DS → Prop, I 0 ds ∧ (∀ i d ds, xs[i]? = some d → I i ds → tga g d ds fun ds1 => b ds1 { nx := I (i + 1), ct := I (i + 1), bk := P.nx, rt := P.rt, x := P.x }) ∧ ∀ ds, I xs.length ds → P.nx ds
def forD (g : Tg) (b : WS) (P : Post) : List D → DS → Prop
  | [], ds => P.nx ds
  | d :: r, ds => tga g d ds fun ds1 => b ds1 { nx := fun ds2 => forD g b P r ds2, ct := fun ds2 => forD g b P r ds2, bk := P.nx, rt := P.rt, x := P.x }
def wFor (src : WE) (g : Tg) (b : WS) : WS := fun ds P => src P.x ds fun u ds1 => match items u with | some xs => forI g b P xs ds1 | none => False
def wForR (as : List WE) (g : Tg) (b : WS) : WS := fun ds P => wRng as P.x ds fun xs ds1 => forI g b P xs ds1

/-- a body against a promise: the parameters' slots, then the other ones -/
def outs : List DV → DS → Option (List DV)
  | [], _ => some []
  | .par _ :: r, some (.par ys) :: s => (outs r s).map (.par ys :: ·)
  | .par _ :: _, _ => none
  | d :: r, _ :: s => (outs r s).map (d :: ·)
  | _ :: _, [] => none
def entry (n : Nat) (dvs : List DV) : DS := dvs.map some ++ List.replicate (n - dvs.length) none
/-- what is wanted of a body that is called with dvs -/
def ends (dvs : List DV) (k : Out → List DV → Prop) : Post where
  nx := fun ds => match outs dvs ds with | some o => k (.ret (.val .non)) o | none => False
  rt := fun r ds => match outs dvs ds with | some o => k (.ret r) o | none => False
  bk := fun _ => False
  ct := fun _ => False
  x := fun e ds => match outs dvs ds with | some o => k (.exc e) o | none => False
/-- .. where nothing is raised -/
def ends0 (dvs : List DV) (k : Out → List DV → Prop) : Post := { ends dvs k with x := nox }
/-- the body w of n slots keeps the promise -/
def Keeps (n : Nat) (w : WS) (fs : FS) : Prop := ∀ dvs k, fs dvs k → w (entry n dvs) (ends dvs k)
def Keeps0 (n : Nat) (w : WS) (fs : FS) : Prop := ∀ dvs k, fs dvs k → w (entry n dvs) (ends0 dvs k)

/-! ### short loops, turn by turn -/
theorem drop_of {α : Type} : ∀ {xs : List α} {i : Nat} {d : α}, xs[i]? = some d → xs.drop i = d :: xs.drop (i + 1)
  | [], i, d, h => by simp at h
  | a :: l, 0, d, h => by
    have e : a = d := Option.some.inj h
    subst e
    rfl
  | a :: l, i + 1, d, h => drop_of (xs := l) (i := i) h
theorem forI_of {g : Tg} {b : WS} {P : Post} {xs : List D} {ds : DS} (h : forD g b P xs ds) : forI g b P xs ds := by
  refine ⟨fun i ds => forD g b P (xs.drop i) ds, h, fun i d ds e q => ?_, fun ds q => ?_⟩
  · have q : forD g b P (xs.drop i) ds := q
    rw [drop_of e] at q
    exact q
  · have q : forD g b P (xs.drop xs.length) ds := q
    rw [List.drop_length] at q
    exact q
theorem compI_of {g : Tg} {vs : List Nat} {t : WT} {e : WE} {x : XKd} {xs : List D} {ds : DS} {k : List D → DS → Prop} (h : compD g vs t e x k xs [] (ers ds vs)) : compI g vs t e x xs ds k := by
  refine ⟨fun i acc ds => compD g vs t e x k (xs.drop i) acc ds, h, fun i d acc ds e q => ?_, fun acc ds q => ?_⟩
  · have q : compD g vs t _ x k (xs.drop i) acc ds := q
    rw [drop_of e] at q
    exact q
  · have q : compD g vs t _ x k (xs.drop xs.length) acc ds := q
    rw [List.drop_length] at q
    exact q
end DW

/-! DwB: data in the heap, the slots' word, what a reading is worth over data. -/
namespace DW
open PySem PySem.Spec PyProof.Rows L2

mutual
def Rep (K : PySem.W.Frag) (G : Hp) : D → V → Prop
  | .non, v => v = .non
  | .bl b, v => v = .bl b
  | .int i, v => v = .int i
  | .str s, v => v = .str s
  | .tup ds, v => ∃ a xs, v = .ref a ∧ SqT K G a xs ∧ Reps K G ds xs
  | .lst ds, v => ∃ a xs, v = .ref a ∧ SqL K G a xs ∧ Reps K G ds xs
def Reps (K : PySem.W.Frag) (G : Hp) : List D → List V → Prop
  | [], vs => vs = []
  | d :: ds, vs => ∃ x xs, vs = x :: xs ∧ Rep K G d x ∧ Reps K G ds xs
end

section
variable {K : PySem.W.Frag} {G H H' G' : Hp}
theorem Same.t {H H' : Hp} {a : Addr} {xs : List V} (e : Same H H') (h : SqT K H a xs) : SqT K H' a xs := by
  rcases h with (h | ⟨o, h⟩) | h
  · exact .inl (.inl (e _ _ h))
  · exact .inl (.inr ⟨o, e _ _ h⟩)
  · exact .inr h
mutual
theorem Rep.mono (e : Same G G') : ∀ {d : D} {v : V}, Rep K G d v → Rep K G' d v
  | .non, _, h => h
  | .bl _, _, h => h
  | .int _, _, h => h
  | .str _, _, h => h
  | .tup ds, v, h => by
    obtain ⟨a, xs, e1, h1, h2⟩ := h
    exact ⟨a, xs, e1, Same.t e h1, Reps.mono e h2⟩
  | .lst ds, v, h => by
    obtain ⟨a, xs, e1, h1, h2⟩ := h
    exact ⟨a, xs, e1, L2.Same.seq e h1, Reps.mono e h2⟩
theorem Reps.mono (e : Same G G') : ∀ {ds : List D} {vs : List V}, Reps K G ds vs → Reps K G' ds vs
  | [], _, h => h
  | d :: ds, vs, h => by
    obtain ⟨x, xs, e1, h1, h2⟩ := h
    exact ⟨x, xs, e1, Rep.mono e h1, Reps.mono e h2⟩
end
theorem Reps.len : ∀ {ds : List D} {vs : List V}, Reps K G ds vs → ds.length = vs.length
  | [], vs, h => by
    have h : vs = [] := h
    rw [h]
    rfl
  | d :: ds, vs, h => by
    obtain ⟨x, xs, e1, h1, h2⟩ := h
    rw [e1, List.length_cons, List.length_cons, Reps.len h2]
theorem Reps.get : ∀ {ds : List D} {vs : List V} {i : Nat} {d : D}, Reps K G ds vs → ds[i]? = some d → ∃ v, vs[i]? = some v ∧ Rep K G d v
  | [], _, i, d, h, e => by simp at e
  | d0 :: ds, vs, 0, d, h, e => by
    obtain ⟨x, xs, e1, h1, h2⟩ := h
    have e : d0 = d := Option.some.inj e
    rw [e1, ← e]
    exact ⟨x, rfl, h1⟩
  | d0 :: ds, vs, i + 1, d, h, e => by
    obtain ⟨x, xs, e1, h1, h2⟩ := h
    rw [e1]
    exact Reps.get (i := i) h2 e
theorem Reps.gev : ∀ {ds : List D} {vs : List V} {i : Nat} {v : V}, Reps K G ds vs → vs[i]? = some v → ∃ d, ds[i]? = some d ∧ Rep K G d v
  | [], vs, i, v, h, e => by
    have h : vs = [] := h
    rw [h] at e
    simp at e
  | d0 :: ds, vs, 0, v, h, e => by
    obtain ⟨x, xs, e1, h1, h2⟩ := h
    rw [e1] at e
    have e : x = v := Option.some.inj e
    rw [← e]
    exact ⟨d0, rfl, h1⟩
  | d0 :: ds, vs, i + 1, v, h, e => by
    obtain ⟨x, xs, e1, h1, h2⟩ := h
    rw [e1] at e
    exact Reps.gev (i := i) h2 e
theorem Reps.app : ∀ {ds : List D} {vs : List V} {d : D} {v : V}, Reps K G ds vs → Rep K G d v → Reps K G (ds ++ [d]) (vs ++ [v])
  | [], vs, d, v, h, r => by
    have h : vs = [] := h
    rw [h]
    exact ⟨v, [], rfl, r, rfl⟩
  | d0 :: ds, vs, d, v, h, r => by
    obtain ⟨x, xs, e1, h1, h2⟩ := h
    rw [e1]
    exact ⟨x, xs ++ [v], rfl, h1, Reps.app h2 r⟩
theorem Reps.cat : ∀ {ds es : List D} {vs ws : List V}, Reps K G ds vs → Reps K G es ws → Reps K G (ds ++ es) (vs ++ ws)
  | [], _, vs, ws, h, r => by
    have h : vs = [] := h
    rw [h]
    exact r
  | d0 :: ds, es, vs, ws, h, r => by
    obtain ⟨x, xs, e1, h1, h2⟩ := h
    rw [e1]
    exact ⟨x, xs ++ ws, rfl, h1, Reps.cat h2 r⟩
theorem Reps.set : ∀ {ds : List D} {vs : List V} {d : D} {v : V} (i : Nat), Reps K G ds vs → Rep K G d v → Reps K G (ds.set i d) (vs.set i v)
  | [], vs, d, v, i, h, r => by
    have h : vs = [] := h
    rw [h]
    exact rfl
  | d0 :: ds, vs, d, v, 0, h, r => by
    obtain ⟨x, xs, e1, h1, h2⟩ := h
    rw [e1]
    exact ⟨v, xs, rfl, r, h2⟩
  | d0 :: ds, vs, d, v, i + 1, h, r => by
    obtain ⟨x, xs, e1, h1, h2⟩ := h
    rw [e1]
    exact ⟨x, xs.set i v, rfl, h1, Reps.set i h2 r⟩
theorem ix_at {α : Type} {xs : List α} {i : Int} {v : α} (h : itemAt xs i = some v) : ∃ j : Nat, j < xs.length ∧ xs[j]? = some v ∧ ixN xs.length i = some j := by
  unfold itemAt at h
  by_cases h0 : 0 ≤ i
  · rw [if_pos h0] at h
    have hl := (List.getElem?_eq_some_iff.mp h).1
    exact ⟨i.toNat, hl, h, by unfold ixN; rw [if_pos h0, if_pos (by omega)]⟩
  · rw [if_neg h0] at h
    by_cases h1 : -(xs.length : Int) ≤ i
    · rw [if_pos h1] at h
      have hl := (List.getElem?_eq_some_iff.mp h).1
      exact ⟨_, hl, h, by unfold ixN; rw [if_neg h0, if_pos h1]⟩
    · rw [if_neg h1] at h
      cases h
theorem Reps.item {ds : List D} {vs : List V} {i : Int} {d : D} (h : Reps K G ds vs) (e : itemAt ds i = some d) : ∃ v, atI vs i = some v ∧ Rep K G d v := by
  obtain ⟨j, h1, h2, h3⟩ := ix_at e
  obtain ⟨v, e1, r⟩ := h.get h2
  refine ⟨v, ?_, r⟩
  unfold atI
  rw [← h.len, h3]
  exact e1
end

/-! ### slots -/
def isO : DV → Bool
  | .val _ => false
  | _ => true
theorem gt_st : ∀ (ds : DS) (i j : Nat) (d : DV), gt (st ds i d) j = if j = i ∧ i < ds.length then some d else gt ds j
  | [], i, j, d => by
    have e : ¬ (j = i ∧ i < ([] : DS).length) := fun h => Nat.not_lt_zero _ h.2
    rw [if_neg e]
    rfl
  | x :: r, 0, 0, d => by
    rw [if_pos ⟨rfl, Nat.succ_pos _⟩]
    rfl
  | x :: r, 0, j + 1, d => by
    rw [if_neg (fun h => Nat.noConfusion h.1)]
    rfl
  | x :: r, i + 1, 0, d => by
    rw [if_neg (fun h => Nat.noConfusion h.1)]
    rfl
  | x :: r, i + 1, j + 1, d => by
    show gt (st r i d) j = _
    rw [gt_st r i j d]
    by_cases h : j = i ∧ i < r.length
    · rw [if_pos h, if_pos ⟨by omega, by rw [List.length_cons]; omega⟩]
    · rw [if_neg h, if_neg (fun q => h ⟨by omega, by have := q.2; rw [List.length_cons] at this; omega⟩)]
      rfl
theorem gt_er : ∀ (ds : DS) (i j : Nat), gt (er ds i) j = if j = i then none else gt ds j
  | [], i, j => by
    show none = _
    split <;> rfl
  | x :: r, 0, 0 => by
    rw [if_pos rfl]
    rfl
  | x :: r, 0, j + 1 => by
    rw [if_neg (fun h => Nat.noConfusion h)]
    rfl
  | x :: r, i + 1, 0 => by
    rw [if_neg (fun h => Nat.noConfusion h)]
    rfl
  | x :: r, i + 1, j + 1 => by
    show gt (er r i) j = _
    rw [gt_er r i j]
    by_cases h : j = i
    · rw [if_pos h, if_pos (by omega)]
    · rw [if_neg h, if_neg (by omega)]
      rfl
theorem len_st : ∀ (ds : DS) (i : Nat) (d : DV), (st ds i d).length = ds.length
  | [], _, _ => rfl
  | _ :: _, 0, _ => rfl
  | _ :: r, i + 1, d => by
    show (st r i d).length + 1 = _
    rw [len_st r i d, List.length_cons]
theorem len_er : ∀ (ds : DS) (i : Nat), (er ds i).length = ds.length
  | [], _ => rfl
  | _ :: _, 0 => rfl
  | _ :: r, i + 1 => by
    show (er r i).length + 1 = _
    rw [len_er r i, List.length_cons]
theorem gt_lt : ∀ {ds : DS} {i : Nat} {d : DV}, gt ds i = some d → i < ds.length
  | [], _, _, h => by cases h
  | _ :: _, 0, _, _ => Nat.succ_pos _
  | _ :: r, i + 1, d, h => Nat.succ_lt_succ (gt_lt (ds := r) h)

/-- a call's ground: the heap at the entry, what stood still there, what may be written -/
structure C0 where
  H0 : Hp
  G0 : Hp
  W : Addr → Prop
  P : Nat → Addr

def SlotOk (K : PySem.W.Frag) (c : C0) (G H : Hp) (p : Addr) (o : Option (Option V)) : DV → Prop
  | .val d => ∃ v, o = some (some v) ∧ Rep K G d v
  | .own xs => o = some (some (.ref p)) ∧ G p = none ∧ c.H0 p = none ∧ ∃ vs, H p = some (.lst vs) ∧ Reps K G xs vs
  | .par xs => o = some (some (.ref p)) ∧ G p = none ∧ c.W p ∧ ∃ vs, H p = some (.lst vs) ∧ Reps K G xs vs

structure Env (K : PySem.W.Frag) (c : C0) (pa : Nat → Addr) (G H : Hp) (σ : L2.St) (ds : DS) : Prop where
  ex : Same G H
  fr : ∀ a o, c.H0 a = some o → ¬ c.W a → H a = some o
  dom : ∀ a, c.H0 a ≠ none → H a ≠ none
  ge : Same c.G0 G
  gf : ∀ a, c.H0 a ≠ none → G a = c.G0 a
  len : ds.length = σ.length
  sl : ∀ i dv, gt ds i = some dv → SlotOk K c G H (pa i) σ[i]? dv
  inj : ∀ i j dv dv', gt ds i = some dv → gt ds j = some dv' → isO dv = true → isO dv' = true → i ≠ j → pa i ≠ pa j
  ps : ∀ i xs, gt ds i = some (.par xs) → pa i = c.P i

/-- a list that the body made and no slot holds yet -/
structure Tmp (K : PySem.W.Frag) (c : C0) (pa : Nat → Addr) (G H : Hp) (ds : DS) (p : Addr) (xs : List D) : Prop where
  g : G p = none
  h0 : c.H0 p = none
  here : ∃ vs, H p = some (.lst vs) ∧ Reps K G xs vs
  ne : ∀ i dv, gt ds i = some dv → isO dv = true → pa i ≠ p

section
variable {K : PySem.W.Frag} {c : C0} {pa : Nat → Addr} {G H H' : Hp} {σ : L2.St} {ds : DS}
theorem Env.val (E : Env K c pa G H σ ds) {i : Nat} {d : D} (h : gt ds i = some (.val d)) : ∃ v, σ[i]? = some (some v) ∧ Rep K G d v := E.sl i _ h
theorem Env.lst (E : Env K c pa G H σ ds) {i : Nat} {xs : List D} (h : listAt ds i = some xs) :
    ∃ dv, gt ds i = some dv ∧ isO dv = true ∧ (dv = .own xs ∨ dv = .par xs) ∧ σ[i]? = some (some (.ref (pa i))) ∧ G (pa i) = none ∧ (c.H0 (pa i) = none ∨ c.W (pa i)) ∧ ∃ vs, H (pa i) = some (.lst vs) ∧ Reps K G xs vs := by
  unfold listAt at h
  cases e : gt ds i with
  | none => rw [e] at h; cases h
  | some dv =>
    rw [e] at h
    have s := E.sl i dv e
    cases dv with
    | val d => cases h
    | own ys =>
      have h : ys = xs := Option.some.inj h
      subst h
      obtain ⟨h1, h2, h3, h4⟩ := s
      exact ⟨_, rfl, rfl, .inl rfl, h1, h2, .inl h3, h4⟩
    | par ys =>
      have h : ys = xs := Option.some.inj h
      subst h
      obtain ⟨h1, h2, h3, h4⟩ := s
      exact ⟨_, rfl, rfl, .inr rfl, h1, h2, .inr h3, h4⟩
theorem Env.ownNe (E : Env K c pa G H σ ds) {i : Nat} {dv : DV} (h : gt ds i = some dv) (o : isO dv = true) : H (pa i) ≠ none := by
  have s := E.sl i dv h
  cases dv with
  | val d => cases o
  | own xs =>
    obtain ⟨_, _, _, vs, e, _⟩ := s
    rw [e]
    exact fun q => nomatch q
  | par xs =>
    obtain ⟨_, _, _, vs, e, _⟩ := s
    rw [e]
    exact fun q => nomatch q
theorem SlotOk.up {p : Addr} {o : Option (Option V)} {dv : DV} {G' : Hp} (s : SlotOk K c G H p o dv) (e : Same H H') (g : Same G G') (n : G' p = none ∨ isO dv = false) : SlotOk K c G' H' p o dv := by
  cases dv with
  | val d =>
    obtain ⟨v, e1, r⟩ := s
    exact ⟨v, e1, r.mono g⟩
  | own xs =>
    obtain ⟨h1, h2, h3, vs, h4, h5⟩ := s
    exact ⟨h1, n.resolve_right (fun q => nomatch q), h3, vs, e _ _ h4, h5.mono g⟩
  | par xs =>
    obtain ⟨h1, h2, h3, vs, h4, h5⟩ := s
    exact ⟨h1, n.resolve_right (fun q => nomatch q), h3, vs, e _ _ h4, h5.mono g⟩
theorem SlotOk.gn {p : Addr} {o : Option (Option V)} {dv : DV} (s : SlotOk K c G H p o dv) (h : isO dv = true) : G p = none := by
  cases dv with
  | val d => cases h
  | own xs => exact s.2.1
  | par xs => exact s.2.1
/-- new things come beside -/
theorem Env.heap (E : Env K c pa G H σ ds) (e : Same H H') : Env K c pa G H' σ ds where
  ex := E.ex.trans e
  fr := fun a o h w => e _ _ (E.fr a o h w)
  dom := fun a h => by
    cases q : H a with
    | none => exact absurd q (E.dom a h)
    | some o =>
      rw [e _ _ q]
      exact fun z => nomatch z
  ge := E.ge
  gf := E.gf
  len := E.len
  sl := fun i dv h => by
    have s := E.sl i dv h
    cases o : isO dv with
    | true => exact s.up e (fun _ _ q => q) (.inl (s.gn o))
    | false => exact s.up e (fun _ _ q => q) (.inr o)
  inj := E.inj
  ps := E.ps
theorem same_new {H : Hp} {p : Addr} {o : HO} (h : H p = none) : Same H (upd H p o) := fun b x e => by
  rw [upd_ne (ne_of_none e h)]
  exact e
theorem same_both {G H : Hp} {p : Addr} {o : HO} (e : Same G H) (h : H p = some o) : Same (upd G p o) H := fun b x q => by
  by_cases hb : b = p
  · rw [hb, upd_same] at q
    rw [hb, h]
    exact q
  · rw [upd_ne hb] at q
    exact e _ _ q
theorem upd_none {H : Hp} {p q : Addr} {o : HO} (h : H q = none) (n : q ≠ p) : upd H p o q = none := by
  rw [upd_ne n]
  exact h
/-- what stands at p, made by the body, stands still from here on -/
theorem Env.still (E : Env K c pa G H σ ds) {p : Addr} {o : HO} (hp : H p = some o) (hg : G p = none) (h0 : c.H0 p = none) (ne : ∀ i dv, gt ds i = some dv → isO dv = true → pa i ≠ p) :
    Env K c pa (upd G p o) H σ ds where
  ex := same_both E.ex hp
  fr := E.fr
  dom := E.dom
  ge := E.ge.trans (same_new hg)
  gf := fun a h => by
    have n : a ≠ p := fun q => by
      rw [q] at h
      exact h h0
    rw [upd_ne n]
    exact E.gf a h
  len := E.len
  sl := fun i dv h => by
    have s := E.sl i dv h
    cases o : isO dv with
    | true => exact s.up (fun _ _ q => q) (same_new hg) (.inl (upd_none (s.gn o) (ne i dv h o)))
    | false => exact s.up (fun _ _ q => q) (same_new hg) (.inr o)
  inj := E.inj
  ps := E.ps
theorem Env.free (E : Env K c pa G H σ ds) {p : Addr} (h : H p = none) : G p = none ∧ c.H0 p = none ∧ ∀ i dv, gt ds i = some dv → isO dv = true → pa i ≠ p :=
  ⟨L2.Same.free E.ex h, by
    cases q : c.H0 p with
    | none => rfl
    | some o => exact absurd h (E.dom p (by rw [q]; exact fun z => nomatch z)), fun i dv hi o q => E.ownNe hi o (q ▸ h)⟩
/-- a new object, standing still at once -/
theorem Env.new (E : Env K c pa G H σ ds) {p : Addr} {o : HO} (h : H p = none) : Env K c pa (upd G p o) (upd H p o) σ ds ∧ Same G (upd G p o) := by
  obtain ⟨h1, h2, h3⟩ := E.free h
  exact ⟨(E.heap (same_new h)).still upd_same h1 h2 h3, same_new h1⟩
/-- a new list of the body's own -/
theorem Env.newOwn (E : Env K c pa G H σ ds) {p : Addr} {vs : List V} {xs : List D} (h : H p = none) (r : Reps K G xs vs) : Env K c pa G (upd H p (.lst vs)) σ ds ∧ Tmp K c pa G (upd H p (.lst vs)) ds p xs := by
  obtain ⟨h1, h2, h3⟩ := E.free h
  exact ⟨E.heap (same_new h), h1, h2, ⟨vs, upd_same, r⟩, h3⟩
theorem Tmp.freeze {p : Addr} {xs : List D} (t : Tmp K c pa G H ds p xs) (E : Env K c pa G H σ ds) : ∃ G', Env K c pa G' H σ ds ∧ Same G G' ∧ Rep K G' (.lst xs) (.ref p) := by
  obtain ⟨vs, h1, h2⟩ := t.here
  exact ⟨_, E.still h1 t.g t.h0 t.ne, same_new t.g, p, vs, rfl, SqL.of upd_same, h2.mono (same_new t.g)⟩
theorem set_get {α : Type} {σ : List α} {i j : Nat} {v : α} (h : i ≠ j) : (σ.set i v)[j]? = σ[j]? := List.getElem?_set_ne h
theorem Env.setVal (E : Env K c pa G H σ ds) {v : V} {d : D} (i : Nat) (r : Rep K G d v) : Env K c pa G H (σ.set i (some v)) (st ds i (.val d)) where
  ex := E.ex
  fr := E.fr
  dom := E.dom
  ge := E.ge
  gf := E.gf
  len := by rw [len_st, List.length_set]; exact E.len
  sl := fun j dv h => by
    rw [gt_st] at h
    by_cases q : j = i ∧ i < ds.length
    · rw [if_pos q] at h
      have h : DV.val d = dv := Option.some.inj h
      subst h
      obtain ⟨e, q⟩ := q
      subst e
      rw [E.len] at q
      exact ⟨v, List.getElem?_set_self q, r⟩
    · rw [if_neg q] at h
      have hj := gt_lt h
      have n : i ≠ j := fun e => q ⟨e.symm, e ▸ hj⟩
      rw [set_get n]
      exact E.sl j dv h
  inj := fun a b dv dv' h h' o o' n => by
    rw [gt_st] at h h'
    by_cases q : a = i ∧ i < ds.length
    · rw [if_pos q] at h
      have h : DV.val d = dv := Option.some.inj h
      subst h
      cases o
    · by_cases q' : b = i ∧ i < ds.length
      · rw [if_pos q'] at h'
        have h' : DV.val d = dv' := Option.some.inj h'
        subst h'
        cases o'
      · rw [if_neg q] at h
        rw [if_neg q'] at h'
        exact E.inj a b dv dv' h h' o o' n
  ps := fun j xs h => by
    rw [gt_st] at h
    by_cases q : j = i ∧ i < ds.length
    · rw [if_pos q] at h
      cases (Option.some.inj h : DV.val d = DV.par xs)
    · rw [if_neg q] at h
      exact E.ps j xs h
theorem Env.setOwn (E : Env K c pa G H σ ds) {p : Addr} {xs : List D} (i : Nat) (t : Tmp K c pa G H ds p xs) : Env K c (fun j => if j = i then p else pa j) G H (σ.set i (some (.ref p))) (st ds i (.own xs)) where
  ex := E.ex
  fr := E.fr
  dom := E.dom
  ge := E.ge
  gf := E.gf
  len := by rw [len_st, List.length_set]; exact E.len
  sl := fun j dv h => by
    rw [gt_st] at h
    by_cases q : j = i ∧ i < ds.length
    · rw [if_pos q] at h
      have h : DV.own xs = dv := Option.some.inj h
      subst h
      obtain ⟨e, q⟩ := q
      subst e
      rw [E.len] at q
      rw [if_pos rfl]
      exact ⟨List.getElem?_set_self q, t.g, t.h0, t.here⟩
    · rw [if_neg q] at h
      have hj := gt_lt h
      have n : i ≠ j := fun e => q ⟨e.symm, e ▸ hj⟩
      rw [set_get n, if_neg n.symm]
      exact E.sl j dv h
  inj := fun a b dv dv' h h' o o' n => by
    rw [gt_st] at h h'
    by_cases q : a = i ∧ i < ds.length
    · by_cases q' : b = i ∧ i < ds.length
      · exact absurd (q.1.trans q'.1.symm) n
      · rw [if_neg q'] at h'
        have nb : b ≠ i := fun e => n (q.1.trans e.symm)
        show (if a = i then p else pa a) ≠ (if b = i then p else pa b)
        rw [if_pos q.1, if_neg nb]
        exact (t.ne b dv' h' o').symm
    · rw [if_neg q] at h
      have ha := gt_lt h
      have na : a ≠ i := fun e => q ⟨e, e ▸ ha⟩
      by_cases q' : b = i ∧ i < ds.length
      · show (if a = i then p else pa a) ≠ (if b = i then p else pa b)
        rw [if_pos q'.1, if_neg na]
        exact t.ne a dv h o
      · rw [if_neg q'] at h'
        have hb := gt_lt h'
        have nb : b ≠ i := fun e => q' ⟨e, e ▸ hb⟩
        show (if a = i then p else pa a) ≠ (if b = i then p else pa b)
        rw [if_neg na, if_neg nb]
        exact E.inj a b dv dv' h h' o o' n
  ps := fun j ys h => by
    rw [gt_st] at h
    by_cases q : j = i ∧ i < ds.length
    · rw [if_pos q] at h
      cases (Option.some.inj h : DV.own xs = DV.par ys)
    · rw [if_neg q] at h
      have hj := gt_lt h
      have n : j ≠ i := fun e => q ⟨e, e ▸ hj⟩
      show (if j = i then p else pa j) = c.P j
      rw [if_neg n]
      exact E.ps j ys h
/-- the slot's word is forgotten; the slot itself may be wiped -/
theorem Env.forget (E : Env K c pa G H σ ds) (i : Nat) (o : Option V) : Env K c pa G H (σ.set i o) (er ds i) where
  ex := E.ex
  fr := E.fr
  dom := E.dom
  ge := E.ge
  gf := E.gf
  len := by rw [len_er, List.length_set]; exact E.len
  sl := fun j dv h => by
    rw [gt_er] at h
    by_cases q : j = i
    · rw [if_pos q] at h
      cases h
    · rw [if_neg q] at h
      rw [set_get (Ne.symm q)]
      exact E.sl j dv h
  inj := fun a b dv dv' h h' o o' n => by
    rw [gt_er] at h h'
    by_cases q : a = i
    · rw [if_pos q] at h
      cases h
    · rw [if_neg q] at h
      by_cases q' : b = i
      · rw [if_pos q'] at h'
        cases h'
      · rw [if_neg q'] at h'
        exact E.inj a b dv dv' h h' o o' n
  ps := fun j ys h => by
    rw [gt_er] at h
    by_cases q : j = i
    · rw [if_pos q] at h
      cases h
    · rw [if_neg q] at h
      exact E.ps j ys h
theorem Env.drop (E : Env K c pa G H σ ds) (i : Nat) : Env K c pa G H σ (er ds i) where
  ex := E.ex
  fr := E.fr
  dom := E.dom
  ge := E.ge
  gf := E.gf
  len := by rw [len_er]; exact E.len
  sl := fun j dv h => by
    rw [gt_er] at h
    by_cases q : j = i
    · rw [if_pos q] at h
      cases h
    · rw [if_neg q] at h
      exact E.sl j dv h
  inj := fun a b dv dv' h h' o o' n => by
    rw [gt_er] at h h'
    by_cases q : a = i
    · rw [if_pos q] at h
      cases h
    · rw [if_neg q] at h
      by_cases q' : b = i
      · rw [if_pos q'] at h'
        cases h'
      · rw [if_neg q'] at h'
        exact E.inj a b dv dv' h h' o o' n
  ps := fun j ys h => by
    rw [gt_er] at h
    by_cases q : j = i
    · rw [if_pos q] at h
      cases h
    · rw [if_neg q] at h
      exact E.ps j ys h
theorem Env.drops (E : Env K c pa G H σ ds) : ∀ vs : List Nat, Env K c pa G H σ (ers ds vs)
  | [] => E
  | v :: vs => (E.drops vs).drop v
theorem Env.wipes (E : Env K c pa G H σ ds) : ∀ vs : List Nat, Env K c pa G H (wipe σ vs) (ers ds vs)
  | [] => E
  | v :: vs => (E.wipes vs).forget v none
theorem gt_refill : ∀ {ds : DS} {i j : Nat} {xs : List D}, gt (refill ds i xs) j = (match gt ds j with
    | some (.own ys) => if j = i then some (.own xs) else some (.own ys)
    | some (.par ys) => if j = i then some (.par xs) else some (.par ys)
    | o => o)
  | [], i, j, xs => rfl
  | o :: r, 0, 0, xs => by
    show fill1 xs o = (match o with
      | some (.own ys) => if 0 = 0 then some (.own xs) else some (.own ys)
      | some (.par ys) => if 0 = 0 then some (.par xs) else some (.par ys)
      | o => o)
    cases o with
    | none => rfl
    | some d => cases d <;> rfl
  | o :: r, 0, j + 1, xs => by
    show gt r j = (match gt r j with
      | some (.own ys) => if j + 1 = 0 then some (.own xs) else some (.own ys)
      | some (.par ys) => if j + 1 = 0 then some (.par xs) else some (.par ys)
      | o => o)
    cases gt r j with
    | none => rfl
    | some d => cases d <;> rfl
  | o :: r, i + 1, 0, xs => by
    show o = (match o with
      | some (.own ys) => if 0 = i + 1 then some (.own xs) else some (.own ys)
      | some (.par ys) => if 0 = i + 1 then some (.par xs) else some (.par ys)
      | o => o)
    cases o with
    | none => rfl
    | some d => cases d <;> rfl
  | o :: r, i + 1, j + 1, xs => by
    show gt (refill r i xs) j = (match gt r j with
      | some (.own ys) => if j + 1 = i + 1 then some (.own xs) else some (.own ys)
      | some (.par ys) => if j + 1 = i + 1 then some (.par xs) else some (.par ys)
      | o => o)
    rw [gt_refill (ds := r) (i := i) (j := j)]
    simp only [Nat.add_right_cancel_iff]
theorem len_refill : ∀ {ds : DS} {i : Nat} {xs : List D}, (refill ds i xs).length = ds.length
  | [], _, _ => rfl
  | o :: r, 0, xs => rfl
  | o :: r, i + 1, xs => by
    show (refill r i xs).length + 1 = r.length + 1
    rw [len_refill]
theorem isO_gt_refill {ds : DS} {i j : Nat} {xs : List D} {dv : DV} (h : gt (refill ds i xs) j = some dv) : ∃ dv', gt ds j = some dv' ∧ isO dv' = isO dv := by
  rw [gt_refill] at h
  cases e : gt ds j with
  | none => rw [e] at h; cases h
  | some d0 =>
    rw [e] at h
    refine ⟨d0, rfl, ?_⟩
    cases d0 with
    | val d =>
      have h : DV.val d = dv := Option.some.inj h
      rw [← h]
    | own ys =>
      simp only at h
      split at h <;> (have h := Option.some.inj h; rw [← h]; try rfl)
    | par ys =>
      simp only at h
      split at h <;> (have h := Option.some.inj h; rw [← h]; try rfl)
/-- the list in slot i is written -/
theorem Env.write (E : Env K c pa G H σ ds) {i : Nat} {xs ys : List D} {ws : List V} (h : listAt ds i = some xs) (r : Reps K G ys ws) : Env K c pa G (upd H (pa i) (.lst ws)) σ (refill ds i ys) := by
  obtain ⟨dv, h1, h2, h3, h4, h5, h6, vs, h7, h8⟩ := E.lst h
  have gne : ∀ a o, G a = some o → a ≠ pa i := fun a o q => ne_of_none q h5
  refine ⟨fun a o q => ?_, fun a o q w => ?_, fun a q => ?_, E.ge, E.gf, ?_, fun j dj q => ?_, fun a b d d' q q' o o' n => ?_, fun j zs q => ?_⟩
  · rw [upd_ne (gne a o q)]
    exact E.ex a o q
  · have n : a ≠ pa i := fun e => by
      subst e
      rcases h6 with z | z
      · rw [z] at q; cases q
      · exact w z
    rw [upd_ne n]
    exact E.fr a o q w
  · by_cases n : a = pa i
    · rw [n, upd_same]
      exact fun z => nomatch z
    · rw [upd_ne n]
      exact E.dom a q
  · rw [len_refill]
    exact E.len
  · by_cases hj : j = i
    · subst hj
      rw [gt_refill, h1] at q
      have s := E.sl j dv h1
      rcases h3 with z | z
      · subst z
        simp only [if_true] at q
        have q := Option.some.inj q
        subst q
        obtain ⟨s1, s2, s3, _⟩ := s
        exact ⟨s1, s2, s3, ws, upd_same, r⟩
      · subst z
        simp only [if_true] at q
        have q := Option.some.inj q
        subst q
        obtain ⟨s1, s2, s3, _⟩ := s
        exact ⟨s1, s2, s3, ws, upd_same, r⟩
    · have q0 : gt ds j = some dj := by
        rw [gt_refill] at q
        cases e : gt ds j with
        | none => rw [e] at q; exact q
        | some d0 =>
          rw [e] at q
          cases d0 with
          | val d => exact q
          | own zs => simpa only [if_neg hj] using q
          | par zs => simpa only [if_neg hj] using q
      have s := E.sl j dj q0
      cases o : isO dj with
      | false =>
        cases dj with
        | val d => exact s
        | own _ => cases o
        | par _ => cases o
      | true =>
        have n : pa j ≠ pa i := E.inj j i dj dv q0 h1 o h2 hj
        cases dj with
        | val d => exact s
        | own zs =>
          obtain ⟨s1, s2, s3, zvs, s4, s5⟩ := s
          exact ⟨s1, s2, s3, zvs, by rw [upd_ne n]; exact s4, s5⟩
        | par zs =>
          obtain ⟨s1, s2, s3, zvs, s4, s5⟩ := s
          exact ⟨s1, s2, s3, zvs, by rw [upd_ne n]; exact s4, s5⟩
  · obtain ⟨d1, e1, o1⟩ := isO_gt_refill q
    obtain ⟨d2, e2, o2⟩ := isO_gt_refill q'
    exact E.inj a b d1 d2 e1 e2 (o1.trans o) (o2.trans o') n
  · rw [gt_refill] at q
    cases e : gt ds j with
    | none => rw [e] at q; cases q
    | some d0 =>
      rw [e] at q
      cases d0 with
      | val d => cases (Option.some.inj q : DV.val d = DV.par zs)
      | own us =>
        simp only at q
        split at q <;> cases q
      | par us => exact E.ps j us e
end
end DW

/-! DwC: readings against transformers: expressions, tests, arguments. -/
namespace DW
open PySem PySem.Spec PyProof.Rows L2

/-- an expression's step: the slots' word again, what stood still stands, all but the body's own lists is as it was -/
structure Stp (K : PySem.W.Frag) (c : C0) (pa : Nat → Addr) (σ : L2.St) (G H : Hp) (ds : DS) (G' H' : Hp) (ds' : DS) : Prop where
  env : Env K c pa G' H' σ ds'
  sg : Same G G'
  fr : ∀ a o, H a = some o → (∀ i dv, gt ds i = some dv → isO dv = true → a ≠ pa i) → H' a = some o ∧ G' a = G a
  sub : ∀ i dv, gt ds' i = some dv → isO dv = true → ∃ dv0, gt ds i = some dv0 ∧ isO dv0 = true
  dom : ∀ a, H a ≠ none → H' a ≠ none
section
variable {K : PySem.W.Frag} {c : C0} {pa : Nat → Addr} {G H G' H' G2 H2 : Hp} {σ : L2.St} {ds ds' ds2 : DS}
theorem Stp.refl (E : Env K c pa G H σ ds) : Stp K c pa σ G H ds G H ds := ⟨E, fun _ _ q => q, fun _ _ h _ => ⟨h, rfl⟩, fun _ dv h o => ⟨dv, h, o⟩, fun _ h => h⟩
theorem Stp.trans (a : Stp K c pa σ G H ds G' H' ds') (b : Stp K c pa σ G' H' ds' G2 H2 ds2) : Stp K c pa σ G H ds G2 H2 ds2 where
  env := b.env
  sg := a.sg.trans b.sg
  fr := fun x o h n => by
    obtain ⟨h1, g1⟩ := a.fr x o h n
    obtain ⟨h2, g2⟩ := b.fr x o h1 fun i dv q oo => by
      obtain ⟨dv0, q0, o0⟩ := a.sub i dv q oo
      exact n i dv0 q0 o0
    exact ⟨h2, g2.trans g1⟩
  sub := fun i dv h o => by
    obtain ⟨d1, h1, o1⟩ := b.sub i dv h o
    exact a.sub i d1 h1 o1
  dom := fun x h => b.dom x (a.dom x h)
/-- a new object -/
theorem Stp.new (E : Env K c pa G H σ ds) {p : Addr} {o : HO} (h : H p = none) : Stp K c pa σ G H ds (upd G p o) (upd H p o) ds :=
  ⟨(E.new h).1, (E.new h).2, fun a u q _ => ⟨by rw [upd_ne (ne_of_none q h)]; exact q, by rw [upd_ne (ne_of_none q h)]⟩, fun _ dv h o => ⟨dv, h, o⟩, fun a q => by
    have n : a ≠ p := fun e => by
      rw [e] at q
      exact q h
    rw [upd_ne n]
    exact q⟩
theorem Stp.newOwn (E : Env K c pa G H σ ds) {p : Addr} {vs : List V} {xs : List D} (h : H p = none) (r : Reps K G xs vs) : Stp K c pa σ G H ds G (upd H p (.lst vs)) ds ∧ Tmp K c pa G (upd H p (.lst vs)) ds p xs :=
  ⟨⟨(E.newOwn h r).1, fun _ _ q => q, fun a u q _ => ⟨by rw [upd_ne (ne_of_none q h)]; exact q, rfl⟩, fun _ dv h o => ⟨dv, h, o⟩, fun a q => by
    have n : a ≠ p := fun e => by
      rw [e] at q
      exact q h
    rw [upd_ne n]
    exact q⟩, (E.newOwn h r).2⟩
/-- a list that was made and that no slot holds stands still from here on -/
theorem Stp.freeze {p : Addr} {xs : List D} (S : Stp K c pa σ G H ds G' H' ds') (t : Tmp K c pa G' H' ds' p xs) (h : H p = none) : ∃ G2, Stp K c pa σ G H ds G2 H' ds' ∧ Rep K G2 (.lst xs) (.ref p) := by
  obtain ⟨vs, h1, h2⟩ := t.here
  refine ⟨upd G' p (.lst vs), ⟨S.env.still h1 t.g t.h0 t.ne, S.sg.trans (same_new t.g), fun a o q n => ?_, S.sub, S.dom⟩, p, vs, rfl, SqL.of upd_same, h2.mono (same_new t.g)⟩
  obtain ⟨e1, e2⟩ := S.fr a o q n
  exact ⟨e1, by rw [upd_ne (ne_of_none q h)]; exact e2⟩
/-- such a list stays as it is meanwhile -/
theorem Tmp.stay {p : Addr} {xs : List D} (t : Tmp K c pa G H ds p xs) (S : Stp K c pa σ G H ds G' H' ds') : Tmp K c pa G' H' ds' p xs := by
  obtain ⟨vs, h1, h2⟩ := t.here
  obtain ⟨e1, e2⟩ := S.fr p _ h1 fun i dv h o e => t.ne i dv h o e.symm
  refine ⟨e2.trans t.g, t.h0, ⟨vs, e1, h2.mono S.sg⟩, fun i dv h o => ?_⟩
  obtain ⟨d0, h0, o0⟩ := S.sub i dv h o
  exact t.ne i d0 h0 o0
end
/-- how an exception lies: its class, its own dict -/
structure ExcAt (K : PySem.W.Frag) (G H : Hp) (e : DX) (cls : Value) (d : Option Addr) : Prop where
  cls : cls = .ref e.cls
  fs : ∃ (dd : Addr) (vs : List V), d = some dd ∧ H dd = some (.xd ((e.fs.map (·.1)).zip vs)) ∧ Reps K G (e.fs.map (·.2)) vs
/-- every exception that is told is what the reading wants of exceptions -/
def XOk (K : PySem.W.Frag) (c : C0) (W : WX) (xk : XKd) : Prop := ∀ e ds, xk e ds → ∀ pa G H σ cls d, Env K c pa G H σ ds → ExcAt K G H e cls d → W cls d σ H

def EW (K : PySem.W.Frag) (W : WX) (te : TE) (w : WE) : Prop := ∀ (c : C0) pa G H σ ds xk (kk : D → DS → Prop) (Q : VK), Env K c pa G H σ ds → w xk ds kk → XOk K c W xk →
  (∀ v G' H' d ds', kk d ds' → Stp K c pa σ G H ds G' H' ds' → Rep K G' d v → Q v H') → te σ H Q
def EO (K : PySem.W.Frag) (W : WX) (te : TE) (w : WO) : Prop := ∀ (c : C0) pa G H σ ds xk (kk : List D → DS → Prop) (Q : VK), Env K c pa G H σ ds → w xk ds kk → XOk K c W xk →
  (∀ p G' H' xs ds', kk xs ds' → Stp K c pa σ G H ds G' H' ds' → Tmp K c pa G' H' ds' p xs → H p = none → Q (.ref p) H') → te σ H Q
def TW (K : PySem.W.Frag) (W : WX) (tt : TT) (w : WT) : Prop := ∀ (c : C0) pa G H σ ds xk (kk : Bool → DS → Prop) (Q : Bool → Hp → Prop), Env K c pa G H σ ds → w xk ds kk → XOk K c W xk →
  (∀ b G' H' ds', kk b ds' → Stp K c pa σ G H ds G' H' ds' → Q b H') → tt σ H Q
def AW (K : PySem.W.Frag) (W : WX) (ta : TA) (as : List WE) : Prop := ∀ (c : C0) pa G H σ ds xk (kk : List D → DS → Prop) (Q : List V → Hp → Prop), Env K c pa G H σ ds → wArgs as xk ds kk → XOk K c W xk →
  (∀ vs G' H' l ds', kk l ds' → Stp K c pa σ G H ds G' H' ds' → Reps K G' l vs → l.length = as.length → Q vs H') → ta σ H Q
/-- an operation on values against one on data, nothing made -/
def RW2 (K : PySem.W.Frag) (r : R2) (f : B2) : Prop := ∀ (G H : Hp) (x y : V) (d e : D) (kk : D → Prop) (Q : VK), Same G H → Rep K G d x → Rep K G e y → f d e kk → (∀ z v, kk z → Rep K G z v → Q v H) → r x y H Q
def RW1 (K : PySem.W.Frag) (r : V → Hp → VK → Prop) (f : B1) : Prop := ∀ (G H : Hp) (x : V) (d : D) (kk : D → Prop) (Q : VK), Same G H → Rep K G d x → f d kk → (∀ z v, kk z → Rep K G z v → Q v H) → r x H Q
def RWC1 (K : PySem.W.Frag) (r : List V → Hp → VK → Prop) (f : B1) : Prop := ∀ (G H : Hp) (x : V) (d : D) (kk : D → Prop) (Q : VK), Same G H → Rep K G d x → f d kk → (∀ z v, kk z → Rep K G z v → Q v H) → r [x] H Q
def RWC2 (K : PySem.W.Frag) (r : List V → Hp → VK → Prop) (f : B2) : Prop := ∀ (G H : Hp) (x y : V) (d e : D) (kk : D → Prop) (Q : VK), Same G H → Rep K G d x → Rep K G e y → f d e kk → (∀ z v, kk z → Rep K G z v → Q v H) → r [x, y] H Q

section
variable {K : PySem.W.Frag} {W : WX} {ta tb te : TE} {a b : WE} {t u : TT} {wt wu : WT}

theorem ew_c {d : D} {v : V} (h : ∀ G, Rep K G d v) : EW K W (tC v) (wC d) := fun c pa G H σ ds xk kk Q E hw hx k => k v G H d ds hw (.refl E) (h G)
theorem ew_var (i : Nat) : EW K W (tVar i) (wVar i) := fun c pa G H σ ds xk kk Q E hw hx k => by
  have hw : (match gt ds i with
    | some (.val d) => kk d ds
    | some (.own xs) => kk (.lst xs) (st ds i (.val (.lst xs)))
    | _ => False) := hw
  cases e : gt ds i with
  | none => rw [e] at hw; exact hw.elim
  | some dv =>
    rw [e] at hw
    cases dv with
    | val d =>
      obtain ⟨v, e1, r⟩ := E.val e
      exact ⟨v, e1, k v G H d ds hw (.refl E) r⟩
    | par xs => exact hw.elim
    | own xs =>
      obtain ⟨e1, g, h0, vs, e2, r⟩ := E.sl i _ e
      have hl := gt_lt e
      -- from here on it stands still
      refine ⟨.ref (pa i), e1, ?_⟩
      have ne : ∀ j dv, gt (er ds i) j = some dv → isO dv = true → pa j ≠ pa i := fun j dv q o => by
        rw [gt_er] at q
        by_cases hj : j = i
        · rw [if_pos hj] at q
          cases q
        · rw [if_neg hj] at q
          exact E.inj j i dv _ q e o rfl hj
      have E1 := (E.drop i).still e2 g h0 ne
      have sg : Same G (upd G (pa i) (.lst vs)) := same_new g
      have rr : Rep K (upd G (pa i) (.lst vs)) (.lst xs) (.ref (pa i)) := ⟨pa i, vs, rfl, SqL.of upd_same, r.mono sg⟩
      have E2 := E1.setVal (v := .ref (pa i)) (d := .lst xs) i rr
      have es : σ.set i (some (.ref (pa i))) = σ := List.ext_getElem? fun j => by
        by_cases hj : i = j
        · subst hj
          rw [E.len] at hl
          rw [List.getElem?_set_self hl, e1]
        · rw [set_get hj]
      have ed : st (er ds i) i (.val (.lst xs)) = st ds i (.val (.lst xs)) := by
        have z : ∀ (l : DS) (j : Nat) (d : DV), st (er l j) j d = st l j d := by
          intro l
          induction l with
          | nil => intro j d; rfl
          | cons x r ih =>
            intro j d
            cases j with
            | zero => rfl
            | succ j =>
              show x :: st (er r j) j d = x :: st r j d
              rw [ih]
        exact z ds i _
      rw [es, ed] at E2
      refine k _ _ H _ _ hw ⟨E2, sg, fun a o q n => ⟨q, by rw [upd_ne (n i _ e rfl)]⟩, fun j dv q o => ?_, fun _ q => q⟩ rr
      rw [gt_st] at q
      by_cases hj : j = i ∧ i < ds.length
      · rw [if_pos hj] at q
        have q : DV.val (.lst xs) = dv := Option.some.inj q
        subst q
        cases o
      · rw [if_neg hj] at q
        exact ⟨dv, q, o⟩
theorem ew_op {r : R2} {f : B2} (hr : RW2 K r f) (ha : EW K W ta a) (hb : EW K W tb b) : EW K W (tOp r ta tb) (wBin f a b) := fun c pa G H σ ds xk kk Q E hw hx k => by
  refine ha c pa G H σ ds xk _ _ E hw hx fun x G1 H1 d ds1 q S1 r1 => ?_
  refine hb c pa G1 H1 σ ds1 xk _ _ S1.env q hx fun y G2 H2 e ds2 q2 S2 r2 => ?_
  exact hr G2 H2 x y d e _ Q S2.env.ex (r1.mono S2.sg) r2 q2 fun z v hz rz => k v G2 H2 z ds2 hz (S1.trans S2) rz
theorem ew_un {r : V → Hp → VK → Prop} {f : B1} (hr : RW1 K r f) (ha : EW K W ta a) : EW K W (tUn r ta) (wUn f a) := fun c pa G H σ ds xk kk Q E hw hx k => by
  refine ha c pa G H σ ds xk _ _ E hw hx fun x G1 H1 d ds1 q S1 r1 => ?_
  exact hr G1 H1 x d _ Q S1.env.ex r1 q fun z v hz rz => k v G1 H1 z ds1 hz S1 rz
theorem aw_nil : AW K W tNil [] := fun c pa G H σ ds xk kk Q E hw hx k => k [] G H [] ds hw (.refl E) rfl rfl
theorem aw_cons {tr : TA} {r : List WE} (ha : EW K W ta a) (hr : AW K W tr r) : AW K W (tCons ta tr) (a :: r) := fun c pa G H σ ds xk kk Q E hw hx k => by
  refine ha c pa G H σ ds xk _ _ E hw hx fun x G1 H1 d ds1 q S1 r1 => ?_
  refine hr c pa G1 H1 σ ds1 xk _ _ S1.env q hx fun vs G2 H2 l ds2 q2 S2 r2 l2 => ?_
  exact k (x :: vs) G2 H2 (d :: l) ds2 q2 (S1.trans S2) ⟨x, vs, rfl, r1.mono S2.sg, r2⟩ (by rw [List.length_cons, List.length_cons, l2])
theorem ew_tup {t : TA} {as : List WE} (h : AW K W t as) (hl : as.length ≤ 100000 := by decide) : EW K W (tTup t) (wTup as) := fun c pa G H σ ds xk kk Q E hw hx k => by
  refine h c pa G H σ ds xk (fun l ds1 => kk (.tup l) ds1) _ E hw hx fun vs G1 H1 l ds1 q S1 r1 l1 => ?_
  refine ⟨?_, fun p hp => ?_⟩
  · rw [← r1.len, l1]
    exact Nat.le_trans hl (by decide)
  · have S2 := Stp.new S1.env (o := .tup vs) hp
    exact k _ _ _ _ _ q (S1.trans S2) ⟨p, vs, rfl, SqT.of upd_same, r1.mono S2.sg⟩
theorem eo_lst {t : TA} {as : List WE} (h : AW K W t as) (hl : as.length ≤ 100000 := by decide) : EO K W (tLst t) (wLst as) := fun c pa G H σ ds xk kk Q E hw hx k => by
  refine h c pa G H σ ds xk (fun l ds1 => kk l ds1) _ E hw hx fun vs G1 H1 l ds1 q S1 r1 l1 => ?_
  refine ⟨?_, fun p hp => ?_⟩
  · rw [← r1.len, l1]
    exact Nat.le_trans hl (by decide)
  · obtain ⟨S2, t2⟩ := Stp.newOwn S1.env hp r1
    refine k _ _ _ _ _ q (S1.trans S2) t2 ?_
    cases z : H p with
    | none => rfl
    | some o => exact absurd hp (S1.dom p (by rw [z]; exact fun y => nomatch y))
theorem ew_frz {o : WO} (h : EO K W te o) : EW K W te (wFrz o) := fun c pa G H σ ds xk kk Q E hw hx k => by
  refine h c pa G H σ ds xk _ _ E hw hx fun p G1 H1 xs ds1 q S1 t1 n1 => ?_
  obtain ⟨G2, S2, r2⟩ := S1.freeze t1 n1
  exact k _ _ _ _ _ q S2 r2
/-! ### the own list in a slot -/
theorem own_ref {c : C0} {pa : Nat → Addr} {G H : Hp} {σ : L2.St} {ds : DS} (E : Env K c pa G H σ ds) {i : Nat} {xs : List D} (h : listAt ds i = some xs) : σ[i]? = some (some (.ref (pa i))) := by
  obtain ⟨_, _, _, _, q, _⟩ := E.lst h
  exact q
theorem listAt_some {ds : DS} {i : Nat} {P : List D → Prop} (h : match listAt ds i with | some xs => P xs | none => False) : ∃ xs, listAt ds i = some xs ∧ P xs := by
  cases e : listAt ds i with
  | none => rw [e] at h; exact h.elim
  | some xs => rw [e] at h; exact ⟨xs, rfl, h⟩
/-! ### choices -/
theorem ew_if (ht : TW K W t wt) (ha : EW K W ta a) (hb : EW K W tb b) : EW K W (tIf t ta tb) (wIf wt a b) := fun c pa G H σ ds xk kk Q E hw hx k => by
  refine ht c pa G H σ ds xk _ _ E hw hx fun v G1 H1 ds1 q S1 => ?_
  cases v with
  | true =>
    rw [if_pos rfl] at q ⊢
    exact ha c pa G1 H1 σ ds1 xk _ _ S1.env q hx fun x G2 H2 d ds2 q2 S2 r2 => k x G2 H2 d ds2 q2 (S1.trans S2) r2
  | false =>
    rw [if_neg Bool.false_ne_true] at q ⊢
    exact hb c pa G1 H1 σ ds1 xk _ _ S1.env q hx fun x G2 H2 d ds2 q2 S2 r2 => k x G2 H2 d ds2 q2 (S1.trans S2) r2
theorem bl_some {d : D} {P : Bool → Prop} (h : match d with | .bl c => P c | _ => False) : ∃ c, d = .bl c ∧ P c := by
  cases d with
  | bl c => exact ⟨c, rfl, h⟩
  | _ => exact h.elim
theorem ew_and (ha : EW K W ta a) (hb : EW K W tb b) : EW K W (tAndV ta tb) (wAndV a b) := fun c pa G H σ ds xk kk Q E hw hx k => by
  refine ha c pa G H σ ds xk _ _ E hw hx fun x G1 H1 d ds1 q S1 r1 => ?_
  obtain ⟨v, rfl, q'⟩ := bl_some q
  have q : if v = true then b xk ds1 kk else kk (.bl false) ds1 := q'
  have r1 : x = .bl v := r1
  refine ⟨v, r1, ?_⟩
  cases v with
  | true =>
    rw [if_pos rfl] at q ⊢
    exact hb c pa G1 H1 σ ds1 xk _ _ S1.env q hx fun x G2 H2 d ds2 q2 S2 r2 => k x G2 H2 d ds2 q2 (S1.trans S2) r2
  | false =>
    rw [if_neg Bool.false_ne_true] at q ⊢
    exact k _ _ _ _ _ q S1 rfl
theorem ew_or (ha : EW K W ta a) (hb : EW K W tb b) : EW K W (tOrV ta tb) (wOrV a b) := fun c pa G H σ ds xk kk Q E hw hx k => by
  refine ha c pa G H σ ds xk _ _ E hw hx fun x G1 H1 d ds1 q S1 r1 => ?_
  obtain ⟨v, rfl, q'⟩ := bl_some q
  have q : if v = true then kk (.bl true) ds1 else b xk ds1 kk := q'
  have r1 : x = .bl v := r1
  refine ⟨v, r1, ?_⟩
  cases v with
  | true =>
    rw [if_pos rfl] at q ⊢
    exact k _ _ _ _ _ q S1 rfl
  | false =>
    rw [if_neg Bool.false_ne_true] at q ⊢
    exact hb c pa G1 H1 σ ds1 xk _ _ S1.env q hx fun x G2 H2 d ds2 q2 S2 r2 => k x G2 H2 d ds2 q2 (S1.trans S2) r2
theorem ew_not (ha : EW K W ta a) : EW K W (tNotV ta) (wNotV a) := fun c pa G H σ ds xk kk Q E hw hx k => by
  refine ha c pa G H σ ds xk _ _ E hw hx fun x G1 H1 d ds1 q S1 r1 => ?_
  obtain ⟨v, rfl, q⟩ := bl_some q
  have r1 : x = .bl v := r1
  exact ⟨v, r1, k _ _ _ _ _ q S1 rfl⟩
/-! ### tests -/
theorem tw_tst (ha : EW K W ta a) : TW K W (tTest ta) (wTst a) := fun c pa G H σ ds xk kk Q E hw hx k => by
  refine ha c pa G H σ ds xk _ _ E hw hx fun x G1 H1 d ds1 q S1 r1 => ?_
  obtain ⟨v, rfl, q⟩ := bl_some q
  have r1 : x = .bl v := r1
  exact ⟨v, r1, k _ _ _ _ q S1⟩
theorem tw_b (ha : EW K W ta a) : TW K W (tB ta) (wTst a) := tw_tst ha
theorem tw_yes : TW K W tYes wYes := fun c pa G H σ ds xk kk Q E hw hx k => k true G H ds hw (.refl E)
theorem tw_and (ha : TW K W t wt) (hb : TW K W u wu) : TW K W (tAnd t u) (wAnd wt wu) := fun c pa G H σ ds xk kk Q E hw hx k => by
  refine ha c pa G H σ ds xk _ _ E hw hx fun v G1 H1 ds1 q S1 => ?_
  cases v with
  | true =>
    rw [if_pos rfl] at q ⊢
    exact hb c pa G1 H1 σ ds1 xk _ _ S1.env q hx fun x G2 H2 ds2 q2 S2 => k x G2 H2 ds2 q2 (S1.trans S2)
  | false =>
    rw [if_neg Bool.false_ne_true] at q ⊢
    exact k _ _ _ _ q S1
theorem tw_or (ha : TW K W t wt) (hb : TW K W u wu) : TW K W (tOr t u) (wOr wt wu) := fun c pa G H σ ds xk kk Q E hw hx k => by
  refine ha c pa G H σ ds xk _ _ E hw hx fun v G1 H1 ds1 q S1 => ?_
  cases v with
  | true =>
    rw [if_pos rfl] at q ⊢
    exact k _ _ _ _ q S1
  | false =>
    rw [if_neg Bool.false_ne_true] at q ⊢
    exact hb c pa G1 H1 σ ds1 xk _ _ S1.env q hx fun x G2 H2 ds2 q2 S2 => k x G2 H2 ds2 q2 (S1.trans S2)
theorem tw_not (ha : TW K W t wt) : TW K W (tNot t) (wNot wt) := fun c pa G H σ ds xk kk Q E hw hx k => by
  refine ha c pa G H σ ds xk _ _ E hw hx fun v G1 H1 ds1 q S1 => ?_
  exact k _ _ _ _ q S1
/-! ### built-ins of values -/
theorem ew_cb1 {r : List V → Hp → VK → Prop} {f : B1} (hr : RWC1 K r f) (ha : EW K W ta a) : EW K W (tCB r (tCons ta tNil)) (wUn f a) := fun c pa G H σ ds xk kk Q E hw hx k => by
  refine ha c pa G H σ ds xk _ _ E hw hx fun x G1 H1 d ds1 q S1 r1 => ?_
  exact hr G1 H1 x d _ Q S1.env.ex r1 q fun z v hz rz => k v G1 H1 z ds1 hz S1 rz
theorem ew_cb2 {r : List V → Hp → VK → Prop} {f : B2} (hr : RWC2 K r f) (ha : EW K W ta a) (hb : EW K W tb b) : EW K W (tCB r (tCons ta (tCons tb tNil))) (wBin f a b) := fun c pa G H σ ds xk kk Q E hw hx k => by
  refine ha c pa G H σ ds xk _ _ E hw hx fun x G1 H1 d ds1 q S1 r1 => ?_
  refine hb c pa G1 H1 σ ds1 xk _ _ S1.env q hx fun y G2 H2 e ds2 q2 S2 r2 => ?_
  exact hr G2 H2 x y d e _ Q S2.env.ex (r1.mono S2.sg) r2 q2 fun z v hz rz => k v G2 H2 z ds2 hz (S1.trans S2) rz
end
end DW

/-! DwD: own lists, calls, targets, statements, loops, comprehensions. -/
namespace DW
open PySem PySem.Spec PyProof.Rows L2

/-! ### promises over data as promises over the heap -/
def ArgOk (K : PySem.W.Frag) (G H : Hp) (p : Addr) (o : Option V) : DV → Prop
  | .val d => ∃ v, o = some v ∧ Rep K G d v
  | .par xs => o = some (.ref p) ∧ G p = none ∧ ∃ vs, H p = some (.lst vs) ∧ Reps K G xs vs
  | .own _ => False
structure Args (K : PySem.W.Frag) (G H : Hp) (pa : Nat → Addr) (vs : List V) (dvs : List DV) : Prop where
  len : dvs.length = vs.length
  here : ∀ i dv, dvs[i]? = some dv → ArgOk K G H (pa i) vs[i]? dv
  inj : ∀ (i j : Nat) xs ys, dvs[i]? = some (.par xs) → dvs[j]? = some (.par ys) → i ≠ j → pa i ≠ pa j
/-- behind a call: what stood stands, the lent lists have new items -/
structure Back (K : PySem.W.Frag) (G H G' H' : Hp) (pa : Nat → Addr) (dvs dvs' : List DV) : Prop where
  ex : Same G' H'
  gg : Same G G'
  gf : ∀ a, H a ≠ none → G' a = G a
  fr : ∀ a o, H a = some o → (∀ i xs, dvs[i]? = some (.par xs) → a ≠ pa i) → H' a = some o
  dom : ∀ a, H a ≠ none → H' a ≠ none
  pars : ∀ (i : Nat) xs, dvs[i]? = some (.par xs) → ∃ ys, dvs'[i]? = some (.par ys) ∧ ∃ ws, H' (pa i) = some (.lst ws) ∧ Reps K G' ys ws
def Res (K : PySem.W.Frag) (H G' H' : Hp) (v : V) : DV → Prop
  | .val d => Rep K G' d v
  | .own xs => ∃ p, v = .ref p ∧ H p = none ∧ G' p = none ∧ ∃ vs, H' p = some (.lst vs) ∧ Reps K G' xs vs
  | .par _ => False
def spOf (K : PySem.W.Frag) (fs : FS) : Sp := fun vs H Q E => ∃ (G : Hp) (pa : Nat → Addr) (dvs : List DV) (kk : Out → List DV → Prop), Same G H ∧ Args K G H pa vs dvs ∧ fs dvs kk ∧
  (∀ v r dvs' G' H', kk (.ret r) dvs' → Back K G H G' H' pa dvs dvs' → Res K H G' H' v r → Q v H') ∧
  (∀ e cls d dvs' G' H', kk (.exc e) dvs' → Back K G H G' H' pa dvs dvs' → ExcAt K G' H' e cls d → E cls d H')
theorem spOf_len {K : PySem.W.Frag} {fs : FS} {n : Nat} (h : ∀ dvs kk, fs dvs kk → dvs.length = n) : ∀ vs H Q E, spOf K fs vs H Q E → vs.length = n := fun vs H Q E ⟨G, pa, dvs, kk, _, ha, hf, _⟩ => ha.len.symm.trans (h dvs kk hf)

/-- the arguments of a call: data, own lists -/
def ArgV (K : PySem.W.Frag) (G : Hp) (pa : Nat → Addr) : AV → V → Prop
  | .v d, v => Rep K G d v
  | .s i, v => v = .ref (pa i)
def ArgVs (K : PySem.W.Frag) (G : Hp) (pa : Nat → Addr) : List AV → List V → Prop
  | [], vs => vs = []
  | a :: as, vs => ∃ x xs, vs = x :: xs ∧ ArgV K G pa a x ∧ ArgVs K G pa as xs
theorem ArgVs.mono {K : PySem.W.Frag} {G G' : Hp} {pa : Nat → Addr} (s : Same G G') : ∀ {as : List AV} {vs : List V}, ArgVs K G pa as vs → ArgVs K G' pa as vs
  | [], _, h => h
  | a :: as, vs, h => by
    obtain ⟨x, xs, e, h1, h2⟩ := h
    refine ⟨x, xs, e, ?_, ArgVs.mono s h2⟩
    cases a with
    | v d => exact Rep.mono s (show Rep K G d x from h1)
    | s i => exact h1
theorem ArgVs.len {K : PySem.W.Frag} {G : Hp} {pa : Nat → Addr} : ∀ {as : List AV} {vs : List V}, ArgVs K G pa as vs → as.length = vs.length
  | [], vs, h => by
    have h : vs = [] := h
    rw [h]
    rfl
  | a :: as, vs, h => by
    obtain ⟨x, xs, e, h1, h2⟩ := h
    rw [e, List.length_cons, List.length_cons, ArgVs.len h2]
def CAW (K : PySem.W.Frag) (W : WX) (ta : TA) (as : List DA) : Prop := ∀ (c : C0) pa G H σ ds xk (kk : List AV → DS → Prop) (Q : List V → Hp → Prop), Env K c pa G H σ ds → wCArgs as xk ds kk → XOk K c W xk →
  (∀ vs G' H' l ds', kk l ds' → Stp K c pa σ G H ds G' H' ds' → ArgVs K G' pa l vs → Q vs H') → ta σ H Q
section
variable {K : PySem.W.Frag} {W : WX} {ta tb te : TE} {a b : WE} {t u : TT} {wt wu : WT}
theorem isSome_at {ds : DS} {i : Nat} (h : (listAt ds i).isSome = true) : ∃ xs, listAt ds i = some xs := by
  cases e : listAt ds i with
  | none => rw [e] at h; cases h
  | some xs => exact ⟨xs, rfl⟩
theorem ca_nil : CAW K W tNil [] := fun c pa G H σ ds xk kk Q E hw hx k => k [] G H [] ds hw (.refl E) rfl
theorem ca_v {tr : TA} {r : List DA} (ha : EW K W ta a) (hr : CAW K W tr r) : CAW K W (tCons ta tr) (.v a :: r) := fun c pa G H σ ds xk kk Q E hw hx k => by
  refine ha c pa G H σ ds xk _ _ E hw hx fun x G1 H1 d ds1 q S1 r1 => ?_
  refine hr c pa G1 H1 σ ds1 xk _ _ S1.env q hx fun vs G2 H2 l ds2 q2 S2 r2 => ?_
  exact k (x :: vs) G2 H2 (.v d :: l) ds2 q2 (S1.trans S2) ⟨x, vs, rfl, Rep.mono S2.sg r1, r2⟩
theorem ca_s {i : Nat} {tr : TA} {r : List DA} (hr : CAW K W tr r) : CAW K W (tCons (tVar i) tr) (.s i :: r) := fun c pa G H σ ds xk kk Q E hw hx k => by
  obtain ⟨h1, h2⟩ := hw
  obtain ⟨xs, hxs⟩ := isSome_at h1
  refine ⟨.ref (pa i), own_ref E hxs, ?_⟩
  refine hr c pa G H σ ds xk _ _ E h2 hx fun vs G2 H2 l ds2 q2 S2 r2 => ?_
  exact k (.ref (pa i) :: vs) G2 H2 (.s i :: l) ds2 q2 S2 ⟨_, vs, rfl, rfl, r2⟩
/-- where the slots stand among the arguments -/
theorem argDv_at {ds : DS} : ∀ {as : List AV} {dvs : List DV}, argDv ds as = some dvs → dvs.length = as.length ∧ (∀ (j : Nat) d, as[j]? = some (.v d) → dvs[j]? = some (.val d)) ∧
    ∀ (j : Nat) i, as[j]? = some (.s i) → ∃ xs, listAt ds i = some xs ∧ dvs[j]? = some (.par xs)
  | [], dvs, h => by
    have h : ([] : List DV) = dvs := Option.some.inj h
    rw [← h]
    exact ⟨rfl, fun j d q => by simp at q, fun j i q => by simp at q⟩
  | .v d0 :: r, dvs, h => by
    have h : (argDv ds r).map (DV.val d0 :: ·) = some dvs := h
    cases e : argDv ds r with
    | none => rw [e] at h; cases h
    | some q =>
      rw [e] at h
      have h : DV.val d0 :: q = dvs := Option.some.inj h
      obtain ⟨h1, h2, h3⟩ := argDv_at e
      rw [← h]
      refine ⟨by rw [List.length_cons, List.length_cons, h1], fun j d z => ?_, fun j i z => ?_⟩
      · cases j with
        | zero =>
          have z : AV.v d0 = AV.v d := Option.some.inj z
          injection z with z
          rw [z]
          rfl
        | succ j => exact h2 j d z
      · cases j with
        | zero => cases (show AV.v d0 = AV.s i from Option.some.inj z)
        | succ j => exact h3 j i z
  | .s i0 :: r, dvs, h => by
    have h : (match listAt ds i0 with | some xs => (argDv ds r).map (DV.par xs :: ·) | none => none) = some dvs := h
    cases e0 : listAt ds i0 with
    | none => rw [e0] at h; cases h
    | some xs =>
      rw [e0] at h
      have h : (argDv ds r).map (DV.par xs :: ·) = some dvs := h
      cases e : argDv ds r with
      | none => rw [e] at h; cases h
      | some q =>
        rw [e] at h
        have h : DV.par xs :: q = dvs := Option.some.inj h
        obtain ⟨h1, h2, h3⟩ := argDv_at e
        rw [← h]
        refine ⟨by rw [List.length_cons, List.length_cons, h1], fun j d z => ?_, fun j i z => ?_⟩
        · cases j with
          | zero => cases (show AV.s i0 = AV.v d from Option.some.inj z)
          | succ j => exact h2 j d z
        · cases j with
          | zero =>
            have z : AV.s i0 = AV.s i := Option.some.inj z
            injection z with z
            rw [← z]
            exact ⟨xs, e0, rfl⟩
          | succ j => exact h3 j i z
theorem slots_mem : ∀ {as : List AV} {j i : Nat}, as[j]? = some (.s i) → i ∈ slotsOf as
  | [], j, i, h => by simp at h
  | .v d :: r, 0, i, h => by cases (show AV.v d = AV.s i from Option.some.inj h)
  | .v d :: r, j + 1, i, h => slots_mem (as := r) (j := j) h
  | .s i0 :: r, 0, i, h => by
    have z : AV.s i0 = AV.s i := Option.some.inj h
    injection z with z
    rw [z]
    exact List.mem_cons_self
  | .s i0 :: r, j + 1, i, h => List.mem_cons_of_mem _ (slots_mem (as := r) (j := j) h)
theorem slots_inj : ∀ {as : List AV} {j j' i : Nat}, (slotsOf as).Nodup → as[j]? = some (.s i) → as[j']? = some (.s i) → j = j'
  | [], j, j', i, _, h, _ => by simp at h
  | .v d :: r, 0, _, i, _, h, _ => by cases (show AV.v d = AV.s i from Option.some.inj h)
  | .v d :: r, _ + 1, 0, i, _, _, h => by cases (show AV.v d = AV.s i from Option.some.inj h)
  | .v d :: r, j + 1, j' + 1, i, n, h, h' => by rw [slots_inj (as := r) n h h']
  | .s i0 :: r, 0, 0, i, _, _, _ => rfl
  | .s i0 :: r, 0, j' + 1, i, n, h, h' => by
    have z : AV.s i0 = AV.s i := Option.some.inj h
    injection z with z
    have n : (i0 :: slotsOf r).Nodup := n
    exact absurd (z ▸ slots_mem (as := r) (j := j') h') (List.nodup_cons.mp n).1
  | .s i0 :: r, j + 1, 0, i, n, h, h' => by
    have z : AV.s i0 = AV.s i := Option.some.inj h'
    injection z with z
    have n : (i0 :: slotsOf r).Nodup := n
    exact absurd (z ▸ slots_mem (as := r) (j := j) h) (List.nodup_cons.mp n).1
  | .s i0 :: r, j + 1, j' + 1, i, n, h, h' => by
    have n : (i0 :: slotsOf r).Nodup := n
    rw [slots_inj (as := r) (List.nodup_cons.mp n).2 h h']
theorem slots_ix : ∀ {as : List AV} {i : Nat}, i ∈ slotsOf as → ∃ j : Nat, as[j]? = some (AV.s i)
  | [], i, h => by simp [slotsOf] at h
  | .v d :: r, i, h => by
    obtain ⟨j, e⟩ := slots_ix (as := r) h
    exact ⟨j + 1, e⟩
  | .s i0 :: r, i, h => by
    rcases List.mem_cons.mp (show i ∈ i0 :: slotsOf r from h) with e | h
    · exact ⟨0, by rw [e]; rfl⟩
    · obtain ⟨j, e⟩ := slots_ix (as := r) h
      exact ⟨j + 1, e⟩
theorem len_backs : ∀ (as : List AV) (vs : List DV) (ds : DS), (backs ds as vs).length = ds.length
  | [], vs, ds => by cases vs <;> rfl
  | .v d :: r, [], ds => rfl
  | .s i :: r, [], ds => rfl
  | .v d :: r, q :: vs, ds => len_backs r vs ds
  | .s i :: r, .par ys :: vs, ds => by
    show (backs (refill ds i ys) r vs).length = _
    rw [len_backs r vs, len_refill]
  | .s i :: r, .val _ :: vs, ds => len_backs r vs ds
  | .s i :: r, .own _ :: vs, ds => len_backs r vs ds
theorem refill_at {ds : DS} {i j : Nat} {ys : List D} (h : j ≠ i) : gt (refill ds i ys) j = gt ds j := by
  rw [gt_refill]
  cases gt ds j with
  | none => rfl
  | some dv => cases dv <;> simp only [if_neg h]
theorem refill_cong {ds ds' : DS} {i : Nat} {ys : List D} (h : gt ds i = gt ds' i) : gt (refill ds i ys) i = gt (refill ds' i ys) i := by
  rw [gt_refill, gt_refill, h]
/-- what the slots hold behind a call -/
theorem backs_out : ∀ (as : List AV) (vs : List DV) (ds : DS) (i : Nat), i ∉ slotsOf as → gt (backs ds as vs) i = gt ds i
  | [], vs, ds, i, _ => by cases vs <;> rfl
  | .v d :: r, [], ds, i, _ => rfl
  | .s i0 :: r, [], ds, i, _ => rfl
  | .v d :: r, q :: vs, ds, i, h => backs_out r vs ds i h
  | .s i0 :: r, .par ys :: vs, ds, i, h => by
    have h : i ∉ i0 :: slotsOf r := h
    have n : i ≠ i0 := fun e => h (e ▸ List.mem_cons_self)
    have m : i ∉ slotsOf r := fun e => h (List.mem_cons_of_mem _ e)
    show gt (backs (refill ds i0 ys) r vs) i = _
    rw [backs_out r vs _ i m, refill_at n]
  | .s i0 :: r, .val _ :: vs, ds, i, h => backs_out r vs ds i fun e => h (List.mem_cons_of_mem _ e)
  | .s i0 :: r, .own _ :: vs, ds, i, h => backs_out r vs ds i fun e => h (List.mem_cons_of_mem _ e)
theorem backs_in : ∀ (as : List AV) (vs : List DV) (ds : DS) (i j : Nat) (ys : List D), (slotsOf as).Nodup → as[j]? = some (.s i) → vs[j]? = some (.par ys) → gt (backs ds as vs) i = gt (refill ds i ys) i
  | [], vs, ds, i, j, ys, _, h, _ => by simp at h
  | _ :: _, [], ds, i, j, ys, _, _, h => by simp at h
  | .v d :: r, q :: vs, ds, i, 0, ys, _, h, _ => by cases (show AV.v d = AV.s i from Option.some.inj h)
  | .v d :: r, q :: vs, ds, i, j + 1, ys, n, h, h' => backs_in r vs ds i j ys n h h'
  | .s i0 :: r, .par zs :: vs, ds, i, 0, ys, n, h, h' => by
    have z : AV.s i0 = AV.s i := Option.some.inj h
    injection z with z
    subst z
    have z : DV.par zs = DV.par ys := Option.some.inj h'
    injection z with z
    subst z
    have n : (i0 :: slotsOf r).Nodup := n
    show gt (backs (refill ds i0 zs) r vs) i0 = _
    rw [backs_out r vs _ i0 (List.nodup_cons.mp n).1]
  | .s i0 :: r, .par zs :: vs, ds, i, j + 1, ys, n, h, h' => by
    have n : (i0 :: slotsOf r).Nodup := n
    have ne : i ≠ i0 := fun e => (List.nodup_cons.mp n).1 (e ▸ slots_mem (as := r) (j := j) h)
    show gt (backs (refill ds i0 zs) r vs) i = _
    rw [backs_in r vs _ i j ys (List.nodup_cons.mp n).2 h h']
    exact refill_cong (refill_at ne)
  | .s i0 :: r, .val _ :: vs, ds, i, 0, ys, n, h, h' => by cases (Option.some.inj h' : DV.val _ = DV.par ys)
  | .s i0 :: r, .own _ :: vs, ds, i, 0, ys, n, h, h' => by cases (Option.some.inj h' : DV.own _ = DV.par ys)
  | .s i0 :: r, .val _ :: vs, ds, i, j + 1, ys, n, h, h' => by
    have n : (i0 :: slotsOf r).Nodup := n
    exact backs_in r vs ds i j ys (List.nodup_cons.mp n).2 h h'
  | .s i0 :: r, .own _ :: vs, ds, i, j + 1, ys, n, h, h' => by
    have n : (i0 :: slotsOf r).Nodup := n
    exact backs_in r vs ds i j ys (List.nodup_cons.mp n).2 h h'
theorem argDv_par {ds : DS} {as : List AV} {dvs : List DV} {j : Nat} {xs : List D} {more : List D} (h : argDv ds as = some dvs) (e : (dvs ++ more.map DV.val)[j]? = some (.par xs)) : ∃ i, as[j]? = some (AV.s i) ∧ listAt ds i = some xs := by
  obtain ⟨h1, h2, h3⟩ := argDv_at h
  by_cases hj : j < dvs.length
  · rw [List.getElem?_append_left hj] at e
    rw [h1] at hj
    cases ea : as[j]? with
    | none => exact absurd (List.getElem?_eq_none_iff.mp ea) (by omega)
    | some av =>
      cases av with
      | v d =>
        rw [h2 j d ea] at e
        cases (Option.some.inj e : DV.val d = DV.par xs)
      | s i =>
        obtain ⟨ys, e1, e2⟩ := h3 j i ea
        rw [e2] at e
        have z : DV.par ys = DV.par xs := Option.some.inj e
        injection z with z
        exact ⟨i, rfl, by rw [e1, z]⟩
  · rw [List.getElem?_append_right (by omega), List.getElem?_map] at e
    cases q : more[j - dvs.length]? with
    | none => rw [q] at e; cases e
    | some d =>
      rw [q] at e
      cases (Option.some.inj e : DV.val d = DV.par xs)
def padr (pa : Nat → Addr) (as : List AV) (j : Nat) : Addr := match as[j]? with | some (.s i) => pa i | _ => 0
theorem padr_s {pa : Nat → Addr} {as : List AV} {j i : Nat} (h : as[j]? = some (AV.s i)) : padr pa as j = pa i := by
  unfold padr
  rw [h]
theorem Env.called {c : C0} {pa : Nat → Addr} {G H G' H' : Hp} {σ : L2.St} {ds : DS} {as : List AV} {dvs dvs' : List DV} {more : List D} (E : Env K c pa G H σ ds) (ha : argDv ds as = some dvs) (nd : (slotsOf as).Nodup)
    (B : Back K G H G' H' (padr pa as) (dvs ++ more.map DV.val) dvs') : Stp K c pa σ G H ds G' H' (backs ds as dvs') := by
  obtain ⟨a1, a2, a3⟩ := argDv_at ha
  have par_of : ∀ (j : Nat) i, as[j]? = some (AV.s i) → ∃ xs, listAt ds i = some xs ∧ (dvs ++ more.map DV.val)[j]? = some (.par xs) := fun j i e => by
    obtain ⟨xs, e1, e2⟩ := a3 j i e
    exact ⟨xs, e1, by rw [List.getElem?_append_left (List.getElem?_eq_some_iff.mp e2).1]; exact e2⟩
  have back : ∀ i dv, gt (backs ds as dvs') i = some dv → isO dv = true → ∃ d0, gt ds i = some d0 ∧ isO d0 = true := fun i dv h o => by
    by_cases hi : i ∈ slotsOf as
    · obtain ⟨j, ej⟩ := slots_ix hi
      obtain ⟨xs, e1, _⟩ := par_of j i ej
      obtain ⟨d0, g1, g2, _⟩ := E.lst e1
      exact ⟨d0, g1, g2⟩
    · rw [backs_out as dvs' ds i hi] at h
      exact ⟨dv, h, o⟩
  refine ⟨⟨B.ex, fun a o h w => ?_, fun a h => B.dom a (E.dom a h), E.ge.trans B.gg, fun a h => (B.gf a (E.dom a h)).trans (E.gf a h), by rw [len_backs]; exact E.len, fun i dv h => ?_, fun i j dv dv' h h' o o' n => ?_, fun i zs h => ?_⟩, B.gg,
    fun a o h n => ⟨B.fr a o h fun j xs e q => ?_, B.gf a (by rw [h]; exact fun z => nomatch z)⟩, back, B.dom⟩
  · refine B.fr a o (E.fr a o h w) fun j xs e q => ?_
    obtain ⟨i, e1, e2⟩ := argDv_par ha e
    rw [padr_s e1] at q
    obtain ⟨_, _, _, _, _, _, h6, _⟩ := E.lst e2
    rw [q] at h w
    rcases h6 with z | z
    · rw [z] at h; cases h
    · exact w z
  · by_cases hi : i ∈ slotsOf as
    · obtain ⟨j, ej⟩ := slots_ix hi
      obtain ⟨xs, e1, e2⟩ := par_of j i ej
      obtain ⟨ys, y1, ws, y2, y3⟩ := B.pars j xs e2
      rw [padr_s ej] at y2
      rw [backs_in as dvs' ds i j ys nd ej y1, gt_refill] at h
      obtain ⟨d0, g1, g2, g3, g4, g5, g6, _⟩ := E.lst e1
      have gn : G' (pa i) = none := (B.gf _ (E.ownNe g1 g2)).trans g5
      have s0 := E.sl i d0 g1
      rw [g1] at h
      rcases g3 with z | z
      · subst z
        simp only [if_true] at h
        have h := Option.some.inj h
        subst h
        obtain ⟨s1, s2, s3, _⟩ := s0
        exact ⟨s1, gn, s3, ws, y2, y3⟩
      · subst z
        simp only [if_true] at h
        have h := Option.some.inj h
        subst h
        obtain ⟨s1, s2, s3, _⟩ := s0
        exact ⟨s1, gn, s3, ws, y2, y3⟩
    · rw [backs_out as dvs' ds i hi] at h
      have s := E.sl i dv h
      have away : isO dv = true → ∀ o, H (pa i) = some o → H' (pa i) = some o := fun o w hw => B.fr _ w hw fun j xs e q => by
        obtain ⟨i', e1, e2⟩ := argDv_par ha e
        rw [padr_s e1] at q
        obtain ⟨d0, g1, g2, _⟩ := E.lst e2
        exact E.inj i i' dv d0 h g1 o g2 (fun z => hi (z ▸ slots_mem e1)) q
      cases dv with
      | val d =>
        obtain ⟨v, e1, r⟩ := s
        exact ⟨v, e1, r.mono B.gg⟩
      | own xs =>
        obtain ⟨s1, s2, s3, vs, s4, s5⟩ := s
        exact ⟨s1, (B.gf _ (by rw [s4]; exact fun z => nomatch z)).trans s2, s3, vs, away rfl _ s4, s5.mono B.gg⟩
      | par xs =>
        obtain ⟨s1, s2, s3, vs, s4, s5⟩ := s
        exact ⟨s1, (B.gf _ (by rw [s4]; exact fun z => nomatch z)).trans s2, s3, vs, away rfl _ s4, s5.mono B.gg⟩
  · obtain ⟨d1, e1, o1⟩ := back i dv h o
    obtain ⟨d2, e2, o2⟩ := back j dv' h' o'
    exact E.inj i j d1 d2 e1 e2 o1 o2 n
  · by_cases hi : i ∈ slotsOf as
    · obtain ⟨j, ej⟩ := slots_ix hi
      obtain ⟨xs, e1, e2⟩ := par_of j i ej
      obtain ⟨ys, y1, _⟩ := B.pars j xs e2
      rw [backs_in as dvs' ds i j ys nd ej y1, gt_refill] at h
      obtain ⟨d0, g1, g2, g3, _⟩ := E.lst e1
      rw [g1] at h
      rcases g3 with z | z
      · subst z
        simp only [if_true] at h
        cases h
      · subst z
        exact E.ps i xs g1
    · rw [backs_out as dvs' ds i hi] at h
      exact E.ps i zs h
  · obtain ⟨i, e1, e2⟩ := argDv_par ha e
    rw [padr_s e1] at q
    obtain ⟨d0, g1, g2, _⟩ := E.lst e2
    exact n i d0 g1 g2 q
theorem ArgVs.get {G : Hp} {pa : Nat → Addr} : ∀ {as : List AV} {vs : List V} {j : Nat} {a : AV}, ArgVs K G pa as vs → as[j]? = some a → ∃ v, vs[j]? = some v ∧ ArgV K G pa a v
  | [], _, j, a, _, e => by simp at e
  | a0 :: r, vs, 0, a, h, e => by
    obtain ⟨x, xs, e1, h1, h2⟩ := h
    have e : a0 = a := Option.some.inj e
    rw [e1, ← e]
    exact ⟨x, rfl, h1⟩
  | a0 :: r, vs, j + 1, a, h, e => by
    obtain ⟨x, xs, e1, h1, h2⟩ := h
    rw [e1]
    exact ArgVs.get (j := j) h2 e
/-- the call's promise from the slots' word -/
theorem Env.args {c : C0} {pa : Nat → Addr} {G H : Hp} {σ : L2.St} {ds : DS} {as : List AV} {dvs : List DV} {more : List D} {vs mv : List V} (E : Env K c pa G H σ ds) (ha : argDv ds as = some dvs) (nd : (slotsOf as).Nodup)
    (hv : ArgVs K G pa as vs) (hm : Reps K G more mv) : Args K G H (padr pa as) (vs ++ mv) (dvs ++ more.map DV.val) := by
  obtain ⟨a1, a2, a3⟩ := argDv_at ha
  have lv := hv.len
  refine ⟨?_, fun j dv e => ?_, fun j j' xs ys e e' n => ?_⟩
  · rw [List.length_append, List.length_append, List.length_map, a1, lv, hm.len]
  · by_cases hj : j < dvs.length
    · rw [List.getElem?_append_left hj] at e
      have hj2 : j < as.length := by omega
      rw [List.getElem?_append_left (by omega)]
      have ea : as[j]? = some as[j] := List.getElem?_eq_getElem hj2
      obtain ⟨v, e1, r⟩ := hv.get ea
      cases q : as[j] with
      | v d =>
        rw [q] at ea r
        rw [a2 j d ea] at e
        have e : DV.val d = dv := Option.some.inj e
        rw [← e]
        exact ⟨v, e1, r⟩
      | s i =>
        rw [q] at ea r
        obtain ⟨xs, e2, e3⟩ := a3 j i ea
        rw [e3] at e
        have e : DV.par xs = dv := Option.some.inj e
        rw [← e]
        obtain ⟨_, _, _, _, _, g5, _, g7⟩ := E.lst e2
        have r : v = .ref (pa i) := r
        rw [padr_s ea]
        exact ⟨by rw [e1, r], g5, g7⟩
    · rw [List.getElem?_append_right (by omega), List.getElem?_map] at e
      rw [List.getElem?_append_right (by omega)]
      have es : j - dvs.length = j - vs.length := by omega
      cases q : more[j - dvs.length]? with
      | none => rw [q] at e; cases e
      | some d =>
        rw [q] at e
        have e : DV.val d = dv := Option.some.inj e
        rw [← e]
        obtain ⟨v, e1, r⟩ := hm.get q
        rw [es] at e1
        exact ⟨v, e1, r⟩
  · obtain ⟨i, e1, e2⟩ := argDv_par ha e
    obtain ⟨i', e1', e2'⟩ := argDv_par ha e'
    rw [padr_s e1, padr_s e1']
    obtain ⟨d0, g1, g2, _⟩ := E.lst e2
    obtain ⟨d0', g1', g2', _⟩ := E.lst e2'
    exact E.inj i i' d0 d0' g1 g1' g2 g2' fun z => n (slots_inj nd e1 (z ▸ e1'))
/-- a call, whatever it hands back -/
theorem call_core {fs : FS} {as : List DA} {more : List D} {mv : List V} {ta : TA} (h : CAW K W ta as) (hm : ∀ G, Reps K G more mv) {c : C0} {pa : Nat → Addr} {G H : Hp} {σ : L2.St} {ds : DS} {xk : XKd} {kk : DV → DS → Prop} {Q : VK}
    (E : Env K c pa G H σ ds) (hw : wCallB fs as more xk ds kk) (hx : XOk K c W xk)
    (k : ∀ v G' H' r ds' (H0 : Hp), kk r ds' → Stp K c pa σ G H ds G' H' ds' → Res K H0 G' H' v r → (∀ a, H a ≠ none → H0 a ≠ none) → (∀ a, c.H0 a ≠ none → H0 a ≠ none) → (∀ i dv, gt ds' i = some dv → isO dv = true → H0 (pa i) ≠ none) → Q v H') :
    tCallSD (spOf K fs) mv (L2.WE W) ta σ H Q := by
  refine h c pa G H σ ds xk _ _ E hw hx fun vs G1 H1 avs ds1 q S1 r1 => ?_
  have E1 := S1.env
  cases ea : argDv ds1 avs with
  | none => rw [ea] at q; exact q.elim
  | some dvs =>
    rw [ea] at q
    obtain ⟨nd, q⟩ := q
    refine ⟨G1, padr pa avs, dvs ++ more.map DV.val, _, E1.ex, E1.args ea nd r1 (hm G1), q, fun v r dvs' G' H' hk B R => ?_, fun e cls d dvs' G' H' hk B X => ?_⟩
    · refine k v G' H' r _ H1 hk (S1.trans (E1.called ea nd B)) R S1.dom E1.dom fun i dv hi o => ?_
      by_cases hm : i ∈ slotsOf avs
      · obtain ⟨j, ej⟩ := slots_ix hm
        obtain ⟨xs, e1, _⟩ := (argDv_at ea).2.2 j i ej
        obtain ⟨d0, g1, g2, _⟩ := E1.lst e1
        exact E1.ownNe g1 g2
      · rw [backs_out avs dvs' ds1 i hm] at hi
        exact E1.ownNe hi o
    · exact hx e _ hk pa G' H' σ cls d (E1.called ea nd B).env X
theorem dv_val {r : DV} {P : D → Prop} {P2 : List D → Prop} (h : match r with | .val d => P d | .own xs => P2 xs | .par _ => False) : (∃ d, r = .val d ∧ P d) ∨ ∃ xs, r = .own xs ∧ P2 xs := by
  cases r with
  | val d => exact .inl ⟨d, rfl, h⟩
  | own xs => exact .inr ⟨xs, rfl, h⟩
  | par _ => exact h.elim
theorem ew_call {fs : FS} {as : List DA} {more : List D} {mv : List V} {ta : TA} (h : CAW K W ta as) (hm : ∀ G, Reps K G more mv) : EW K W (tCallSD (spOf K fs) mv (L2.WE W) ta) (wCall fs as more) := fun c pa G H σ ds xk kk Q E hw hx k => by
  refine call_core h hm E hw hx fun v G' H' r ds' H0 q S R ha hd hn => ?_
  cases r with
  | val d => exact k v G' H' d ds' q S R
  | own xs =>
    obtain ⟨p, rfl, p0, p1, hp⟩ := R
    have t : Tmp K c pa G' H' ds' p xs := ⟨p1, by
      cases z : c.H0 p with
      | none => rfl
      | some o => exact absurd p0 (hd p (by rw [z]; exact fun z => nomatch z)), hp, fun i dv hi o z => hn i dv hi o (z ▸ p0)⟩
    obtain ⟨G2, S2, r2⟩ := S.freeze t (by
      cases z : H p with
      | none => rfl
      | some o => exact absurd p0 (ha p (by rw [z]; exact fun z => nomatch z)))
    exact k _ G2 H' _ ds' q S2 r2
  | par _ => exact q.elim
theorem eo_call {fs : FS} {as : List DA} {more : List D} {mv : List V} {ta : TA} (h : CAW K W ta as) (hm : ∀ G, Reps K G more mv) : EO K W (tCallSD (spOf K fs) mv (L2.WE W) ta) (wCallO fs as more) := fun c pa G H σ ds xk kk Q E hw hx k => by
  refine call_core h hm E hw hx fun v G' H' r ds' H0 q S R ha hd hn => ?_
  cases r with
  | val d => exact (show False from q).elim
  | own xs =>
    obtain ⟨p, rfl, p0, p1, hp⟩ := R
    have t : Tmp K c pa G' H' ds' p xs := ⟨p1, by
      cases z : c.H0 p with
      | none => rfl
      | some o => exact absurd p0 (hd p (by rw [z]; exact fun z => nomatch z)), hp, fun i dv hi o z => hn i dv hi o (z ▸ p0)⟩
    refine k p G' H' xs ds' q S t ?_
    cases z : H p with
    | none => rfl
    | some o => exact absurd p0 (ha p (by rw [z]; exact fun z => nomatch z))
  | par _ => exact (show False from q).elim
end
end DW

/-! DwE: targets, statements, loops, comprehensions. -/
namespace DW
open PySem PySem.Spec PyProof.Rows L2

/-! ### walking a list or a tuple, whichever it is -/
def iSeq (K : PySem.W.Frag) (tl : TE) : TI := fun σ H R => tl σ H fun x H1 => ∃ a, x = .ref a ∧ ((∃ xs, SqL K H1 a xs) ∧ R (Itl K a) H1 ∨ (∃ xs, SqT K H1 a xs) ∧ R (Itt K a) H1)
theorem pi_seq {X : Cx} {tg l : Expr} {tl : TE} (hl : PE X l tl) : PI X tg l (iSeq X.K tl) := ⟨fun pins s σ H R I hw => thn (hl.run pins s σ H _ I hw) fun v s1 hv => by
  obtain ⟨x, H1, I1, rx, a, ex, hq⟩ := hv
  rw [ex] at rx
  have ev : v = Value.ref a := rx
  rw [ev]
  have inew : ∀ (t' : Nat) (ob : Obj), Inv X pins σ H1 { s1 with heap := s1.heap.push ob, toks := t' } := fun t' ob => I1.kept (fun b u z => Heap.get?_push_of_some _ z)
  have own1 : ∀ b ∈ [s1.heap.objs.size], FpOk X pins H1 b := fun b hb => by
    rw [List.mem_singleton.mp hb]
    exact I1.fpOk (Nat.le_refl _) (I1.hok.fresh (Nat.le_refl _))
  rcases hq with ⟨⟨ys, hy⟩, hR⟩ | ⟨⟨ys, hy⟩, hR⟩
  · obtain ⟨its, _, pl, _⟩ := I1.list hy
    exact wpAny_pyIter_list pl.isList ⟨_, _, _, _, H1, rfl, inew _ _, turn_list a _, ⟨_, Heap.get?_push_size _ rfl, rfl, rfl⟩, own1, hR⟩
  · obtain ⟨its, _, pl, _⟩ := I1.tuple hy
    exact wpAny_pyIter_tuple (show s1.heap.IsTuple a its.toArray from pl) ⟨_, _, _, _, H1, rfl, inew _ _, turn_tuple a _, ⟨_, Heap.get?_push_size _ rfl, rfl, rfl⟩, own1, hR⟩⟩

/-! ### wiped slots -/
theorem wipe_at : ∀ (vs : List Nat) (σ : L2.St) (j : Nat), (wipe σ vs)[j]? = if j ∈ vs then σ[j]?.map (fun _ => none) else σ[j]?
  | [], σ, j => by
    rw [if_neg (by simp)]
    rfl
  | v :: vs, σ, j => by
    show ((wipe σ vs).set v none)[j]? = _
    by_cases hj : v = j
    · subst hj
      rw [if_pos List.mem_cons_self]
      cases e : σ[v]? with
      | none =>
        have hl : (wipe σ vs).length ≤ v := by rw [wipe_length]; exact List.getElem?_eq_none_iff.mp e
        rw [List.getElem?_eq_none_iff.mpr (by rw [List.length_set]; exact hl)]
        rfl
      | some o =>
        have hl : v < (wipe σ vs).length := by rw [wipe_length]; exact (List.getElem?_eq_some_iff.mp e).1
        rw [List.getElem?_set_self hl]
        rfl
    · rw [set_get hj, wipe_at vs σ j]
      by_cases hm : j ∈ vs
      · rw [if_pos hm, if_pos (List.mem_cons_of_mem _ hm)]
      · rw [if_neg hm, if_neg (fun z => (List.mem_cons.mp z).elim (fun e => hj e.symm) hm)]
theorem wipe_set {σ : L2.St} {vs : List Nat} {i : Nat} {o : Option V} (h : i ∈ vs) : wipe (σ.set i o) vs = wipe σ vs := List.ext_getElem? fun j => by
  rw [wipe_at, wipe_at]
  by_cases hj : j ∈ vs
  · rw [if_pos hj, if_pos hj]
    by_cases e : i = j
    · subst e
      cases q : σ[i]? with
      | none => rw [List.getElem?_eq_none_iff.mpr (by rw [List.length_set]; exact List.getElem?_eq_none_iff.mp q)]
      | some u => rw [List.getElem?_set_self (List.getElem?_eq_some_iff.mp q).1]; rfl
    · rw [set_get e]
  · have n : i ≠ j := fun e => by
      rw [e] at h
      exact hj h
    rw [if_neg hj, if_neg hj, set_get n]
theorem wipe_wipe {σ : L2.St} {vs : List Nat} : wipe (wipe σ vs) vs = wipe σ vs := List.ext_getElem? fun j => by
  rw [wipe_at, wipe_at]
  by_cases hj : j ∈ vs
  · rw [if_pos hj, if_pos hj, Option.map_map]
    rfl
  · rw [if_neg hj, if_neg hj]

/-! ### targets -/
mutual
def tgn : Tg → List Nat
  | .nm i => [i]
  | .tp ts => tgns ts
def tgns : List Tg → List Nat
  | [] => []
  | t :: ts => tgn t ++ tgns ts
end
def GW (K : PySem.W.Frag) (g : TG) (tg : Tg) : Prop := ∀ (c : C0) pa G H σ ds v d (kk : DS → Prop) (Q : L2.St → Hp → Prop), Env K c pa G H σ ds → Rep K G d v → tga tg d ds kk →
  (∀ σ' ds', kk ds' → Env K c pa G H σ' ds' → (∀ vs, (∀ i ∈ tgn tg, i ∈ vs) → wipe σ' vs = wipe σ vs) → (∀ i dv, gt ds' i = some dv → isO dv = true → gt ds i = some dv) → Q σ' H) → g v σ H Q
def GWs (K : PySem.W.Frag) (g : TGs) (ts : List Tg) : Prop := ∀ (c : C0) pa G H σ ds vs l (kk : DS → Prop) (Q : L2.St → Hp → Prop), Env K c pa G H σ ds → Reps K G l vs → tgas ts l ds kk →
  (∀ σ' ds', kk ds' → Env K c pa G H σ' ds' → (∀ vs, (∀ i ∈ tgns ts, i ∈ vs) → wipe σ' vs = wipe σ vs) → (∀ i dv, gt ds' i = some dv → isO dv = true → gt ds i = some dv) → Q σ' H) → g vs σ H Q
section
variable {K : PySem.W.Frag} {W : WX} {ta tb te : TE} {a b : WE} {t u : TT} {wt wu : WT} {o : WO} {g : TG} {tg : Tg}
theorem gw_nm {i : Nat} : GW K (gName i) (.nm i) := fun c pa G H σ ds v d kk Q E r h k =>
  k _ _ h (E.setVal i r) (fun vs hv => wipe_set (hv i (List.mem_singleton.mpr rfl))) fun j dv q o => by
    rw [gt_st] at q
    by_cases hj : j = i ∧ i < ds.length
    · rw [if_pos hj] at q
      have q : DV.val d = dv := Option.some.inj q
      subst q
      cases o
    · rw [if_neg hj] at q
      exact q
theorem gws_nil : GWs K gNil [] := fun c pa G H σ ds vs l kk Q E r h k => by
  cases l with
  | nil => exact ⟨r, k σ ds h E (fun _ _ => rfl) fun _ _ q _ => q⟩
  | cons d l => exact (show False from h).elim
theorem gws_cons {gs : TGs} {ts : List Tg} (h1 : GW K g tg) (h2 : GWs K gs ts) : GWs K (gCons g gs) (tg :: ts) := fun c pa G H σ ds vs l kk Q E r h k => by
  cases l with
  | nil => exact (show False from h).elim
  | cons d l =>
    obtain ⟨x, xs, e, r1, r2⟩ := r
    refine ⟨x, xs, e, h1 c pa G H σ ds x d _ _ E r1 h fun σ1 ds1 q E1 w1 n1 => h2 c pa G H σ1 ds1 xs l _ _ E1 r2 q fun σ2 ds2 q2 E2 w2 n2 => k σ2 ds2 q2 E2 (fun vs hv => ?_) fun i dv q o => n1 i dv (n2 i dv q o) o⟩
    rw [w2 vs fun i hi => hv i (List.mem_append_right _ hi), w1 vs fun i hi => hv i (List.mem_append_left _ hi)]
theorem tgas_len : ∀ {ts : List Tg} {l : List D} {ds : DS} {kk : DS → Prop}, tgas ts l ds kk → (∀ {t : Tg} {d : D} {ds : DS} {kk : DS → Prop}, tga t d ds kk → ∃ ds', kk ds') → l.length = ts.length
  | [], [], _, _, _, _ => rfl
  | [], _ :: _, _, _, h, _ => (show False from h).elim
  | _ :: _, [], _, _, h, _ => (show False from h).elim
  | t :: ts, d :: l, ds, kk, h, hh => by
    obtain ⟨ds1, q⟩ := hh (show tga t d ds (fun ds1 => tgas ts l ds1 kk) from h)
    rw [List.length_cons, List.length_cons, tgas_len q hh]
mutual
theorem tga_ex : ∀ {t : Tg} {d : D} {ds : DS} {kk : DS → Prop}, tga t d ds kk → ∃ ds', kk ds'
  | .nm i, d, ds, kk, h => ⟨_, h⟩
  | .tp ts, .tup xs, ds, kk, h => tgas_ex (ts := ts) h
  | .tp _, .non, _, _, h => h.elim
  | .tp _, .bl _, _, _, h => h.elim
  | .tp _, .int _, _, _, h => h.elim
  | .tp _, .str _, _, _, h => h.elim
  | .tp _, .lst _, _, _, h => h.elim
theorem tgas_ex : ∀ {ts : List Tg} {l : List D} {ds : DS} {kk : DS → Prop}, tgas ts l ds kk → ∃ ds', kk ds'
  | [], [], ds, kk, h => ⟨_, h⟩
  | [], _ :: _, _, _, h => (show False from h).elim
  | _ :: _, [], _, _, h => (show False from h).elim
  | t :: ts, d :: l, ds, kk, h => by
    obtain ⟨ds1, q⟩ := tga_ex (t := t) (show tga t d ds (fun ds1 => tgas ts l ds1 kk) from h)
    exact tgas_ex (ts := ts) q
end
theorem gw_tp {gs : TGs} {ts : List Tg} {n : Nat} (h : GWs K gs ts) (hn : ts.length = n := by rfl) : GW K (gTup K n gs) (.tp ts) := fun c pa G H σ ds v d kk Q E r hw k => by
  cases d with
  | tup xs =>
    obtain ⟨a, ys, e, h1, h2⟩ := r
    have hw : tgas ts xs ds kk := hw
    exact ⟨a, ys, e, Same.t E.ex h1, by rw [← h2.len, tgas_len hw tga_ex, hn], h c pa G H σ ds ys xs kk Q E h2 hw k⟩
  | _ => exact (show False from hw).elim

/-! ### statements -/
def ResS (K : PySem.W.Frag) (c : C0) (pa : Nat → Addr) (G H : Hp) (ds : DS) (v : V) : DV → Prop
  | .val d => Rep K G d v
  | .own xs => ∃ p, v = .ref p ∧ Tmp K c pa G H ds p xs
  | .par _ => False
structure EndsOk (K : PySem.W.Frag) (c : C0) (P : Post) (D : Ends) : Prop where
  nx : ∀ pa G H σ ds, P.nx ds → Env K c pa G H σ ds → D.nx σ H
  rt : ∀ pa G H σ ds v r, P.rt r ds → Env K c pa G H σ ds → ResS K c pa G H ds v r → D.rt v H
  bk : ∀ pa G H σ ds, P.bk ds → Env K c pa G H σ ds → D.bk σ H
  ct : ∀ pa G H σ ds, P.ct ds → Env K c pa G H σ ds → D.ct σ H
def SW (K : PySem.W.Frag) (W : WX) (ts : TS) (w : WS) : Prop := ∀ (c : C0) pa G H σ ds P D, Env K c pa G H σ ds → w ds P → XOk K c W P.x → EndsOk K c P D → ts D σ H
theorem sw_next : SW K W tNext wNext := fun c pa G H σ ds P D E hw hx he => he.nx pa G H σ ds hw E
theorem sw_seq {t1 t2 : TS} {w1 w2 : WS} (h1 : SW K W t1 w1) (h2 : SW K W t2 w2) : SW K W (tSeq t1 t2) (wSeq w1 w2) := fun c pa G H σ ds P D E hw hx he =>
  h1 c pa G H σ ds _ _ E hw hx ⟨fun pa G H σ ds q E => h2 c pa G H σ ds P D E q hx he, he.rt, he.bk, he.ct⟩
theorem sw_asg (h1 : EW K W te a) (h2 : GW K g tg) : SW K W (tAsg te g) (wAsg a tg) := fun c pa G H σ ds P D E hw hx he =>
  h1 c pa G H σ ds _ _ _ E hw hx fun v G1 H1 d ds1 q S1 r1 => h2 c pa G1 H1 σ ds1 v d _ _ S1.env r1 q fun σ2 ds2 q2 E2 _ _ => he.nx pa G1 H1 σ2 ds2 q2 E2
theorem sw_asgO {i : Nat} (h1 : EO K W te o) : SW K W (tAsg te (gName i)) (wAsgO o i) := fun c pa G H σ ds P D E hw hx he =>
  h1 c pa G H σ ds _ _ _ E hw hx fun p G1 H1 xs ds1 q S1 t1 n1 => he.nx _ G1 H1 _ _ q (S1.env.setOwn i t1)
theorem sw_par {i j : Nat} (h1 : EW K W ta a) (h2 : EW K W tb b) : SW K W (tPar i j (tCons ta (tCons tb tNil))) (wPar i j a b) := fun c pa G H σ ds P D E hw hx he =>
  h1 c pa G H σ ds _ _ _ E hw hx fun v G1 H1 d ds1 q S1 r1 => h2 c pa G1 H1 σ ds1 _ _ _ S1.env q hx fun w G2 H2 e ds2 q2 S2 r2 =>
    ⟨v, w, rfl, he.nx pa G2 H2 _ _ q2 ((S2.env.setVal i (r1.mono S2.sg)).setVal j r2)⟩
theorem sw_ret (h1 : EW K W te a) : SW K W (tRet te) (wRet a) := fun c pa G H σ ds P D E hw hx he =>
  h1 c pa G H σ ds _ _ _ E hw hx fun v G1 H1 d ds1 q S1 r1 => he.rt pa G1 H1 σ ds1 v _ q S1.env r1
theorem sw_retN : SW K W tRetN wRetN := fun c pa G H σ ds P D E hw hx he => he.rt pa G H σ ds .non _ hw E rfl
theorem sw_retO (h1 : EO K W te o) : SW K W (tRet te) (wRetO o) := fun c pa G H σ ds P D E hw hx he =>
  h1 c pa G H σ ds _ _ _ E hw hx fun p G1 H1 xs ds1 q S1 t1 n1 => he.rt pa G1 H1 σ ds1 _ _ q S1.env ⟨p, rfl, t1⟩
theorem sw_retS {i : Nat} : SW K W (tRet (tVar i)) (wRetS i) := fun c pa G H σ ds P D E hw hx he => by
  have hw : (match gt ds i with | some (.own xs) => P.rt (.own xs) (er ds i) | _ => False) := hw
  cases e : gt ds i with
  | none => rw [e] at hw; exact hw.elim
  | some dv =>
    rw [e] at hw
    cases dv with
    | own xs =>
      obtain ⟨e1, g, h0, hv⟩ := E.sl i _ e
      refine ⟨_, e1, he.rt pa G H σ _ _ _ hw (E.drop i) ⟨_, rfl, g, h0, hv, fun j dv q oo => ?_⟩⟩
      rw [gt_er] at q
      by_cases hj : j = i
      · rw [if_pos hj] at q
        cases q
      · rw [if_neg hj] at q
        exact E.inj j i dv _ q e oo rfl hj
    | _ => exact hw.elim
theorem sw_if {t1 t2 : TS} {w1 w2 : WS} (h : TW K W t wt) (h1 : SW K W t1 w1) (h2 : SW K W t2 w2) : SW K W (tIfS t t1 t2) (wIfS wt w1 w2) := fun c pa G H σ ds P D E hw hx he =>
  h c pa G H σ ds _ _ _ E hw hx fun v G1 H1 ds1 q S1 => by
    cases v with
    | true =>
      rw [if_pos rfl] at q ⊢
      exact h1 c pa G1 H1 σ ds1 P D S1.env q hx he
    | false =>
      rw [if_neg Bool.false_ne_true] at q ⊢
      exact h2 c pa G1 H1 σ ds1 P D S1.env q hx he
theorem sw_drop (h1 : EW K W te a) : SW K W (tDrop te) (wDrop a) := fun c pa G H σ ds P D E hw hx he =>
  h1 c pa G H σ ds _ _ _ E hw hx fun v G1 H1 d ds1 q S1 r1 => he.nx pa G1 H1 σ ds1 q S1.env
theorem sw_brk : SW K W tBreak wBrk := fun c pa G H σ ds P D E hw hx he => he.bk pa G H σ ds hw E
theorem sw_cont : SW K W tCont wCont := fun c pa G H σ ds P D E hw hx he => he.ct pa G H σ ds hw E
theorem sw_never {ts : TS} : SW K W ts wNever := fun c pa G H σ ds P D E hw hx he => hw.elim
theorem int_list {n : D} {m : Option (List D)} {P : Int → List D → Prop} (h : match n, m with | .int n, some xs => P n xs | _, _ => False) : ∃ i xs, n = .int i ∧ m = some xs ∧ P i xs := by
  cases n with
  | int i =>
    cases m with
    | none => exact h.elim
    | some xs => exact ⟨i, xs, rfl, rfl, h⟩
  | _ => exact h.elim
/-- xs[e] = v, the list in slot i -/
theorem sw_set {i : Nat} (h1 : EW K W ta a) (h2 : EW K W tb b) : SW K W (tAsg ta (gSub (tVar i) tb rSetL)) (wSet i b a) := fun c pa G H σ ds P D E hw hx he =>
  h1 c pa G H σ ds _ _ _ E hw hx fun v G1 H1 d ds1 q S1 r1 => by
    obtain ⟨q0, q⟩ := q
    obtain ⟨zs, hz⟩ := isSome_at q0
    refine ⟨_, own_ref S1.env hz, h2 c pa G1 H1 σ ds1 _ _ _ S1.env q hx fun y G2 H2 n ds2 q2 S2 r2 => ?_⟩
    obtain ⟨j, xs, rfl, hxs, ⟨j0, j1⟩, q2⟩ := int_list q2
    obtain ⟨_, _, _, _, _, _, _, vs, hh, rr⟩ := S2.env.lst hxs
    have r2 : y = .int j := r2
    refine ⟨pa i, vs, j, j.toNat, rfl, r2, hh, ?_, he.nx pa G2 _ σ _ q2 (S2.env.write hxs (rr.set j.toNat (r1.mono S2.sg)))⟩
    unfold ixN
    rw [if_pos j0, if_pos (by rw [← rr.len]; exact j1)]
/-- xs.append(v), the list in slot i -/
theorem sw_app {i : Nat} (h1 : EW K W ta a) : SW K W (tDrop (tBM K "list" rAppend (tVar i) (tCons ta tNil))) (wApp i a) := fun c pa G H σ ds P D E hw hx he => by
  obtain ⟨q0, hw⟩ := hw
  obtain ⟨zs, hz⟩ := isSome_at q0
  obtain ⟨_, _, _, _, _, _, _, vs0, hh0, _⟩ := E.lst hz
  refine ⟨_, own_ref E hz, .inl ⟨rfl, vs0, SqL.of hh0⟩, h1 c pa G H σ ds _ _ _ E hw hx fun v G1 H1 d ds1 q S1 r1 => ?_⟩
  obtain ⟨xs, hxs, hl, q⟩ := listAt_some q
  obtain ⟨_, _, _, _, _, _, _, vs, hh, rr⟩ := S1.env.lst hxs
  refine ⟨pa i, vs, v, rfl, rfl, hh, ?_, he.nx pa G1 _ σ _ q (S1.env.write hxs (rr.app r1))⟩
  rw [← rr.len]
  exact Nat.lt_of_lt_of_le hl (by decide)
theorem ew_ixO {i : Nat} (h : EW K W tb b) : EW K W (tOp (fun x y H Q => rIxL K x y H Q ∨ rIxT K x y H Q ∨ rIxS x y H Q) (tVar i) tb) (wIxO i b) := fun c pa G H σ ds xk kk Q E hw hx k => by
  obtain ⟨q0, hw⟩ := hw
  obtain ⟨zs, hz⟩ := isSome_at q0
  refine ⟨_, own_ref E hz, h c pa G H σ ds _ _ _ E hw hx fun y G1 H1 n ds1 q S1 r1 => ?_⟩
  obtain ⟨j, xs, rfl, hxs, q⟩ := int_list q
  obtain ⟨_, _, _, _, _, _, _, vs, hh, rr⟩ := S1.env.lst hxs
  have r1 : y = .int j := r1
  cases e : itemAt xs j with
  | none => rw [e] at q; exact q.elim
  | some z =>
    rw [e] at q
    obtain ⟨v, e1, rv⟩ := rr.item e
    exact .inl ⟨pa i, vs, j, v, rfl, r1, SqL.of hh, e1, k v G1 H1 z ds1 q S1 rv⟩
/-- len of the list in slot i -/
theorem ew_lenO {i : Nat} : EW K W (tCB (fun xs H Q => ∃ x n, xs = [x] ∧ LenV K x H n ∧ Q (.int n) H) (tCons (tVar i) tNil)) (wLenO i) := fun c pa G H σ ds xk kk Q E hw hx k => by
  obtain ⟨xs, hxs, q⟩ := listAt_some (P := fun xs => kk (.int xs.length) ds) hw
  obtain ⟨_, _, _, _, _, _, _, vs, hh, rr⟩ := E.lst hxs
  refine ⟨_, own_ref E hxs, _, vs.length, rfl, .inl ⟨vs, SqL.of hh, rfl⟩, k _ G H _ ds q (.refl E) ?_⟩
  show V.int vs.length = V.int xs.length
  rw [rr.len]
/-- x op= e -/
theorem sw_aug {i : Nat} {ti : TIp} {f : B2} (hf : RW2 K ti f) (h : EW K W te a) : SW K W (tAug i te ti) (wAug i f a) := fun c pa G H σ ds P D E hw hx he => by
  have hw : (match gt ds i with
    | some (.val u) => a P.x ds fun v ds1 => f u v fun z => P.nx (st ds1 i (.val z))
    | _ => False) := hw
  cases e : gt ds i with
  | none => rw [e] at hw; exact hw.elim
  | some dv =>
    rw [e] at hw
    cases dv with
    | val u =>
      obtain ⟨x, e1, r0⟩ := E.val e
      refine ⟨x, e1, h c pa G H σ ds _ _ _ E hw hx fun y G1 H1 v ds1 q S1 r1 => ?_⟩
      exact hf G1 H1 x y u v _ _ S1.env.ex (r0.mono S1.sg) r1 q fun z w hz rz => he.nx pa G1 H1 _ _ hz (S1.env.setVal i rz)
    | _ => exact hw.elim
/-! ### loops -/
theorem sw_while {tbd : TS} {wb : WS} (h : TW K W t wt) (hb : SW K W tbd wb) : SW K W (tWhile t tbd) (wWhile wt wb) := fun c pa G H σ ds P D E hw hx he => by
  obtain ⟨I, ⟨m0, h0⟩, hs⟩ := hw
  refine ⟨fun m σ H => ∃ pa G ds, I m ds ∧ Env K c pa G H σ ds, ⟨m0, pa, G, ds, h0, E⟩, fun m σ1 H1 ⟨pa1, G1, ds1, i1, E1⟩ => ?_⟩
  refine h c pa1 G1 H1 σ1 ds1 _ _ _ E1 (hs m ds1 i1) hx fun v G2 H2 ds2 q S2 => ?_
  cases v with
  | true =>
    rw [if_pos rfl] at q ⊢
    refine ⟨fun σ H => ∃ pa G ds, (∃ m', m' < m ∧ I m' ds) ∧ Env K c pa G H σ ds, fun σ' H' ⟨pa', G', ds', ⟨m', l, i'⟩, E'⟩ => ⟨m', l, pa', G', ds', i', E'⟩, ?_⟩
    exact hb c pa1 G2 H2 σ1 ds2 _ _ S2.env q hx ⟨fun pa G H σ ds q E => ⟨pa, G, ds, q, E⟩, he.rt, he.nx, fun pa G H σ ds q E => ⟨pa, G, ds, q, E⟩⟩
  | false =>
    rw [if_neg Bool.false_ne_true] at q ⊢
    exact he.nx pa1 G2 H2 σ1 ds2 q S2.env
theorem items_some {d : D} {P : List D → Prop} (h : match items d with | some xs => P xs | none => False) : ∃ xs, (d = .lst xs ∨ d = .tup xs) ∧ P xs := by
  cases d with
  | lst xs => exact ⟨xs, .inl rfl, h⟩
  | tup xs => exact ⟨xs, .inr rfl, h⟩
  | _ => exact (show False from h).elim
/-- the call's ground, what stands still by now taken in -/
def C0.at_ (c : C0) (G : Hp) : C0 := { c with G0 := G }
theorem Env.into {c : C0} {pa : Nat → Addr} {G H : Hp} {σ : L2.St} {ds : DS} (E : Env K c pa G H σ ds) : Env K (c.at_ G) pa G H σ ds := ⟨E.ex, E.fr, E.dom, fun _ _ q => q, fun _ _ => rfl, E.len, fun i dv h => by
  have s := E.sl i dv h
  cases dv <;> exact s, E.inj, E.ps⟩
theorem Env.out {c : C0} {pa pa' : Nat → Addr} {G G1 H H1 : Hp} {σ σ1 : L2.St} {ds ds1 : DS} (E : Env K c pa G H σ ds) (F : Env K (c.at_ G) pa' G1 H1 σ1 ds1) : Env K c pa' G1 H1 σ1 ds1 :=
  ⟨F.ex, F.fr, F.dom, E.ge.trans F.ge, fun a h => (F.gf a h).trans (E.gf a h), F.len, fun i dv h => by
    have s := F.sl i dv h
    cases dv <;> exact s, F.inj, F.ps⟩
theorem XOk.into {c : C0} {pa : Nat → Addr} {G H : Hp} {σ : L2.St} {ds : DS} {xk : XKd} (E : Env K c pa G H σ ds) (h : XOk K c W xk) : XOk K (c.at_ G) W xk := fun e ds q pa G1 H1 σ1 cls d F X => h e ds q pa G1 H1 σ1 cls d (E.out F) X
theorem EndsOk.into {c : C0} {pa : Nat → Addr} {G H : Hp} {σ : L2.St} {ds : DS} {P : Post} {D : Ends} (E : Env K c pa G H σ ds) (h : EndsOk K c P D) : EndsOk K (c.at_ G) P D where
  nx := fun pa G1 H1 σ1 ds1 q F => h.nx pa G1 H1 σ1 ds1 q (E.out F)
  bk := fun pa G1 H1 σ1 ds1 q F => h.bk pa G1 H1 σ1 ds1 q (E.out F)
  ct := fun pa G1 H1 σ1 ds1 q F => h.ct pa G1 H1 σ1 ds1 q (E.out F)
  rt := fun pa G1 H1 σ1 ds1 v r q F R => h.rt pa G1 H1 σ1 ds1 v r q (E.out F) (by
    cases r with
    | val d => exact R
    | own xs =>
      obtain ⟨p, e, t⟩ := R
      exact ⟨p, e, t.g, t.h0, t.here, t.ne⟩
    | par xs => exact R)
theorem sw_for {tbd : TS} {wb : WS} (h : EW K W te a) (hg : GW K g tg) (hb : SW K W tbd wb) : SW K W (tFor (iSeq K te) g tbd) (wFor a tg wb) := fun c pa G H σ ds P D E hw hx he =>
  h c pa G H σ ds _ _ _ E hw hx fun v G1 H1 d ds1 q S1 r1 => by
    obtain ⟨xs, hd, I, i0, is, ie⟩ := items_some q
    have E1 := S1.env
    have hx1 := hx.into E1
    have he1 := he.into E1
    have body : ∀ (vs : List V) (i : Nat) (x : V) (σ2 : L2.St) (H2 : Hp), Reps K G1 xs vs → vs[i]? = some x → (∃ pa G ds, I i ds ∧ Env K (c.at_ G1) pa G H2 σ2 ds) →
        g x σ2 H2 fun σ3 H3 => tbd { D with nx := fun σ H => ∃ pa G ds, I (i + 1) ds ∧ Env K (c.at_ G1) pa G H σ ds, ct := fun σ H => ∃ pa G ds, I (i + 1) ds ∧ Env K (c.at_ G1) pa G H σ ds, bk := D.nx } σ3 H3 := by
      rintro vs i x σ2 H2 rv ex ⟨pa2, G2, ds2, i2, E2⟩
      obtain ⟨d2, ed, rd⟩ := rv.gev ex
      refine hg _ pa2 G2 H2 σ2 ds2 x d2 _ _ E2 (rd.mono E2.ge) (is i d2 ds2 ed i2) fun σ3 ds3 q3 E3 _ _ => ?_
      exact hb _ pa2 G2 H2 σ3 ds3 _ _ E3 q3 hx1 ⟨fun pa G H σ ds q E => ⟨pa, G, ds, q, E⟩, he1.rt, he1.nx, fun pa G H σ ds q E => ⟨pa, G, ds, q, E⟩⟩
    have done : ∀ (vs : List V) (σ2 : L2.St) (H2 : Hp), Reps K G1 xs vs → (∃ pa G ds, I vs.length ds ∧ Env K (c.at_ G1) pa G H2 σ2 ds) → D.nx σ2 H2 := by
      rintro vs σ2 H2 rv ⟨pa2, G2, ds2, i2, E2⟩
      rw [← rv.len] at i2
      exact he1.nx pa2 G2 H2 σ2 ds2 (ie ds2 i2) E2
    rcases hd with z | z
    · subst z
      obtain ⟨p, vs, ev, hs, rv⟩ := r1
      refine ⟨p, ev, .inl ⟨⟨vs, L2.Same.seq E1.ex hs⟩, ?_⟩⟩
      exact for_list (xs := vs) (fun i σ H => ∃ pa G ds, I i ds ∧ Env K (c.at_ G1) pa G H σ ds) ⟨pa, G1, ds1, i0, E1.into⟩ (fun i σ2 H2 _ ⟨_, _, _, _, F⟩ => L2.Same.seq (F.ge.trans F.ex) hs)
        (fun i x σ2 H2 ex hp => body vs i x σ2 H2 rv ex hp) (fun σ2 H2 hp => done vs σ2 H2 rv hp)
    · subst z
      obtain ⟨p, vs, ev, hs, rv⟩ := r1
      refine ⟨p, ev, .inr ⟨⟨vs, Same.t E1.ex hs⟩, ?_⟩⟩
      exact for_tup (xs := vs) (fun i σ H => ∃ pa G ds, I i ds ∧ Env K (c.at_ G1) pa G H σ ds) ⟨pa, G1, ds1, i0, E1.into⟩ (fun i σ2 H2 _ ⟨_, _, _, _, F⟩ => Same.t (F.ge.trans F.ex) hs)
        (fun i x σ2 H2 ex hp => body vs i x σ2 H2 rv ex hp) (fun σ2 H2 hp => done vs σ2 H2 rv hp)
/-! ranges -/
theorem rangeD_at {lo hi : Int} {i : Nat} (h : i < (hi - lo).toNat) : (rangeD lo hi)[i]? = some (.int (lo + (i : Nat))) := by
  unfold rangeD
  rw [List.getElem?_map, List.getElem?_range h]
  rfl
theorem rangeD_len {lo hi : Int} : (rangeD lo hi).length = (hi - lo).toNat := by
  unfold rangeD
  rw [List.length_map, List.length_range]
theorem sw_range {tbd : TS} {wb : WS} {c : C0} {pa : Nat → Addr} {G H : Hp} {σ : L2.St} {ds : DS} {P : Post} {D : Ends} {lo hi : Int} (hg : GW K g tg) (hb : SW K W tbd wb) (E : Env K c pa G H σ ds) (hw : forI tg wb P (rangeD lo hi) ds) (hx : XOk K c W P.x) (he : EndsOk K c P D) :
    ∃ W : Nat → Nat → L2.St → Hp → Prop, (∃ m, W 0 m σ H) ∧ ∀ i m σ H, W i m σ H →
      ((Itr lo (hi - lo).toNat).stop i H ∧ D.nx σ H) ∨ ((Itr lo (hi - lo).toNat).go i H ∧ ∃ N : L2.St → Hp → Prop, (∀ σ' H', N σ' H' → ∃ m', m' < m ∧ W (i + 1) m' σ' H') ∧ ∀ x H', (Itr lo (hi - lo).toNat).yld i H x H' → g x σ H' fun σ2 H2 => tbd { D with nx := N, ct := N, bk := D.nx } σ2 H2) := by
  obtain ⟨I, i0, is, ie⟩ := hw
  refine for_range (lo := lo) (n := (hi - lo).toNat) (fun i σ H => ∃ pa G ds, I i ds ∧ Env K c pa G H σ ds) ⟨pa, G, ds, i0, E⟩ ?_ ?_
  · rintro i σ2 H2 hi ⟨pa2, G2, ds2, i2, E2⟩
    refine hg _ pa2 G2 H2 σ2 ds2 _ (.int (lo + (i : Nat))) _ _ E2 rfl (is i _ ds2 (rangeD_at hi) i2) fun σ3 ds3 q3 E3 _ _ => ?_
    exact hb _ pa2 G2 H2 σ3 ds3 _ _ E3 q3 hx ⟨fun pa G H σ ds q E => ⟨pa, G, ds, q, E⟩, he.rt, he.nx, fun pa G H σ ds q E => ⟨pa, G, ds, q, E⟩⟩
  · rintro σ2 H2 ⟨pa2, G2, ds2, i2, E2⟩
    rw [← rangeD_len (lo := lo) (hi := hi)] at i2
    exact he.nx pa2 G2 H2 σ2 ds2 (ie ds2 i2) E2
theorem sw_forR1 {tbd : TS} {wb : WS} (h : EW K W te a) (hg : GW K g tg) (hb : SW K W tbd wb) : SW K W (tFor (iRng1 (tCons te tNil)) g tbd) (wForR [a] tg wb) := fun c pa G H σ ds P D E hw hx he =>
  h c pa G H σ ds _ _ _ E hw hx fun v G1 H1 d ds1 q S1 r1 => by
    cases d with
    | int n =>
      obtain ⟨⟨_, h1, h2⟩, q⟩ := q
      have z := sw_range hg hb S1.env q hx he
      rw [Int.sub_zero] at z
      exact ⟨n, by rw [show v = V.int n from r1], h1, h2, z⟩
    | _ => exact (show False from q).elim
theorem sw_forR2 {tbd : TS} {wb : WS} (h : EW K W ta a) (h' : EW K W tb b) (hg : GW K g tg) (hb : SW K W tbd wb) : SW K W (tFor (iRng2 (tCons ta (tCons tb tNil))) g tbd) (wForR [a, b] tg wb) := fun c pa G H σ ds P D E hw hx he =>
  h c pa G H σ ds _ _ _ E hw hx fun v G1 H1 d ds1 q S1 r1 => h' c pa G1 H1 σ ds1 _ _ _ S1.env q hx fun v2 G2 H2 d2 ds2 q2 S2 r2 => by
    cases d with
    | int m =>
      cases d2 with
      | int n =>
        obtain ⟨⟨⟨h3, h4⟩, h1, h2⟩, q⟩ := q2
        exact ⟨m, n, by rw [show v = V.int m from r1, show v2 = V.int n from r2], ⟨h3, h4, h1, h2⟩, sw_range hg hb S2.env q hx he⟩
      | _ => exact (show False from q2).elim
    | _ => exact (show False from q2).elim
end
end DW

/-! DwF: comprehensions, operations, a def's body. -/
namespace DW
open PySem PySem.Spec PyProof.Rows L2

/-- nothing is wanted of exceptions: there are none -/
def Wn : WX := fun _ _ _ _ => False
section
variable {K : PySem.W.Frag} {W : WX} {ta tb te tx : TE} {a b e : WE} {t u : TT} {wt wu : WT} {o : WO} {g : TG} {tg : Tg}
theorem gt_ers {ds : DS} : ∀ (vs : List Nat) (i : Nat), gt (ers ds vs) i = if i ∈ vs then none else gt ds i
  | [], i => by
    rw [if_neg (by simp)]
    rfl
  | v :: vs, i => by
    show gt (er (ers ds vs) v) i = _
    rw [gt_er, gt_ers vs i]
    by_cases h : i = v
    · rw [if_pos h, if_pos (by rw [h]; exact List.mem_cons_self)]
    · by_cases h2 : i ∈ vs
      · rw [if_neg h, if_pos h2, if_pos (List.mem_cons_of_mem _ h2)]
      · rw [if_neg h, if_neg h2, if_neg (fun z => (List.mem_cons.mp z).elim h h2)]
theorem ers_len {ds : DS} : ∀ vs : List Nat, (ers ds vs).length = ds.length
  | [] => rfl
  | v :: vs => by
    show (er (ers ds vs) v).length = _
    rw [len_er, ers_len vs]
/-- the block's slots are its own: outside of it the slots are as they were -/
theorem Env.unwipe {c : C0} {pa : Nat → Addr} {G H : Hp} {σ : L2.St} {ds : DS} {vs : List Nat} (E : Env K c pa G H (wipe σ vs) (ers ds vs)) : Env K c pa G H σ (ers ds vs) := ⟨E.ex, E.fr, E.dom, E.ge, E.gf, by
    have := E.len
    rw [wipe_length] at this
    exact this, fun i dv h => by
    have s := E.sl i dv h
    rw [gt_ers] at h
    by_cases q : i ∈ vs
    · rw [if_pos q] at h
      cases h
    · rw [wipe_at, if_neg q] at s
      exact s, E.inj, E.ps⟩
/-- what one comprehension keeps between its turns -/
def CInv (K : PySem.W.Frag) (c : C0) (pa : Nat → Addr) (σ : L2.St) (vs : List Nat) (G0 H0 : Hp) (ds0 : DS) (I : Nat → List D → DS → Prop) (Dl : Addr) (i : Nat) (H : Hp) : Prop :=
  ∃ G ds acc, I i acc ds ∧ Stp K c pa (wipe σ vs) G0 H0 ds0 G H (ers ds vs) ∧ Tmp K c pa G H (ers ds vs) Dl acc
/-- a list that no slot holds is written -/
theorem Env.tmpWrite {c : C0} {pa : Nat → Addr} {G H : Hp} {σ : L2.St} {ds : DS} {p : Addr} {xs ys : List D} {ws : List V} (E : Env K c pa G H σ ds) (T : Tmp K c pa G H ds p xs) (r : Reps K G ys ws) :
    Env K c pa G (upd H p (.lst ws)) σ ds ∧ Tmp K c pa G (upd H p (.lst ws)) ds p ys := by
  refine ⟨⟨fun a o q => ?_, fun a o q w => ?_, fun a q => ?_, E.ge, E.gf, E.len, fun i dv h => ?_, E.inj, E.ps⟩, T.g, T.h0, ⟨ws, upd_same, r⟩, T.ne⟩
  · rw [upd_ne (ne_of_none q T.g)]
    exact E.ex a o q
  · rw [upd_ne (ne_of_none q T.h0)]
    exact E.fr a o q w
  · by_cases n : a = p
    · rw [n, upd_same]
      exact fun z => nomatch z
    · rw [upd_ne n]
      exact E.dom a q
  · have s := E.sl i dv h
    cases o : isO dv with
    | false =>
      cases dv with
      | val d => exact s
      | own _ => cases o
      | par _ => cases o
    | true =>
      have n : pa i ≠ p := T.ne i dv h o
      cases dv with
      | val d => exact s
      | own zs =>
        obtain ⟨s1, s2, s3, zvs, s4, s5⟩ := s
        exact ⟨s1, s2, s3, zvs, by rw [upd_ne n]; exact s4, s5⟩
      | par zs =>
        obtain ⟨s1, s2, s3, zvs, s4, s5⟩ := s
        exact ⟨s1, s2, s3, zvs, by rw [upd_ne n]; exact s4, s5⟩
theorem Tmp.less {c : C0} {pa : Nat → Addr} {G H : Hp} {ds ds' : DS} {p : Addr} {xs : List D} (T : Tmp K c pa G H ds p xs) (h : ∀ i dv, gt ds' i = some dv → isO dv = true → ∃ d0, gt ds i = some d0 ∧ isO d0 = true) : Tmp K c pa G H ds' p xs :=
  ⟨T.g, T.h0, T.here, fun i dv q o => by
    obtain ⟨d0, q0, o0⟩ := h i dv q o
    exact T.ne i d0 q0 o0⟩
theorem ers_less {ds : DS} {vs : List Nat} : ∀ i dv, gt (ers ds vs) i = some dv → isO dv = true → ∃ d0, gt ds i = some d0 ∧ isO d0 = true := fun i dv q o => by
  rw [gt_ers] at q
  by_cases h : i ∈ vs
  · rw [if_pos h] at q
    cases q
  · rw [if_neg h] at q
    exact ⟨dv, q, o⟩
/-- a turn of it -/
theorem comp_turn {c : C0} {pa : Nat → Addr} {σ : L2.St} {vs : List Nat} {G0 H0 : Hp} {ds0 : DS} {I : Nat → List D → DS → Prop} {Dl : Addr} {i : Nat} {H : Hp} {x : V} {d : D} {xk : XKd} (hg : GW K g tg) (ht : TW K Wn t wt) (he : EW K Wn te e) (hn : ∀ j ∈ tgn tg, j ∈ vs) (hx : XOk K c Wn xk)
    (hD : H0 Dl = none) (hi : CInv K c pa σ vs G0 H0 ds0 I Dl i H) (r : Rep K G0 d x)
    (hs : ∀ acc ds, I i acc ds → tga tg d (ers ds vs) fun ds1 => wt xk ds1 fun b ds2 => if b = true then e xk ds2 fun v ds3 => acc.length < 10000000 ∧ I (i + 1) (acc ++ [v]) ds3 else I (i + 1) acc ds2) :
    g x (wipe σ vs) H fun σ2 H2 => wipe σ2 vs = wipe σ vs ∧ t σ2 H2 fun b H3 =>
      if b = true then te σ2 H3 fun y H4 => ∃ acc, H4 Dl = some (.lst acc) ∧ acc.length < sizeLine ∧ CInv K c pa σ vs G0 H0 ds0 I Dl (i + 1) (upd H4 Dl (.lst (acc ++ [y]))) else CInv K c pa σ vs G0 H0 ds0 I Dl (i + 1) H3 := by
  obtain ⟨G, ds, acc, h1, S, T⟩ := hi
  refine hg c pa G H (wipe σ vs) (ers ds vs) x d _ _ S.env (r.mono S.sg) (hs acc ds h1) fun σ2 ds1 q1 E1 w1 n1 => ?_
  have ew : wipe σ2 vs = wipe σ vs := by
    rw [w1 vs hn, wipe_wipe]
  have T1 : Tmp K c pa G H ds1 Dl acc := T.less fun i dv q o => ⟨dv, n1 i dv q o, o⟩
  have close : ∀ {G5 H5 : Hp} {ds5 : DS}, Stp K c pa σ2 G H ds1 G5 H5 ds5 → Stp K c pa (wipe σ vs) G0 H0 ds0 G5 H5 (ers ds5 vs) := fun {G5 H5 ds5} S5 => by
    refine S.trans ⟨?_, S5.sg, fun a o q n => S5.fr a o q fun i dv h oo => n i dv (n1 i dv h oo) oo, fun i dv h o => ?_, S5.dom⟩
    · rw [← ew]
      exact S5.env.wipes vs
    · obtain ⟨d1, q1, o1⟩ := ers_less i dv h o
      obtain ⟨d2, q2, o2⟩ := S5.sub i d1 q1 o1
      exact ⟨d2, n1 i d2 q2 o2, o2⟩
  refine ⟨ew, ht c pa G H σ2 ds1 xk _ _ E1 q1 hx fun v G3 H3 ds2 q2 S2 => ?_⟩
  cases v with
  | false =>
    rw [if_neg Bool.false_ne_true] at q2 ⊢
    exact ⟨G3, ds2, acc, q2, close S2, (T1.stay S2).less ers_less⟩
  | true =>
    rw [if_pos rfl] at q2 ⊢
    refine he c pa G3 H3 σ2 ds2 xk _ _ S2.env q2 hx fun y G4 H4 z ds3 q3 S3 r3 => ?_
    have S4 := S2.trans S3
    have T4 := T1.stay S4
    obtain ⟨ws, hw, rw_⟩ := T4.here
    obtain ⟨hl, q3⟩ := q3
    refine ⟨ws, hw, ?_, G4, ds3, acc ++ [z], q3, ?_, ?_⟩
    · rw [← rw_.len]
      exact Nat.lt_of_lt_of_le hl (by decide)
    · have C := close S4
      have T5 : Tmp K c pa G4 H4 (ers ds3 vs) Dl acc := T4.less ers_less
      obtain ⟨E6, _⟩ := C.env.tmpWrite T5 (rw_.app r3)
      refine ⟨E6, C.sg, fun a o q n => ?_, C.sub, fun a q => ?_⟩
      · obtain ⟨e1, e2⟩ := C.fr a o q n
        exact ⟨by rw [upd_ne (ne_of_none q hD)]; exact e1, e2⟩
      · by_cases n : a = Dl
        · rw [n, upd_same]
          exact fun z => nomatch z
        · rw [upd_ne n]
          exact C.dom a q
    · exact ((close S4).env.tmpWrite (T4.less ers_less) (rw_.app r3)).2
/-- its beginning, its end -/
theorem comp_begin {c : C0} {pa : Nat → Addr} {G H : Hp} {σ : L2.St} {ds : DS} {vs : List Nat} {I : Nat → List D → DS → Prop} {Dl : Addr} (E : Env K c pa G H σ ds) (hD : H Dl = none) (h : I 0 [] (ers ds vs)) : CInv K c pa σ vs G H (ers ds vs) I Dl 0 (upd H Dl (.lst [])) := by
  have z : ers (ers ds vs) vs = ers ds vs := by
    have gg : ∀ (a b : DS), a.length = b.length → (∀ i, gt a i = gt b i) → a = b := by
      intro a
      induction a with
      | nil =>
        intro b hl _
        cases b with
        | nil => rfl
        | cons y b => simp at hl
      | cons x a ih =>
        intro b hl hh
        cases b with
        | nil => simp at hl
        | cons y b =>
          have e0 : x = y := hh 0
          rw [e0, ih b (by simpa using hl) fun i => hh (i + 1)]
    refine gg _ _ (by rw [ers_len]) fun i => ?_
    rw [gt_ers, gt_ers]
    by_cases hi : i ∈ vs
    · rw [if_pos hi, if_pos hi]
    · rw [if_neg hi]
  obtain ⟨S, T⟩ := Stp.newOwn (vs := []) (xs := []) (E.wipes vs) hD rfl
  exact ⟨G, ers ds vs, [], h, by rw [z]; exact S, by rw [z]; exact T⟩
theorem comp_done {c : C0} {pa : Nat → Addr} {G H H1 : Hp} {σ : L2.St} {ds : DS} {vs : List Nat} {I : Nat → List D → DS → Prop} {Dl : Addr} {n : Nat} {kk : List D → DS → Prop} {Q : VK} (E : Env K c pa G H σ ds) (hD : H Dl = none) (hi : CInv K c pa σ vs G H (ers ds vs) I Dl n H1)
    (he : ∀ acc ds, I n acc ds → kk acc (ers ds vs)) (k : ∀ p G' H' xs ds', kk xs ds' → Stp K c pa σ G H ds G' H' ds' → Tmp K c pa G' H' ds' p xs → H p = none → Q (.ref p) H') : Q (.ref Dl) H1 := by
  obtain ⟨G1, ds1, acc, h1, S, T⟩ := hi
  refine k Dl G1 H1 acc _ (he acc ds1 h1) ⟨S.env.unwipe, S.sg, fun a o q n => S.fr a o q fun i dv h oo => ?_, fun i dv h o => ?_, S.dom⟩ T hD
  · rw [gt_ers] at h
    by_cases hi : i ∈ vs
    · rw [if_pos hi] at h
      cases h
    · rw [if_neg hi] at h
      exact n i dv h oo
  · obtain ⟨d1, q1, o1⟩ := S.sub i dv h o
    exact ers_less i d1 q1 o1
/-- [e for g in src if t], src a list or a tuple -/
theorem eo_lc {vs : List Nat} (h : EW K W tx a) (hg : GW K g tg) (ht : TW K Wn t wt) (he : EW K Wn te e) (hn : ∀ j ∈ tgn tg, j ∈ vs := by decide) : EO K W (tLc (iSeq K tx) g t te vs) (wLc a tg vs wt e) := fun c pa G H σ ds xk kk Q E hw hx k => by
  refine h c pa G H σ ds xk _ _ E hw hx fun v G1 H1 d ds1 q S1 r1 => ?_
  obtain ⟨xs, hd, I, i0, is, ie⟩ := items_some q
  have E1 := S1.env
  have k1 : ∀ p G' H' xs ds', kk xs ds' → Stp K c pa σ G1 H1 ds1 G' H' ds' → Tmp K c pa G' H' ds' p xs → H1 p = none → Q (.ref p) H' := fun p G' H' xs ds' q S T n => k p G' H' xs ds' q (S1.trans S) T (by
    cases z : H p with
    | none => rfl
    | some o => exact absurd n (S1.dom p (by rw [z]; exact fun y => nomatch y)))
  rcases hd with z | z
  · subst z
    obtain ⟨p, ys, ev, hsq, rv⟩ := r1
    refine ⟨p, ev, .inl ⟨⟨ys, L2.Same.seq E1.ex hsq⟩, fun Dl hD => ?_⟩⟩
    refine lc_list (xs := ys) (CInv K c pa σ vs G1 H1 (ers ds1 vs) I Dl) (comp_begin E1 hD i0) (fun i H' _ ⟨G', ds', acc, _, S, _⟩ => L2.Same.seq (S.sg.trans S.env.ex) hsq) (fun i x H' ex hi => ?_) fun H' hi => comp_done E1 hD hi (fun acc ds h => ie acc ds (by rw [rv.len]; exact h)) k1
    obtain ⟨d2, ed, rd⟩ := rv.gev ex
    exact comp_turn hg ht he hn (fun _ _ z => z.elim) hD hi rd fun acc ds h => is i d2 acc ds ed h
  · subst z
    obtain ⟨p, ys, ev, hsq, rv⟩ := r1
    refine ⟨p, ev, .inr ⟨⟨ys, Same.t E1.ex hsq⟩, fun Dl hD => ?_⟩⟩
    refine lc_tup (xs := ys) (CInv K c pa σ vs G1 H1 (ers ds1 vs) I Dl) (comp_begin E1 hD i0) (fun i H' _ ⟨G', ds', acc, _, S, _⟩ => Same.t (S.sg.trans S.env.ex) hsq) (fun i x H' ex hi => ?_) fun H' hi => comp_done E1 hD hi (fun acc ds h => ie acc ds (by rw [rv.len]; exact h)) k1
    obtain ⟨d2, ed, rd⟩ := rv.gev ex
    exact comp_turn hg ht he hn (fun _ _ z => z.elim) hD hi rd fun acc ds h => is i d2 acc ds ed h
theorem comp_range {c : C0} {pa : Nat → Addr} {G H : Hp} {σ : L2.St} {ds : DS} {vs : List Nat} {lo hi : Int} {xk : XKd} {kk : List D → DS → Prop} {Q : VK} (hg : GW K g tg) (ht : TW K Wn t wt) (he : EW K Wn te e) (hn : ∀ j ∈ tgn tg, j ∈ vs) (hx : XOk K c Wn xk) (E : Env K c pa G H σ ds)
    (q : compI tg vs wt e xk (rangeD lo hi) ds kk) (k : ∀ p G' H' xs ds', kk xs ds' → Stp K c pa σ G H ds G' H' ds' → Tmp K c pa G' H' ds' p xs → H p = none → Q (.ref p) H') (Dl : Addr) (hD : H Dl = none) :
    ∃ W : Nat → Nat → Hp → Prop, (∃ m, W 0 m (upd H Dl (.lst []))) ∧ ∀ i m H, W i m H →
      ((Itr lo (hi - lo).toNat).stop i H ∧ Q (.ref Dl) H) ∨ ((Itr lo (hi - lo).toNat).go i H ∧ ∃ Nx : Hp → Prop, (∀ H', Nx H' → ∃ m', m' < m ∧ W (i + 1) m' H') ∧ ∀ x H', (Itr lo (hi - lo).toNat).yld i H x H' → g x (wipe σ vs) H' fun σ2 H2 => wipe σ2 vs = wipe σ vs ∧ t σ2 H2 fun b H3 =>
        if b = true then te σ2 H3 fun y H4 => ∃ acc, H4 Dl = some (.lst acc) ∧ acc.length < sizeLine ∧ Nx (upd H4 Dl (.lst (acc ++ [y]))) else Nx H3) := by
  obtain ⟨I, i0, is, ie⟩ := q
  refine lc_range (lo := lo) (n := (hi - lo).toNat) (CInv K c pa σ vs G H (ers ds vs) I Dl) (comp_begin E hD i0) (fun i H' hl hi => ?_) fun H' hi => comp_done E hD hi (fun acc ds h => ie acc ds (by rw [rangeD_len]; exact h)) k
  exact comp_turn (d := .int (lo + (i : Nat))) hg ht he hn hx hD hi rfl fun acc ds h => is i _ acc ds (rangeD_at hl) h
theorem eo_lcR1 {vs : List Nat} (h : EW K W tx a) (hg : GW K g tg) (ht : TW K Wn t wt) (he : EW K Wn te e) (hn : ∀ j ∈ tgn tg, j ∈ vs := by decide) : EO K W (tLc (iRng1 (tCons tx tNil)) g t te vs) (wLcR [a] tg vs wt e) := fun c pa G H σ ds xk kk Q E hw hx k => by
  refine h c pa G H σ ds xk _ _ E hw hx fun v G1 H1 d ds1 q S1 r1 => ?_
  have k1 : ∀ p G' H' xs ds', kk xs ds' → Stp K c pa σ G1 H1 ds1 G' H' ds' → Tmp K c pa G' H' ds' p xs → H1 p = none → Q (.ref p) H' := fun p G' H' xs ds' q S T n => k p G' H' xs ds' q (S1.trans S) T (by
    cases z : H p with
    | none => rfl
    | some o => exact absurd n (S1.dom p (by rw [z]; exact fun y => nomatch y)))
  cases d with
  | int n =>
    obtain ⟨⟨_, h1, h2⟩, q⟩ := q
    have z := comp_range hg ht he hn (fun _ _ z => z.elim) S1.env q k1
    rw [Int.sub_zero] at z
    exact ⟨n, by rw [show v = V.int n from r1], h1, h2, z⟩
  | _ => exact (show False from q).elim
theorem eo_lcR2 {vs : List Nat} (h : EW K W ta a) (h' : EW K W tb b) (hg : GW K g tg) (ht : TW K Wn t wt) (he : EW K Wn te e) (hn : ∀ j ∈ tgn tg, j ∈ vs := by decide) : EO K W (tLc (iRng2 (tCons ta (tCons tb tNil))) g t te vs) (wLcR [a, b] tg vs wt e) := fun c pa G H σ ds xk kk Q E hw hx k => by
  refine h c pa G H σ ds xk _ _ E hw hx fun v G1 H1 d ds1 q S1 r1 => ?_
  refine h' c pa G1 H1 σ ds1 xk _ _ S1.env q hx fun v2 G2 H2 d2 ds2 q2 S2 r2 => ?_
  have S := S1.trans S2
  have k1 : ∀ p G' H' xs ds', kk xs ds' → Stp K c pa σ G2 H2 ds2 G' H' ds' → Tmp K c pa G' H' ds' p xs → H2 p = none → Q (.ref p) H' := fun p G' H' xs ds' q S' T n => k p G' H' xs ds' q (S.trans S') T (by
    cases z : H p with
    | none => rfl
    | some o => exact absurd n (S.dom p (by rw [z]; exact fun y => nomatch y)))
  cases d with
  | int m =>
    cases d2 with
    | int n =>
      obtain ⟨⟨⟨h3, h4⟩, h1, h2⟩, q⟩ := q2
      exact ⟨m, n, by rw [show v = V.int m from r1, show v2 = V.int n from r2], ⟨h3, h4, h1, h2⟩, comp_range hg ht he hn (fun _ _ z => z.elim) S2.env q k1⟩
    | _ => exact (show False from q2).elim
  | _ => exact (show False from q2).elim

/-! ### operations -/
theorem int2 {f : D → D → (D → Prop) → Prop} {d e : D} {kk : D → Prop} {P : Int → Int → Prop} (h : match d, e with | .int a, .int b => P a b | _, _ => False) : ∃ a b, d = .int a ∧ e = .int b ∧ P a b := by
  cases d with
  | int a =>
    cases e with
    | int b => exact ⟨a, b, rfl, rfl, h⟩
    | _ => exact h.elim
  | _ => exact h.elim
theorem rw_add : RW2 K (rI0 fun i j => .int (i + j)) dAdd := fun G H x y d e kk Q s rx ry h k => by
  cases d <;> try exact (show False from h).elim
  cases e <;> try exact (show False from h).elim
  exact ⟨_, _, rx, ry, k _ _ h rfl⟩
theorem rw_sub : RW2 K (rI0 fun i j => .int (i - j)) dSub := fun G H x y d e kk Q s rx ry h k => by
  cases d <;> try exact (show False from h).elim
  cases e <;> try exact (show False from h).elim
  exact ⟨_, _, rx, ry, k _ _ h rfl⟩
theorem rw_mul : RW2 K (rI CMulW fun i j => .int (i * j)) dMul := fun G H x y d e kk Q s rx ry h k => by
  cases d <;> try exact (show False from h).elim
  cases e <;> try exact (show False from h).elim
  exact ⟨_, _, rx, ry, h.1, k _ _ h.2 rfl⟩
def CDivF (_ j : Int) : Prop := j ≠ 0 ∧ j.natAbs.log2 < 9000
theorem op_fdivF {X : Cx} : OpR X (binaryOp .FloorDiv) (rI CDivF fun i j => .int (i.fdiv j)) := opI fun _ _ _ _ _ _ _ hc q => floordiv_int hc.1 q (.inl (PyProof.noPylong_of_log2 hc.2))
theorem iop_fdivF {X : Cx} : OpR X (inplaceOp .FloorDiv) (rI CDivF fun i j => .int (i.fdiv j)) := opI fun _ _ _ _ _ _ _ hc q => ifloordiv_int hc.1 q (.inl (PyProof.noPylong_of_log2 hc.2))
theorem iop_mulF {X : Cx} : OpR X (inplaceOp .Mult) (rI CMulW fun i j => .int (i * j)) := opI fun _ _ _ _ _ _ _ hc q => imul_int q hc.ok
theorem rw_fdiv : RW2 K (rI CDivF fun i j => .int (i.fdiv j)) dFdiv := fun G H x y d e kk Q s rx ry h k => by
  cases d <;> try exact (show False from h).elim
  cases e <;> try exact (show False from h).elim
  exact ⟨_, _, rx, ry, h.1, k _ _ h.2 rfl⟩
theorem rw_mod : RW2 K (rI (fun _ j => j ≠ 0) fun i j => .int (i.fmod j)) dMod := fun G H x y d e kk Q s rx ry h k => by
  cases d <;> try exact (show False from h).elim
  cases e <;> try exact (show False from h).elim
  exact ⟨_, _, rx, ry, h.1, k _ _ h.2 rfl⟩
theorem rw_pow : RW2 K (rI CPow fun i j => .int (i ^ j.toNat)) dPow := fun G H x y d e kk Q s rx ry h k => by
  cases d <;> try exact (show False from h).elim
  cases e <;> try exact (show False from h).elim
  exact ⟨_, _, rx, ry, h.1, k _ _ h.2 rfl⟩
theorem rw_neg : RW1 K (rU fun i => .int (-i)) dNeg := fun G H x d kk Q s rx h k => by
  cases d <;> try exact (show False from h).elim
  exact ⟨_, rx, k _ _ h rfl⟩
theorem rw_lt : RW2 K (rI0 fun i j => .bl (decide (i < j))) dLt := fun G H x y d e kk Q s rx ry h k => by
  cases d <;> try exact (show False from h).elim
  cases e <;> try exact (show False from h).elim
  exact ⟨_, _, rx, ry, k _ _ h rfl⟩
theorem rw_le : RW2 K (rI0 fun i j => .bl (decide (i ≤ j))) dLe := fun G H x y d e kk Q s rx ry h k => by
  cases d <;> try exact (show False from h).elim
  cases e <;> try exact (show False from h).elim
  exact ⟨_, _, rx, ry, k _ _ h rfl⟩
theorem rw_gt : RW2 K (rI0 fun i j => .bl (decide (j < i))) dGt := fun G H x y d e kk Q s rx ry h k => by
  cases d <;> try exact (show False from h).elim
  cases e <;> try exact (show False from h).elim
  exact ⟨_, _, rx, ry, k _ _ h rfl⟩
theorem rw_ge : RW2 K (rI0 fun i j => .bl (decide (j ≤ i))) dGe := fun G H x y d e kk Q s rx ry h k => by
  cases d <;> try exact (show False from h).elim
  cases e <;> try exact (show False from h).elim
  exact ⟨_, _, rx, ry, k _ _ h rfl⟩
mutual
/-- the kit's own data for these -/
def py : D → PyData
  | .non => .none
  | .bl b => .bool b
  | .int i => .int i
  | .str x => .str x
  | .tup xs => .tuple (pys xs)
  | .lst xs => .list (pys xs)
def pys : List D → List PyData
  | [] => []
  | x :: xs => py x :: pys xs
end
mutual
theorem rep_py {G H : Hp} (s : Same G H) : ∀ {d : D} {v : V}, Rep K G d v → Dp K H v (py d)
  | .non, v, h => by rw [show v = .non from h]; exact .non
  | .bl b, v, h => by rw [show v = .bl b from h]; exact .bl b
  | .int i, v, h => by rw [show v = .int i from h]; exact .int i
  | .str x, v, h => by rw [show v = .str x from h]; exact .str x
  | .tup ds, v, h => by
    obtain ⟨a, xs, e, h1, h2⟩ := h
    rw [e]
    exact .tup (Same.t s h1) (reps_py s h2)
  | .lst ds, v, h => by
    obtain ⟨a, xs, e, h1, h2⟩ := h
    rw [e]
    exact .lst (L2.Same.seq s h1) (reps_py s h2)
theorem reps_py {G H : Hp} (s : Same G H) : ∀ {ds : List D} {vs : List V}, Reps K G ds vs → DpAll K H vs (pys ds)
  | [], vs, h => by rw [show vs = [] from h]; exact .nil
  | d :: ds, vs, h => by
    obtain ⟨x, xs, e, h1, h2⟩ := h
    rw [e]
    exact .cons (rep_py s h1) (reps_py s h2)
end
mutual
theorem deq_py : ∀ (a b : D), PyData.eqv (py a) (py b) = deq a b
  | .tup xs, b => by
    cases b with
    | tup ys => exact deqs_py xs ys
    | _ => rfl
  | .lst xs, b => by
    cases b with
    | lst ys => exact deqs_py xs ys
    | _ => rfl
  | .non, b => by cases b <;> rfl
  | .bl a, b => by cases b <;> rfl
  | .int i, b => by cases b <;> rfl
  | .str x, b => by cases b <;> rfl
theorem deqs_py : ∀ (a b : List D), PyData.eqvAll (pys a) (pys b) = deqs a b
  | [], b => by cases b <;> rfl
  | x :: xs, [] => rfl
  | x :: xs, y :: ys => by
    show (PyData.eqv (py x) (py y) && PyData.eqvAll (pys xs) (pys ys)) = (deq x y && deqs xs ys)
    rw [deq_py x y, deqs_py xs ys]
end
mutual
theorem shp_py : ∀ d : D, (py d).canLay0 = shp d
  | .tup xs => shps_py xs
  | .lst xs => shps_py xs
  | .non => rfl
  | .bl _ => rfl
  | .int _ => rfl
  | .str _ => rfl
theorem shps_py : ∀ ds : List D, PyData.canLayAll0 (pys ds) = shps ds
  | [] => rfl
  | x :: xs => by
    show ((py x).canLay0 && PyData.canLayAll0 (pys xs)) = (shp x && shps xs)
    rw [shp_py x, shps_py xs]
end
mutual
theorem dep_py : ∀ d : D, (py d).depth = dep d
  | .tup xs => congrArg (· + 1) (deps_py xs)
  | .lst xs => congrArg (· + 1) (deps_py xs)
  | .non => rfl
  | .bl _ => rfl
  | .int _ => rfl
  | .str _ => rfl
theorem deps_py : ∀ ds : List D, PyData.depthAll (pys ds) = deps ds
  | [] => rfl
  | x :: xs => by
    show max (py x).depth (PyData.depthAll (pys xs)) = max (dep x) (deps xs)
    rw [dep_py x, deps_py xs]
end
theorem shaped_of {d : D} (h : Shp d) : SeqAt.shaped (py d) = true := by
  unfold SeqAt.shaped
  rw [shp_py, dep_py, h.1, decide_eq_true h.2]
  rfl
theorem rw_eq : RW2 K (rEqD K) dEq := fun G H x y d e kk Q s rx ry h k =>
  ⟨py d, py e, rep_py s rx, rep_py s ry, shaped_of h.1.1, shaped_of h.1.2, by rw [deq_py]; exact k _ _ h.2 rfl⟩
theorem rw_ne : RW2 K (rNeD K) dNe := fun G H x y d e kk Q s rx ry h k =>
  ⟨py d, py e, rep_py s rx, rep_py s ry, shaped_of h.1.1, shaped_of h.1.2, by rw [deq_py]; exact k _ _ h.2 rfl⟩
theorem non_iff {G : Hp} : ∀ {d : D} {v : V}, Rep K G d v → decide (v = .non) = isNon d
  | .non, v, h => by rw [show v = .non from h]; rfl
  | .bl b, v, h => by rw [show v = .bl b from h]; rfl
  | .int i, v, h => by rw [show v = .int i from h]; rfl
  | .str s, v, h => by rw [show v = .str s from h]; rfl
  | .tup _, v, h => by
    obtain ⟨a, xs, e, _⟩ := h
    rw [e]
    rfl
  | .lst _, v, h => by
    obtain ⟨a, xs, e, _⟩ := h
    rw [e]
    rfl
theorem ew_isN (h : EW K W ta a) : EW K W (tIsN ta) (wUn dIsN a) := fun c pa G H σ ds xk kk Q E hw hx k => by
  refine h c pa G H σ ds xk _ _ E hw hx fun x G1 H1 d ds1 q S1 r1 => ?_
  rw [non_iff r1]
  exact k _ G1 H1 _ ds1 q S1 rfl
theorem ew_notN (h : EW K W ta a) : EW K W (tNotN ta) (wUn dNotN a) := fun c pa G H σ ds xk kk Q E hw hx k => by
  refine h c pa G H σ ds xk _ _ E hw hx fun x G1 H1 d ds1 q S1 r1 => ?_
  rw [non_iff r1]
  exact k _ G1 H1 _ ds1 q S1 rfl
theorem rw_ix : RW2 K (rIx K) dIx := fun G H x y d e kk Q s rx ry h k => by
  cases d with
  | tup xs =>
    cases e with
    | int i =>
      obtain ⟨p, vs, ev, h1, h2⟩ := rx
      have h : (match itemAt xs i with | some v => kk v | none => False) := h
      cases q : itemAt xs i with
      | none => rw [q] at h; exact h.elim
      | some z =>
        rw [q] at h
        obtain ⟨v, e1, rv⟩ := h2.item q
        exact .inr (.inl ⟨p, vs, i, v, ev, ry, Same.t s h1, e1, k z v h rv⟩)
    | _ => exact (show False from h).elim
  | lst xs =>
    cases e with
    | int i =>
      obtain ⟨p, vs, ev, h1, h2⟩ := rx
      have h : (match itemAt xs i with | some v => kk v | none => False) := h
      cases q : itemAt xs i with
      | none => rw [q] at h; exact h.elim
      | some z =>
        rw [q] at h
        obtain ⟨v, e1, rv⟩ := h2.item q
        exact .inl ⟨p, vs, i, v, ev, ry, L2.Same.seq s h1, e1, k z v h rv⟩
    | _ => exact (show False from h).elim
  | _ => exact (show False from h).elim
/-! built-ins -/
def rAbs : List V → Hp → VK → Prop := fun xs H Q => ∃ i, xs = [.int i] ∧ Q (.int (if i < 0 then -i else i)) H
theorem rc_abs : RWC1 K rAbs dAbs := fun G H x d kk Q s rx h k => by
  cases d <;> try exact (show False from h).elim
  exact ⟨_, by rw [rx], k _ _ h rfl⟩
def rMx2 : List V → Hp → VK → Prop := fun xs H Q => ∃ i j, xs = [.int i, .int j] ∧ Q (.int (if j > i then j else i)) H
theorem rc_max : RWC2 K rMx2 dMax := fun G H x y d e kk Q s rx ry h k => by
  cases d <;> try exact (show False from h).elim
  cases e <;> try exact (show False from h).elim
  exact ⟨_, _, by rw [rx, ry], k _ _ h rfl⟩
def rMn2 : List V → Hp → VK → Prop := fun xs H Q => ∃ i j, xs = [.int i, .int j] ∧ Q (.int (if j < i then j else i)) H
theorem rc_min : RWC2 K rMn2 dMin := fun G H x y d e kk Q s rx ry h k => by
  cases d <;> try exact (show False from h).elim
  cases e <;> try exact (show False from h).elim
  exact ⟨_, _, by rw [rx, ry], k _ _ h rfl⟩
def rLen (K : PySem.W.Frag) : List V → Hp → VK → Prop := fun xs H Q => ∃ x n, xs = [x] ∧ LenV K x H n ∧ Q (.int n) H
theorem rc_len : RWC1 K (rLen K) dLen := fun G H x d kk Q s rx h k => by
  cases d with
  | tup xs =>
    obtain ⟨p, vs, ev, h1, h2⟩ := rx
    subst ev
    exact ⟨_, vs.length, rfl, .inr ⟨vs, Same.t s h1, rfl⟩, k _ _ h (by show V.int vs.length = V.int xs.length; rw [h2.len])⟩
  | lst xs =>
    obtain ⟨p, vs, ev, h1, h2⟩ := rx
    subst ev
    exact ⟨_, vs.length, rfl, .inl ⟨vs, L2.Same.seq s h1, rfl⟩, k _ _ h (by show V.int vs.length = V.int xs.length; rw [h2.len])⟩
  | _ => exact (show False from h).elim
theorem bools_rep {G : Hp} : ∀ {ds : List D} {vs : List V} {bs : List Bool}, Reps K G ds vs → boolsD ds = some bs → vs = bs.map V.bl
  | [], vs, bs, h, e => by
    have e : ([] : List Bool) = bs := Option.some.inj e
    rw [← e]
    exact h
  | d :: ds, vs, bs, h, e => by
    obtain ⟨x, xs, ev, h1, h2⟩ := h
    cases d with
    | bl b =>
      have e : (boolsD ds).map (b :: ·) = some bs := e
      cases q : boolsD ds with
      | none => rw [q] at e; cases e
      | some r =>
        rw [q] at e
        have e : b :: r = bs := Option.some.inj e
        rw [ev, ← e, bools_rep h2 q, show x = V.bl b from h1]
        rfl
    | _ => cases (show (none : Option (List Bool)) = some bs from e)
theorem ints_rep {G : Hp} : ∀ {ds : List D} {vs : List V} {bs : List Int}, Reps K G ds vs → intsD ds = some bs → vs = bs.map V.int
  | [], vs, bs, h, e => by
    have e : ([] : List Int) = bs := Option.some.inj e
    rw [← e]
    exact h
  | d :: ds, vs, bs, h, e => by
    obtain ⟨x, xs, ev, h1, h2⟩ := h
    cases d with
    | int b =>
      have e : (intsD ds).map (b :: ·) = some bs := e
      cases q : intsD ds with
      | none => rw [q] at e; cases e
      | some r =>
        rw [q] at e
        have e : b :: r = bs := Option.some.inj e
        rw [ev, ← e, ints_rep h2 q, show x = V.int b from h1]
        rfl
    | _ => cases (show (none : Option (List Int)) = some bs from e)
theorem rc_all : RWC1 K (rAll K) dAll := fun G H x d kk Q s rx h k => by
  cases d with
  | lst xs =>
    obtain ⟨p, vs, ev, h1, h2⟩ := rx
    have h : (match boolsD xs with | some bs => kk (.bl (bs.all id)) | none => False) := h
    cases q : boolsD xs with
    | none => rw [q] at h; exact h.elim
    | some bs =>
      rw [q] at h
      exact ⟨p, bs, by rw [ev], by rw [← bools_rep h2 q]; exact L2.Same.seq s h1, k _ _ h rfl⟩
  | _ => exact (show False from h).elim
theorem rc_any : RWC1 K (rAny K) dAny := fun G H x d kk Q s rx h k => by
  cases d with
  | lst xs =>
    obtain ⟨p, vs, ev, h1, h2⟩ := rx
    have h : (match boolsD xs with | some bs => kk (.bl (bs.any id)) | none => False) := h
    cases q : boolsD xs with
    | none => rw [q] at h; exact h.elim
    | some bs =>
      rw [q] at h
      exact ⟨p, bs, by rw [ev], by rw [← bools_rep h2 q]; exact L2.Same.seq s h1, k _ _ h rfl⟩
  | _ => exact (show False from h).elim
theorem rc_sum : RWC1 K (rSum K) dSum := fun G H x d kk Q s rx h k => by
  cases d with
  | lst xs =>
    obtain ⟨p, vs, ev, h1, h2⟩ := rx
    have h : (match intsD xs with | some bs => kk (.int bs.sum) | none => False) := h
    cases q : intsD xs with
    | none => rw [q] at h; exact h.elim
    | some bs =>
      rw [q] at h
      exact ⟨p, bs, by rw [ev], by rw [← ints_rep h2 q]; exact L2.Same.seq s h1, k _ _ h rfl⟩
  | _ => exact (show False from h).elim
def rInt : List V → Hp → VK → Prop := fun xs H Q => (∃ i, xs = [.int i] ∧ Q (.int i) H) ∨ ∃ k, xs = [.bl k] ∧ Q (.int (if k then 1 else 0)) H
theorem rc_int : RWC1 K rInt dInt := fun G H x d kk Q s rx h k => by
  cases d with
  | int i => exact .inl ⟨i, by rw [show x = V.int i from rx], k _ _ h rfl⟩
  | bl b => exact .inr ⟨b, by rw [show x = V.bl b from rx], k _ _ h rfl⟩
  | _ => exact (show False from h).elim
/-! isinstance of a built-in type -/
def tyN : D → String
  | .non => "NoneType" | .bl _ => "bool" | .int _ => "int" | .str _ => "str" | .tup _ => "tuple" | .lst _ => "list"
theorem rep_ty {G H : Hp} (s : Same G H) : ∀ {d : D} {v : V}, Rep K G d v → TyX K H v (.type (tyN d))
  | .non, v, h => by rw [show v = .non from h]; exact .base .non
  | .bl b, v, h => by rw [show v = .bl b from h]; exact .base (.bl b)
  | .int i, v, h => by rw [show v = .int i from h]; exact .base (.int i)
  | .str x, v, h => by rw [show v = .str x from h]; exact .base (.str x)
  | .tup ds, v, h => by
    obtain ⟨a, xs, e, h1, _⟩ := h
    rw [e]
    rcases Same.t s h1 with (q | ⟨o, q⟩) | ⟨o, its, n, q, q2, _⟩
    · exact .base (.tup q)
    · exact .fTuple q
    · exact .kTuple q q2
  | .lst ds, v, h => by
    obtain ⟨a, xs, e, h1, _⟩ := h
    rw [e]
    rcases L2.Same.seq s h1 with (q | ⟨o, q⟩) | ⟨o, its, n, q, q2, _⟩
    · exact .base (.lst q)
    · exact .base (.frz q)
    · exact .kList q q2
def Ty.nm : Ty → String
  | .int => "int" | .bool => "bool" | .str => "str" | .tuple => "tuple" | .list => "list" | .dict => "dict"
theorem kit_of_ty (T : Ty) (d : D) : kitB (tyN d) T.nm = some (isTy T d) := by
  cases T <;> (cases d <;> first
    | exact (by decide +kernel : kitB "NoneType" "int" = some false) | exact (by decide +kernel : kitB "bool" "int" = some true) | exact (by decide +kernel : kitB "int" "int" = some true)
    | exact (by decide +kernel : kitB "str" "int" = some false) | exact (by decide +kernel : kitB "tuple" "int" = some false) | exact (by decide +kernel : kitB "list" "int" = some false)
    | exact (by decide +kernel : kitB "NoneType" "bool" = some false) | exact (by decide +kernel : kitB "bool" "bool" = some true) | exact (by decide +kernel : kitB "int" "bool" = some false)
    | exact (by decide +kernel : kitB "str" "bool" = some false) | exact (by decide +kernel : kitB "tuple" "bool" = some false) | exact (by decide +kernel : kitB "list" "bool" = some false)
    | exact (by decide +kernel : kitB "NoneType" "str" = some false) | exact (by decide +kernel : kitB "bool" "str" = some false) | exact (by decide +kernel : kitB "int" "str" = some false)
    | exact (by decide +kernel : kitB "str" "str" = some true) | exact (by decide +kernel : kitB "tuple" "str" = some false) | exact (by decide +kernel : kitB "list" "str" = some false)
    | exact (by decide +kernel : kitB "NoneType" "tuple" = some false) | exact (by decide +kernel : kitB "bool" "tuple" = some false) | exact (by decide +kernel : kitB "int" "tuple" = some false)
    | exact (by decide +kernel : kitB "str" "tuple" = some false) | exact (by decide +kernel : kitB "tuple" "tuple" = some true) | exact (by decide +kernel : kitB "list" "tuple" = some false)
    | exact (by decide +kernel : kitB "NoneType" "list" = some false) | exact (by decide +kernel : kitB "bool" "list" = some false) | exact (by decide +kernel : kitB "int" "list" = some false)
    | exact (by decide +kernel : kitB "str" "list" = some false) | exact (by decide +kernel : kitB "tuple" "list" = some false) | exact (by decide +kernel : kitB "list" "list" = some true)
    | exact (by decide +kernel : kitB "NoneType" "dict" = some false) | exact (by decide +kernel : kitB "bool" "dict" = some false) | exact (by decide +kernel : kitB "int" "dict" = some false)
    | exact (by decide +kernel : kitB "str" "dict" = some false) | exact (by decide +kernel : kitB "tuple" "dict" = some false) | exact (by decide +kernel : kitB "list" "dict" = some false))
theorem ew_isi (T : Ty) (h : EW K W ta a) : EW K W (tCB (rIsi K) (tCons ta (tCons (tC (.ty T.nm)) tNil))) (wUn (dIsTy T) a) := fun c pa G H σ ds xk kk Q E hw hx k => by
  refine h c pa G H σ ds xk _ _ E hw hx fun x G1 H1 d ds1 q S1 r1 => ?_
  exact ⟨x, .ty T.nm, _, .type T.nm, isTy T d, rfl, .ty T.nm, rep_ty S1.env.ex r1, kit_ty (kit_of_ty T d), k _ G1 H1 _ ds1 q S1 rfl⟩
theorem kits_any {d : D} : ∀ ts : List Ty, PySem.W.kitAny K (.type (tyN d)) (ts.map fun t => Value.type t.nm) = some (ts.any fun t => isTy t d)
  | [] => rfl
  | T :: ts => by
    refine kitAny_cons (b := isTy T d) (kit_ty (kit_of_ty T d)) (fun e => ?_) fun e => ?_
    · rw [kits_any ts, List.any_cons, e]
      rfl
    · rw [List.any_cons, e]
      rfl
theorem cls_all : ∀ ts : List Ty, Paired ClsV (ts.map fun t => V.ty t.nm) (ts.map fun t => Value.type t.nm)
  | [] => .nil
  | T :: ts => .cons (.ty T.nm) (cls_all ts)
/-- the written tuple of types -/
def tTys : List Ty → TA
  | [] => tNil
  | T :: ts => tCons (tC (.ty T.nm)) (tTys ts)
theorem tTys_run : ∀ (ts : List Ty) (σ : L2.St) (H : Hp) (Q : List V → Hp → Prop), Q (ts.map fun t => V.ty t.nm) H → tTys ts σ H Q
  | [], _, _, _, h => h
  | T :: ts, σ, H, Q, h => tTys_run ts σ H _ h
theorem ew_isis {ts : List Ty} (hl : ts.length ≤ 10) (h : EW K W ta a) : EW K W (tCB (rIsiT K) (tCons ta (tCons (tTup (tTys ts)) tNil))) (wUn (dIsTys ts) a) := fun c pa G H σ ds xk kk Q E hw hx k => by
  refine h c pa G H σ ds xk _ _ E hw hx fun x G1 H1 d ds1 q S1 r1 => ?_
  refine tTys_run ts σ H1 _ ⟨by rw [List.length_map]; exact Nat.le_trans hl (by decide), fun p hp => ?_⟩
  have S2 := Stp.new S1.env (o := .tup (ts.map fun t => V.ty t.nm)) hp
  exact ⟨x, p, _, _, _, _, rfl, upd_same, cls_all ts, rep_ty S2.env.ex (r1.mono S2.sg), kits_any ts, k _ _ _ _ ds1 q (S1.trans S2) rfl⟩
end
end DW

/-! DwG: pieces of Python with their transformers: what a derivation is made of. -/
namespace DW
open PySem PySem.Spec PyProof.Rows L2

/-- the places where one piece of text runs (a body: one; a comprehension's block: any entry) -/
structure Fam (P : Program) (w : World) (K : PySem.W.Frag) (mg : Str → Option Value) (base : Heap) (N : List Str) (k : Nat) (W : WX) where
  ι : Type
  X : ι → Cx
  hP : ∀ i, (X i).prog = P
  hw : ∀ i, (X i).w = w
  hK : ∀ i, (X i).K = K
  hm : ∀ i, (X i).mg = mg
  hb : ∀ i, (X i).base = base
  hN : ∀ i, (X i).N = N
  calm : ∀ i, (X i).calm = true
  room : ∀ i, Room k (X i).A
  nd : N.Nodup
  po : ∀ i, PassesOwn (model (X i).prog (X i).w) (X i).A (X i).env (X i).xe
  tk : ∀ i, Takes (X i) W

section
variable {P : Program} {w : World} {K : PySem.W.Frag} {mg : Str → Option Value} {base : Heap} {N : List Str} {k : Nat} {W : WX}

def DE (F : Fam P w K mg base N k W) (e : Expr) (q : WE) : Prop := ∃ te, (∀ i, PE (F.X i) e te) ∧ EW K W te q
def DO (F : Fam P w K mg base N k W) (e : Expr) (q : WO) : Prop := ∃ te, (∀ i, PE (F.X i) e te) ∧ EO K W te q
def DT (F : Fam P w K mg base N k W) (e : Expr) (q : WT) : Prop := ∃ tt, (∀ i, PT (F.X i) e tt) ∧ TW K W tt q
def DP (F : Fam P w K mg base N k W) (e : Expr) (q : WT) : Prop := ∃ tt, (∀ i, PW (F.X i) e tt) ∧ TW K W tt q
def DL (F : Fam P w K mg base N k W) (es : List Expr) (q : List WE) : Prop := ∃ ta, (∀ i, PA (F.X i) es ta) ∧ AW K W ta q
def DC (F : Fam P w K mg base N k W) (es : List Expr) (q : List DA) : Prop := ∃ ta, (∀ i, PA (F.X i) es ta) ∧ CAW K W ta q
def DG (F : Fam P w K mg base N k W) (e : Expr) (q : Tg) : Prop := ∃ g, (∀ i, PG (F.X i) e g) ∧ GW K g q
def DGs (F : Fam P w K mg base N k W) (e : List Expr) (q : List Tg) : Prop := ∃ g, (∀ i, PGs (F.X i) e g) ∧ GWs K g q
def DS1 (F : Fam P w K mg base N k W) (s : Stmt) (q : WS) : Prop := ∃ t, (∀ i, PS (F.X i) s t) ∧ SW K W t q
def DSs (F : Fam P w K mg base N k W) (s : List Stmt) (q : WS) : Prop := ∃ t, (∀ i, PSs (F.X i) s t) ∧ SW K W t q

variable {F : Fam P w K mg base N k W} {a b c e : Expr} {es : List Expr} {x y : Str} {pos p p2 : Pos} {qa qb qc : WE} {q r : WT}

/-! ### names and constants -/
theorem d_var (i : Nat) (h : N[i]? = some x := by rfl) (hv : ∀ j, Vis (F.X j).env.scope x := by intro _; first | exact Or.inl rfl | exact Or.inr (Or.inl rfl) | exact Or.inr (Or.inr rfl))
    (hd : (x == ("__debug__" : Str)) = false := by decide) (hcd : (x == ("__classdict__" : Str)) = false := by decide) : DE F (.Name x pos) (wVar i) :=
  ⟨_, fun j => pe_var (by rw [F.hN j]; exact h) (hv j) hd hcd, ew_var i⟩
theorem d_int {i : Int} {j} : DE F (.Constant (.int i) j pos) (wC (.int i)) := ⟨_, fun _ => pe_int, ew_c fun _ => rfl⟩
theorem d_bl {i : Bool} {j} : DE F (.Constant (.bool i) j pos) (wC (.bl i)) := ⟨_, fun _ => pe_bl, ew_c fun _ => rfl⟩
theorem d_non {j} : DE F (.Constant .none j pos) (wC .non) := ⟨_, fun _ => pe_non, ew_c fun _ => rfl⟩
theorem d_str {i : String} {j} : DE F (.Constant (.str i) j pos) (wC (.str (Str.ofString i))) := ⟨_, fun _ => pe_str, ew_c fun _ => rfl⟩
/-- a module's constant -/
theorem d_glob {d : D} {v : V} {u : Value} (hm : mg x = some u) (r : RelV v u) (hr : ∀ G, Rep K G d v) (hg : ∀ j, Gl (F.X j) x := by intro _; rfl) (hd : (x == ("__debug__" : Str)) = false := by decide) : DE F (.Name x pos) (wC d) :=
  ⟨_, fun j => pe_glob (hg j) (by rw [F.hm j]; exact hm) r hd, ew_c hr⟩
/-! ### operators -/
theorem d_op {op : Operator} {f : B2} {rr : R2} (ho : ∀ X : Cx, OpR X (binaryOp op) rr) (hr : RW2 K rr f) (ha : DE F a qa) (hb : DE F b qb) : DE F (.BinOp a op b pos) (wBin f qa qb) := by
  obtain ⟨ta, a1, a2⟩ := ha
  obtain ⟨tb, b1, b2⟩ := hb
  exact ⟨_, fun i => pe_op (ho _) (a1 i) (b1 i), ew_op hr a2 b2⟩
theorem d_add (ha : DE F a qa) (hb : DE F b qb) : DE F (.BinOp a .Add b pos) (wBin dAdd qa qb) := d_op (fun _ => op_add) rw_add ha hb
theorem d_sub (ha : DE F a qa) (hb : DE F b qb) : DE F (.BinOp a .Sub b pos) (wBin dSub qa qb) := d_op (fun _ => op_sub) rw_sub ha hb
theorem d_mul (ha : DE F a qa) (hb : DE F b qb) : DE F (.BinOp a .Mult b pos) (wBin dMul qa qb) := d_op (fun _ => op_mulW) rw_mul ha hb
theorem d_fdiv (ha : DE F a qa) (hb : DE F b qb) : DE F (.BinOp a .FloorDiv b pos) (wBin dFdiv qa qb) := d_op (fun _ => op_fdivF) rw_fdiv ha hb
theorem d_mod (ha : DE F a qa) (hb : DE F b qb) : DE F (.BinOp a .Mod b pos) (wBin dMod qa qb) := d_op (fun _ => op_modN) rw_mod ha hb
theorem d_pow (ha : DE F a qa) (hb : DE F b qb) : DE F (.BinOp a .Pow b pos) (wBin dPow qa qb) := d_op (fun _ => op_pow) rw_pow ha hb
theorem d_neg (ha : DE F a qa) : DE F (.UnaryOp .USub a pos) (wUn dNeg qa) := by
  obtain ⟨ta, a1, a2⟩ := ha
  exact ⟨_, fun i => pe_un un_neg (a1 i), ew_un rw_neg a2⟩
/-! ### comparisons -/
theorem d_cmp {op : CmpOp} {f : B2} {rr : R2} (ho : ∀ j, OpR (F.X j) (compareOp op) rr) (hr : RW2 K rr f) (ha : DE F a qa) (hb : DE F b qb) (hm : behindInMarks op b = false) : DE F (.Compare a [op] [b] pos) (wBin f qa qb) := by
  obtain ⟨ta, a1, a2⟩ := ha
  obtain ⟨tb, b1, b2⟩ := hb
  exact ⟨_, fun i => pe_cmpR (ho i) (a1 i) (b1 i) hm, ew_op hr a2 b2⟩
theorem t_cmp {op : CmpOp} {f : B2} {rr : R2} (ho : ∀ j, OpR (F.X j) (compareOp op) rr) (hr : RW2 K rr f) (ha : DE F a qa) (hb : DE F b qb) (hm : behindInMarks op b = false) : DT F (.Compare a [op] [b] pos) (wTst (wBin f qa qb)) := by
  obtain ⟨ta, a1, a2⟩ := ha
  obtain ⟨tb, b1, b2⟩ := hb
  exact ⟨_, fun i => pt_cmpR (ho i) (a1 i) (b1 i) hm, tw_tst (ew_op hr a2 b2)⟩
theorem d_lt (ha : DE F a qa) (hb : DE F b qb) : DE F (.Compare a [.Lt] [b] pos) (wBin dLt qa qb) := d_cmp (fun _ => op_lt) rw_lt ha hb (nomark _)
theorem d_le (ha : DE F a qa) (hb : DE F b qb) : DE F (.Compare a [.LtE] [b] pos) (wBin dLe qa qb) := d_cmp (fun _ => op_le) rw_le ha hb (nomark _)
theorem d_gt (ha : DE F a qa) (hb : DE F b qb) : DE F (.Compare a [.Gt] [b] pos) (wBin dGt qa qb) := d_cmp (fun _ => op_gt) rw_gt ha hb (nomark _)
theorem d_ge (ha : DE F a qa) (hb : DE F b qb) : DE F (.Compare a [.GtE] [b] pos) (wBin dGe qa qb) := d_cmp (fun _ => op_ge) rw_ge ha hb (nomark _)
theorem t_lt (ha : DE F a qa) (hb : DE F b qb) : DT F (.Compare a [.Lt] [b] pos) (wTst (wBin dLt qa qb)) := t_cmp (fun _ => op_lt) rw_lt ha hb (nomark _)
theorem t_le (ha : DE F a qa) (hb : DE F b qb) : DT F (.Compare a [.LtE] [b] pos) (wTst (wBin dLe qa qb)) := t_cmp (fun _ => op_le) rw_le ha hb (nomark _)
theorem t_gt (ha : DE F a qa) (hb : DE F b qb) : DT F (.Compare a [.Gt] [b] pos) (wTst (wBin dGt qa qb)) := t_cmp (fun _ => op_gt) rw_gt ha hb (nomark _)
theorem t_ge (ha : DE F a qa) (hb : DE F b qb) : DT F (.Compare a [.GtE] [b] pos) (wTst (wBin dGe qa qb)) := t_cmp (fun _ => op_ge) rw_ge ha hb (nomark _)
theorem eqK {X : Cx} (h : X.K = K) (hu : X.A.units + 64 < cLine) : OpR X (compareOp .Eq) (rEqD K) := by subst h; exact op_eqD hu
theorem neK {X : Cx} (h : X.K = K) (hu : X.A.units + 64 < cLine) : OpR X (compareOp .NotEq) (rNeD K) := by subst h; exact op_neD hu
theorem d_eq (ha : DE F a qa) (hb : DE F b qb) : DE F (.Compare a [.Eq] [b] pos) (wBin dEq qa qb) := d_cmp (fun j => eqK (F.hK j) (F.room j).units) rw_eq ha hb (nomark _)
theorem d_ne (ha : DE F a qa) (hb : DE F b qb) : DE F (.Compare a [.NotEq] [b] pos) (wBin dNe qa qb) := d_cmp (fun j => neK (F.hK j) (F.room j).units) rw_ne ha hb (nomark _)
theorem t_eq (ha : DE F a qa) (hb : DE F b qb) : DT F (.Compare a [.Eq] [b] pos) (wTst (wBin dEq qa qb)) := t_cmp (fun j => eqK (F.hK j) (F.room j).units) rw_eq ha hb (nomark _)
theorem t_ne (ha : DE F a qa) (hb : DE F b qb) : DT F (.Compare a [.NotEq] [b] pos) (wTst (wBin dNe qa qb)) := t_cmp (fun j => neK (F.hK j) (F.room j).units) rw_ne ha hb (nomark _)
theorem d_isN {j} (ha : DE F a qa) : DE F (.Compare a [.Is] [.Constant .none j p] pos) (wUn dIsN qa) := by
  obtain ⟨ta, a1, a2⟩ := ha
  exact ⟨_, fun i => pe_cmp (pc_isN (a1 i)), ew_isN a2⟩
theorem d_notN {j} (ha : DE F a qa) : DE F (.Compare a [.IsNot] [.Constant .none j p] pos) (wUn dNotN qa) := by
  obtain ⟨ta, a1, a2⟩ := ha
  exact ⟨_, fun i => pe_cmp (pc_notN (a1 i)), ew_notN a2⟩
/-- any expression that gives True or False, as a test -/
theorem t_val (ha : DE F a qa) (he : ∀ j, ∀ whole, isTrue a (F.X j).env whole = (do let v ← whole; standAt a.pos; holding [v] (truthy v)) := by intro _ _; rfl) : DT F a (wTst qa) := by
  obtain ⟨ta, a1, a2⟩ := ha
  exact ⟨_, fun i => pt_val (a1 i) (he i), tw_b a2⟩
theorem t_isN {j} (ha : DE F a qa) : DT F (.Compare a [.Is] [.Constant .none j p] pos) (wTst (wUn dIsN qa)) := by
  obtain ⟨ta, a1, a2⟩ := ha
  exact ⟨_, fun i => pt_cmp (pc_isN (a1 i)), tw_b (ew_isN a2)⟩
theorem t_notN {j} (ha : DE F a qa) : DT F (.Compare a [.IsNot] [.Constant .none j p] pos) (wTst (wUn dNotN qa)) := by
  obtain ⟨ta, a1, a2⟩ := ha
  exact ⟨_, fun i => pt_cmp (pc_notN (a1 i)), tw_b (ew_notN a2)⟩
/-! ### and, or, not, if -/
theorem p_pt (h : DP F a q) : DT F a q := by
  obtain ⟨t, h1, h2⟩ := h
  exact ⟨t, fun i => (h1 i).pt, h2⟩
theorem p_and1 (h : DT F a q) : DP F (.BoolOp .And [a] pos) q := by
  obtain ⟨t, h1, h2⟩ := h
  exact ⟨t, fun i => pw_and1 (h1 i), h2⟩
theorem p_or1 (h : DT F a q) : DP F (.BoolOp .Or [a] pos) q := by
  obtain ⟨t, h1, h2⟩ := h
  exact ⟨t, fun i => pw_or1 (h1 i), h2⟩
theorem p_and (h : DT F a q) (h' : DP F (.BoolOp .And (b :: es) pos) r) : DP F (.BoolOp .And (a :: b :: es) pos) (wAnd q r) := by
  obtain ⟨t, h1, h2⟩ := h
  obtain ⟨u, u1, u2⟩ := h'
  exact ⟨_, fun i => pw_and (h1 i) (u1 i), tw_and h2 u2⟩
theorem p_or (h : DT F a q) (h' : DP F (.BoolOp .Or (b :: es) pos) r) : DP F (.BoolOp .Or (a :: b :: es) pos) (wOr q r) := by
  obtain ⟨t, h1, h2⟩ := h
  obtain ⟨u, u1, u2⟩ := h'
  exact ⟨_, fun i => pw_or (h1 i) (u1 i), tw_or h2 u2⟩
theorem t_not (h : DT F a q) : DT F (.UnaryOp .Not a pos) (wNot q) := by
  obtain ⟨t, h1, h2⟩ := h
  exact ⟨_, fun i => pt_not (h1 i), tw_not h2⟩
theorem d_one {op} (h : DE F a qa) : DE F (.BoolOp op [a] pos) qa := by
  obtain ⟨t, h1, h2⟩ := h
  exact ⟨_, fun i => pe_one (h1 i), h2⟩
theorem d_and (h : DE F a qa) (h' : DE F (.BoolOp .And (b :: es) pos) qb) : DE F (.BoolOp .And (a :: b :: es) pos) (wAndV qa qb) := by
  obtain ⟨t, h1, h2⟩ := h
  obtain ⟨u, u1, u2⟩ := h'
  exact ⟨_, fun i => pe_and (h1 i) (u1 i), ew_and h2 u2⟩
theorem d_or (h : DE F a qa) (h' : DE F (.BoolOp .Or (b :: es) pos) qb) : DE F (.BoolOp .Or (a :: b :: es) pos) (wOrV qa qb) := by
  obtain ⟨t, h1, h2⟩ := h
  obtain ⟨u, u1, u2⟩ := h'
  exact ⟨_, fun i => pe_or (h1 i) (u1 i), ew_or h2 u2⟩
theorem d_not (h : DE F a qa) : DE F (.UnaryOp .Not a pos) (wNotV qa) := by
  obtain ⟨t, h1, h2⟩ := h
  exact ⟨_, fun i => pe_not (h1 i), ew_not h2⟩
theorem d_if (h : DT F c q) (ha : DE F a qa) (hb : DE F b qb) : DE F (.IfExp c a b pos) (wIf q qa qb) := by
  obtain ⟨t, h1, h2⟩ := h
  obtain ⟨u, u1, u2⟩ := ha
  obtain ⟨v, v1, v2⟩ := hb
  exact ⟨_, fun i => pe_ifExp (h1 i) (u1 i) (v1 i), ew_if h2 u2 v2⟩
/-! ### arguments, displays, items -/
theorem l_nil : DL F [] [] := ⟨_, fun _ => pa_nil, aw_nil⟩
theorem l_cons {qs : List WE} (ha : DE F a qa) (hr : DL F es qs) (hs : ∀ j, starEach (a :: es) (F.X j).env = (false, eval a (F.X j).env) :: starEach es (F.X j).env := by intro _; rfl) : DL F (a :: es) (qa :: qs) := by
  obtain ⟨t, h1, h2⟩ := ha
  obtain ⟨u, u1, u2⟩ := hr
  exact ⟨_, fun i => pa_cons (h1 i) (u1 i) (hs i), aw_cons h2 u2⟩
theorem d_tup {qs : List WE} {x1} (h : DL F es qs) (hl : qs.length ≤ 100000 := by decide) : DE F (.Tuple es x1 pos) (wTup qs) := by
  obtain ⟨u, u1, u2⟩ := h
  exact ⟨_, fun i => pe_tup (u1 i), ew_tup u2 hl⟩
theorem o_lst {qs : List WE} (h : DL F es qs) (hl : qs.length ≤ 100000 := by decide) : DO F (.List es pos) (wLst qs) := by
  obtain ⟨u, u1, u2⟩ := h
  exact ⟨_, fun i => pe_lst (u1 i), eo_lst u2 hl⟩
theorem d_frz {o : WO} (h : DO F a o) : DE F a (wFrz o) := by
  obtain ⟨u, u1, u2⟩ := h
  exact ⟨_, u1, ew_frz u2⟩
theorem ixK {X : Cx} (h : X.K = K) : IxR X (rIx K) := by subst h; exact ix_seq
theorem d_ix (ha : DE F a qa) (hb : DE F b qb) (hs : PlainIx b := by intro _ _; rfl) : DE F (.Subscript a b pos) (wBin dIx qa qb) := by
  obtain ⟨t, h1, h2⟩ := ha
  obtain ⟨u, u1, u2⟩ := hb
  exact ⟨_, fun i => pe_ix (ixK (F.hK i)) (h1 i) (u1 i) hs, ew_op rw_ix h2 u2⟩
/-- an item of the own list in slot i -/
theorem d_ixO (i : Nat) (hb : DE F b qb) (h : N[i]? = some x := by rfl) (hv : ∀ j, Vis (F.X j).env.scope x := by intro _; first | exact Or.inl rfl | exact Or.inr (Or.inl rfl) | exact Or.inr (Or.inr rfl))
    (hd : (x == ("__debug__" : Str)) = false := by decide) (hcd : (x == ("__classdict__" : Str)) = false := by decide) (hs : PlainIx b := by intro _ _; rfl) : DE F (.Subscript (.Name x p) b pos) (wIxO i qb) := by
  obtain ⟨u, u1, u2⟩ := hb
  exact ⟨_, fun j => pe_ix (ixK (F.hK j)) (pe_var (i := i) (by rw [F.hN j]; exact h) (hv j) hd hcd) (u1 j) hs, ew_ixO u2⟩
/-! ### built-ins -/
theorem d_b1 {id : String} {f : B1} {rr : List V → Hp → VK → Prop} (hc : ∀ j, CallR (F.X j) (.builtin id) rr) (hr : RWC1 K rr f) (hm : mg x = none) (hv : bootBuiltins x = some (.builtin id)) (ha : DE F a qa) (hg : ∀ j, Gl (F.X j) x := by intro _; rfl) (hn : x ≠ "__name__" := by decide)
    (hdb : (x == ("__debug__" : Str)) = false := by decide) (hs : ∀ j, starEach [a] (F.X j).env = (false, eval a (F.X j).env) :: starEach [] (F.X j).env := by intro _; rfl) (hpl : ∀ j, (backTo pos (starEach [] (F.X j).env)).any (·.1) = false := by intro _; rfl) :
    DE F (.Call (.Name x p) [a] [] pos) (wUn f qa) := by
  obtain ⟨t, h1, h2⟩ := ha
  exact ⟨_, fun j => pe_callB (hc j) (hg j) (by rw [F.hm j]; exact hm) hv (pa_cons (h1 j) pa_nil (hs j)) hn hdb (hs j) (hpl j), ew_cb1 hr h2⟩
theorem d_b2 {id : String} {f : B2} {rr : List V → Hp → VK → Prop} (hc : ∀ j, CallR (F.X j) (.builtin id) rr) (hr : RWC2 K rr f) (hm : mg x = none) (hv : bootBuiltins x = some (.builtin id)) (ha : DE F a qa) (hb : DE F b qb) (hg : ∀ j, Gl (F.X j) x := by intro _; rfl) (hn : x ≠ "__name__" := by decide)
    (hdb : (x == ("__debug__" : Str)) = false := by decide) (hs : ∀ j, starEach [a, b] (F.X j).env = (false, eval a (F.X j).env) :: starEach [b] (F.X j).env := by intro _; rfl) (hs2 : ∀ j, starEach [b] (F.X j).env = (false, eval b (F.X j).env) :: starEach [] (F.X j).env := by intro _; rfl)
    (hpl : ∀ j, (backTo pos (starEach [b] (F.X j).env)).any (·.1) = false := by intro _; rfl) : DE F (.Call (.Name x p) [a, b] [] pos) (wBin f qa qb) := by
  obtain ⟨t, h1, h2⟩ := ha
  obtain ⟨u, u1, u2⟩ := hb
  exact ⟨_, fun j => pe_callB (hc j) (hg j) (by rw [F.hm j]; exact hm) hv (pa_cons (h1 j) (pa_cons (u1 j) pa_nil (hs2 j)) (hs j)) hn hdb (hs j) (hpl j), ew_cb2 hr h2 u2⟩
theorem lenK {X : Cx} (h : X.K = K) : CallR X (.builtin "len") (rLen K) := by subst h; exact call_len
theorem allK {X : Cx} (h : X.K = K) (c : X.calm = true) : CallR X (.builtin "all") (rAll K) := by subst h; exact cr_all c
theorem anyK {X : Cx} (h : X.K = K) (c : X.calm = true) : CallR X (.builtin "any") (rAny K) := by subst h; exact cr_any c
theorem sumK {X : Cx} (h : X.K = K) (c : X.calm = true) : CallR X (.builtin "sum") (rSum K) := by subst h; exact cr_sum c
theorem isiK {X : Cx} (h : X.K = K) : CallR X (.builtin "isinstance") (rIsi K) := by subst h; exact call_isi
theorem isiTK {X : Cx} (h : X.K = K) : CallR X (.builtin "isinstance") (rIsiT K) := by subst h; exact call_isiT
theorem d_isi (T : Ty) {u : Value} (hi : mg "isinstance" = none) (hm : mg x = none) (hv : bootBuiltins x = some u) (hu : u = .type T.nm) (ha : DE F a qa) (hgi : ∀ j, Gl (F.X j) "isinstance" := by intro _; rfl) (hg : ∀ j, Gl (F.X j) x := by intro _; rfl) (hn : x ≠ "__name__" := by decide)
    (hdb : (x == ("__debug__" : Str)) = false := by decide) (hs : ∀ j, starEach [a, .Name x p2] (F.X j).env = (false, eval a (F.X j).env) :: starEach [.Name x p2] (F.X j).env := by intro _; rfl) (hs2 : ∀ j, starEach [.Name x p2] (F.X j).env = (false, eval (.Name x p2) (F.X j).env) :: starEach [] (F.X j).env := by intro _; rfl)
    (hpl : ∀ j, (backTo pos (starEach [.Name x p2] (F.X j).env)).any (·.1) = false := by intro _; rfl) : DE F (.Call (.Name "isinstance" p) [a, .Name x p2] [] pos) (wUn (dIsTy T) qa) := by
  obtain ⟨t, h1, h2⟩ := ha
  subst hu
  exact ⟨_, fun j => pe_callB (isiK (F.hK j)) (hgi j) (by rw [F.hm j]; exact hi) (by decide +kernel) (pa_cons (h1 j) (pa_cons (pe_bltn (v := .ty T.nm) (hg j) (by rw [F.hm j]; exact hm) hv rfl hn hdb) pa_nil (hs2 j)) (hs j)) (by decide) (by decide) (hs j) (hpl j), ew_isi T h2⟩
/-! ### calls of the program's own defs -/
theorem c_nil : DC F [] [] := ⟨_, fun _ => pa_nil, ca_nil⟩
theorem c_v {qs : List DA} (ha : DE F a qa) (hr : DC F es qs) (hs : ∀ j, starEach (a :: es) (F.X j).env = (false, eval a (F.X j).env) :: starEach es (F.X j).env := by intro _; rfl) : DC F (a :: es) (.v qa :: qs) := by
  obtain ⟨t, h1, h2⟩ := ha
  obtain ⟨u, u1, u2⟩ := hr
  exact ⟨_, fun i => pa_cons (h1 i) (u1 i) (hs i), ca_v h2 u2⟩
theorem c_s (i : Nat) {qs : List DA} (hr : DC F es qs) (h : N[i]? = some x := by rfl) (hv : ∀ j, Vis (F.X j).env.scope x := by intro _; first | exact Or.inl rfl | exact Or.inr (Or.inl rfl) | exact Or.inr (Or.inr rfl))
    (hd : (x == ("__debug__" : Str)) = false := by decide) (hcd : (x == ("__classdict__" : Str)) = false := by decide) (hs : ∀ j, starEach (.Name x p :: es) (F.X j).env = (false, eval (.Name x p) (F.X j).env) :: starEach es (F.X j).env := by intro _; rfl) : DC F (.Name x p :: es) (.s i :: qs) := by
  obtain ⟨u, u1, u2⟩ := hr
  exact ⟨_, fun j => pa_cons (pe_var (i := i) (by rw [F.hN j]; exact h) (hv j) hd hcd) (u1 j) (hs j), ca_s u2⟩
theorem callX {X : Cx} {CX : CXT} {kf : Nat} {f : Addr} {fd : FuncData} {ps : List Str} {fs : FS} {ta : TA} {mv : List V} {mu : List Value} (hP : X.prog = P) (hw : X.w = w) (hK : X.K = K) (hm : X.mg = mg) (hb : X.base = base) (G : FnOk P w K mg base CX kf f fd ps (spOf K fs)) (hr : Room k X.A) (hk : kf ≤ k)
    (hg : Gl X x) (gm : mg x = some (.ref f)) (kp : PySem.W.keepIn K (.ref f) = true) (bb : Binds K fd ps mu) (hd : Vals mv mu) (hx : ∀ σ, PassesAt CX X σ (L2.WE W σ)) (ha : PA X (a :: es) ta) (hdb : (x == ("__debug__" : Str)) = false)
    (he : starEach (a :: es) X.env = (false, eval a X.env) :: starEach es X.env) (hpl : (backTo pos (starEach es X.env)).any (·.1) = false) : PE X (.Call (.Name x p) (a :: es) [] pos) (tCallSD (spOf K fs) mv (L2.WE W) ta) := by
  subst hP hw hK hm hb
  exact pe_callSD G (hr.mono hk) hg gm kp bb hd hx ha hdb he hpl
/-- f(..), f a def that raises nothing -/
theorem d_call {kf : Nat} {f : Addr} {fd : FuncData} {ps : List Str} {fs : FS} {qs : List DA} (G : FnOk P w K mg base CX0 kf f fd ps (spOf K fs)) (gm : mg x = some (.ref f)) (kp : PySem.W.keepIn K (.ref f) = true) (bb : Binds K fd ps []) (ha : DC F (a :: es) qs) (hk : kf ≤ k := by decide)
    (hg : ∀ j, Gl (F.X j) x := by intro _; rfl) (hdb : (x == ("__debug__" : Str)) = false := by decide) (he : ∀ j, starEach (a :: es) (F.X j).env = (false, eval a (F.X j).env) :: starEach es (F.X j).env := by intro _; rfl)
    (hpl : ∀ j, (backTo pos (starEach es (F.X j).env)).any (·.1) = false := by intro _; rfl) : DE F (.Call (.Name x p) (a :: es) [] pos) (wCall fs qs) := by
  obtain ⟨u, u1, u2⟩ := ha
  exact ⟨_, fun j => callX (F.hP j) (F.hw j) (F.hK j) (F.hm j) (F.hb j) G (F.room j) hk (hg j) gm kp bb .nil (fun _ _ _ _ _ _ _ h => h.elim) (u1 j) hdb (he j) (hpl j), ew_call u2 fun _ => rfl⟩
theorem o_call {kf : Nat} {f : Addr} {fd : FuncData} {ps : List Str} {fs : FS} {qs : List DA} (G : FnOk P w K mg base CX0 kf f fd ps (spOf K fs)) (gm : mg x = some (.ref f)) (kp : PySem.W.keepIn K (.ref f) = true) (bb : Binds K fd ps []) (ha : DC F (a :: es) qs) (hk : kf ≤ k := by decide)
    (hg : ∀ j, Gl (F.X j) x := by intro _; rfl) (hdb : (x == ("__debug__" : Str)) = false := by decide) (he : ∀ j, starEach (a :: es) (F.X j).env = (false, eval a (F.X j).env) :: starEach es (F.X j).env := by intro _; rfl)
    (hpl : ∀ j, (backTo pos (starEach es (F.X j).env)).any (·.1) = false := by intro _; rfl) : DO F (.Call (.Name x p) (a :: es) [] pos) (wCallO fs qs) := by
  obtain ⟨u, u1, u2⟩ := ha
  exact ⟨_, fun j => callX (F.hP j) (F.hw j) (F.hK j) (F.hm j) (F.hb j) G (F.room j) hk (hg j) gm kp bb .nil (fun _ _ _ _ _ _ _ h => h.elim) (u1 j) hdb (he j) (hpl j), eo_call u2 fun _ => rfl⟩
end
end DW

/-! DwH: targets, statements, a def's body. -/
namespace DW
open PySem PySem.Spec PyProof.Rows L2

section
variable {P : Program} {w : World} {K : PySem.W.Frag} {mg : Str → Option Value} {base : Heap} {N : List Str} {k : Nat} {W : WX}
variable {F : Fam P w K mg base N k W} {a b c e : Expr} {es : List Expr} {x y z : Str} {pos p p2 p3 p4 : Pos} {qa qb qc : WE} {q r : WT} {s : Stmt} {ss s1 s2 : List Stmt} {ws wr : WS} {o : WO} {tg : Tg}

/-! ### targets -/
theorem g_nm (i : Nat) (h : N[i]? = some x := by rfl) (hx : ∀ j, Loc (F.X j).env.scope x := by intro _; first | exact Or.inl rfl | exact Or.inr rfl)
    (hf : ∀ j, (F.X j).fn x = true ∨ (F.X j).env.scope.names.lookup x = some .local := by intro _; first | exact .inl rfl | exact .inr rfl) : DG F (.Name x pos) (.nm i) :=
  ⟨_, fun j => pg_name (by rw [F.hN j]; exact F.nd) (by rw [F.hN j]; exact h) (hx j) (hf j), gw_nm⟩
theorem gs_nil : DGs F [] [] := ⟨_, fun _ => pgs_nil, gws_nil⟩
theorem gs_cons {ts : List Tg} (h : DG F e tg) (hr : DGs F es ts) (hn : ∀ j, ((assignEach (e :: es) (F.X j).env).map (·.2)) = assign e (F.X j).env :: (assignEach es (F.X j).env).map (·.2) := by intro _; rfl) : DGs F (e :: es) (tg :: ts) := by
  obtain ⟨t, h1, h2⟩ := h
  obtain ⟨u, u1, u2⟩ := hr
  exact ⟨_, fun j => pgs_cons (h1 j) (u1 j) (hn j), gws_cons h2 u2⟩
theorem gtupK {X : Cx} {g : TGs} {kk : Nat} {n : Nat} (h : X.K = K) (hc : X.calm = true) (hg : PGs X es g) (hn : (assignEach es X.env).length = n) (hst : (assignEach es X.env).findIdx? (·.1) = none) : PG X (.Tuple es kk pos) (gTup K n g) := by
  subst h
  exact pg_tup hc hg hn hst
theorem g_tp {ts : List Tg} {kk : Nat} (h : DGs F es ts) (hn : ∀ j, (assignEach es (F.X j).env).length = ts.length := by intro _; rfl) (hst : ∀ j, (assignEach es (F.X j).env).findIdx? (·.1) = none := by intro _; rfl) : DG F (.Tuple es kk pos) (.tp ts) := by
  obtain ⟨u, u1, u2⟩ := h
  exact ⟨_, fun j => gtupK (F.hK j) (F.calm j) (u1 j) (hn j) (hst j), gw_tp u2⟩
/-! ### statements -/
theorem ss_nil : DSs F [] wNext := ⟨_, fun _ => pss_nil, sw_next⟩
theorem ss_cons (h : DS1 F s ws) (h' : DSs F ss wr) : DSs F (s :: ss) (wSeq ws wr) := by
  obtain ⟨t, h1, h2⟩ := h
  obtain ⟨u, u1, u2⟩ := h'
  exact ⟨_, fun i => pss_cons (h1 i) (u1 i), sw_seq h2 u2⟩
theorem ss_one (h : DS1 F s ws) : DSs F [s] ws := by
  obtain ⟨t, h1, h2⟩ := h
  exact ⟨_, fun i => pss_one (h1 i), h2⟩
/-- name = e -/
theorem s_set (i : Nat) (he : DE F e qa) (h : N[i]? = some x := by rfl) (hx : ∀ j, Loc (F.X j).env.scope x := by intro _; first | exact Or.inl rfl | exact Or.inr rfl) (hs : ∀ j, swapsWith e (some (.Name x p)) pos.line (F.X j).env = pure false := by intro _; rfl)
    (hf : ∀ j, (F.X j).fn x = true ∨ (F.X j).env.scope.names.lookup x = some .local := by intro _; first | exact .inl rfl | exact .inr rfl) : DS1 F (.Assign [.Name x p] e pos) (wAsg qa (.nm i)) := by
  obtain ⟨t, h1, h2⟩ := he
  exact ⟨_, fun j => ps_set (i := i) (by rw [F.hN j]; exact F.nd) (by rw [F.hN j]; exact h) (hx j) (h1 j) (hs j) (hf j), sw_asg h2 gw_nm⟩
/-- name = a list of the body's own -/
theorem s_setO (i : Nat) (he : DO F e o) (h : N[i]? = some x := by rfl) (hx : ∀ j, Loc (F.X j).env.scope x := by intro _; first | exact Or.inl rfl | exact Or.inr rfl) (hs : ∀ j, swapsWith e (some (.Name x p)) pos.line (F.X j).env = pure false := by intro _; rfl)
    (hf : ∀ j, (F.X j).fn x = true ∨ (F.X j).env.scope.names.lookup x = some .local := by intro _; first | exact .inl rfl | exact .inr rfl) : DS1 F (.Assign [.Name x p] e pos) (wAsgO o i) := by
  obtain ⟨t, h1, h2⟩ := he
  exact ⟨_, fun j => ps_set (i := i) (by rw [F.hN j]; exact F.nd) (by rw [F.hN j]; exact h) (hx j) (h1 j) (hs j) (hf j), sw_asgO h2⟩
/-- any other target -/
theorem s_asg (he : DE F e qa) (hg : DG F a tg) (hs : ∀ j, swapsWithSole [a] e pos.line (F.X j).env = pure false := by intro _; rfl) (hw : ∀ j, swappedStores [a] e (F.X j).env = pure none := by intro _; rfl)
    (h1 : ∀ j, (assignEach [a] (F.X j).env).map (·.2) = [assign a (F.X j).env] := by intro _; rfl) : DS1 F (.Assign [a] e pos) (wAsg qa tg) := by
  obtain ⟨t, t1, t2⟩ := he
  obtain ⟨g, g1, g2⟩ := hg
  exact ⟨_, fun j => ps_asg (t1 j) (g1 j) (hs j) (hw j) (h1 j), sw_asg t2 g2⟩
/-- x, y = a, b -/
theorem s_par (i l : Nat) {kt k2 : Nat} (ha : DE F a qa) (hb : DE F b qb) (hi : N[i]? = some x := by rfl) (hl : N[l]? = some y := by rfl) (hn : i ≠ l := by decide) (hx : ∀ j, (F.X j).env.scope.names.lookup x = some .local := by intro _; rfl) (hy : ∀ j, (F.X j).env.scope.names.lookup y = some .local := by intro _; rfl)
    (hw : ∀ j, swappedStores [.Tuple [.Name x p, .Name y p2] kt p3] (.Tuple [a, b] k2 p4) (F.X j).env = pure (some [x, y]) := by intro _; rfl) (hs : ∀ j, swapsWithSole [.Tuple [.Name x p, .Name y p2] kt p3] (.Tuple [a, b] k2 p4) pos.line (F.X j).env = pure false := by intro _; rfl)
    (h1 : ∀ j, starEach [a, b] (F.X j).env = (false, eval a (F.X j).env) :: starEach [b] (F.X j).env := by intro _; rfl) (h2 : ∀ j, starEach [b] (F.X j).env = (false, eval b (F.X j).env) :: starEach [] (F.X j).env := by intro _; rfl) :
    DS1 F (.Assign [.Tuple [.Name x p, .Name y p2] kt p3] (.Tuple [a, b] k2 p4) pos) (wPar i l qa qb) := by
  obtain ⟨t, t1, t2⟩ := ha
  obtain ⟨u, u1, u2⟩ := hb
  exact ⟨_, fun j => ps_par (F.calm j) (by rw [F.hN j]; exact F.nd) (by rw [F.hN j]; exact hi) (by rw [F.hN j]; exact hl) hn (hx j) (hy j) (pa_cons (t1 j) (pa_cons (u1 j) pa_nil (h2 j)) (h1 j)) (hw j) (hs j), sw_par t2 u2⟩
theorem s_ret (he : DE F e qa) : DS1 F (.Return (some e) pos) (wRet qa) := by
  obtain ⟨t, t1, t2⟩ := he
  exact ⟨_, fun j => ps_ret (t1 j), sw_ret t2⟩
theorem s_retO (he : DO F e o) : DS1 F (.Return (some e) pos) (wRetO o) := by
  obtain ⟨t, t1, t2⟩ := he
  exact ⟨_, fun j => ps_ret (t1 j), sw_retO t2⟩
theorem s_retS (i : Nat) (h : N[i]? = some x := by rfl) (hv : ∀ j, Vis (F.X j).env.scope x := by intro _; first | exact Or.inl rfl | exact Or.inr (Or.inl rfl) | exact Or.inr (Or.inr rfl))
    (hd : (x == ("__debug__" : Str)) = false := by decide) (hcd : (x == ("__classdict__" : Str)) = false := by decide) : DS1 F (.Return (some (.Name x p)) pos) (wRetS i) :=
  ⟨_, fun j => ps_ret (pe_var (i := i) (by rw [F.hN j]; exact h) (hv j) hd hcd), sw_retS⟩
theorem s_retN : DS1 F (.Return none pos) wRetN := ⟨_, fun _ => ps_retN, sw_retN⟩
theorem s_if (hc : DT F c q) (h1 : DSs F s1 ws) (h2 : DSs F s2 wr) : DS1 F (.If c s1 s2 pos) (wIfS q ws wr) := by
  obtain ⟨t, t1, t2⟩ := hc
  obtain ⟨u, u1, u2⟩ := h1
  obtain ⟨v, v1, v2⟩ := h2
  exact ⟨_, fun j => ps_if (t1 j) (u1 j) (v1 j), sw_if t2 u2 v2⟩
theorem s_drop (he : DE F e qa) (hs : ∀ j, swapsWith e none pos.line (F.X j).env = pure false := by intro _; rfl) : DS1 F (.Expr e pos) (wDrop qa) := by
  obtain ⟨t, t1, t2⟩ := he
  exact ⟨_, fun j => ps_expr (t1 j) (hs j), sw_drop t2⟩
theorem s_pass : DS1 F (.Pass pos) wNext := ⟨_, fun _ => ps_pass, sw_next⟩
theorem s_brk : DS1 F (.Break pos) wBrk := ⟨_, fun _ => ps_break, sw_brk⟩
theorem s_cont : DS1 F (.Continue pos) wCont := ⟨_, fun _ => ps_continue, sw_cont⟩
theorem s_never : DS1 F s wNever := ⟨_, fun _ => ps_never, sw_never⟩
/-- xs[e] = v, the own list in slot i -/
theorem s_put (i : Nat) (ha : DE F a qa) (hb : DE F b qb) (h : N[i]? = some x := by rfl) (hv : ∀ j, Vis (F.X j).env.scope x := by intro _; first | exact Or.inl rfl | exact Or.inr (Or.inl rfl) | exact Or.inr (Or.inr rfl))
    (hd : (x == ("__debug__" : Str)) = false := by decide) (hcd : (x == ("__classdict__" : Str)) = false := by decide)
    (hs : ∀ j, swapsWithSole [.Subscript (.Name x p) b p2] a pos.line (F.X j).env = pure false := by intro _; rfl) (hw : ∀ j, swappedStores [.Subscript (.Name x p) b p2] a (F.X j).env = pure none := by intro _; rfl)
    (h1 : ∀ j, (assignEach [.Subscript (.Name x p) b p2] (F.X j).env).map (·.2) = [assign (.Subscript (.Name x p) b p2) (F.X j).env] := by intro _; rfl)
    (ha2 : ∀ j, ∀ v, assign (.Subscript (.Name x p) b p2) (F.X j).env v = (do
      let ov ← holding [v] (eval (.Name x p) (F.X j).env)
      let iv ← holding [v, ov] (eval b (F.X j).env)
      standAt p2
      holding [v, ov, iv] (setItem ov iv v)
      release [v, ov, iv] []) := by intro _ _; rfl) : DS1 F (.Assign [.Subscript (.Name x p) b p2] a pos) (wSet i qb qa) := by
  obtain ⟨t, t1, t2⟩ := ha
  obtain ⟨u, u1, u2⟩ := hb
  exact ⟨_, fun j => ps_asg (t1 j) (pg_sub (pe_var (i := i) (by rw [F.hN j]; exact h) (hv j) hd hcd) (u1 j) set_list (ha2 j)) (hs j) (hw j) (h1 j), sw_set t2 u2⟩
theorem appK {X : Cx} {to : TE} {t : TA} {apos : Pos} (h : X.K = K) (ho : PE X e to) (ha : PA X [a] t) (hbase : attributeBase e "append" X.env (eval e X.env) = eval e X.env)
    (hfew : ((backTo pos (starEach [a] X.env)).all (fun x => !x.1) && (backToKw pos (keywordEach [] X.env)).all (fun x => x.1.isSome) && decide ([a].length + ([] : List Keyword).length + (if ([] : List Keyword).isEmpty then 0 else 1) < 30)) = true)
    (hline : (apos.endLine == pos.line) = true) (hs : starEach [a] X.env = (false, eval a X.env) :: starEach [] X.env) (hplain : (backTo pos (starEach [] X.env)).any (·.1) = false) :
    PE X (.Call (.Attribute e "append" apos) [a] [] pos) (tBM K "list" rAppend to t) := by
  subst h
  exact pe_bm PySem.F.plainAttrs_list PySem.F.slot_list_append PySem.F.type_list_append mt_append ho ha hbase hfew hline hs hplain
/-- xs.append(v), the own list in slot i -/
theorem s_app (i : Nat) {apos cpos : Pos} (ha : DE F a qa) (h : N[i]? = some x := by rfl) (hv : ∀ j, Vis (F.X j).env.scope x := by intro _; first | exact Or.inl rfl | exact Or.inr (Or.inl rfl) | exact Or.inr (Or.inr rfl))
    (hd : (x == ("__debug__" : Str)) = false := by decide) (hcd : (x == ("__classdict__" : Str)) = false := by decide) (hbase : ∀ j, attributeBase (.Name x p) "append" (F.X j).env (eval (.Name x p) (F.X j).env) = eval (.Name x p) (F.X j).env := by intro _; rfl)
    (hfew : ∀ j, ((backTo cpos (starEach [a] (F.X j).env)).all (fun x => !x.1) && (backToKw cpos (keywordEach [] (F.X j).env)).all (fun x => x.1.isSome) && decide ([a].length + ([] : List Keyword).length + (if ([] : List Keyword).isEmpty then 0 else 1) < 30)) = true := by intro _; rfl)
    (hline : (apos.endLine == cpos.line) = true := by rfl) (hs : ∀ j, starEach [a] (F.X j).env = (false, eval a (F.X j).env) :: starEach [] (F.X j).env := by intro _; rfl) (hplain : ∀ j, (backTo cpos (starEach [] (F.X j).env)).any (·.1) = false := by intro _; rfl)
    (hsw : ∀ j, swapsWith (.Call (.Attribute (.Name x p) "append" apos) [a] [] cpos) none pos.line (F.X j).env = pure false := by intro _; rfl) : DS1 F (.Expr (.Call (.Attribute (.Name x p) "append" apos) [a] [] cpos) pos) (wApp i qa) := by
  obtain ⟨t, t1, t2⟩ := ha
  exact ⟨_, fun j => ps_expr (appK (F.hK j) (pe_var (i := i) (by rw [F.hN j]; exact h) (hv j) hd hcd) (pa_cons (t1 j) pa_nil (hs j)) (hbase j) (hfew j) hline (hs j) (hplain j)) (hsw j), sw_app t2⟩
/-- x op= e -/
theorem s_aug (i : Nat) {op : Operator} {ti : TIp} {f : B2} (ho : ∀ X : Cx, PIp X op ti) (hr : RW2 K ti f) (he : DE F e qa) (h : N[i]? = some x := by rfl) (hx : ∀ j, Loc (F.X j).env.scope x := by intro _; first | exact Or.inl rfl | exact Or.inr rfl)
    (hf : ∀ j, (F.X j).fn x = true ∨ (F.X j).env.scope.names.lookup x = some .local := by intro _; first | exact .inl rfl | exact .inr rfl) : DS1 F (.AugAssign (.Name x p) op e pos) (wAug i f qa) := by
  obtain ⟨t, t1, t2⟩ := he
  exact ⟨_, fun j => ps_aug (i := i) (by rw [F.hN j]; exact F.nd) (by rw [F.hN j]; exact h) (hx j) (t1 j) (ho _) (hf j), sw_aug hr t2⟩
theorem s_augAdd (i : Nat) (he : DE F e qa) (h : N[i]? = some x := by rfl) (hx : ∀ j, Loc (F.X j).env.scope x := by intro _; first | exact Or.inl rfl | exact Or.inr rfl)
    (hf : ∀ j, (F.X j).fn x = true ∨ (F.X j).env.scope.names.lookup x = some .local := by intro _; first | exact .inl rfl | exact .inr rfl) : DS1 F (.AugAssign (.Name x p) .Add e pos) (wAug i dAdd qa) := s_aug i (fun _ => ip_add) rw_add he h hx hf
theorem s_augSub (i : Nat) (he : DE F e qa) (h : N[i]? = some x := by rfl) (hx : ∀ j, Loc (F.X j).env.scope x := by intro _; first | exact Or.inl rfl | exact Or.inr rfl)
    (hf : ∀ j, (F.X j).fn x = true ∨ (F.X j).env.scope.names.lookup x = some .local := by intro _; first | exact .inl rfl | exact .inr rfl) : DS1 F (.AugAssign (.Name x p) .Sub e pos) (wAug i dSub qa) := s_aug i (fun _ => ip_sub) rw_sub he h hx hf
theorem s_while (hc : DT F c q) (h1 : DSs F s1 ws) : DS1 F (.While c s1 [] pos) (wWhile q ws) := by
  obtain ⟨t, t1, t2⟩ := hc
  obtain ⟨u, u1, u2⟩ := h1
  exact ⟨_, fun j => ps_while (F.po j) (t1 j) (u1 j), sw_while t2 u2⟩
theorem piK {X : Cx} {tl : TE} (h : X.K = K) (hl : PE X a tl) : PI X b a (iSeq K tl) := by subst h; exact pi_seq hl
theorem s_for (he : DE F e qa) (hg : DG F a tg) (h1 : DSs F s1 ws) (hs : ∀ j, ∀ x, foldedSetIterable e (F.X j).env x = pure x := by intro _ _; rfl) : DS1 F (.For a e s1 [] pos) (wFor qa tg ws) := by
  obtain ⟨t, t1, t2⟩ := he
  obtain ⟨g, g1, g2⟩ := hg
  obtain ⟨u, u1, u2⟩ := h1
  exact ⟨_, fun j => ps_for (F.po j) (F.calm j) (piK (F.hK j) (t1 j)) (g1 j) (u1 j) (hs j), sw_for t2 g2 u2⟩
theorem s_forR1 {p pp : Pos} (hm : mg "range" = none) (he : DE F e qa) (hg : DG F a tg) (h1 : DSs F s1 ws) (hgl : ∀ j, Gl (F.X j) "range" := by intro _; rfl) (hs : ∀ j, starEach [e] (F.X j).env = [(false, eval e (F.X j).env)] := by intro _; rfl)
    (hf : ∀ j, ∀ x, foldedSetIterable (.Call (.Name "range" p) [e] [] pp) (F.X j).env x = pure x := by intro _ _; rfl) : DS1 F (.For a (.Call (.Name "range" p) [e] [] pp) s1 [] pos) (wForR [qa] tg ws) := by
  obtain ⟨t, t1, t2⟩ := he
  obtain ⟨g, g1, g2⟩ := hg
  obtain ⟨u, u1, u2⟩ := h1
  exact ⟨_, fun j => ps_for (F.po j) (F.calm j) (pi_range1 (hgl j) (by rw [F.hm j]; exact hm) (pa_cons (t1 j) pa_nil (hs j)) (hs j)) (g1 j) (u1 j) (hf j), sw_forR1 t2 g2 u2⟩
end
end DW

/-! DwI: comprehensions in a derivation, a def's body keeps its promise. -/
namespace DW
open PySem PySem.Spec PyProof.Rows L2

theorem takesN {X : Cx} : Takes X Wn := fun u s' x => by
  obtain ⟨a, B, sI, pins, σ, H, cls, d, e, I, nb, up, sky, na, os, ag, w⟩ := x
  exact w.elim
section
variable {P : Program} {w : World} {K : PySem.W.Frag} {mg : Str → Option Value} {base : Heap} {N : List Str} {k : Nat} {W : WX}
/-- the blocks of a comprehension -/
def Fam.blk (F : Fam P w K mg base N k W) (scope : Scope) : Fam P w K mg base N k Wn where
  ι := F.ι × Shared × Hp × Addr × List (Str × Addr) × List Addr
  X := fun j => (F.X j.1).blk j.2.1 j.2.2.1 scope (compEnvC scope j.2.2.2.2.1 j.2.2.2.1 (F.X j.1).env) j.2.2.2.2.2
  hP := fun j => F.hP j.1
  hw := fun j => F.hw j.1
  hK := fun j => F.hK j.1
  hm := fun j => F.hm j.1
  hb := fun j => F.hb j.1
  hN := fun j => F.hN j.1
  calm := fun j => F.calm j.1
  room := fun j => F.room j.1
  nd := F.nd
  po := fun _ => PassesOwn.never
  tk := fun _ => takesN
def DTs (F : Fam P w K mg base N k W) (es : List Expr) (q : WT) : Prop := ∃ tt, (∀ i, PTs (F.X i) es tt) ∧ TW K W tt q
variable {F : Fam P w K mg base N k W} {a b c e tg it : Expr} {es : List Expr} {x y z : Str} {pos p p2 p3 p4 : Pos} {qa qb qc qe : WE} {q r : WT} {g : Tg}
theorem ts_nil : DTs F [] wYes := ⟨_, fun _ => pts_nil, tw_yes⟩
theorem ts_one (h : DT F c q) : DTs F [c] q := by
  obtain ⟨t, h1, h2⟩ := h
  exact ⟨_, fun i => pts_one (h1 i), h2⟩
/-- [e for tg in it if ..] -/
theorem o_lc (own : List (Str × Nat)) {scope : Scope} (hi : DE F it qa) (hg : DG (F.blk scope) tg g) (ht : DTs (F.blk scope) es q) (he : DE (F.blk scope) e qe) (ok : ∀ j, BlkOk N (F.X j).env.scope scope own) (hn : ∀ i ∈ tgn g, i ∈ own.map (·.2) := by decide)
    (hs : ∀ j, ∀ x, foldedSetIterable it (F.X j).env x = pure x := by intro _ _; rfl) : DO F (.ListComp e [⟨tg, it, es, 0⟩] scope pos) (wLc qa g (own.map (·.2)) q qe) := by
  obtain ⟨t, t1, t2⟩ := hi
  obtain ⟨gg, g1, g2⟩ := hg
  obtain ⟨u, u1, u2⟩ := ht
  obtain ⟨v, v1, v2⟩ := he
  exact ⟨_, fun j => pe_lc (F.calm j) (by rw [F.hN j]; exact F.nd) (piK (F.hK j) (t1 j)) (by rw [F.hN j]; exact ok j) (fun s H C cl fp => g1 (j, s, H, C, cl, fp)) (fun s H C cl fp => u1 (j, s, H, C, cl, fp)) (fun s H C cl fp => v1 (j, s, H, C, cl, fp)) (hs j), eo_lc t2 g2 u2 v2 hn⟩
theorem o_lcR1 (own : List (Str × Nat)) {scope : Scope} {p pp : Pos} (hm : mg "range" = none) (hi : DE F a qa) (hg : DG (F.blk scope) tg g) (ht : DTs (F.blk scope) es q) (he : DE (F.blk scope) e qe) (ok : ∀ j, BlkOk N (F.X j).env.scope scope own) (hn : ∀ i ∈ tgn g, i ∈ own.map (·.2) := by decide)
    (hgl : ∀ j, Gl (F.X j) "range" := by intro _; rfl) (h1 : ∀ j, starEach [a] (F.X j).env = [(false, eval a (F.X j).env)] := by intro _; rfl)
    (hs : ∀ j, ∀ x, foldedSetIterable (.Call (.Name "range" p) [a] [] pp) (F.X j).env x = pure x := by intro _ _; rfl) : DO F (.ListComp e [⟨tg, .Call (.Name "range" p) [a] [] pp, es, 0⟩] scope pos) (wLcR [qa] g (own.map (·.2)) q qe) := by
  obtain ⟨t, t1, t2⟩ := hi
  obtain ⟨gg, g1, g2⟩ := hg
  obtain ⟨u, u1, u2⟩ := ht
  obtain ⟨v, v1, v2⟩ := he
  exact ⟨_, fun j => pe_lc (F.calm j) (by rw [F.hN j]; exact F.nd) (pi_range1 (hgl j) (by rw [F.hm j]; exact hm) (pa_cons (t1 j) pa_nil (h1 j)) (h1 j)) (by rw [F.hN j]; exact ok j) (fun s H C cl fp => g1 (j, s, H, C, cl, fp)) (fun s H C cl fp => u1 (j, s, H, C, cl, fp)) (fun s H C cl fp => v1 (j, s, H, C, cl, fp)) (hs j),
    eo_lcR1 t2 g2 u2 v2 hn⟩
/-! ### a def's body -/
def Fam.body (P : Program) (w : World) (K : PySem.W.Frag) (mg : Str → Option Value) (base : Heap) (N : List Str) (k : Nat) (qual : Str) (scope : Scope) (f : Addr) (cdv : Value) (A : Around) (outer : List PySem.Env) (s : Shared) (H : Hp) (E : XK) (hr : Room k (A.deeper (envOfC qual scope s.heap.objs.size f cdv))) (nd : N.Nodup) : Fam P w K mg base N k Wn where
  ι := Unit
  X := fun _ => (cxOf CX0 P w K mg base N qual scope f cdv A outer s H E).nox
  hP := fun _ => rfl
  hw := fun _ => rfl
  hK := fun _ => rfl
  hm := fun _ => rfl
  hb := fun _ => rfl
  hN := fun _ => rfl
  calm := fun _ => rfl
  room := fun _ => hr
  nd := nd
  po := fun _ => PassesOwn.never
  tk := fun _ => takesN
theorem gt_app : ∀ (l : List DV) (m i : Nat), gt (l.map some ++ List.replicate m none) i = l[i]?
  | [], 0, i => rfl
  | [], m + 1, 0 => rfl
  | [], m + 1, i + 1 => by
    show gt ([].map some ++ List.replicate m none) i = _
    rw [gt_app [] m i]
    rfl
  | d :: l, m, 0 => rfl
  | d :: l, m, i + 1 => gt_app l m i
theorem start_at {vs : List V} {N : List Str} {i : Nat} {v : V} (h : vs[i]? = some v) : (L2.start N vs)[i]? = some (some v) := by
  unfold L2.start
  have hl := (List.getElem?_eq_some_iff.mp h).1
  rw [List.getElem?_append_left (by rw [List.length_map]; exact hl), List.getElem?_map, h]
  rfl
theorem outs_at : ∀ {dvs : List DV} {ds : DS} {o : List DV}, outs dvs ds = some o → ∀ (i : Nat) xs, dvs[i]? = some (.par xs) → ∃ ys, gt ds i = some (.par ys) ∧ o[i]? = some (.par ys)
  | [], ds, o, _, i, xs, e => by simp at e
  | .par _ :: r, some (.par ys) :: s, o, h, i, xs, e => by
    have h : (outs r s).map (DV.par ys :: ·) = some o := h
    cases q : outs r s with
    | none => rw [q] at h; cases h
    | some o' =>
      rw [q] at h
      have h : DV.par ys :: o' = o := Option.some.inj h
      rw [← h]
      cases i with
      | zero => exact ⟨ys, rfl, rfl⟩
      | succ i => exact outs_at q i xs e
  | .par _ :: r, [], o, h, i, xs, e => by cases (show (none : Option (List DV)) = some o from h)
  | .par _ :: r, none :: s, o, h, i, xs, e => by cases (show (none : Option (List DV)) = some o from h)
  | .par _ :: r, some (.val _) :: s, o, h, i, xs, e => by cases (show (none : Option (List DV)) = some o from h)
  | .par _ :: r, some (.own _) :: s, o, h, i, xs, e => by cases (show (none : Option (List DV)) = some o from h)
  | .val d :: r, [], o, h, i, xs, e => by cases (show (none : Option (List DV)) = some o from h)
  | .own d :: r, [], o, h, i, xs, e => by cases (show (none : Option (List DV)) = some o from h)
  | .val d :: r, x :: s, o, h, i, xs, e => by
    have h : (outs r s).map (DV.val d :: ·) = some o := h
    cases q : outs r s with
    | none => rw [q] at h; cases h
    | some o' =>
      rw [q] at h
      have h : DV.val d :: o' = o := Option.some.inj h
      rw [← h]
      cases i with
      | zero => cases (Option.some.inj e : DV.val d = DV.par xs)
      | succ i => exact outs_at q i xs e
  | .own d :: r, x :: s, o, h, i, xs, e => by
    have h : (outs r s).map (DV.own d :: ·) = some o := h
    cases q : outs r s with
    | none => rw [q] at h; cases h
    | some o' =>
      rw [q] at h
      have h : DV.own d :: o' = o := Option.some.inj h
      rw [← h]
      cases i with
      | zero => cases (Option.some.inj e : DV.own d = DV.par xs)
      | succ i => exact outs_at q i xs e
/-- the ground of a call -/
def ground (G H : Hp) (pa : Nat → Addr) (dvs : List DV) : C0 := ⟨H, G, fun a => ∃ i xs, dvs[i]? = some (.par xs) ∧ a = pa i, pa⟩
theorem env_start {G H : Hp} {pa : Nat → Addr} {vs : List V} {dvs : List DV} {N : List Str} (s : Same G H) (ha : Args K G H pa vs dvs) (hl : dvs.length ≤ N.length) : Env K (ground G H pa dvs) pa G H (L2.start N vs) (entry N.length dvs) := by
  have at_ : ∀ i, gt (entry N.length dvs) i = dvs[i]? := fun i => gt_app dvs _ i
  refine ⟨s, fun a o h _ => h, fun a h => h, fun _ _ q => q, fun _ _ => rfl, ?_, fun i dv h => ?_, fun i j dv dv' h h' o o' n => ?_, fun i xs h => rfl⟩
  · unfold entry L2.start
    rw [List.length_append, List.length_append, List.length_map, List.length_map, List.length_replicate, List.length_replicate, ha.len]
  · rw [at_] at h
    have q := ha.here i dv h
    cases dv with
    | val d =>
      obtain ⟨v, e, r⟩ := q
      exact ⟨v, start_at e, r⟩
    | own xs => exact q.elim
    | par xs =>
      obtain ⟨e, g, hh⟩ := q
      exact ⟨start_at e, g, ⟨i, xs, h, rfl⟩, hh⟩
  · rw [at_] at h h'
    have q := ha.here i dv h
    have q' := ha.here j dv' h'
    cases dv with
    | val d => cases o
    | own xs => exact q.elim
    | par xs =>
      cases dv' with
      | val d => cases o'
      | own xs => exact q'.elim
      | par ys => exact ha.inj i j xs ys h h' n
theorem back_of {G H G' H' : Hp} {pa pa' : Nat → Addr} {dvs o : List DV} {σ : L2.St} {ds : DS} (E : Env K (ground G H pa dvs) pa' G' H' σ ds) (ho : outs dvs ds = some o) : Back K G H G' H' pa dvs o where
  ex := E.ex
  gg := E.ge
  gf := E.gf
  fr := fun a u h n => E.fr a u h fun ⟨i, xs, e, q⟩ => n i xs e q
  dom := E.dom
  pars := fun i xs e => by
    obtain ⟨ys, g1, g2⟩ := outs_at ho i xs e
    obtain ⟨_, _, _, hh⟩ := E.sl i _ g1
    rw [E.ps i ys g1] at hh
    exact ⟨ys, g2, hh⟩
theorem out_some {o : Option (List DV)} {P : List DV → Prop} (h : match o with | some x => P x | none => False) : ∃ x, o = some x ∧ P x := by
  cases o with
  | none => exact h.elim
  | some x => exact ⟨x, rfl, h⟩
theorem ends_ok {G H : Hp} {pa : Nat → Addr} {dvs : List DV} {kk : Out → List DV → Prop} {Q : VK} {n : L2.St → Hp → Prop} {xk : XKd} (hn : ∀ σ H', Q .non H' → n σ H')
    (k1 : ∀ v r dvs' G' H', kk (.ret r) dvs' → Back K G H G' H' pa dvs dvs' → Res K H G' H' v r → Q v H') : EndsOk K (ground G H pa dvs) { ends dvs kk with x := xk } { nx := n, rt := Q } where
  nx := fun pa' G' H' σ ds h E => by
    obtain ⟨o, ho, q⟩ := out_some (P := fun o => kk (.ret (.val .non)) o) h
    exact hn σ H' (k1 .non _ o G' H' q (back_of E ho) rfl)
  rt := fun pa' G' H' σ ds v r h E R => by
    obtain ⟨o, ho, q⟩ := out_some (P := fun o => kk (.ret r) o) h
    refine k1 v r o G' H' q (back_of E ho) ?_
    cases r with
    | val d => exact R
    | own xs =>
      obtain ⟨p, e, t⟩ := R
      exact ⟨p, e, t.h0, t.g, t.here⟩
    | par xs => exact R.elim
  bk := fun _ _ _ _ _ h _ => h.elim
  ct := fun _ _ _ _ _ h _ => h.elim
/-- THE RULE: a def of the text that raises nothing keeps its promise over data -/
theorem fn_keeps0 {x qual : Str} {st : Stmt} {f : Addr} {fd : FuncData} {N ps : List Str} {k : Nat} {fs : FS} {ws : WS} (Fn : Fun K x qual st f fd) (S : FnScope N ps (defScope st)) (hl : ∀ dvs kk, fs dvs kk → dvs.length = ps.length) (hN : ps.length ≤ N.length := by decide)
    (hd : ∀ (cdv : Value) (A : Around) (outer : List PySem.Env) (s : Shared) (H : Hp) (E : XK) (hr : Room k (A.deeper (envOfC qual (defScope st) s.heap.objs.size f cdv))), DSs (Fam.body P w K mg base N k qual (defScope st) f cdv A outer s H E hr S.nd) (defBody st) ws)
    (hk : Keeps0 N.length ws fs) : FnOk P w K mg base CX0 (k + 1) f fd ps (spOf K fs) := by
  refine Fn.ok S (spOf_len hl) fun cdv A outer s H vs Q E hr hsp => ?_
  obtain ⟨G, pa, dvs, kk, sg, ha, hf, k1, k2⟩ := hsp
  obtain ⟨t, t1, t2⟩ := hd cdv A outer s H E hr
  refine ⟨t, t1 (), t2 (ground G H pa dvs) pa G H _ _ _ _ (env_start sg ha (by rw [hl dvs kk hf]; exact hN)) (hk dvs kk hf) (fun _ _ z => z.elim) (ends_ok (fun _ _ q => q) k1)⟩
end
end DW

/-! DwJ: calls by their bundles, further pieces. -/
namespace DW
open PySem PySem.Spec PyProof.Rows L2

/-- a def of the text that is called by its name: it stands there, it keeps its promise -/
structure Cal (P : Program) (w : World) (K : PySem.W.Frag) (mg : Str → Option Value) (base : Heap) (k : Nat) (x : Str) (ps : List Str) (fs : FS) : Prop where
  ex : ∃ f fd, FnOk P w K mg base CX0 k f fd ps (spOf K fs) ∧ mg x = some (.ref f) ∧ PySem.W.keepIn K (.ref f) = true ∧ Binds K fd ps []

section
variable {P : Program} {w : World} {K : PySem.W.Frag} {mg : Str → Option Value} {base : Heap} {N : List Str} {k : Nat} {W : WX}
variable {F : Fam P w K mg base N k W} {a b c e tg it : Expr} {es : List Expr} {x y z : Str} {pos p p2 p3 p4 p5 : Pos} {qa qb qc qe : WE} {q r : WT} {g : Tg} {s1 : List Stmt} {ws : WS}
theorem Cal.mk2 {qual : Str} {st : Stmt} {f : Addr} {fd : FuncData} {N ps : List Str} {fs : FS} {ws : WS} {j : Nat} (Fn : Fun K x qual st f fd) (hm : mg x = some (.ref f)) (bb : Binds K fd ps []) (S : FnScope N ps (defScope st)) (hl : ∀ dvs kk, fs dvs kk → dvs.length = ps.length) (hN : ps.length ≤ N.length)
    (hd : ∀ (cdv : Value) (A : Around) (outer : List PySem.Env) (s : Shared) (H : Hp) (E : XK) (hr : Room j (A.deeper (envOfC qual (defScope st) s.heap.objs.size f cdv))), DSs (Fam.body P w K mg base N j qual (defScope st) f cdv A outer s H E hr S.nd) (defBody st) ws)
    (hk : Keeps0 N.length ws fs) : Cal P w K mg base (j + 1) x ps fs := ⟨f, fd, fn_keeps0 Fn S hl hN hd hk, hm, Fn.kp, bb⟩
theorem d_callC {kf : Nat} {ps : List Str} {fs : FS} {qs : List DA} (C : Cal P w K mg base kf x ps fs) (ha : DC F (a :: es) qs) (hk : kf ≤ k := by decide)
    (hg : ∀ j, Gl (F.X j) x := by intro _; rfl) (hdb : (x == ("__debug__" : Str)) = false := by decide) (he : ∀ j, starEach (a :: es) (F.X j).env = (false, eval a (F.X j).env) :: starEach es (F.X j).env := by intro _; rfl)
    (hpl : ∀ j, (backTo pos (starEach es (F.X j).env)).any (·.1) = false := by intro _; rfl) : DE F (.Call (.Name x p) (a :: es) [] pos) (wCall fs qs) := by
  obtain ⟨f, fd, c1, c2, c3, c4⟩ := C.ex
  exact d_call c1 c2 c3 c4 ha hk hg hdb he hpl
theorem o_callC {kf : Nat} {ps : List Str} {fs : FS} {qs : List DA} (C : Cal P w K mg base kf x ps fs) (ha : DC F (a :: es) qs) (hk : kf ≤ k := by decide)
    (hg : ∀ j, Gl (F.X j) x := by intro _; rfl) (hdb : (x == ("__debug__" : Str)) = false := by decide) (he : ∀ j, starEach (a :: es) (F.X j).env = (false, eval a (F.X j).env) :: starEach es (F.X j).env := by intro _; rfl)
    (hpl : ∀ j, (backTo pos (starEach es (F.X j).env)).any (·.1) = false := by intro _; rfl) : DO F (.Call (.Name x p) (a :: es) [] pos) (wCallO fs qs) := by
  obtain ⟨f, fd, c1, c2, c3, c4⟩ := C.ex
  exact o_call c1 c2 c3 c4 ha hk hg hdb he hpl
/-! ### built-ins by name -/
theorem d_abs (hm : mg "abs" = none) (ha : DE F a qa) (hg : ∀ j, Gl (F.X j) "abs" := by intro _; rfl) (hs : ∀ j, starEach [a] (F.X j).env = (false, eval a (F.X j).env) :: starEach [] (F.X j).env := by intro _; rfl) (hpl : ∀ j, (backTo pos (starEach [] (F.X j).env)).any (·.1) = false := by intro _; rfl) :
    DE F (.Call (.Name "abs" p) [a] [] pos) (wUn dAbs qa) := d_b1 (fun _ => call_abs) rc_abs hm (by decide +kernel) ha hg (by decide) (by decide) hs hpl
theorem d_len (hm : mg "len" = none) (ha : DE F a qa) (hg : ∀ j, Gl (F.X j) "len" := by intro _; rfl) (hs : ∀ j, starEach [a] (F.X j).env = (false, eval a (F.X j).env) :: starEach [] (F.X j).env := by intro _; rfl) (hpl : ∀ j, (backTo pos (starEach [] (F.X j).env)).any (·.1) = false := by intro _; rfl) :
    DE F (.Call (.Name "len" p) [a] [] pos) (wUn dLen qa) := d_b1 (fun j => lenK (F.hK j)) rc_len hm (by decide +kernel) ha hg (by decide) (by decide) hs hpl
theorem d_all (hm : mg "all" = none) (ha : DE F a qa) (hg : ∀ j, Gl (F.X j) "all" := by intro _; rfl) (hs : ∀ j, starEach [a] (F.X j).env = (false, eval a (F.X j).env) :: starEach [] (F.X j).env := by intro _; rfl) (hpl : ∀ j, (backTo pos (starEach [] (F.X j).env)).any (·.1) = false := by intro _; rfl) :
    DE F (.Call (.Name "all" p) [a] [] pos) (wUn dAll qa) := d_b1 (fun j => allK (F.hK j) (F.calm j)) rc_all hm (by decide +kernel) ha hg (by decide) (by decide) hs hpl
theorem d_any (hm : mg "any" = none) (ha : DE F a qa) (hg : ∀ j, Gl (F.X j) "any" := by intro _; rfl) (hs : ∀ j, starEach [a] (F.X j).env = (false, eval a (F.X j).env) :: starEach [] (F.X j).env := by intro _; rfl) (hpl : ∀ j, (backTo pos (starEach [] (F.X j).env)).any (·.1) = false := by intro _; rfl) :
    DE F (.Call (.Name "any" p) [a] [] pos) (wUn dAny qa) := d_b1 (fun j => anyK (F.hK j) (F.calm j)) rc_any hm (by decide +kernel) ha hg (by decide) (by decide) hs hpl
theorem d_sum (hm : mg "sum" = none) (ha : DE F a qa) (hg : ∀ j, Gl (F.X j) "sum" := by intro _; rfl) (hs : ∀ j, starEach [a] (F.X j).env = (false, eval a (F.X j).env) :: starEach [] (F.X j).env := by intro _; rfl) (hpl : ∀ j, (backTo pos (starEach [] (F.X j).env)).any (·.1) = false := by intro _; rfl) :
    DE F (.Call (.Name "sum" p) [a] [] pos) (wUn dSum qa) := d_b1 (fun j => sumK (F.hK j) (F.calm j)) rc_sum hm (by decide +kernel) ha hg (by decide) (by decide) hs hpl
theorem d_max (hm : mg "max" = none) (ha : DE F a qa) (hb : DE F b qb) (hg : ∀ j, Gl (F.X j) "max" := by intro _; rfl) (hs : ∀ j, starEach [a, b] (F.X j).env = (false, eval a (F.X j).env) :: starEach [b] (F.X j).env := by intro _; rfl) (hs2 : ∀ j, starEach [b] (F.X j).env = (false, eval b (F.X j).env) :: starEach [] (F.X j).env := by intro _; rfl)
    (hpl : ∀ j, (backTo pos (starEach [b] (F.X j).env)).any (·.1) = false := by intro _; rfl) : DE F (.Call (.Name "max" p) [a, b] [] pos) (wBin dMax qa qb) := d_b2 (fun j => call_max2 (F.calm j)) rc_max hm (by decide +kernel) ha hb hg (by decide) (by decide) hs hs2 hpl
theorem d_min (hm : mg "min" = none) (ha : DE F a qa) (hb : DE F b qb) (hg : ∀ j, Gl (F.X j) "min" := by intro _; rfl) (hs : ∀ j, starEach [a, b] (F.X j).env = (false, eval a (F.X j).env) :: starEach [b] (F.X j).env := by intro _; rfl) (hs2 : ∀ j, starEach [b] (F.X j).env = (false, eval b (F.X j).env) :: starEach [] (F.X j).env := by intro _; rfl)
    (hpl : ∀ j, (backTo pos (starEach [b] (F.X j).env)).any (·.1) = false := by intro _; rfl) : DE F (.Call (.Name "min" p) [a, b] [] pos) (wBin dMin qa qb) := d_b2 (fun j => call_min2 (F.calm j)) rc_min hm (by decide +kernel) ha hb hg (by decide) (by decide) hs hs2 hpl
theorem lenRK {X : Cx} (h : X.K = K) : CallR X (.builtin "len") (fun xs H Q => ∃ x n, xs = [x] ∧ LenV K x H n ∧ Q (.int n) H) := by subst h; exact call_len
theorem d_lenO (i : Nat) (hm : mg "len" = none) (h : N[i]? = some x := by rfl) (hv : ∀ j, Vis (F.X j).env.scope x := by intro _; first | exact Or.inl rfl | exact Or.inr (Or.inl rfl) | exact Or.inr (Or.inr rfl))
    (hd : (x == ("__debug__" : Str)) = false := by decide) (hcd : (x == ("__classdict__" : Str)) = false := by decide) (hg : ∀ j, Gl (F.X j) "len" := by intro _; rfl) (hs : ∀ j, starEach [.Name x p2] (F.X j).env = (false, eval (.Name x p2) (F.X j).env) :: starEach [] (F.X j).env := by intro _; rfl) (hpl : ∀ j, (backTo pos (starEach [] (F.X j).env)).any (·.1) = false := by intro _; rfl) :
    DE F (.Call (.Name "len" p) [.Name x p2] [] pos) (wLenO i) :=
  ⟨_, fun j => pe_callB (lenRK (F.hK j)) (hg j) (by rw [F.hm j]; exact hm) (by decide +kernel) (pa_cons (pe_var (i := i) (by rw [F.hN j]; exact h) (hv j) hd hcd) pa_nil (hs j)) (by decide) (by decide) (hs j) (hpl j), ew_lenO⟩
/-! ### x, y, z = a, b, c -/
def wPar3 (i j l : Nat) (a b c : WE) : WS := fun ds P => a P.x ds fun u ds1 => b P.x ds1 fun v ds2 => c P.x ds2 fun w ds3 => P.nx (st (st (st ds3 i (.val u)) j (.val v)) l (.val w))
theorem sw_par3 {ta tb tc : TE} {i j l : Nat} (h1 : EW K W ta qa) (h2 : EW K W tb qb) (h3 : EW K W tc qc) : SW K W (tPar3 i j l (tCons ta (tCons tb (tCons tc tNil)))) (wPar3 i j l qa qb qc) := fun c pa G H σ ds P D E hw hx he =>
  h1 c pa G H σ ds _ _ _ E hw hx fun v G1 H1 d ds1 q S1 r1 => h2 c pa G1 H1 σ ds1 _ _ _ S1.env q hx fun w G2 H2 e ds2 q2 S2 r2 => h3 c pa G2 H2 σ ds2 _ _ _ S2.env q2 hx fun z G3 H3 f ds3 q3 S3 r3 =>
    ⟨v, w, z, rfl, he.nx pa G3 H3 _ _ q3 (((S3.env.setVal i ((r1.mono S2.sg).mono S3.sg)).setVal j (r2.mono S3.sg)).setVal l r3)⟩
theorem s_par3 (i l m : Nat) {kt k2 : Nat} (ha : DE F a qa) (hb : DE F b qb) (hc : DE F c qc) (hi : N[i]? = some x := by rfl) (hl : N[l]? = some y := by rfl) (hz0 : N[m]? = some z := by rfl) (hn : i ≠ l := by decide) (hn2 : i ≠ m := by decide) (hn3 : l ≠ m := by decide)
    (hx : ∀ j, (F.X j).env.scope.names.lookup x = some .local := by intro _; rfl) (hy : ∀ j, (F.X j).env.scope.names.lookup y = some .local := by intro _; rfl) (hz : ∀ j, (F.X j).env.scope.names.lookup z = some .local := by intro _; rfl)
    (hw : ∀ j, swappedStores [.Tuple [.Name x p, .Name y p2, .Name z p5] kt p3] (.Tuple [a, b, c] k2 p4) (F.X j).env = pure (some [x, y, z]) := by intro _; rfl) (hs : ∀ j, swapsWithSole [.Tuple [.Name x p, .Name y p2, .Name z p5] kt p3] (.Tuple [a, b, c] k2 p4) pos.line (F.X j).env = pure false := by intro _; rfl)
    (h1 : ∀ j, starEach [a, b, c] (F.X j).env = (false, eval a (F.X j).env) :: starEach [b, c] (F.X j).env := by intro _; rfl) (h2 : ∀ j, starEach [b, c] (F.X j).env = (false, eval b (F.X j).env) :: starEach [c] (F.X j).env := by intro _; rfl) (h3 : ∀ j, starEach [c] (F.X j).env = (false, eval c (F.X j).env) :: starEach [] (F.X j).env := by intro _; rfl) :
    DS1 F (.Assign [.Tuple [.Name x p, .Name y p2, .Name z p5] kt p3] (.Tuple [a, b, c] k2 p4) pos) (wPar3 i l m qa qb qc) := by
  obtain ⟨t, t1, t2⟩ := ha
  obtain ⟨u, u1, u2⟩ := hb
  obtain ⟨v, v1, v2⟩ := hc
  exact ⟨_, fun j => ps_par3 (F.calm j) (by rw [F.hN j]; exact F.nd) (by rw [F.hN j]; exact hi) (by rw [F.hN j]; exact hl) (by rw [F.hN j]; exact hz0) hn hn2 hn3 (hx j) (hy j) (hz j) (pa_cons (t1 j) (pa_cons (u1 j) (pa_cons (v1 j) pa_nil (h3 j)) (h2 j)) (h1 j)) (hw j) (hs j), sw_par3 t2 u2 v2⟩
/-! ### range(a, b) -/
theorem s_forR2 {p pp : Pos} (hm : mg "range" = none) (he : DE F a qa) (he2 : DE F b qb) (hg : DG F e g) (h1 : DSs F s1 ws) (hgl : ∀ j, Gl (F.X j) "range" := by intro _; rfl) (hs : ∀ j, starEach [a, b] (F.X j).env = [(false, eval a (F.X j).env), (false, eval b (F.X j).env)] := by intro _; rfl) (hs2 : ∀ j, starEach [b] (F.X j).env = [(false, eval b (F.X j).env)] := by intro _; rfl)
    (hf : ∀ j, ∀ x, foldedSetIterable (.Call (.Name "range" p) [a, b] [] pp) (F.X j).env x = pure x := by intro _ _; rfl) : DS1 F (.For e (.Call (.Name "range" p) [a, b] [] pp) s1 [] pos) (wForR [qa, qb] g ws) := by
  obtain ⟨t, t1, t2⟩ := he
  obtain ⟨t', t1', t2'⟩ := he2
  obtain ⟨g, g1, g2⟩ := hg
  obtain ⟨u, u1, u2⟩ := h1
  exact ⟨_, fun j => ps_for (F.po j) (F.calm j) (pi_range2 (hgl j) (by rw [F.hm j]; exact hm) (pa_cons (t1 j) (pa_cons (t1' j) pa_nil (hs2 j)) ((hs j).trans (by rw [hs2 j]))) (hs j) (hs2 j)) (g1 j) (u1 j) (hf j), sw_forR2 t2 t2' g2 u2⟩
theorem o_lcR2 (own : List (Str × Nat)) {scope : Scope} {p pp : Pos} (hm : mg "range" = none) (hi : DE F a qa) (hi2 : DE F b qb) (hg : DG (F.blk scope) tg g) (ht : DTs (F.blk scope) es q) (he : DE (F.blk scope) e qe) (ok : ∀ j, BlkOk N (F.X j).env.scope scope own) (hn : ∀ i ∈ tgn g, i ∈ own.map (·.2) := by decide)
    (hgl : ∀ j, Gl (F.X j) "range" := by intro _; rfl) (h1 : ∀ j, starEach [a, b] (F.X j).env = [(false, eval a (F.X j).env), (false, eval b (F.X j).env)] := by intro _; rfl) (h2 : ∀ j, starEach [b] (F.X j).env = [(false, eval b (F.X j).env)] := by intro _; rfl)
    (hs : ∀ j, ∀ x, foldedSetIterable (.Call (.Name "range" p) [a, b] [] pp) (F.X j).env x = pure x := by intro _ _; rfl) : DO F (.ListComp e [⟨tg, .Call (.Name "range" p) [a, b] [] pp, es, 0⟩] scope pos) (wLcR [qa, qb] g (own.map (·.2)) q qe) := by
  obtain ⟨t, t1, t2⟩ := hi
  obtain ⟨t', t1', t2'⟩ := hi2
  obtain ⟨gg, g1, g2⟩ := hg
  obtain ⟨u, u1, u2⟩ := ht
  obtain ⟨v, v1, v2⟩ := he
  exact ⟨_, fun j => pe_lc (F.calm j) (by rw [F.hN j]; exact F.nd) (pi_range2 (hgl j) (by rw [F.hm j]; exact hm) (pa_cons (t1 j) (pa_cons (t1' j) pa_nil (h2 j)) ((h1 j).trans (by rw [h2 j]))) (h1 j) (h2 j)) (by rw [F.hN j]; exact ok j) (fun s H C cl fp => g1 (j, s, H, C, cl, fp)) (fun s H C cl fp => u1 (j, s, H, C, cl, fp)) (fun s H C cl fp => v1 (j, s, H, C, cl, fp)) (hs j),
    eo_lcR2 t2 t2' g2 u2 v2 hn⟩
end
theorem ints_reps {K : PySem.W.Frag} {G : Hp} : ∀ ns : List Int, Reps K G (ns.map .int) (ns.map V.int)
  | [] => rfl
  | n :: r => ⟨_, _, rfl, rfl, ints_reps r⟩
/-- the law's call -/
theorem law_sp {K : PySem.W.Frag} {H : Hp} {a : Addr} {ns : List Int} {fs : FS} (hf : fs [.val (.lst (ns.map .int))] fun o _ => o = .ret (.val (.bl true))) (hS : SqL K H a (ns.map V.int)) : spOf K fs [.ref a] H (fun v _ => v = .bl true) fun _ _ _ => False := by
  refine ⟨H, fun _ => 0, _, _, fun _ _ q => q, ⟨rfl, fun i dv e => ?_, fun i j xs ys e => ?_⟩, hf, fun v r dvs' G' H' e _ R => ?_, fun e cls d dvs' G' H' q => by cases q⟩
  · cases i with
    | zero =>
      have e := Option.some.inj e
      subst e
      exact ⟨_, rfl, _, _, rfl, hS, ints_reps ns⟩
    | succ i => cases e
  · cases i with
    | zero => cases e
    | succ i => cases e
  · injection e with e
    subst e
    exact R
end DW

/-! DwL: plain lemmas for promises over data: bounds, choices, remainders. -/
namespace DW
open PySem

/-- below 2^n in size -/
def Bd (n : Nat) (i : Int) : Prop := i.natAbs < 2 ^ n
theorem Bd.mono {n m : Nat} {i : Int} (h : Bd n i) (l : n ≤ m) : Bd m i := Nat.lt_of_lt_of_le h (Nat.pow_le_pow_right (by decide) l)
theorem Bd.add {n : Nat} {i j : Int} (h : Bd n i) (h' : Bd n j) : Bd (n + 1) (i + j) := by
  unfold Bd at *
  have : (i + j).natAbs ≤ i.natAbs + j.natAbs := Int.natAbs_add_le i j
  rw [Nat.pow_succ]
  omega
theorem Bd.sub {n : Nat} {i j : Int} (h : Bd n i) (h' : Bd n j) : Bd (n + 1) (i - j) := by
  unfold Bd at *
  have : (i - j).natAbs ≤ i.natAbs + j.natAbs := Int.natAbs_sub_le i j
  rw [Nat.pow_succ]
  omega
theorem Bd.mul {n m : Nat} {i j : Int} (h : Bd n i) (h' : Bd m j) : Bd (n + m) (i * j) := by
  unfold Bd at *
  rw [Int.natAbs_mul, Nat.pow_add]
  exact Nat.mul_lt_mul_of_lt_of_le h (Nat.le_of_lt h') (Nat.lt_of_le_of_lt (Nat.zero_le _) h')
theorem Bd.neg {n : Nat} {i : Int} (h : Bd n i) : Bd n (-i) := by
  unfold Bd at *
  rw [Int.natAbs_neg]
  exact h
theorem Bd.of {n : Nat} {i : Int} (h : -(2 ^ n : Int) < i) (h' : i < 2 ^ n) : Bd n i := by
  unfold Bd
  have e : ((2 ^ n : Nat) : Int) = 2 ^ n := by rw [Int.natCast_pow]; rfl
  omega
theorem Bd.le {n : Nat} {i j : Int} (h : Bd n j) (l : i.natAbs ≤ j.natAbs) : Bd n i := Nat.lt_of_le_of_lt l h
theorem log2_lt {n i : Nat} (hn : 0 < n) (h : i < 2 ^ n) : i.log2 < n := by
  by_cases h0 : i = 0
  · subst h0
    simpa using hn
  · exact (Nat.log2_lt h0).mpr h
theorem mulOk {n m : Nat} {i j : Int} (h : Bd n i) (h' : Bd m j) (l : n + m ≤ 1000000 := by decide) : MulOk i j := by
  unfold MulOk
  have h1 : i.natAbs.log2 ≤ n := by
    by_cases h0 : i.natAbs = 0
    · rw [h0]
      simp
    · exact Nat.le_of_lt ((Nat.log2_lt h0).mpr h)
  by_cases h0 : j.natAbs = 0
  · by_cases h2 : i.natAbs = 0
    · rw [h0, h2]
      simp
    · have := (Nat.log2_lt h2).mpr h
      rw [h0]
      simp
      omega
  · have := (Nat.log2_lt h0).mpr h'
    omega
theorem divOk {n : Nat} {j : Int} (h0 : j ≠ 0) (h : Bd n j) (l : n ≤ 9000 := by decide) : DivOk j :=
  ⟨h0, Nat.lt_of_lt_of_le ((Nat.log2_lt (by omega)).mpr h) l⟩
theorem ite_both {c : Prop} [Decidable c] {A B : Prop} (h1 : c → A) (h2 : ¬ c → B) : if c then A else B := by
  split
  · exact h1 ‹_›
  · exact h2 ‹_›
theorem fmod_rng {a b : Int} (h : 0 < b) : 0 ≤ a.fmod b ∧ a.fmod b < b := ⟨Int.fmod_nonneg_of_pos a h, Int.fmod_lt_of_pos a h⟩
theorem fdiv_nonneg {a b : Int} (h : 0 ≤ a) (h' : 0 < b) : 0 ≤ a.fdiv b := Int.fdiv_nonneg h (Int.le_of_lt h')
theorem fdiv_le {a b : Int} (h : 0 ≤ a) (h' : 0 < b) : a.fdiv b ≤ a := by
  rw [Int.fdiv_eq_ediv_of_nonneg a (Int.le_of_lt h')]
  exact Int.ediv_le_self b h
/-! ### what may be compared -/
theorem shp_int (i : Int) : Shp (.int i) := ⟨rfl, Nat.le_of_ble_eq_true rfl⟩
theorem shp_bl (i : Bool) : Shp (.bl i) := ⟨rfl, Nat.le_of_ble_eq_true rfl⟩
theorem shp_pr (i j : Int) : Shp (.tup [.int i, .int j]) := ⟨rfl, Nat.le_of_ble_eq_true rfl⟩
theorem shp_prs (i j i' j' : Int) : Shp (.tup [.tup [.int i, .int j], .tup [.int i', .int j']]) := ⟨rfl, Nat.le_of_ble_eq_true rfl⟩
theorem deq_int (i j : Int) : deq (.int i) (.int j) = (i == j) := rfl
theorem deq_pr (i j i' j' : Int) : deq (.tup [.int i, .int j]) (.tup [.int i', .int j']) = (i == i' && (j == j' && true)) := rfl
mutual
theorem deq_refl : ∀ d : D, deq d d = true
  | .non => rfl
  | .bl b => by show (b == b) = true; simp
  | .int i => by show (i == i) = true; simp
  | .str s => by show (s == s) = true; exact BEq.rfl
  | .lst xs => deqs_refl xs
  | .tup xs => deqs_refl xs
theorem deqs_refl : ∀ ds : List D, deqs ds ds = true
  | [] => rfl
  | d :: r => by show (deq d d && deqs r r) = true; rw [deq_refl d, deqs_refl r]; rfl
end
theorem eq_int {i j : Int} (h : deq (.int i) (.int j) = true) : i = j := by simpa [deq_int] using h
theorem eq_int' {i j : Int} (h : ¬ deq (.int i) (.int j) = true) : i ≠ j := by simpa [deq_int] using h
theorem ne_int {i j : Int} (h : (!deq (.int i) (.int j)) = true) : i ≠ j := by simpa [deq_int] using h
theorem ne_int' {i j : Int} (h : ¬ (!deq (.int i) (.int j)) = true) : i = j := by simpa [deq_int] using h
theorem not_self {d : D} {A : Prop} (h : (!deq d d) = true) : A := by rw [deq_refl] at h; cases h
theorem is_lt {i j : Int} (h : decide (i < j) = true) : i < j := of_decide_eq_true h
theorem is_le {i j : Int} (h : decide (i ≤ j) = true) : i ≤ j := of_decide_eq_true h
theorem no_lt {i j : Int} (h : ¬ decide (i < j) = true) : j ≤ i := Int.not_lt.mp fun z => h (decide_eq_true z)
theorem no_le {i j : Int} (h : ¬ decide (i ≤ j) = true) : j < i := Int.not_le.mp fun z => h (decide_eq_true z)
theorem ite_yes {c : Bool} {A B : Prop} (e : c = true) (h : A) : if c = true then A else B := by rw [if_pos e]; exact h
theorem ite_no {c : Bool} {A B : Prop} (e : c = false) (h : B) : if c = true then A else B := by rw [if_neg (by rw [e]; decide)]; exact h
/-! ### the greatest common part -/
theorem abs_eq (a : Int) : (if a < 0 then -a else a) = (a.natAbs : Int) := by split <;> omega
theorem gcd_step (a b : Int) (hb : 0 ≤ b) : Int.gcd b (a.fmod b) = Int.gcd a b := by
  rw [Int.fmod_eq_emod_of_nonneg a hb]
  have e : a = a % b + b * (a / b) := (Int.emod_add_mul_ediv a b).symm
  conv => rhs; rw [e, Int.gcd_comm]
  rw [Int.gcd_add_mul_left_right]
theorem gcd_abs (a b : Int) : Int.gcd (a.natAbs : Int) (b.natAbs : Int) = Int.gcd a b := by unfold Int.gcd; simp
theorem dvd_of_gcd {k m n : Int} (h : Int.gcd k m = 1) (d : k ∣ m * n) : k ∣ n := by
  have := Nat.Coprime.dvd_of_dvd_mul_left (k := k.natAbs) (m := m.natAbs) (n := n.natAbs) h (by rw [← Int.natAbs_mul]; exact Int.natAbs_dvd_natAbs.mpr d)
  exact Int.natAbs_dvd_natAbs.mp this
end DW

/-! K51 math: neighbours under a bound. -/
namespace K51
open DW
/-- a fraction as it is written -/
def Fr (a b : Int) : Prop := 1 ≤ b ∧ b < 10 ^ 30 ∧ a.natAbs < 10 ^ 30 ∧ Int.gcd a b = 1
def gp (l1 l2 h1 h2 : Int) : Int := h1 * l2 - l1 * h2
/-- the neighbours of a / b under B, b > B -/
structure Nb (a b B l1 l2 h1 h2 : Int) : Prop where
  pl : 1 ≤ l2
  ph : 1 ≤ h2
  ll : l2 ≤ B
  lh : h2 ≤ B
  sum : B < l2 + h2
  gl : 0 < gp l1 l2 a b
  gh : 0 < gp a b h1 h2
  one : gp l1 l2 h1 h2 = 1
/-- a fraction strictly between two that are side by side has a bottom at least their sum -/
theorem between {p q l1 l2 h1 h2 : Int} (pl : 1 ≤ l2) (ph : 1 ≤ h2) (one : gp l1 l2 h1 h2 = 1) (gl : 0 < gp l1 l2 p q) (gh : 0 < gp p q h1 h2) : l2 + h2 ≤ q := by
  unfold gp at *
  have e : q = (p * l2 - l1 * q) * h2 + (h1 * q - p * h2) * l2 := by grind
  have h1' : h2 ≤ (p * l2 - l1 * q) * h2 := by
    have := Int.mul_le_mul_of_nonneg_right (show 1 ≤ p * l2 - l1 * q by omega) (show 0 ≤ h2 by omega)
    omega
  have h2' : l2 ≤ (h1 * q - p * h2) * l2 := by
    have := Int.mul_le_mul_of_nonneg_right (show 1 ≤ h1 * q - p * h2 by omega) (show 0 ≤ l2 by omega)
    omega
  omega
/-- order of fractions: x <= y < z -/
theorem gp_trans {a b c d e f : Int} (hb : 0 < b) (hd : 0 < d) (hf : 0 < f) (h : 0 ≤ gp a b c d) (h' : 0 < gp c d e f) : 0 < gp a b e f := by
  unfold gp at *
  have q1 : 0 ≤ (c * b - a * d) * f := Int.mul_nonneg h (by omega)
  have q2 : 0 < (e * d - c * f) * b := Int.mul_pos h' hb
  have e1 : (e * b - a * f) * d = (c * b - a * d) * f + (e * d - c * f) * b := by grind
  have : 0 < (e * b - a * f) * d := by omega
  exact Int.pos_of_mul_pos_left this hd
/-- x < y <= z -/
theorem gp_trans' {a b c d e f : Int} (hb : 0 < b) (hd : 0 < d) (hf : 0 < f) (h : 0 < gp a b c d) (h' : 0 ≤ gp c d e f) : 0 < gp a b e f := by
  unfold gp at *
  have q1 : 0 < (c * b - a * d) * f := Int.mul_pos h hf
  have q2 : 0 ≤ (e * d - c * f) * b := Int.mul_nonneg h' (by omega)
  have e1 : (e * b - a * f) * d = (c * b - a * d) * f + (e * d - c * f) * b := by grind
  have : 0 < (e * b - a * f) * d := by omega
  exact Int.pos_of_mul_pos_left this hd
theorem gp_anti (a b c d : Int) : gp a b c d = -gp c d a b := by unfold gp; grind
/-- equal reduced fractions are the same -/
theorem same_of {a b c d u v u' v' : Int} (hb : 0 < b) (hd : 0 < d) (e : gp a b c d = 0) (one : u * b - a * v = 1) (one' : u' * d - c * v' = 1) : a = c ∧ b = d := by
  unfold gp at e
  have e1 : d = b * (u * d - v * c) := by grind
  have e2 : b = d * (u' * b - v' * a) := by grind
  have t1 : 0 < u * d - v * c := Int.pos_of_mul_pos_right (by omega : 0 < b * (u * d - v * c)) hb
  have t2 : 0 < u' * b - v' * a := Int.pos_of_mul_pos_right (by omega : 0 < d * (u' * b - v' * a)) hd
  have l1 : b ≤ d := by
    have := Int.mul_le_mul_of_nonneg_left (show 1 ≤ u * d - v * c by omega) (show 0 ≤ b by omega)
    omega
  have l2 : d ≤ b := by
    have := Int.mul_le_mul_of_nonneg_left (show 1 ≤ u' * b - v' * a by omega) (show 0 ≤ d by omega)
    omega
  have eb : b = d := Int.le_antisymm l1 l2
  subst eb
  refine ⟨?_, rfl⟩
  have : (c - a) * b = 0 := by grind
  rcases Int.mul_eq_zero.mp this with h | h <;> omega
theorem Nb.uniq {a b B l1 l2 h1 h2 m1 m2 g1 g2 : Int} (hb : 0 < b) (n : Nb a b B l1 l2 h1 h2) (m : Nb a b B m1 m2 g1 g2) : (l1 = m1 ∧ l2 = m2) ∧ h1 = g1 ∧ h2 = g2 := by
  have pl := n.pl
  have ph := n.ph
  have ql := m.pl
  have qh := m.ph
  constructor
  · have z1 : ¬ 0 < gp l1 l2 m1 m2 := fun h => by
      have := between n.pl n.ph n.one h (gp_trans (by omega) hb (by omega) (Int.le_of_lt m.gl) n.gh)
      have := n.sum; have := m.ll
      omega
    have z2 : ¬ 0 < gp m1 m2 l1 l2 := fun h => by
      have := between m.pl m.ph m.one h (gp_trans (by omega) hb (by omega) (Int.le_of_lt n.gl) m.gh)
      have := m.sum; have := n.ll
      omega
    have := gp_anti l1 l2 m1 m2
    exact same_of (by omega) (by omega) (by omega) n.one m.one
  · have z1 : ¬ 0 < gp h1 h2 g1 g2 := fun h => by
      have := between m.pl m.ph m.one (gp_trans (by omega) hb (by omega) (Int.le_of_lt m.gl) n.gh) h
      have := m.sum; have := n.lh
      omega
    have z2 : ¬ 0 < gp g1 g2 h1 h2 := fun h => by
      have := between n.pl n.ph n.one (gp_trans (by omega) hb (by omega) (Int.le_of_lt n.gl) m.gh) h
      have := n.sum; have := m.lh
      omega
    have := gp_anti h1 h2 g1 g2
    have o2 := m.one
    have o1 := n.one
    unfold gp at o1 o2
    exact same_of (u := -l1) (v := -l2) (u' := -m1) (v' := -m2) (by omega) (by omega) (by omega) (by grind) (by grind)
/-- below every bound from the greater bottom on, the sum out -/
theorem Nb.within {a b B C l1 l2 h1 h2 : Int} (n : Nb a b B l1 l2 h1 h2) (hl : l2 ≤ C) (hh : h2 ≤ C) (hs : C < l2 + h2) : Nb a b C l1 l2 h1 h2 := ⟨n.pl, n.ph, hl, hh, hs, n.gl, n.gh, n.one⟩
theorem Nb.deep {a b B l1 l2 h1 h2 : Int} (n : Nb a b B l1 l2 h1 h2) : l2 + h2 ≤ b := between n.pl n.ph n.one n.gl n.gh
theorem gcd_one {a b u v : Int} (one : u * b - a * v = 1) : Int.gcd a b = 1 := by
  have h1 : (Int.gcd a b : Int) ∣ a := Int.gcd_dvd_left ..
  have h2 : (Int.gcd a b : Int) ∣ b := Int.gcd_dvd_right ..
  have h3 : (Int.gcd a b : Int) ∣ 1 := by
    rw [← one]
    exact Int.dvd_sub (Int.dvd_mul_of_dvd_right h2) (Int.dvd_mul_of_dvd_left h1)
  have : (Int.gcd a b) ∣ 1 := by exact_mod_cast h3
  exact Nat.dvd_one.mp this
theorem Nb.gcdl {a b B l1 l2 h1 h2 : Int} (n : Nb a b B l1 l2 h1 h2) : Int.gcd l1 l2 = 1 := gcd_one n.one
theorem Nb.gcdh {a b B l1 l2 h1 h2 : Int} (n : Nb a b B l1 l2 h1 h2) : Int.gcd h1 h2 = 1 := gcd_one (u := -l1) (v := -l2) (by have := n.one; unfold gp at this; grind)
/-- sizes of the tops -/
theorem top_le {l1 l2 h1 h2 a b : Int} (pl : 1 ≤ l2) (ph : 1 ≤ h2) (hb : 1 ≤ b) (gl : 0 < gp l1 l2 a b) (gh : 0 < gp a b h1 h2) (one : gp l1 l2 h1 h2 = 1) : l1.natAbs ≤ (a.natAbs + 2) * l2.natAbs ∧ h1.natAbs ≤ (a.natAbs + 2) * h2.natAbs := by
  unfold gp at *
  have A : (a.natAbs : Int) * b ≥ a ∧ (a.natAbs : Int) * b ≥ -a := by
    have h := Int.mul_le_mul_of_nonneg_left hb (show 0 ≤ (a.natAbs : Int) by omega)
    omega
  obtain ⟨A1, A2⟩ := A
  -- b * l1 < a * l2 <= A b l2
  have u1 : l1 ≤ a.natAbs * l2 := by
    have q : a * l2 ≤ a.natAbs * b * l2 := Int.mul_le_mul_of_nonneg_right A1 (by omega)
    have r : 0 < (a.natAbs * l2 - l1) * b := by grind
    have := Int.pos_of_mul_pos_left r (by omega)
    omega
  have u2 : -(a.natAbs * h2) ≤ h1 := by
    have q : -a * h2 ≤ a.natAbs * b * h2 := Int.mul_le_mul_of_nonneg_right A2 (by omega)
    have r : 0 < (h1 + a.natAbs * h2) * b := by grind
    have := Int.pos_of_mul_pos_left r (by omega)
    omega
  -- l1 * h2 = h1 * l2 - 1
  have u3 : -((a.natAbs + 1) * l2) ≤ l1 := by
    have q : -(a.natAbs * h2) * l2 ≤ h1 * l2 := Int.mul_le_mul_of_nonneg_right u2 (by omega)
    have r : 0 ≤ (l1 + a.natAbs * l2) * h2 + 1 := by grind
    have s : 0 < (l1 + a.natAbs * l2 + l2) * h2 + h2 := by
      have := Int.mul_le_mul_of_nonneg_left ph (show 0 ≤ l2 by omega)
      grind
    have s : 0 < (l1 + a.natAbs * l2 + l2 + 1) * h2 := by grind
    have := Int.pos_of_mul_pos_left s (by omega)
    grind
  have u4 : h1 ≤ (a.natAbs + 1) * h2 := by
    have q : l1 * h2 ≤ a.natAbs * l2 * h2 := Int.mul_le_mul_of_nonneg_right u1 (by omega)
    have r : 0 ≤ (a.natAbs * h2 - h1) * l2 + 1 := by grind
    have s : 0 < (a.natAbs * h2 - h1 + h2 + 1) * l2 := by
      have := Int.mul_le_mul_of_nonneg_left pl (show 0 ≤ h2 by omega)
      grind
    have := Int.pos_of_mul_pos_left s (by omega)
    grind
  have w1 : ((a.natAbs + 2) * l2.natAbs : Nat) = (a.natAbs + 2 : Int) * l2 := by
    push_cast
    rw [show ((l2.natAbs : Nat) : Int) = l2 by omega]
    grind
  have w2 : ((a.natAbs + 2) * h2.natAbs : Nat) = (a.natAbs + 2 : Int) * h2 := by
    push_cast
    rw [show ((h2.natAbs : Nat) : Int) = h2 by omega]
    grind
  constructor <;> grind
end K51

/-! K51: what each def promises. -/
namespace K51
open PySem DW
def Pu (n : Nat) (p : List D) : Prop := ∃ a b c : Int, p = [.int a, .int b, .int c] ∧ 0 ≤ a ∧ 0 ≤ b ∧ b < 2147483629 ∧ 0 ≤ c ∧ c ≤ n
theorem Pu.mono {n m : Nat} {p : List D} (h : Pu n p) (l : n ≤ m) : Pu m p := by
  obtain ⟨a, b, c, e, h1, h2, h3, h4, h5⟩ := h
  exact ⟨a, b, c, e, h1, h2, h3, h4, by omega⟩
abbrev pr (a b : Int) : D := .tup [.int a, .int b]
def sp__law_purse : FS := fun dvs k => ∃ c : Int, dvs = [.val (.int c)] ∧ ∀ p, Pu 0 p → k (.ret (.own p)) dvs
def sp__law_take : FS := fun dvs k => ∃ (p : List D) (m : Int) (n : Nat), dvs = [.par p, .val (.int m)] ∧ Pu n p ∧ n ≤ 1000000000 ∧ 1 ≤ m ∧ m < 2 ^ 100 ∧ ∀ (d : Int) p', 0 ≤ d → d < m → Pu (n + 1) p' → k (.ret (.val (.int d))) [.par p', .val (.int m)]
def sp__law_common : FS := fun dvs k => ∃ a b : Int, dvs = [.val (.int a), .val (.int b)] ∧ k (.ret (.val (.int (Int.gcd a b)))) dvs
def sp_common : FS := fun dvs k => ∃ a b : Int, dvs = [.val (.int a), .val (.int b)] ∧ k (.ret (.val (.int (Int.gcd a b)))) dvs
def sp__law_made : FS := fun dvs k => ∃ a b : Int, dvs = [.val (.int a), .val (.int b)] ∧ 1 ≤ b ∧ b < 10 ^ 30 ∧ a.natAbs < 10 ^ 30 ∧ ∀ c d : Int, Fr c d → k (.ret (.val (pr c d))) dvs
def sp__law_digits : FS := fun dvs k => ∃ (p : List D) (f n : Nat), dvs = [.par p, .val (.int f)] ∧ Pu n p ∧ f ≤ 30 ∧ n ≤ 100000000 ∧ ∀ (d : Int) p', 0 ≤ d → d < 10 ^ f → Pu (n + f) p' → k (.ret (.val (.int d))) [.par p', .val (.int f)]
def sp__law_fraction : FS := fun dvs k => ∃ (p : List D) (n : Nat), dvs = [.par p] ∧ Pu n p ∧ n ≤ 10000000 ∧ ∀ (a b : Int) p', Fr a b → Pu (n + 100) p' → k (.ret (.val (pr a b))) [.par p']
def sp__law_bound : FS := fun dvs k => ∃ (p : List D) (n : Nat) (a b : Int), dvs = [.par p, .val (pr a b)] ∧ Pu n p ∧ n ≤ 10000000 ∧ Fr a b ∧ ∀ (B : Int) p', 1 ≤ B → B < 10 ^ 30 → Pu (n + 100) p' → k (.ret (.val (.int B))) [.par p', .val (pr a b)]
def sp__law_cell : FS := fun dvs k => ∃ (ns : List Int) (j : Int), dvs = [.val (.lst (ns.map .int)), .val (.int j)] ∧ 0 ≤ j ∧ j < 1000 ∧ ∀ c : Int, k (.ret (.val (.int c))) dvs
def sp_is_number : FS := fun dvs k => ∃ a : Int, dvs = [.val (.int a)] ∧ k (.ret (.val (.bl true))) dvs
def sp_is_fraction : FS := fun dvs k => ∃ a b : Int, dvs = [.val (pr a b)] ∧ (1 ≤ b ∧ Int.gcd a b = 1) ∧ k (.ret (.val (.bl true))) dvs
def sp__law_is_fraction : FS := fun dvs k => ∃ a b : Int, dvs = [.val (pr a b)] ∧ (1 ≤ b ∧ Int.gcd a b = 1) ∧ k (.ret (.val (.bl true))) dvs
def sp_need_fraction : FS := fun dvs k => ∃ a b : Int, dvs = [.val (pr a b)] ∧ (1 ≤ b ∧ Int.gcd a b = 1) ∧ k (.ret (.val .non)) dvs
def sp_need_both : FS := fun dvs k => ∃ a b B : Int, dvs = [.val (pr a b), .val (.int B)] ∧ (1 ≤ b ∧ Int.gcd a b = 1) ∧ 1 ≤ B ∧ k (.ret (.val .non)) dvs
def sp_moved : FS := fun dvs k => ∃ a b c d m : Int, dvs = [.val (pr a b), .val (pr c d), .val (.int m)] ∧ (Bd 1000 c ∧ Bd 1000 d ∧ Bd 1000 m) ∧ k (.ret (.val (pr (a + m * c) (b + m * d)))) dvs
def sp_gap : FS := fun dvs k => ∃ a b c d : Int, dvs = [.val (pr a b), .val (pr c d)] ∧ (Bd 1000 a ∧ Bd 1000 b ∧ Bd 1000 c ∧ Bd 1000 d) ∧ k (.ret (.val (.int (gp a b c d)))) dvs
def sp__law_gap : FS := fun dvs k => ∃ a b c d : Int, dvs = [.val (pr a b), .val (pr c d)] ∧ (Bd 1000 a ∧ Bd 1000 b ∧ Bd 1000 c ∧ Bd 1000 d) ∧ k (.ret (.val (.int (gp a b c d)))) dvs
/-- the two neighbours, however they come -/
def NbX (a b B l1 l2 h1 h2 : Int) : Prop := (b ≤ B ∧ l1 = a ∧ l2 = b ∧ h1 = a ∧ h2 = b) ∨ (B < b ∧ Nb a b B l1 l2 h1 h2)
def sp_neighbours : FS := fun dvs k => ∃ a b B : Int, dvs = [.val (pr a b), .val (.int B)] ∧ Fr a b ∧ (1 ≤ B ∧ B < 10 ^ 31) ∧ ∀ l1 l2 h1 h2 : Int, NbX a b B l1 l2 h1 h2 → k (.ret (.val (.tup [pr l1 l2, pr h1 h2]))) dvs
def near (a b l1 l2 h1 h2 : Int) : D := if gp l1 l2 a b * h2 = gp a b h1 h2 * l2 then (if l2 ≤ h2 then pr l1 l2 else pr h1 h2) else if gp l1 l2 a b * h2 < gp a b h1 h2 * l2 then pr l1 l2 else pr h1 h2
def sp_nearest : FS := fun dvs k => ∃ a b B : Int, dvs = [.val (pr a b), .val (.int B)] ∧ Fr a b ∧ (1 ≤ B ∧ B < 10 ^ 31) ∧ ∀ l1 l2 h1 h2 : Int, NbX a b B l1 l2 h1 h2 → k (.ret (.val (near a b l1 l2 h1 h2))) dvs
def sp__law_near : FS := fun dvs k => ∃ a b l1 l2 h1 h2 : Int, dvs = [.val (.tup [pr l1 l2, pr h1 h2]), .val (pr a b)] ∧ (Bd 1000 a ∧ Bd 1000 b ∧ Bd 1000 l1 ∧ Bd 1000 l2 ∧ Bd 1000 h1 ∧ Bd 1000 h2) ∧ k (.ret (.val (near a b l1 l2 h1 h2))) dvs
def sp__law_shown : FS := fun dvs k => ∃ a b B l1 l2 h1 h2 : Int, dvs = [.val (.tup [pr l1 l2, pr h1 h2]), .val (pr a b), .val (.int B)] ∧ Fr a b ∧ (1 ≤ B ∧ B < 10 ^ 31) ∧ NbX a b B l1 l2 h1 h2 ∧ k (.ret (.val (.bl true))) dvs
def sp__law_turns_right : FS := fun dvs k => ∃ a b B l1 l2 h1 h2 : Int, dvs = [.val (.tup [pr l1 l2, pr h1 h2]), .val (pr a b)] ∧ Fr a b ∧ B < 10 ^ 30 ∧ Nb a b B l1 l2 h1 h2 ∧ k (.ret (.val (.bl true))) dvs
def sp_law : FS := fun dvs k => ∃ ns : List Int, dvs = [.val (.lst (ns.map .int))] ∧ ns.length ≤ 63 ∧ k (.ret (.val (.bl true))) dvs
theorem law_ints (ns : List Int) (h : ns.length ≤ 63) : sp_law [.val (.lst (ns.map .int))] fun o _ => o = .ret (.val (.bl true)) := ⟨ns, rfl, h, rfl⟩
end K51

namespace K51
open PySem DW
theorem len__law_purse : ∀ dvs kk, sp__law_purse dvs kk → dvs.length = 1 := by
  rintro dvs kk ⟨_, rfl, h⟩
  rfl
theorem len__law_take : ∀ dvs kk, sp__law_take dvs kk → dvs.length = 2 := by
  rintro dvs kk ⟨_, _, _, rfl, h⟩
  rfl
theorem len__law_common : ∀ dvs kk, sp__law_common dvs kk → dvs.length = 2 := by
  rintro dvs kk ⟨_, _, rfl, h⟩
  rfl
theorem len_common : ∀ dvs kk, sp_common dvs kk → dvs.length = 2 := by
  rintro dvs kk ⟨_, _, rfl, h⟩
  rfl
theorem len__law_made : ∀ dvs kk, sp__law_made dvs kk → dvs.length = 2 := by
  rintro dvs kk ⟨_, _, rfl, h⟩
  rfl
theorem len__law_digits : ∀ dvs kk, sp__law_digits dvs kk → dvs.length = 2 := by
  rintro dvs kk ⟨_, _, _, rfl, h⟩
  rfl
theorem len__law_fraction : ∀ dvs kk, sp__law_fraction dvs kk → dvs.length = 1 := by
  rintro dvs kk ⟨_, _, rfl, h⟩
  rfl
theorem len__law_bound : ∀ dvs kk, sp__law_bound dvs kk → dvs.length = 2 := by
  rintro dvs kk ⟨_, _, _, _, rfl, h⟩
  rfl
theorem len__law_cell : ∀ dvs kk, sp__law_cell dvs kk → dvs.length = 2 := by
  rintro dvs kk ⟨_, _, rfl, h⟩
  rfl
theorem len_is_number : ∀ dvs kk, sp_is_number dvs kk → dvs.length = 1 := by
  rintro dvs kk ⟨_, rfl, h⟩
  rfl
theorem len_is_fraction : ∀ dvs kk, sp_is_fraction dvs kk → dvs.length = 1 := by
  rintro dvs kk ⟨_, _, rfl, h⟩
  rfl
theorem len__law_is_fraction : ∀ dvs kk, sp__law_is_fraction dvs kk → dvs.length = 1 := by
  rintro dvs kk ⟨_, _, rfl, h⟩
  rfl
theorem len_need_fraction : ∀ dvs kk, sp_need_fraction dvs kk → dvs.length = 1 := by
  rintro dvs kk ⟨_, _, rfl, h⟩
  rfl
theorem len_need_both : ∀ dvs kk, sp_need_both dvs kk → dvs.length = 2 := by
  rintro dvs kk ⟨_, _, _, rfl, h⟩
  rfl
theorem len_moved : ∀ dvs kk, sp_moved dvs kk → dvs.length = 3 := by
  rintro dvs kk ⟨_, _, _, _, _, rfl, h⟩
  rfl
theorem len_gap : ∀ dvs kk, sp_gap dvs kk → dvs.length = 2 := by
  rintro dvs kk ⟨_, _, _, _, rfl, h⟩
  rfl
theorem len__law_gap : ∀ dvs kk, sp__law_gap dvs kk → dvs.length = 2 := by
  rintro dvs kk ⟨_, _, _, _, rfl, h⟩
  rfl
theorem len_neighbours : ∀ dvs kk, sp_neighbours dvs kk → dvs.length = 2 := by
  rintro dvs kk ⟨_, _, _, rfl, h⟩
  rfl
theorem len_nearest : ∀ dvs kk, sp_nearest dvs kk → dvs.length = 2 := by
  rintro dvs kk ⟨_, _, _, rfl, h⟩
  rfl
theorem len__law_near : ∀ dvs kk, sp__law_near dvs kk → dvs.length = 2 := by
  rintro dvs kk ⟨_, _, _, _, _, _, rfl, h⟩
  rfl
theorem len__law_shown : ∀ dvs kk, sp__law_shown dvs kk → dvs.length = 3 := by
  rintro dvs kk ⟨_, _, _, _, _, _, _, rfl, h⟩
  rfl
theorem len__law_turns_right : ∀ dvs kk, sp__law_turns_right dvs kk → dvs.length = 2 := by
  rintro dvs kk ⟨_, _, _, _, _, _, _, rfl, h⟩
  rfl
theorem len_law : ∀ dvs kk, sp_law dvs kk → dvs.length = 1 := by
  rintro dvs kk ⟨_, rfl, h⟩
  rfl
end K51

/-! the transformers of the defs, printed by gen.py -/
namespace K51
open PySem DW
/-- _law_purse(cell), slots 0 cell; level 1 -/
def w__law_purse : WS := (wRetO (wLst [(wBin dMax (wC (.int 0)) (wBin dSub (wVar 0) (wBin dPow (wC (.int 10)) (wC (.int 18))))), (wBin dMod (wVar 0) (wC (.int 2147483629))), (wC (.int 0))]))
/-- _law_take(purse, many), slots 0 purse*, 1 many, 2 digit, 3 one, 4 other; level 1 -/
def w__law_take : WS := (wSeq (wIfS (wTst (wBin dGt (wIxO 0 (wC (.int 0))) (wC (.int 0)))) (wSeq (wAsg (wBin dMod (wIxO 0 (wC (.int 0))) (wVar 1)) (.nm 2))
    (wSeq (wSet 0 (wC (.int 0)) (wBin dFdiv (wIxO 0 (wC (.int 0))) (wVar 1)))
    (wRet (wVar 2)))) wNext)
    (wSeq (wSet 0 (wC (.int 2)) (wBin dAdd (wIxO 0 (wC (.int 2))) (wC (.int 1))))
    (wSeq (wAsg (wBin dMod (wBin dPow (wBin dAdd (wBin dAdd (wIxO 0 (wC (.int 1))) (wBin dMul (wC (.int 6007)) (wIxO 0 (wC (.int 2))))) (wC (.int 29))) (wC (.int 5))) (wC (.int 2147483647))) (.nm 3))
    (wSeq (wAsg (wBin dMod (wBin dPow (wBin dAdd (wBin dMul (wIxO 0 (wC (.int 1))) (wIxO 0 (wC (.int 2)))) (wC (.int 91193))) (wC (.int 3))) (wC (.int 2147483587))) (.nm 4))
    (wRet (wBin dMod (wBin dFdiv (wBin dAdd (wBin dMul (wVar 3) (wC (.int 2147483587))) (wVar 4)) (wC (.int 8))) (wVar 1)))))))
/-- _law_common(one, other), slots 0 one, 1 other; level 1 -/
def w__law_common : WS := (wSeq (wPar 0 1 (wUn dAbs (wVar 0)) (wUn dAbs (wVar 1)))
    (wSeq (wWhile (wTst (wBin dNe (wVar 1) (wC (.int 0)))) (wPar 0 1 (wVar 1) (wBin dMod (wVar 0) (wVar 1))))
    (wRet (wVar 0))))
/-- _law_made(top, bottom), slots 0 top, 1 bottom, 2 by; level 2 -/
def w__law_made : WS := (wSeq (wAsg (wCall sp__law_common [.v (wVar 0), .v (wVar 1)]) (.nm 2))
    (wSeq (wIfS (wTst (wBin dLt (wVar 1) (wC (.int 0)))) (wAsg (wBin dSub (wC (.int 0)) (wVar 2)) (.nm 2)) wNext)
    (wRet (wTup [(wBin dFdiv (wVar 0) (wVar 2)), (wBin dFdiv (wVar 1) (wVar 2))]))))
/-- _law_digits(purse, figures), slots 0 purse*, 1 figures, 2 found, 3 k; level 2 -/
def w__law_digits : WS := (wSeq (wAsg (wC (.int 0)) (.nm 2))
    (wSeq (wForR [(wVar 1)] (.nm 3) (wAsg (wBin dAdd (wBin dMul (wC (.int 10)) (wVar 2)) (wCall sp__law_take [.s 0, .v (wC (.int 10))])) (.nm 2)))
    (wRet (wVar 2))))
/-- _law_fraction(purse), slots 0 purse*, 1 way, 2 top, 3 bottom, 4 many, 5 great, 6 k, 7 whole; level 3 -/
def w__law_fraction : WS := (wSeq (wAsg (wCall sp__law_take [.s 0, .v (wC (.int 4))]) (.nm 1))
    (wSeq (wIfS (wTst (wBin dLt (wVar 1) (wC (.int 2)))) (wSeq (wAsg (wCall sp__law_digits [.s 0, .v (wBin dIx (wFrz (wLst [(wC (.int 30)), (wC (.int 12))])) (wVar 1))]) (.nm 2))
    (wSeq (wAsg (wBin dAdd (wC (.int 1)) (wBin dMod (wCall sp__law_digits [.s 0, .v (wBin dIx (wFrz (wLst [(wC (.int 30)), (wC (.int 8))])) (wCall sp__law_take [.s 0, .v (wC (.int 2))]))]) (wBin dSub (wBin dPow (wC (.int 10)) (wC (.int 30))) (wC (.int 1))))) (.nm 3))
    (wRet (wCall sp__law_made [.v (wBin dMul (wVar 2) (wBin dSub (wC (.int 1)) (wBin dMul (wC (.int 2)) (wCall sp__law_take [.s 0, .v (wC (.int 2))])))), .v (wVar 3)])))) wNext)
    (wSeq (wAsg (wTup [(wC (.int 1)), (wC (.int 0))]) (.tp [(.nm 2), (.nm 3)]))
    (wSeq (wAsg (wBin dAdd (wC (.int 1)) (wCall sp__law_take [.s 0, .v (wC (.int 40))])) (.nm 4))
    (wSeq (wAsg (wBin dIx (wFrz (wLst [(wC (.int 2)), (wC (.int 3)), (wC (.int 9)), (wC (.int 1000))])) (wCall sp__law_take [.s 0, .v (wC (.int 4))])) (.nm 5))
    (wSeq (wForR [(wVar 4)] (.nm 6) (wIfS (wTst (wBin dLt (wBin dMax (wUn dAbs (wVar 2)) (wVar 3)) (wBin dPow (wC (.int 10)) (wC (.int 26))))) (wPar 2 3 (wBin dAdd (wBin dMul (wVar 2) (wBin dAdd (wC (.int 1)) (wCall sp__law_take [.s 0, .v (wVar 5)]))) (wVar 3)) (wVar 2)) wNext))
    (wSeq (wAsg (wBin dSub (wCall sp__law_take [.s 0, .v (wC (.int 9))]) (wC (.int 4))) (.nm 7))
    (wRet (wCall sp__law_made [.v (wBin dAdd (wBin dMul (wVar 7) (wVar 2)) (wVar 3)), .v (wVar 2)])))))))))
/-- _law_bound(purse, fraction), slots 0 purse*, 1 fraction, 2 way; level 3 -/
def w__law_bound : WS := (wSeq (wAsg (wCall sp__law_take [.s 0, .v (wC (.int 4))]) (.nm 2))
    (wSeq (wIfS (wTst (wBin dEq (wVar 2) (wC (.int 0)))) (wRet (wBin dMax (wC (.int 1)) (wBin dMin (wBin dSub (wBin dPow (wC (.int 10)) (wC (.int 30))) (wC (.int 1))) (wBin dAdd (wBin dSub (wBin dIx (wVar 1) (wC (.int 1))) (wC (.int 1))) (wCall sp__law_take [.s 0, .v (wC (.int 3))]))))) wNext)
    (wSeq (wIfS (wTst (wBin dEq (wVar 2) (wC (.int 1)))) (wRet (wBin dAdd (wC (.int 1)) (wCall sp__law_take [.s 0, .v (wC (.int 50))]))) wNext)
    (wRet (wBin dAdd (wC (.int 1)) (wBin dMod (wCall sp__law_digits [.s 0, .v (wBin dIx (wFrz (wLst [(wC (.int 30)), (wC (.int 10))])) (wBin dSub (wVar 2) (wC (.int 2))))]) (wBin dSub (wBin dPow (wC (.int 10)) (wC (.int 30))) (wC (.int 1)))))))))
/-- _law_cell(script, k), slots 0 script, 1 k; level 1 -/
def w__law_cell : WS := (wSeq (wIfS (wTst (wBin dLt (wVar 1) (wUn dLen (wVar 0)))) (wRet (wBin dIx (wVar 0) (wVar 1))) wNext)
    (wRet (wBin dAdd (wBin dMul (wC (.int 6007)) (wVar 1)) (wC (.int 17)))))
/-- is_number(thing), slots 0 thing; level 1 -/
def w_is_number : WS := (wRet (wAndV (wUn (dIsTy .int) (wVar 0)) (wNotV (wUn (dIsTy .bool) (wVar 0)))))
/-- common(one, other), slots 0 one, 1 other; level 1 -/
def w_common : WS := (wSeq (wAsg (wUn dAbs (wVar 0)) (.nm 0))
    (wSeq (wAsg (wUn dAbs (wVar 1)) (.nm 1))
    (wSeq (wWhile (wTst (wBin dNe (wVar 1) (wC (.int 0)))) (wPar 0 1 (wVar 1) (wBin dMod (wVar 0) (wVar 1))))
    (wRet (wVar 0)))))
/-- is_fraction(thing), slots 0 thing; level 2 -/
def w_is_fraction : WS := (wSeq (wIfS (wOr (wNot (wTst (wUn (dIsTy .tuple) (wVar 0)))) (wOr (wTst (wBin dNe (wUn dLen (wVar 0)) (wC (.int 2)))) (wOr (wNot (wTst (wCall sp_is_number [.v (wBin dIx (wVar 0) (wC (.int 0)))]))) (wNot (wTst (wCall sp_is_number [.v (wBin dIx (wVar 0) (wC (.int 1)))])))))) (wRet (wC (.bl false))) wNext)
    (wRet (wAndV (wBin dGe (wBin dIx (wVar 0) (wC (.int 1))) (wC (.int 1))) (wBin dEq (wCall sp_common [.v (wBin dIx (wVar 0) (wC (.int 0))), .v (wBin dIx (wVar 0) (wC (.int 1)))]) (wC (.int 1))))))
/-- need_fraction(thing), slots 0 thing; level 3 -/
def w_need_fraction : WS := (wIfS (wNot (wTst (wCall sp_is_fraction [.v (wVar 0)]))) wNever wNext)
/-- need_both(fraction, bound), slots 0 fraction, 1 bound; level 4 -/
def w_need_both : WS := (wSeq (wDrop (wCall sp_need_fraction [.v (wVar 0)]))
    (wIfS (wOr (wNot (wTst (wCall sp_is_number [.v (wVar 1)]))) (wTst (wBin dLt (wVar 1) (wC (.int 1))))) wNever wNext))
/-- moved(one, other, many), slots 0 one, 1 other, 2 many; level 1 -/
def w_moved : WS := (wRet (wTup [(wBin dAdd (wBin dIx (wVar 0) (wC (.int 0))) (wBin dMul (wVar 2) (wBin dIx (wVar 1) (wC (.int 0))))), (wBin dAdd (wBin dIx (wVar 0) (wC (.int 1))) (wBin dMul (wVar 2) (wBin dIx (wVar 1) (wC (.int 1)))))]))
/-- gap(lesser, greater), slots 0 lesser, 1 greater; level 1 -/
def w_gap : WS := (wRet (wBin dSub (wBin dMul (wBin dIx (wVar 1) (wC (.int 0))) (wBin dIx (wVar 0) (wC (.int 1)))) (wBin dMul (wBin dIx (wVar 0) (wC (.int 0))) (wBin dIx (wVar 1) (wC (.int 1))))))
/-- neighbours(fraction, bound), slots 0 fraction, 1 bound, 2 whole, 3 low, 4 high, 5 many; level 5 -/
def w_neighbours : WS := (wSeq (wDrop (wCall sp_need_both [.v (wVar 0), .v (wVar 1)]))
    (wSeq (wIfS (wTst (wBin dLe (wBin dIx (wVar 0) (wC (.int 1))) (wVar 1))) (wRet (wTup [(wVar 0), (wVar 0)])) wNext)
    (wSeq (wAsg (wBin dFdiv (wBin dIx (wVar 0) (wC (.int 0))) (wBin dIx (wVar 0) (wC (.int 1)))) (.nm 2))
    (wSeq (wPar 3 4 (wTup [(wVar 2), (wC (.int 1))]) (wTup [(wBin dAdd (wVar 2) (wC (.int 1))), (wC (.int 1))]))
    (wSeq (wWhile (wTst (wBin dLe (wBin dAdd (wBin dIx (wVar 3) (wC (.int 1))) (wBin dIx (wVar 4) (wC (.int 1)))) (wVar 1))) (wSeq (wAsg (wBin dFdiv (wCall sp_gap [.v (wVar 3), .v (wVar 0)]) (wCall sp_gap [.v (wVar 0), .v (wVar 4)])) (.nm 5))
    (wSeq (wAsg (wCall sp_moved [.v (wVar 3), .v (wVar 4), .v (wBin dMin (wVar 5) (wBin dFdiv (wBin dSub (wVar 1) (wBin dIx (wVar 3) (wC (.int 1)))) (wBin dIx (wVar 4) (wC (.int 1)))))]) (.nm 3))
    (wSeq (wAsg (wBin dFdiv (wCall sp_gap [.v (wVar 0), .v (wVar 4)]) (wCall sp_gap [.v (wVar 3), .v (wVar 0)])) (.nm 5))
    (wAsg (wCall sp_moved [.v (wVar 4), .v (wVar 3), .v (wBin dMin (wVar 5) (wBin dFdiv (wBin dSub (wVar 1) (wBin dIx (wVar 4) (wC (.int 1)))) (wBin dIx (wVar 3) (wC (.int 1)))))]) (.nm 4))))))
    (wRet (wTup [(wVar 3), (wVar 4)])))))))
/-- _law_gap(low, high), slots 0 low, 1 high; level 1 -/
def w__law_gap : WS := (wRet (wBin dSub (wBin dMul (wBin dIx (wVar 1) (wC (.int 0))) (wBin dIx (wVar 0) (wC (.int 1)))) (wBin dMul (wBin dIx (wVar 0) (wC (.int 0))) (wBin dIx (wVar 1) (wC (.int 1))))))
/-- _law_is_fraction(thing), slots 0 thing, 1 part; level 2 -/
def w__law_is_fraction : WS := (wSeq (wIfS (wOr (wNot (wTst (wUn (dIsTy .tuple) (wVar 0)))) (wTst (wBin dNe (wUn dLen (wVar 0)) (wC (.int 2))))) (wRet (wC (.bl false))) wNext)
    (wSeq (wIfS (wNot (wTst (wUn dAll (wFrz (wLc (wVar 0) (.nm 1) [1] wYes (wAndV (wUn (dIsTy .int) (wVar 1)) (wNotV (wUn (dIsTy .bool) (wVar 1))))))))) (wRet (wC (.bl false))) wNext)
    (wRet (wAndV (wBin dGt (wBin dIx (wVar 0) (wC (.int 1))) (wC (.int 0))) (wBin dEq (wCall sp__law_common [.v (wBin dIx (wVar 0) (wC (.int 0))), .v (wBin dIx (wVar 0) (wC (.int 1)))]) (wC (.int 1)))))))
/-- _law_shown(found, fraction, bound), slots 0 found, 1 fraction, 2 bound, 3 low, 4 high, 5 one; level 3 -/
def w__law_shown : WS := (wSeq (wIfS (wOr (wNot (wTst (wUn (dIsTy .tuple) (wVar 0)))) (wOr (wTst (wBin dNe (wUn dLen (wVar 0)) (wC (.int 2)))) (wNot (wTst (wUn dAll (wFrz (wLc (wVar 0) (.nm 5) [5] wYes (wCall sp__law_is_fraction [.v (wVar 5)])))))))) (wRet (wC (.bl false))) wNext)
    (wSeq (wAsg (wVar 0) (.tp [(.nm 3), (.nm 4)]))
    (wSeq (wIfS (wTst (wBin dLe (wBin dIx (wVar 1) (wC (.int 1))) (wVar 2))) (wRet (wAndV (wBin dEq (wVar 3) (wVar 1)) (wBin dEq (wVar 4) (wVar 1)))) wNext)
    (wSeq (wIfS (wOr (wTst (wBin dGt (wBin dIx (wVar 3) (wC (.int 1))) (wVar 2))) (wOr (wTst (wBin dGt (wBin dIx (wVar 4) (wC (.int 1))) (wVar 2))) (wTst (wBin dLe (wBin dAdd (wBin dIx (wVar 3) (wC (.int 1))) (wBin dIx (wVar 4) (wC (.int 1)))) (wVar 2))))) (wRet (wC (.bl false))) wNext)
    (wRet (wAndV (wBin dGt (wCall sp__law_gap [.v (wVar 3), .v (wVar 1)]) (wC (.int 0))) (wAndV (wBin dGt (wCall sp__law_gap [.v (wVar 1), .v (wVar 4)]) (wC (.int 0))) (wBin dEq (wCall sp__law_gap [.v (wVar 3), .v (wVar 4)]) (wC (.int 1))))))))))
/-- nearest(fraction, bound), slots 0 fraction, 1 bound, 2 low, 3 high, 4 below, 5 above; level 6 -/
def w_nearest : WS := (wSeq (wAsg (wCall sp_neighbours [.v (wVar 0), .v (wVar 1)]) (.tp [(.nm 2), (.nm 3)]))
    (wSeq (wAsg (wBin dMul (wCall sp_gap [.v (wVar 2), .v (wVar 0)]) (wBin dIx (wVar 3) (wC (.int 1)))) (.nm 4))
    (wSeq (wAsg (wBin dMul (wCall sp_gap [.v (wVar 0), .v (wVar 3)]) (wBin dIx (wVar 2) (wC (.int 1)))) (.nm 5))
    (wSeq (wIfS (wTst (wBin dEq (wVar 4) (wVar 5))) (wRet (wIf (wTst (wBin dLe (wBin dIx (wVar 2) (wC (.int 1))) (wBin dIx (wVar 3) (wC (.int 1))))) (wVar 2) (wVar 3))) wNext)
    (wRet (wIf (wTst (wBin dLt (wVar 4) (wVar 5))) (wVar 2) (wVar 3)))))))
/-- _law_near(pair, fraction), slots 0 pair, 1 fraction, 2 low, 3 high, 4 below, 5 above; level 2 -/
def w__law_near : WS := (wSeq (wAsg (wVar 0) (.tp [(.nm 2), (.nm 3)]))
    (wSeq (wAsg (wBin dMul (wCall sp__law_gap [.v (wVar 2), .v (wVar 1)]) (wBin dIx (wVar 3) (wC (.int 1)))) (.nm 4))
    (wSeq (wAsg (wBin dMul (wCall sp__law_gap [.v (wVar 1), .v (wVar 3)]) (wBin dIx (wVar 2) (wC (.int 1)))) (.nm 5))
    (wSeq (wIfS (wTst (wBin dEq (wVar 4) (wVar 5))) (wRet (wIf (wTst (wBin dLe (wBin dIx (wVar 2) (wC (.int 1))) (wBin dIx (wVar 3) (wC (.int 1))))) (wVar 2) (wVar 3))) wNext)
    (wRet (wIf (wTst (wBin dLt (wVar 4) (wVar 5))) (wVar 2) (wVar 3)))))))
/-- _law_turns_right(pair, fraction), slots 0 pair, 1 fraction, 2 low, 3 high, 4 first, 5 total, 6 bound, 7 amid, 8 side, 9 due; level 7 -/
def w__law_turns_right : WS := (wSeq (wAsg (wVar 0) (.tp [(.nm 2), (.nm 3)]))
    (wSeq (wAsg (wBin dMax (wBin dIx (wVar 2) (wC (.int 1))) (wBin dIx (wVar 3) (wC (.int 1)))) (.nm 4))
    (wSeq (wAsg (wBin dAdd (wBin dIx (wVar 2) (wC (.int 1))) (wBin dIx (wVar 3) (wC (.int 1)))) (.nm 5))
    (wSeq (wFor (wFrz (wLst [(wVar 4), (wBin dSub (wVar 5) (wC (.int 1))), (wBin dFdiv (wBin dSub (wBin dAdd (wVar 4) (wVar 5)) (wC (.int 1))) (wC (.int 2)))])) (.nm 6) (wIfS (wOr (wTst (wBin dNe (wCall sp_neighbours [.v (wVar 1), .v (wVar 6)]) (wVar 0))) (wTst (wBin dNe (wCall sp_nearest [.v (wVar 1), .v (wVar 6)]) (wCall sp__law_near [.v (wVar 0), .v (wVar 1)])))) (wRet (wC (.bl false))) wNext))
    (wSeq (wAsg (wTup [(wBin dAdd (wBin dIx (wVar 2) (wC (.int 0))) (wBin dIx (wVar 3) (wC (.int 0)))), (wVar 5)]) (.nm 7))
    (wSeq (wAsg (wCall sp__law_gap [.v (wVar 7), .v (wVar 1)]) (.nm 8))
    (wSeq (wAsg (wIf (wTst (wBin dEq (wVar 8) (wC (.int 0)))) (wTup [(wVar 1), (wVar 1)]) (wIf (wTst (wBin dGt (wVar 8) (wC (.int 0)))) (wTup [(wVar 7), (wVar 3)]) (wTup [(wVar 2), (wVar 7)]))) (.nm 9))
    (wRet (wBin dEq (wCall sp_neighbours [.v (wVar 1), .v (wVar 5)]) (wVar 9))))))))))
/-- law(script), slots 0 script, 1 k, 2 purse*, 3 fraction, 4 bound, 5 turn, 6 pair, 7 way, 8 total; level 8 -/
def w_law : WS := (wSeq (wForR [(wBin dMax (wC (.int 2)) (wBin dMin (wC (.int 5)) (wUn dLen (wVar 0))))] (.nm 1) (wSeq (wAsgO (wCallO sp__law_purse [.v (wCall sp__law_cell [.v (wVar 0), .v (wVar 1)])]) 2)
    (wSeq (wAsg (wCall sp__law_fraction [.s 2]) (.nm 3))
    (wSeq (wAsg (wCall sp__law_bound [.s 2, .v (wVar 3)]) (.nm 4))
    (wForR [(wC (.int 3))] (.nm 5) (wSeq (wAsg (wCall sp_neighbours [.v (wVar 3), .v (wVar 4)]) (.nm 6))
    (wSeq (wIfS (wOr (wNot (wTst (wCall sp__law_shown [.v (wVar 6), .v (wVar 3), .v (wVar 4)]))) (wTst (wBin dNe (wCall sp_nearest [.v (wVar 3), .v (wVar 4)]) (wCall sp__law_near [.v (wVar 6), .v (wVar 3)])))) (wRet (wC (.bl false))) wNext)
    (wSeq (wIfS (wAnd (wTst (wBin dGt (wBin dIx (wVar 3) (wC (.int 1))) (wVar 4))) (wNot (wTst (wCall sp__law_turns_right [.v (wVar 6), .v (wVar 3)])))) (wRet (wC (.bl false))) wNext)
    (wSeq (wAsg (wCall sp__law_take [.s 2, .v (wC (.int 3))]) (.nm 7))
    (wSeq (wAsg (wBin dMin (wBin dSub (wBin dPow (wC (.int 10)) (wC (.int 30))) (wC (.int 1))) (wBin dAdd (wBin dIx (wBin dIx (wVar 6) (wC (.int 0))) (wC (.int 1))) (wBin dIx (wBin dIx (wVar 6) (wC (.int 1))) (wC (.int 1))))) (.nm 8))
    (wAsg (wBin dIx (wFrz (wLst [(wVar 8), (wBin dMax (wC (.int 1)) (wBin dFdiv (wVar 4) (wC (.int 2)))), (wBin dAdd (wC (.int 1)) (wCall sp__law_take [.s 2, .v (wBin dPow (wC (.int 10)) (wC (.int 9)))]))])) (wVar 7)) (.nm 4))))))))))))
    (wRet (wC (.bl true))))
end K51

namespace K51
open PySem DW
theorem kp__law_purse : Keeps0 1 w__law_purse sp__law_purse := by
  rintro dvs k ⟨c, rfl, h⟩
  refine ⟨⟨by decide, by decide, by decide⟩, by decide, h _ ⟨_, _, _, rfl, ?_, (fmod_rng (by decide)).1, (fmod_rng (by decide)).2, by decide, by decide⟩⟩
  split <;> omega
theorem kp__law_take : Keeps0 5 w__law_take sp__law_take := by
  rintro dvs k ⟨p, m, n, rfl, ⟨a, b, c, rfl, ha, hb, hb', hc, hc'⟩, hn, hm, hm', h⟩
  refine ⟨rfl, ?_⟩
  show if decide (0 < a) = true then _ else _
  have bm : Bd 100 m := .of (by omega) hm'
  refine ite_both (fun g => ?_) (fun g => ?_)
  · have g : 0 < a := of_decide_eq_true g
    refine ⟨rfl, by omega, rfl, divOk (by omega) bm, rfl, (by decide : (0:Int) ≤ 0 ∧ (0:Int) < 3), ?_⟩
    have := fmod_rng (a := a) (b := m) (by omega)
    exact h _ _ this.1 this.2 ⟨_, _, _, rfl, fdiv_nonneg ha (by omega), hb, hb', hc, by omega⟩
  · have b1 : Bd 32 b := .of (by omega) (by omega)
    have b2 : Bd 32 (c + 1) := .of (by omega) (by omega)
    refine ⟨rfl, rfl, (by decide : (0:Int) ≤ 2 ∧ (2:Int) < 3), rfl, rfl, mulOk (n := 32) (.of (by decide) (by decide)) b2, ⟨by decide, by decide, by omega⟩, by decide, rfl, rfl, mulOk b1 b2, ⟨by decide, by decide, ?_⟩, by decide, ?_, divOk (n := 32) (by decide) (.of (by decide) (by decide)), by omega, ?_⟩
    · have := b1.mul b2
      have e : (b * (c + 1) + 91193).natAbs ≤ (b * (c + 1)).natAbs + 91193 := Int.natAbs_add_le _ _
      have e2 : (b * (c + 1)).natAbs ≤ 2147483629 * 1000000001 := by
        rw [Int.natAbs_mul]
        exact Nat.mul_le_mul (by omega) (by omega)
      omega
    · have r := fun a => fmod_rng (a := a) (b := 2147483647) (by decide)
      exact mulOk (n := 32) (m := 32) (.of (Int.lt_of_lt_of_le (by decide) (r _).1) (Int.lt_trans (r _).2 (by decide))) (.of (by decide) (by decide))
    · have := fun a => fmod_rng (a := a) (b := m) (by omega)
      exact h _ _ (this _).1 (this _).2 ⟨_, _, _, rfl, by omega, hb, hb', by omega, by omega⟩
theorem kp__law_common : Keeps0 2 w__law_common sp__law_common := by
  rintro dvs k ⟨a, b, rfl, h⟩
  refine ⟨fun m ds => ∃ x y : Int, ds = [some (.val (.int x)), some (.val (.int y))] ∧ 0 ≤ x ∧ 0 ≤ y ∧ Int.gcd x y = Int.gcd a b ∧ m = y.toNat, ⟨_, _, _, rfl, ?_, ?_, ?_, rfl⟩, ?_⟩
  · split <;> omega
  · split <;> omega
  · rw [abs_eq, abs_eq, gcd_abs]
  · rintro m ds ⟨x, y, rfl, hx, hy, hg, rfl⟩
    refine ⟨⟨shp_int _, shp_int _⟩, ite_both (fun g => ?_) (fun g => ?_)⟩
    · have g := ne_int g
      have r := fmod_rng (a := x) (b := y) (by omega)
      exact ⟨g, _, by omega, _, _, rfl, hy, r.1, (gcd_step x y hy).trans hg, rfl⟩
    · have g := ne_int' g
      subst g
      have e : x = (Int.gcd a b : Int) := by
        rw [← hg, Int.gcd_zero_right]
        omega
      show k (.ret (.val (.int x))) _
      rw [e]
      exact h
theorem kp_common : Keeps0 2 w_common sp_common := by
  rintro dvs k ⟨a, b, rfl, h⟩
  refine ⟨fun m ds => ∃ x y : Int, ds = [some (.val (.int x)), some (.val (.int y))] ∧ 0 ≤ x ∧ 0 ≤ y ∧ Int.gcd x y = Int.gcd a b ∧ m = y.toNat, ⟨_, _, _, rfl, ?_, ?_, ?_, rfl⟩, ?_⟩
  · split <;> omega
  · split <;> omega
  · rw [abs_eq, abs_eq, gcd_abs]
  · rintro m ds ⟨x, y, rfl, hx, hy, hg, rfl⟩
    refine ⟨⟨shp_int _, shp_int _⟩, ite_both (fun g => ?_) (fun g => ?_)⟩
    · have g := ne_int g
      have r := fmod_rng (a := x) (b := y) (by omega)
      exact ⟨g, _, by omega, _, _, rfl, hy, r.1, (gcd_step x y hy).trans hg, rfl⟩
    · have g := ne_int' g
      subst g
      have e : x = (Int.gcd a b : Int) := by
        rw [← hg, Int.gcd_zero_right]
        omega
      show k (.ret (.val (.int x))) _
      rw [e]
      exact h
theorem made_fr {a b : Int} (hb : 1 ≤ b) (hb' : b < 10 ^ 30) (ha : a.natAbs < 10 ^ 30) : Fr (a.fdiv (Int.gcd a b)) (b.fdiv (Int.gcd a b)) := by
  have g0 : 0 < Int.gcd a b := Int.gcd_pos_of_ne_zero_right a (by omega)
  have d1 : (Int.gcd a b : Int) ∣ a := Int.gcd_dvd_left ..
  have d2 : (Int.gcd a b : Int) ∣ b := Int.gcd_dvd_right ..
  rw [Int.fdiv_eq_ediv_of_nonneg a (by omega), Int.fdiv_eq_ediv_of_nonneg b (by omega)]
  refine ⟨?_, ?_, ?_, ?_⟩
  · have l := Int.le_of_dvd (show 0 < b by omega) d2
    have l0 : (0 : Int) < (Int.gcd a b : Int) := by omega
    exact Int.le_ediv_of_mul_le l0 (by omega)
  · exact Int.lt_of_le_of_lt (Int.ediv_le_self _ (show 0 ≤ b by omega)) hb'
  · obtain ⟨c, e⟩ := d1
    have e2 : a / (Int.gcd a b : Int) = c := by
      conv => lhs; lhs; rw [e]
      exact Int.mul_ediv_cancel_left c (by omega)
    rw [e2]
    refine Nat.lt_of_le_of_lt ?_ ha
    conv => rhs; rw [e]
    rw [Int.natAbs_mul]
    exact Nat.le_mul_of_pos_left _ (by omega)
  · exact Int.gcd_ediv_gcd_ediv_gcd (by omega)
theorem kp__law_made : Keeps0 3 w__law_made sp__law_made := by
  rintro dvs k ⟨a, b, rfl, hb, hb', ha, h⟩
  refine ⟨List.nodup_nil, _, _, rfl, ?_⟩
  refine ite_no (decide_eq_false (by omega)) ?_
  have g0 : 0 < Int.gcd a b := Int.gcd_pos_of_ne_zero_right a (by omega)
  have l : (Int.gcd a b : Int) ≤ b := Int.le_of_dvd (by omega) (Int.gcd_dvd_right ..)
  have o : DivOk (Int.gcd a b : Int) := divOk (n := 100) (by omega) (.of (by omega) (by omega))
  exact ⟨o, o, h _ _ (made_fr hb hb' ha)⟩
theorem ten_pow {i j : Nat} (h : i ≤ j) : (10 : Int) ^ i ≤ 10 ^ j := by
  have : 10 ^ i ≤ 10 ^ j := Nat.pow_le_pow_right (by decide) h
  exact_mod_cast this
theorem kp__law_digits : Keeps0 4 w__law_digits sp__law_digits := by
  rintro dvs k ⟨p, f, n, rfl, hp, hf, hn, h⟩
  refine ⟨⟨⟨by decide, by decide⟩, by omega, by omega⟩, fun i ds => ∃ (d : Int) (p : List D) (x : Option DV), ds = [some (.par p), some (.val (.int f)), some (.val (.int d)), x] ∧ 0 ≤ d ∧ d < 10 ^ i ∧ Pu (n + i) p, ⟨_, _, _, rfl, by decide, by decide, hp⟩, ?_, ?_⟩
  · rintro i d ds hi ⟨v, p, x, rfl, v0, v1, hp⟩
    have il : i < f := by
      have := (List.getElem?_eq_some_iff.mp hi).1
      simpa [rangeD] using this
    refine ⟨mulOk (n := 10) (m := 110) (.of (by decide) (by decide)) (.of (by omega) ?_), rfl, by simp [slotsOf], _, _, n + i, rfl, hp, by omega, by decide, by decide, fun d p' d0 d1 hp' => ?_⟩
    · have : (10:Int) ^ i ≤ 10 ^ 30 := ten_pow (by omega)
      have : (10:Int)^30 < 2^110 := by decide
      omega
    · refine ⟨_, _, _, rfl, by omega, ?_, hp'⟩
      rw [Int.pow_succ]
      omega
  · rintro ds ⟨v, p, x, rfl, v0, v1, hp⟩
    have e : (rangeD 0 f).length = f := by simp [rangeD]
    rw [e] at v1 hp
    exact h _ _ v0 v1 hp
end K51

namespace K51
open PySem DW
theorem kp__law_cell : Keeps0 2 w__law_cell sp__law_cell := by
  rintro dvs k ⟨ns, j, rfl, h0, h1, h⟩
  have hl : (ns.map D.int).length = ns.length := List.length_map ..
  refine ite_both (fun g => ?_) (fun g => ?_)
  · have g := is_lt g
    rw [hl] at g
    have e : itemAt (ns.map D.int) j = some (.int (ns[j.toNat]'(by omega))) := by
      unfold itemAt
      rw [if_pos h0, List.getElem?_map, List.getElem?_eq_getElem (by omega)]
      rfl
    show match itemAt (ns.map D.int) j with | some v => _ | none => False
    rw [e]
    exact h _
  · exact ⟨mulOk (n := 20) (m := 20) (.of (by decide) (by decide)) (.of (by omega) (by omega)), h _⟩
theorem kp_is_number : Keeps0 1 w_is_number sp_is_number := by
  rintro dvs k ⟨a, rfl, h⟩
  exact h
theorem kp_is_fraction : Keeps0 1 w_is_fraction sp_is_fraction := by
  rintro dvs k ⟨a, b, rfl, ⟨hb, hg⟩, h⟩
  refine ⟨⟨shp_int _, shp_int _⟩, List.nodup_nil, _, rfl, List.nodup_nil, _, rfl, ite_no rfl ?_⟩
  refine ite_yes (decide_eq_true hb) ⟨List.nodup_nil, _, _, rfl, ⟨shp_int _, shp_int _⟩, ?_⟩
  rw [hg]
  exact h
theorem kp__law_is_fraction : Keeps0 2 w__law_is_fraction sp__law_is_fraction := by
  rintro dvs k ⟨a, b, rfl, ⟨hb, hg⟩, h⟩
  refine ⟨⟨shp_int _, shp_int _⟩, ?_⟩
  refine compI_of ⟨Nat.le_of_ble_eq_true rfl, Nat.le_of_ble_eq_true rfl, ?_⟩
  refine ite_yes (decide_eq_true (by omega)) ⟨List.nodup_nil, _, _, rfl, ⟨shp_int _, shp_int _⟩, ?_⟩
  rw [hg]
  exact h
theorem kp_need_fraction : Keeps0 1 w_need_fraction sp_need_fraction := by
  rintro dvs k ⟨a, b, rfl, hf, h⟩
  exact ⟨List.nodup_nil, _, _, rfl, hf, h⟩
theorem kp_need_both : Keeps0 2 w_need_both sp_need_both := by
  rintro dvs k ⟨a, b, B, rfl, hf, hB, h⟩
  exact ⟨List.nodup_nil, _, _, rfl, hf, List.nodup_nil, _, rfl, ite_no rfl (ite_no (decide_eq_false (by omega)) h)⟩
theorem kp_moved : Keeps0 3 w_moved sp_moved := by
  rintro dvs k ⟨a, b, c, d, m, rfl, ⟨hc, hd, hm⟩, h⟩
  exact ⟨mulOk hm hc, mulOk hm hd, h⟩
theorem kp_gap : Keeps0 2 w_gap sp_gap := by
  rintro dvs k ⟨a, b, c, d, rfl, ⟨ha, hb, hc, hd⟩, h⟩
  exact ⟨mulOk hc hb, mulOk ha hd, h⟩
theorem kp__law_gap : Keeps0 2 w__law_gap sp__law_gap := by
  rintro dvs k ⟨a, b, c, d, rfl, ⟨ha, hb, hc, hd⟩, h⟩
  exact ⟨mulOk hc hb, mulOk ha hd, h⟩
theorem two_of {d x y : Int} (h0 : 0 ≤ d) (h1 : d < 2) : (d = 0 ∧ itemAt [D.int x, D.int y] d = some (.int x)) ∨ (d = 1 ∧ itemAt [D.int x, D.int y] d = some (.int y)) := by
  have : d = 0 ∨ d = 1 := by omega
  rcases this with rfl | rfl
  · exact .inl ⟨rfl, rfl⟩
  · exact .inr ⟨rfl, rfl⟩
end K51

namespace K51
open PySem DW
theorem kp__law_fraction : Keeps0 8 w__law_fraction sp__law_fraction := by
  rintro dvs k ⟨p, n, rfl, hp, hn, h⟩
  refine ⟨rfl, by simp [slotsOf], _, _, n, rfl, hp, by omega, by decide, by decide, fun d p1 d0 d1 hp1 => ?_⟩
  refine ite_both (fun g => ?_) (fun g => ?_)
  · have g := is_lt g
    obtain ⟨f, hf, hdf⟩ : ∃ f : Nat, f ≤ 30 ∧ itemAt [D.int 30, D.int 12] d = some (.int f) := by
      rcases two_of (x := 30) (y := 12) d0 g with ⟨_, e⟩ | ⟨_, e⟩
      · exact ⟨30, by decide, e⟩
      · exact ⟨12, by decide, e⟩
    refine ⟨rfl, ?_⟩
    show match itemAt [D.int 30, D.int 12] d with | some v => _ | none => False
    rw [hdf]
    refine ⟨by simp [slotsOf], p1, f, n + 1, rfl, hp1, hf, by omega, fun t p2 t0 t1 hp2 => ?_⟩
    refine ⟨rfl, rfl, by simp [slotsOf], _, _, _, rfl, hp2, by omega, by decide, by decide, fun e p3 e0 e1 hp3 => ?_⟩
    obtain ⟨f2, hf2, hdf2⟩ : ∃ f : Nat, f ≤ 30 ∧ itemAt [D.int 30, D.int 8] e = some (.int f) := by
      rcases two_of (x := 30) (y := 8) e0 e1 with ⟨_, e⟩ | ⟨_, e⟩
      · exact ⟨30, by decide, e⟩
      · exact ⟨8, by decide, e⟩
    show match itemAt [D.int 30, D.int 8] e with | some v => _ | none => False
    rw [hdf2]
    refine ⟨by simp [slotsOf], p3, f2, _, rfl, hp3, hf2, by omega, fun u p4 u0 u1 hp4 => ?_⟩
    refine ⟨⟨by decide, by decide, by decide⟩, by decide, rfl, by simp [slotsOf], _, _, _, rfl, hp4, by omega, by decide, by decide, fun x p5 x0 x1 hp5 => ?_⟩
    have t30 : (10 : Int) ^ f ≤ 10 ^ 30 := ten_pow hf
    have r := fmod_rng (a := u) (b := 10 ^ 30 - 1) (by decide)
    refine ⟨mulOk (n := 10) (m := 10) (.of (by decide) (by decide)) (.of (by omega) (by omega)), mulOk (n := 110) (m := 10) (.of (by omega) (by omega)) (.of (by omega) (by omega)), List.nodup_nil, _, _, rfl, ?_, ?_, ?_, fun c d hcd => h _ _ _ hcd (hp5.mono (by omega))⟩
    · exact Int.le_add_of_nonneg_right r.1
    · have := r.2
      show 1 + u.fmod (10 ^ 30 - 1) < 10 ^ 30
      omega
    · have : x = 0 ∨ x = 1 := by omega
      rcases this with rfl | rfl <;> simp <;> omega
  · refine ⟨rfl, by simp [slotsOf], _, _, _, rfl, hp1, by omega, by decide, by decide, fun e p2 e0 e1 hp2 => ?_⟩
    refine ⟨rfl, by simp [slotsOf], _, _, _, rfl, hp2, by omega, by decide, by decide, fun j p3 j0 j1 hp3 => ?_⟩
    obtain ⟨gr, g0, g1, hg⟩ : ∃ g : Int, 1 ≤ g ∧ g ≤ 1000 ∧ itemAt [D.int 2, D.int 3, D.int 9, D.int 1000] j = some (.int g) := by
      have : j = 0 ∨ j = 1 ∨ j = 2 ∨ j = 3 := by omega
      rcases this with rfl | rfl | rfl | rfl
      · exact ⟨2, by decide, by decide, rfl⟩
      · exact ⟨3, by decide, by decide, rfl⟩
      · exact ⟨9, by decide, by decide, rfl⟩
      · exact ⟨1000, by decide, by decide, rfl⟩
    show match itemAt [D.int 2, D.int 3, D.int 9, D.int 1000] j with | some v => _ | none => False
    rw [hg]
    refine ⟨⟨⟨by decide, by decide⟩, by omega, by omega⟩, fun i ds => ∃ (t b : Int) (p : List D) (x y : Option DV), ds = [some (.par p), some (.val (.int d)), some (.val (.int t)), some (.val (.int b)), some (.val (.int (1 + e))), some (.val (.int gr)), x, y] ∧ (1 ≤ t ∧ t < 1002 * 10 ^ 26) ∧ (0 ≤ b ∧ b < 1002 * 10 ^ 26) ∧ Pu (n + 3 + i) p,
      ⟨_, _, _, _, _, rfl, by decide, by decide, hp3⟩, ?_, ?_⟩
    · rintro i _ ds hi ⟨t, b, p, x, y, rfl, ht, hb, hp⟩
      have il : i < 41 := by
        have := (List.getElem?_eq_some_iff.mp hi).1
        have e : (rangeD 0 (1 + e)).length = (1 + e).toNat := by simp [rangeD]
        omega
      refine ⟨⟨by decide, by decide, by decide⟩, ?_⟩
      refine ite_both (fun q => ?_) (fun q => ⟨t, b, p, _, _, rfl, ht, hb, hp.mono (by omega)⟩)
      have q := is_lt q
      have q : t < 10 ^ 26 ∧ b < 10 ^ 26 := by
        have e1 : (if t < 0 then -t else t) = t := by split <;> omega
        rw [e1] at q
        have q : (if b > t then b else t) < 10 ^ 26 := q
        split at q <;> omega
      refine ⟨rfl, by simp [slotsOf], _, _, _, rfl, hp, by omega, g0, by omega, fun v p' v0 v1 hp' => ?_⟩
      have l : t * (1 + v) ≤ 10 ^ 26 * 1000 := Int.mul_le_mul (by omega) (by omega) (by omega) (by decide)
      have l' : 1 * 1 ≤ t * (1 + v) := Int.mul_le_mul (by omega) (by omega) (by omega) (by omega)
      exact ⟨mulOk (n := 110) (m := 20) (.of (by omega) (by omega)) (.of (by omega) (by omega)), _, _, _, _, _, rfl, ⟨by omega, by omega⟩, ⟨by omega, by omega⟩, hp'⟩
    · rintro ds ⟨t, b, p, x, y, rfl, ht, hb, hp⟩
      have el : (rangeD 0 (1 + e)).length = (1 + e).toNat := by simp [rangeD]
      rw [el] at hp
      have hp : Pu (n + 44) p := hp.mono (by omega)
      refine ⟨rfl, by simp [slotsOf], _, _, _, rfl, hp, by omega, by decide, by decide, fun w p' w0 w1 hp' => ?_⟩
      refine ⟨mulOk (n := 20) (m := 110) (.of (by omega) (by omega)) (.of (by omega) (by omega)), List.nodup_nil, _, _, rfl, ht.1, by omega, ?_, fun c d hcd => h _ _ _ hcd (hp'.mono (by omega))⟩
      have l1 : (w - 4) * t ≤ 4 * t := Int.mul_le_mul_of_nonneg_right (by omega) (by omega)
      have l2 : -4 * t ≤ (w - 4) * t := Int.mul_le_mul_of_nonneg_right (by omega) (by omega)
      omega
end K51

namespace K51
open PySem DW
theorem kp__law_bound : Keeps0 3 w__law_bound sp__law_bound := by
  rintro dvs k ⟨p, n, a, b, rfl, hp, hn, hf, h⟩
  have fr := hf
  obtain ⟨fb, fb', fa, fg⟩ := fr
  refine ⟨rfl, by simp [slotsOf], _, _, n, rfl, hp, by omega, by decide, by decide, fun d p1 d0 d1 hp1 => ?_⟩
  refine ⟨⟨shp_int _, shp_int _⟩, ite_both (fun g => ?_) (fun g => ?_)⟩
  · refine ⟨⟨by decide, by decide, by decide⟩, rfl, by simp [slotsOf], _, _, _, rfl, hp1, by omega, by decide, by decide, fun e p2 e0 e1 hp2 => ?_⟩
    refine h _ _ ?_ ?_ (hp2.mono (by omega))
    · split <;> split <;> omega
    · have e30 : (10 : Int) ^ (30 : Int).toNat = 10 ^ 30 := rfl
      rw [e30]
      split <;> split <;> omega
  · have g := eq_int' g
    refine ⟨⟨shp_int _, shp_int _⟩, ite_both (fun g' => ?_) (fun g' => ?_)⟩
    · exact ⟨rfl, by simp [slotsOf], _, _, _, rfl, hp1, by omega, by decide, by decide, fun e p2 e0 e1 hp2 => h _ _ (by omega) (by omega) (hp2.mono (by omega))⟩
    · have g' := eq_int' g'
      obtain ⟨f, hf, hdf⟩ : ∃ f : Nat, f ≤ 30 ∧ itemAt [D.int 30, D.int 10] (d - 2) = some (.int f) := by
        rcases two_of (d := d - 2) (x := 30) (y := 10) (by omega) (by omega) with ⟨_, e⟩ | ⟨_, e⟩
        · exact ⟨30, by decide, e⟩
        · exact ⟨10, by decide, e⟩
      refine ⟨rfl, ?_⟩
      show match itemAt [D.int 30, D.int 10] (d - 2) with | some v => _ | none => False
      rw [hdf]
      refine ⟨by simp [slotsOf], _, _, _, rfl, hp1, hf, by omega, fun e p2 e0 e1 hp2 => ?_⟩
      have r := fmod_rng (a := e) (b := 10 ^ 30 - 1) (by decide)
      refine ⟨⟨by decide, by decide, by decide⟩, by decide, h _ _ (Int.le_add_of_nonneg_right r.1) ?_ (hp2.mono (by omega))⟩
      have := r.2
      show 1 + e.fmod (10 ^ 30 - 1) < 10 ^ 30
      omega
theorem Fr.bds {a b : Int} (h : Fr a b) : Bd 100 a ∧ Bd 100 b := by
  obtain ⟨h1, h2, h3, _⟩ := h
  exact ⟨Nat.lt_trans h3 (by decide), .of (by omega) (by omega)⟩
/-- a bottom up to B, a side's top -/
theorem bd_top {t a l : Int} (ha : a.natAbs < 10 ^ 30) (hl : 1 ≤ l) (hl' : l < 10 ^ 31) (h : t.natAbs ≤ (a.natAbs + 2) * l.natAbs) : Bd 210 t := by
  have : (a.natAbs + 2) * l.natAbs ≤ (10 ^ 30 + 2) * 10 ^ 31 := Nat.mul_le_mul (by omega) (by omega)
  exact Nat.lt_of_le_of_lt (Nat.le_trans h this) (by decide)
theorem gp_step (l1 l2 h1 h2 a b t : Int) : gp (l1 + t * h1) (l2 + t * h2) a b = gp l1 l2 a b - t * gp a b h1 h2 := by unfold gp; grind
theorem gp_step' (l1 l2 h1 h2 a b t : Int) : gp a b (h1 + t * l1) (h2 + t * l2) = gp a b h1 h2 - t * gp l1 l2 a b := by unfold gp; grind
theorem gp_one (l1 l2 h1 h2 t : Int) : gp (l1 + t * h1) (l2 + t * h2) h1 h2 = gp l1 l2 h1 h2 := by unfold gp; grind
theorem gp_one' (l1 l2 h1 h2 t : Int) : gp l1 l2 (h1 + t * l1) (h2 + t * l2) = gp l1 l2 h1 h2 := by unfold gp; grind
theorem fdiv_mul_le {a b : Int} (h : 0 < b) : a.fdiv b * b ≤ a := by
  rw [Int.fdiv_eq_ediv_of_nonneg a (Int.le_of_lt h)]
  exact Int.ediv_mul_le a (by omega)
theorem lt_fdiv {a b : Int} (h : 0 < b) : a < (a.fdiv b + 1) * b := by
  rw [Int.fdiv_eq_ediv_of_nonneg a (Int.le_of_lt h)]
  exact Int.lt_ediv_add_one_mul_self a h
/-- one side moves: still below, its bottom still within -/
theorem side {l2 h2 B g g' t : Int} (h20 : 1 ≤ h2) (g0 : 0 < g) (g0' : 0 < g') (ht : t = if (B - l2).fdiv h2 < g.fdiv g' then (B - l2).fdiv h2 else g.fdiv g') (hl : l2 ≤ B) : 0 ≤ t ∧ t * g' ≤ g ∧ l2 + t * h2 ≤ B ∧ (l2 + h2 ≤ B → g' ≤ g → 1 ≤ t) := by
  have q1 := fdiv_mul_le (a := B - l2) (b := h2) (by omega)
  have q2 := fdiv_mul_le (a := g) (b := g') g0'
  have q3 := lt_fdiv (a := B - l2) (b := h2) (by omega)
  have q4 := lt_fdiv (a := g) (b := g') g0'
  have n1 : 0 ≤ (B - l2).fdiv h2 := fdiv_nonneg (by omega) (by omega)
  have n2 : 0 ≤ g.fdiv g' := fdiv_nonneg (by omega) g0'
  have big : ∀ {x y z : Int}, 0 < z → z ≤ x → x < (y + 1) * z → 1 ≤ y := by
    intro x y z hz h1 h2
    by_cases c : 1 ≤ y
    · exact c
    · have := Int.mul_le_mul_of_nonneg_right (show y + 1 ≤ 1 by omega) (show 0 ≤ z by omega)
      omega
  by_cases c : (B - l2).fdiv h2 < g.fdiv g'
  · rw [if_pos c] at ht
    subst ht
    refine ⟨n1, ?_, by omega, fun h _ => big (z := h2) (by omega) (by omega) q3⟩
    have := Int.mul_le_mul_of_nonneg_right (Int.le_of_lt c) (show 0 ≤ g' by omega)
    omega
  · rw [if_neg c] at ht
    subst ht
    refine ⟨n2, q2, ?_, fun _ h => big g0' h q4⟩
    have := Int.mul_le_mul_of_nonneg_right (show g.fdiv g' ≤ (B - l2).fdiv h2 by omega) (show 0 ≤ h2 by omega)
    omega
/-- the low side moved is still strictly below -/
theorem low_pos {a b B l1 l2 h1 h2 t : Int} (hb : B < b) (hg : Int.gcd a b = 1) (pl : 1 ≤ l2) (ph : 1 ≤ h2) (one : gp l1 l2 h1 h2 = 1) (t0 : 0 ≤ t) (hB : l2 + t * h2 ≤ B) (h : t * gp a b h1 h2 ≤ gp l1 l2 a b) : 0 < gp (l1 + t * h1) (l2 + t * h2) a b := by
  rw [gp_step]
  have p : 0 ≤ t * h2 := Int.mul_nonneg t0 (by omega)
  rcases Int.lt_or_eq_of_le (show 0 ≤ gp l1 l2 a b - t * gp a b h1 h2 by omega) with z | z
  · exact z
  · exfalso
    have o := gp_one l1 l2 h1 h2 t
    rw [one] at o
    have e := gp_step l1 l2 h1 h2 a b t
    rw [← z] at e
    -- a / b is the moved one: b divides its bottom
    have d : b ∣ l2 + t * h2 := by
      have e1 : a * (l2 + t * h2) = (l1 + t * h1) * b := by unfold gp at e; omega
      have : b ∣ a * (l2 + t * h2) := ⟨l1 + t * h1, by rw [e1, Int.mul_comm]⟩
      exact dvd_of_gcd (by rw [Int.gcd_comm]; exact hg) this
    have := Int.le_of_dvd (by omega) d
    omega
theorem high_pos {a b B l1 l2 h1 h2 t : Int} (hb : B < b) (hg : Int.gcd a b = 1) (pl : 1 ≤ l2) (ph : 1 ≤ h2) (one : gp l1 l2 h1 h2 = 1) (t0 : 0 ≤ t) (hB : h2 + t * l2 ≤ B) (h : t * gp l1 l2 a b ≤ gp a b h1 h2) : 0 < gp a b (h1 + t * l1) (h2 + t * l2) := by
  rw [gp_step']
  have p : 0 ≤ t * l2 := Int.mul_nonneg t0 (by omega)
  rcases Int.lt_or_eq_of_le (show 0 ≤ gp a b h1 h2 - t * gp l1 l2 a b by omega) with z | z
  · exact z
  · exfalso
    have e := gp_step' l1 l2 h1 h2 a b t
    rw [← z] at e
    have d : b ∣ h2 + t * l2 := by
      have e1 : a * (h2 + t * l2) = (h1 + t * l1) * b := by unfold gp at e; omega
      have : b ∣ a * (h2 + t * l2) := ⟨h1 + t * l1, by rw [e1, Int.mul_comm]⟩
      exact dvd_of_gcd (by rw [Int.gcd_comm]; exact hg) this
    have := Int.le_of_dvd (by omega) d
    omega
end K51

namespace K51
open PySem DW
theorem bd_gp {u v y z : Int} (hu : Bd 1000 u) (hv : Bd 1000 v) (hy : Bd 1000 y) (hz : Bd 1000 z) : Bd 2001 (gp u v y z) :=
  (Bd.sub (n := 1000 + 1000) (hy.mul hv) (hu.mul hz)).mono (by decide)
theorem kp_neighbours : Keeps0 6 w_neighbours sp_neighbours := by
  rintro dvs k ⟨a, b, B, rfl, hf, ⟨hB, hB'⟩, h⟩
  obtain ⟨hb, hb', ha, hg⟩ := id hf
  obtain ⟨da, db⟩ := hf.bds
  refine ⟨List.nodup_nil, _, _, _, rfl, ⟨hb, hg⟩, hB, ?_⟩
  refine ite_both (fun g => h _ _ _ _ (.inl ⟨is_le g, rfl, rfl, rfl, rfl⟩)) (fun g => ?_)
  have g := no_le g
  refine ⟨divOk (by omega) db, ?_⟩
  have w1 := fdiv_mul_le (a := a) (b := b) (by omega)
  have w2 := lt_fdiv (a := a) (b := b) (by omega)
  have w3 : a.fdiv b * b ≠ a := fun e => by
    have : b ∣ a := ⟨a.fdiv b, by rw [Int.mul_comm]; exact e.symm⟩
    have e2 : (Int.gcd b a : Int) = b := Int.gcd_eq_left (by omega) this
    rw [Int.gcd_comm] at hg
    omega
  refine ⟨fun m ds => ∃ (l1 l2 h1 h2 : Int) (x : Option DV), ds = [some (.val (pr a b)), some (.val (.int B)), some (.val (.int (a.fdiv b))), some (.val (pr l1 l2)), some (.val (pr h1 h2)), x] ∧
    (1 ≤ l2 ∧ 1 ≤ h2 ∧ l2 ≤ B ∧ h2 ≤ B) ∧ (0 < gp l1 l2 a b ∧ 0 < gp a b h1 h2 ∧ gp l1 l2 h1 h2 = 1) ∧ m = (2 * B - l2 - h2).toNat, ⟨_, _, _, _, _, _, rfl, ⟨by decide, by decide, hB, hB⟩, ⟨?_, ?_, ?_⟩, rfl⟩, ?_⟩
  · show 0 < a * 1 - a.fdiv b * b
    omega
  · show 0 < (a.fdiv b + 1) * b - a * 1
    omega
  · show (a.fdiv b + 1) * 1 - a.fdiv b * 1 = 1
    omega
  · rintro m ds ⟨l1, l2, h1, h2, x, rfl, ⟨pl, ph, ll, lh⟩, ⟨gl, gh, one⟩, rfl⟩
    have tl := top_le pl ph hb gl gh one
    have bl1 : Bd 1000 l1 := (bd_top ha pl (by omega) tl.1).mono (by decide)
    have bl2 : Bd 1000 l2 := (Bd.of (n := 110) (by omega) (by omega)).mono (by decide)
    have bh1 : Bd 1000 h1 := (bd_top ha ph (by omega) tl.2).mono (by decide)
    have bh2 : Bd 1000 h2 := (Bd.of (n := 110) (by omega) (by omega)).mono (by decide)
    have ba : Bd 1000 a := da.mono (by decide)
    have bb : Bd 1000 b := db.mono (by decide)
    refine ite_both (fun q => ?_) (fun q => h _ _ _ _ (.inr ⟨g, pl, ph, ll, lh, no_le q, gl, gh, one⟩))
    have q := is_le q
    have bg : ∀ {u v y z : Int}, Bd 1000 u → Bd 1000 v → Bd 1000 y → Bd 1000 z → Bd 2001 (gp u v y z) := fun hu hv hy hz => bd_gp hu hv hy hz
    obtain ⟨t, et⟩ : ∃ t, t = if (B - l2).fdiv h2 < (gp l1 l2 a b).fdiv (gp a b h1 h2) then (B - l2).fdiv h2 else (gp l1 l2 a b).fdiv (gp a b h1 h2) := ⟨_, rfl⟩
    obtain ⟨t0, t1, t2, t3⟩ := side ph gl gh et ll
    have tb : t ≤ B := by
      have := Int.mul_le_mul_of_nonneg_left ph t0
      omega
    have bt : Bd 1000 t := (Bd.of (n := 110) (by omega) (by omega)).mono (by decide)
    refine ⟨List.nodup_nil, _, _, _, _, rfl, ⟨bl1, bl2, ba, bb⟩, List.nodup_nil, _, _, _, _, rfl, ⟨ba, bb, bh1, bh2⟩, divOk (by omega) (bg ba bb bh1 bh2), ?_⟩
    refine ⟨divOk (by omega) bh2, List.nodup_nil, l1, l2, h1, h2, t, by rw [et]; rfl, ⟨bh1, bh2, bt⟩, ?_⟩
    have gl' := low_pos g hg pl ph one t0 t2 t1
    have one' := (gp_one l1 l2 h1 h2 t).trans one
    have p0 : 0 ≤ t * h2 := Int.mul_nonneg t0 (by omega)
    have gs := gp_step l1 l2 h1 h2 a b t
    obtain ⟨m1, em1⟩ : ∃ z, z = l1 + t * h1 := ⟨_, rfl⟩
    obtain ⟨m2, em2⟩ : ∃ z, z = l2 + t * h2 := ⟨_, rfl⟩
    rw [← em1, ← em2] at gl' one' gs ⊢
    have pm : 1 ≤ m2 := by omega
    have tm := top_le pm ph hb gl' gh one'
    have bm1 : Bd 1000 m1 := (bd_top ha pm (by omega) tm.1).mono (by decide)
    have bm2 : Bd 1000 m2 := (Bd.of (n := 110) (by omega) (by omega)).mono (by decide)
    obtain ⟨s, es⟩ : ∃ t, t = if (B - h2).fdiv m2 < (gp a b h1 h2).fdiv (gp m1 m2 a b) then (B - h2).fdiv m2 else (gp a b h1 h2).fdiv (gp m1 m2 a b) := ⟨_, rfl⟩
    obtain ⟨s0, s1, s2, s3⟩ := side pm gh gl' es lh
    have sb : s ≤ B := by
      have := Int.mul_le_mul_of_nonneg_left pm s0
      omega
    have bs : Bd 1000 s := (Bd.of (n := 110) (by omega) (by omega)).mono (by decide)
    refine ⟨List.nodup_nil, _, _, _, _, rfl, ⟨ba, bb, bh1, bh2⟩, List.nodup_nil, _, _, _, _, rfl, ⟨bm1, bm2, ba, bb⟩, divOk (by omega) (bg bm1 bm2 ba bb), ?_⟩
    refine ⟨divOk (by omega) bm2, List.nodup_nil, h1, h2, m1, m2, s, by rw [es]; rfl, ⟨bm1, bm2, bs⟩, ?_⟩
    have gh' := high_pos g hg pm ph one' s0 s2 s1
    have p1 : 0 ≤ s * m2 := Int.mul_nonneg s0 (by omega)
    refine ⟨_, ?_, m1, m2, h1 + s * m1, h2 + s * m2, _, rfl, ⟨pm, by omega, by omega, s2⟩, ⟨gl', gh', (gp_one' m1 m2 h1 h2 s).trans one'⟩, rfl⟩
    have grow : l2 + h2 < m2 + (h2 + s * m2) := by
      by_cases c : 1 ≤ t
      · have := Int.mul_le_mul_of_nonneg_right c (show 0 ≤ h2 by omega)
        omega
      · have : t = 0 := by omega
        subst this
        have c2 : gp l1 l2 a b < gp a b h1 h2 := Int.not_le.mp fun z => c (t3 q z)
        have := s3 (by omega) (by omega)
        have := Int.mul_le_mul_of_nonneg_right this (show 0 ≤ m2 by omega)
        omega
    omega
end K51

namespace K51
open PySem DW
/-- what holds of both neighbours in either case -/
theorem NbX.all' {a b B l1 l2 h1 h2 : Int} (n : NbX a b B l1 l2 h1 h2) (hf : Fr a b) (hB : B < 10 ^ 31) : (1 ≤ l2 ∧ Int.gcd l1 l2 = 1 ∧ Bd 300 l1 ∧ Bd 300 l2) ∧ (1 ≤ h2 ∧ Int.gcd h1 h2 = 1 ∧ Bd 300 h1 ∧ Bd 300 h2) := by
  obtain ⟨hb, hb', ha, hg⟩ := id hf
  obtain ⟨da, db⟩ := hf.bds
  rcases n with ⟨_, rfl, rfl, rfl, rfl⟩ | ⟨_, n⟩
  · exact ⟨⟨hb, hg, da.mono (by decide), db.mono (by decide)⟩, hb, hg, da.mono (by decide), db.mono (by decide)⟩
  · have pl := n.pl
    have ph := n.ph
    have ll := n.ll
    have lh := n.lh
    have t := top_le pl ph hb n.gl n.gh n.one
    exact ⟨⟨pl, n.gcdl, (bd_top ha pl (by omega) t.1).mono (by decide), (Bd.of (n := 110) (by omega) (by omega)).mono (by decide)⟩,
      ph, n.gcdh, (bd_top ha ph (by omega) t.2).mono (by decide), (Bd.of (n := 110) (by omega) (by omega)).mono (by decide)⟩
theorem NbX.all {a b B l1 l2 h1 h2 : Int} (n : NbX a b B l1 l2 h1 h2) (hf : Fr a b) (hB : B < 10 ^ 31) : (1 ≤ l2 ∧ Int.gcd l1 l2 = 1 ∧ Bd 1000 l1 ∧ Bd 1000 l2) ∧ (1 ≤ h2 ∧ Int.gcd h1 h2 = 1 ∧ Bd 1000 h1 ∧ Bd 1000 h2) := by
  obtain ⟨⟨a1, a2, a3, a4⟩, b1, b2, b3, b4⟩ := n.all' hf hB
  exact ⟨⟨a1, a2, a3.mono (by decide), a4.mono (by decide)⟩, b1, b2, b3.mono (by decide), b4.mono (by decide)⟩
theorem kp__law_shown : Keeps0 6 w__law_shown sp__law_shown := by
  rintro dvs k ⟨a, b, B, l1, l2, h1, h2, rfl, hf, ⟨hB, hB'⟩, n, h⟩
  obtain ⟨⟨pl, gl, bl1, bl2⟩, ⟨ph, gh, bh1, bh2⟩⟩ := n.all hf hB'
  have ba : Bd 1000 a := hf.bds.1.mono (by decide)
  have bb : Bd 1000 b := hf.bds.2.mono (by decide)
  refine ⟨⟨shp_int _, shp_int _⟩, ?_⟩
  refine compI_of ⟨List.nodup_nil, _, _, rfl, ⟨pl, gl⟩, Nat.le_of_ble_eq_true rfl, List.nodup_nil, _, _, rfl, ⟨ph, gh⟩, Nat.le_of_ble_eq_true rfl, ?_⟩
  rcases n with ⟨lb, rfl, rfl, rfl, rfl⟩ | ⟨lb, n⟩
  · refine ite_yes (decide_eq_true lb) ⟨⟨shp_pr _ _, shp_pr _ _⟩, ite_yes (deq_refl _) ⟨⟨shp_pr _ _, shp_pr _ _⟩, ?_⟩⟩
    rw [deq_refl]
    exact h
  · have ll := n.ll
    have lh := n.lh
    have sm := n.sum
    refine ite_no (decide_eq_false (by omega)) ?_
    refine ite_no (decide_eq_false (by omega)) (ite_no (decide_eq_false (by omega)) (ite_no (decide_eq_false (by omega)) ?_))
    refine ⟨List.nodup_nil, _, _, _, _, rfl, ⟨bl1, bl2, ba, bb⟩, ite_yes (decide_eq_true n.gl) ?_⟩
    refine ⟨List.nodup_nil, _, _, _, _, rfl, ⟨ba, bb, bh1, bh2⟩, ite_yes (decide_eq_true n.gh) ?_⟩
    refine ⟨List.nodup_nil, _, _, _, _, rfl, ⟨bl1, bl2, bh1, bh2⟩, ⟨shp_int _, shp_int _⟩, ?_⟩
    rw [n.one]
    exact h
theorem kp_nearest : Keeps0 6 w_nearest sp_nearest := by
  rintro dvs k ⟨a, b, B, rfl, hf, hB, h⟩
  have ba : Bd 1000 a := hf.bds.1.mono (by decide)
  have bb : Bd 1000 b := hf.bds.2.mono (by decide)
  refine ⟨List.nodup_nil, _, _, _, rfl, hf, hB, fun l1 l2 h1 h2 n => ?_⟩
  obtain ⟨⟨pl, gl, bl1, bl2⟩, ⟨ph, gh, bh1, bh2⟩⟩ := n.all hf hB.2
  have h := h l1 l2 h1 h2 n
  refine ⟨List.nodup_nil, _, _, _, _, rfl, ⟨bl1, bl2, ba, bb⟩, mulOk (bd_gp bl1 bl2 ba bb) bh2, List.nodup_nil, _, _, _, _, rfl, ⟨ba, bb, bh1, bh2⟩, mulOk (bd_gp ba bb bh1 bh2) bl2, ⟨shp_int _, shp_int _⟩, ?_⟩
  unfold near at h
  refine ite_both (fun q => ?_) (fun q => ?_)
  · rw [if_pos (eq_int q)] at h
    refine ite_both (fun q' => ?_) (fun q' => ?_)
    · rw [if_pos (is_le q')] at h
      exact h
    · rw [if_neg (Int.not_le.mpr (no_le q'))] at h
      exact h
  · rw [if_neg (eq_int' q)] at h
    refine ite_both (fun q' => ?_) (fun q' => ?_)
    · rw [if_pos (is_lt q')] at h
      exact h
    · rw [if_neg (Int.not_lt.mpr (no_lt q'))] at h
      exact h
theorem kp__law_near : Keeps0 6 w__law_near sp__law_near := by
  rintro dvs k ⟨a, b, l1, l2, h1, h2, rfl, ⟨ba, bb, bl1, bl2, bh1, bh2⟩, h⟩
  refine ⟨List.nodup_nil, _, _, _, _, rfl, ⟨bl1, bl2, ba, bb⟩, mulOk (bd_gp bl1 bl2 ba bb) bh2, List.nodup_nil, _, _, _, _, rfl, ⟨ba, bb, bh1, bh2⟩, mulOk (bd_gp ba bb bh1 bh2) bl2, ⟨shp_int _, shp_int _⟩, ?_⟩
  unfold near at h
  refine ite_both (fun q => ?_) (fun q => ?_)
  · rw [if_pos (eq_int q)] at h
    refine ite_both (fun q' => ?_) (fun q' => ?_)
    · rw [if_pos (is_le q')] at h
      exact h
    · rw [if_neg (Int.not_le.mpr (no_le q'))] at h
      exact h
  · rw [if_neg (eq_int' q)] at h
    refine ite_both (fun q' => ?_) (fun q' => ?_)
    · rw [if_pos (is_lt q')] at h
      exact h
    · rw [if_neg (Int.not_lt.mpr (no_lt q'))] at h
      exact h
theorem shp_near (a b l1 l2 h1 h2 : Int) : Shp (near a b l1 l2 h1 h2) := by
  unfold near
  split <;> split <;> exact shp_pr _ _
/-- under a bound where the neighbours stay -/
theorem stay {a b B C l1 l2 h1 h2 m1 m2 g1 g2 : Int} (n : Nb a b B l1 l2 h1 h2) (hb : 1 ≤ b) (hl : l2 ≤ C) (hh : h2 ≤ C) (hs : C < l2 + h2) (m : NbX a b C m1 m2 g1 g2) : (m1 = l1 ∧ m2 = l2) ∧ g1 = h1 ∧ g2 = h2 := by
  have d := n.deep
  rcases m with ⟨lb, _⟩ | ⟨_, m⟩
  · omega
  · exact Nb.uniq (by omega) m (n.within hl hh hs)
end K51

namespace K51
open PySem DW
theorem three_of {x y z : Int} {i : Nat} {d : D} (h : [D.int x, D.int y, D.int z][i]? = some d) : d = .int x ∨ d = .int y ∨ d = .int z := by
  match i, h with
  | 0, h => exact .inl (Option.some.inj h).symm
  | 1, h => exact .inr (.inl (Option.some.inj h).symm)
  | 2, h => exact .inr (.inr (Option.some.inj h).symm)
theorem kp__law_turns_right : Keeps0 10 w__law_turns_right sp__law_turns_right := by
  rintro dvs k ⟨a, b, B, l1, l2, h1, h2, rfl, hf, hB, n, h⟩
  have hb := hf.1
  have dp := n.deep
  have ll := n.ll
  have lh := n.lh
  have pl := n.pl
  have ph := n.ph
  obtain ⟨⟨_, _, bl1, bl2⟩, ⟨_, _, bh1, bh2⟩⟩ := NbX.all' (.inr ⟨by have := n.sum; omega, n⟩) hf (show B < 10 ^ 31 by omega)
  have ba : Bd 1000 a := hf.bds.1.mono (by decide)
  have bb : Bd 1000 b := hf.bds.2.mono (by decide)
  have cl1 : Bd 1000 l1 := bl1.mono (by decide)
  have cl2 : Bd 1000 l2 := bl2.mono (by decide)
  have ch1 : Bd 1000 h1 := bh1.mono (by decide)
  have ch2 : Bd 1000 h2 := bh2.mono (by decide)
  obtain ⟨fi, efi⟩ : ∃ z, z = if h2 > l2 then h2 else l2 := ⟨_, rfl⟩
  refine ⟨divOk (n := 10) (by decide) (.of (by decide) (by decide)), fun i ds => ∃ x, ds = [some (.val (.tup [pr l1 l2, pr h1 h2])), some (.val (pr a b)), some (.val (pr l1 l2)), some (.val (pr h1 h2)), some (.val (.int fi)), some (.val (.int (l2 + h2))), x, none, none, none], ⟨_, by rw [efi]; rfl⟩, ?_, ?_⟩
  · rintro i d ds hi ⟨x, rfl⟩
    obtain ⟨C, rfl, c1, c2, c3⟩ : ∃ C : Int, d = .int C ∧ l2 ≤ C ∧ h2 ≤ C ∧ C < l2 + h2 := by
      rw [← efi] at hi
      have f2 : (fi + (l2 + h2) - 1).fdiv 2 = (fi + (l2 + h2) - 1) / 2 := Int.fdiv_eq_ediv_of_nonneg _ (by decide)
      have f3 : l2 ≤ fi ∧ h2 ≤ fi ∧ fi < l2 + h2 := by
        rw [efi]
        split <;> omega
      rcases three_of hi with rfl | rfl | rfl
      · exact ⟨_, rfl, f3.1, f3.2.1, f3.2.2⟩
      · exact ⟨_, rfl, by omega, by omega, by omega⟩
      · exact ⟨_, rfl, by rw [f2]; omega, by rw [f2]; omega, by rw [f2]; omega⟩
    refine ⟨List.nodup_nil, _, _, _, rfl, hf, ⟨by omega, by omega⟩, fun m1 m2 g1 g2 m => ?_⟩
    obtain ⟨⟨rfl, rfl⟩, rfl, rfl⟩ := stay n hb c1 c2 c3 m
    refine ⟨⟨shp_prs _ _ _ _, shp_prs _ _ _ _⟩, ite_no (by rw [deq_refl]; rfl) ?_⟩
    refine ⟨List.nodup_nil, _, _, _, rfl, hf, ⟨by omega, by omega⟩, fun m1 m2 g1 g2 m => ?_⟩
    obtain ⟨⟨rfl, rfl⟩, rfl, rfl⟩ := stay n hb c1 c2 c3 m
    refine ⟨List.nodup_nil, _, _, _, _, _, _, rfl, ⟨ba, bb, cl1, cl2, ch1, ch2⟩, ⟨shp_near _ _ _ _ _ _, shp_near _ _ _ _ _ _⟩, ite_no (by rw [deq_refl]; rfl) ⟨_, rfl⟩⟩
  · rintro ds ⟨x, rfl⟩
    have sm : Bd 1000 (l1 + h1) := (bl1.add bh1).mono (by decide)
    have sm2 : Bd 1000 (l2 + h2) := (bl2.add bh2).mono (by decide)
    refine ⟨List.nodup_nil, _, _, _, _, rfl, ⟨sm, sm2, ba, bb⟩, ⟨shp_int _, shp_int _⟩, ?_⟩
    have one := n.one
    have gl := n.gl
    have gh := n.gh
    refine ite_both (fun q => ?_) (fun q => ?_)
    · have q := eq_int q
      have lb : b ≤ l2 + h2 := by
        have d : b ∣ l2 + h2 := by
          have e1 : a * (l2 + h2) = (l1 + h1) * b := by unfold gp at q; omega
          have : b ∣ a * (l2 + h2) := ⟨l1 + h1, by rw [e1, Int.mul_comm]⟩
          exact dvd_of_gcd (by rw [Int.gcd_comm]; exact hf.2.2.2) this
        exact Int.le_of_dvd (by omega) d
      refine ⟨List.nodup_nil, _, _, _, rfl, hf, ⟨by omega, by omega⟩, fun m1 m2 g1 g2 m => ?_⟩
      rcases m with ⟨_, rfl, rfl, rfl, rfl⟩ | ⟨z, _⟩
      · refine ⟨⟨shp_prs _ _ _ _, shp_prs _ _ _ _⟩, ?_⟩
        rw [deq_refl]
        exact h
      · omega
    · have q := eq_int' q
      refine ite_both (fun q' => ?_) (fun q' => ?_)
      · have q' := is_lt q'
        have o : gp (l1 + h1) (l2 + h2) h1 h2 = 1 := by unfold gp at one ⊢; grind
        have n' : Nb a b (l2 + h2) (l1 + h1) (l2 + h2) h1 h2 := ⟨by omega, ph, by omega, by omega, by omega, q', gh, o⟩
        have dp' := n'.deep
        refine ⟨List.nodup_nil, _, _, _, rfl, hf, ⟨by omega, by omega⟩, fun m1 m2 g1 g2 m => ?_⟩
        rcases m with ⟨z, _⟩ | ⟨_, m⟩
        · omega
        · obtain ⟨⟨rfl, rfl⟩, rfl, rfl⟩ := Nb.uniq (by omega) m n'
          refine ⟨⟨shp_prs _ _ _ _, shp_prs _ _ _ _⟩, ?_⟩
          rw [deq_refl]
          exact h
      · have q' := no_lt q'
        have o : gp l1 l2 (l1 + h1) (l2 + h2) = 1 := by unfold gp at one ⊢; grind
        have an := gp_anti (l1 + h1) (l2 + h2) a b
        have n' : Nb a b (l2 + h2) l1 l2 (l1 + h1) (l2 + h2) := ⟨pl, by omega, by omega, by omega, by omega, gl, by omega, o⟩
        have dp' := n'.deep
        refine ⟨List.nodup_nil, _, _, _, rfl, hf, ⟨by omega, by omega⟩, fun m1 m2 g1 g2 m => ?_⟩
        rcases m with ⟨z, _⟩ | ⟨_, m⟩
        · omega
        · obtain ⟨⟨rfl, rfl⟩, rfl, rfl⟩ := Nb.uniq (by omega) m n'
          refine ⟨⟨shp_prs _ _ _ _, shp_prs _ _ _ _⟩, ?_⟩
          rw [deq_refl]
          exact h
theorem range_get {lo hi : Int} {i : Nat} {d : D} (h : (rangeD lo hi)[i]? = some d) : d = .int (lo + i) ∧ i < (hi - lo).toNat := by
  have hl := (List.getElem?_eq_some_iff.mp h).1
  unfold rangeD at h hl
  rw [List.length_map, List.length_range] at hl
  rw [List.getElem?_map, List.getElem?_range hl] at h
  exact ⟨(Option.some.inj h).symm, hl⟩
def w_law_rest : WS := (wSeq (wAsg (wCall sp__law_take [.s 2, .v (wC (.int 3))]) (.nm 7))
    (wSeq (wAsg (wBin dMin (wBin dSub (wBin dPow (wC (.int 10)) (wC (.int 30))) (wC (.int 1))) (wBin dAdd (wBin dIx (wBin dIx (wVar 6) (wC (.int 0))) (wC (.int 1))) (wBin dIx (wBin dIx (wVar 6) (wC (.int 1))) (wC (.int 1))))) (.nm 8))
    (wAsg (wBin dIx (wFrz (wLst [(wVar 8), (wBin dMax (wC (.int 1)) (wBin dFdiv (wVar 4) (wC (.int 2)))), (wBin dAdd (wC (.int 1)) (wCall sp__law_take [.s 2, .v (wBin dPow (wC (.int 10)) (wC (.int 9)))]))])) (wVar 7)) (.nm 4))))
theorem law_rest {P : Post} {x0 x1 x5 x7 x8 : Option DV} {p : List D} {a b B l1 l2 h1 h2 : Int} {n : Nat} (hp : Pu n p) (hn : n ≤ 10000) (hB : 1 ≤ B) (hB' : B < 10 ^ 30) (pl : 1 ≤ l2) (ph : 1 ≤ h2)
    (k : ∀ (C : Int) p' y7 y8, 1 ≤ C → C < 10 ^ 30 → Pu (n + 2) p' → P.nx [x0, x1, some (.own p'), some (.val (pr a b)), some (.val (.int C)), x5, some (.val (.tup [pr l1 l2, pr h1 h2])), y7, y8]) :
    w_law_rest [x0, x1, some (.own p), some (.val (pr a b)), some (.val (.int B)), x5, some (.val (.tup [pr l1 l2, pr h1 h2])), x7, x8] P := by
  refine ⟨rfl, by simp [slotsOf], _, _, _, rfl, hp, by omega, by decide, by decide, fun w p1 w0 w1 hp1 => ?_⟩
  refine ⟨⟨by decide, by decide, by decide⟩, divOk (n := 10) (by decide) (.of (by decide) (by decide)), rfl, ⟨by decide, by decide, by decide⟩, by simp [slotsOf], _, _, _, rfl, hp1, by omega, by decide, by decide, fun v p2 v0 v1 hp2 => ?_⟩
  have v1 : v < 10 ^ 9 := v1
  obtain ⟨T, eT⟩ : ∃ z : Int, z = if l2 + h2 < 10 ^ 30 - 1 then l2 + h2 else 10 ^ 30 - 1 := ⟨_, rfl⟩
  obtain ⟨U, eU⟩ : ∃ z : Int, z = if B.fdiv 2 > 1 then B.fdiv 2 else 1 := ⟨_, rfl⟩
  have hT : 1 ≤ T ∧ T < 10 ^ 30 := by
    rw [eT]
    split <;> omega
  have hU : 1 ≤ U ∧ U < 10 ^ 30 := by
    have := fdiv_le (a := B) (b := 2) (by omega) (by decide)
    rw [eU]
    split <;> omega
  obtain ⟨C, c1, c2, hC⟩ : ∃ C : Int, 1 ≤ C ∧ C < 10 ^ 30 ∧ itemAt [D.int T, D.int U, D.int (1 + v)] w = some (.int C) := by
    have : w = 0 ∨ w = 1 ∨ w = 2 := by omega
    rcases this with rfl | rfl | rfl
    · exact ⟨T, hT.1, hT.2, rfl⟩
    · exact ⟨U, hU.1, hU.2, rfl⟩
    · exact ⟨1 + v, by omega, by omega, rfl⟩
  rw [eT, eU] at hC
  show match itemAt [D.int (if l2 + h2 < 10 ^ 30 - 1 then l2 + h2 else 10 ^ 30 - 1), D.int (if B.fdiv 2 > 1 then B.fdiv 2 else 1), D.int (1 + v)] w with | some v => _ | none => False
  rw [hC]
  exact k C p2 _ _ c1 c2 (hp2.mono (by omega))
theorem kp_law : Keeps0 9 w_law sp_law := by
  rintro dvs k ⟨ns, rfl, hns, h⟩
  have hl : (ns.map D.int).length = ns.length := List.length_map ..
  refine ⟨⟨⟨by decide, by decide⟩, ?_, ?_⟩, fun i ds => ∃ x1 x2 x3 x4 x5 x6 x7 x8, ds = [some (.val (.lst (ns.map .int))), x1, x2, x3, x4, x5, x6, x7, x8], ⟨_, _, _, _, _, _, _, _, rfl⟩, ?_, ?_⟩
  · split <;> split <;> omega
  · split <;> split <;> omega
  · rintro i d ds hi ⟨x1, x2, x3, x4, x5, x6, x7, x8, rfl⟩
    obtain ⟨rfl, il⟩ := range_get hi
    have il : i < 10 := by
      split at il <;> split at il <;> omega
    refine ⟨List.nodup_nil, ns, _, rfl, by omega, by omega, fun c => ⟨List.nodup_nil, _, rfl, fun p hp => ?_⟩⟩
    refine ⟨rfl, by simp [slotsOf], p, 0, rfl, hp, by decide, fun a b p1 hf hp1 => ?_⟩
    refine ⟨rfl, by simp [slotsOf], p1, _, a, b, rfl, hp1, by decide, hf, fun B p2 hB hB' hp2 => ?_⟩
    have ba : Bd 1000 a := hf.bds.1.mono (by decide)
    have bb : Bd 1000 b := hf.bds.2.mono (by decide)
    refine ⟨⟨⟨by decide, by decide⟩, by decide, by decide⟩, fun j ds => ∃ (B : Int) (p : List D) (x5 x6 x7 x8 : Option DV), ds = [some (.val (.lst (ns.map .int))), some (.val (.int (0 + (i : Int)))), some (.own p), some (.val (pr a b)), some (.val (.int B)), x5, x6, x7, x8] ∧ (1 ≤ B ∧ B < 10 ^ 30) ∧ Pu (200 + 2 * j) p,
      ⟨_, _, _, _, _, _, rfl, ⟨hB, hB'⟩, hp2⟩, ?_, ?_⟩
    · rintro j d ds hj ⟨B, p, y5, y6, y7, y8, rfl, ⟨hB, hB'⟩, hp⟩
      obtain ⟨rfl, jl⟩ := range_get hj
      have jl : j < 3 := by simpa using jl
      refine ⟨List.nodup_nil, _, _, _, rfl, hf, ⟨hB, by omega⟩, fun l1 l2 h1 h2 n => ?_⟩
      obtain ⟨⟨pl, gl, bl1, bl2⟩, ⟨ph, gh, bh1, bh2⟩⟩ := n.all hf (show B < 10 ^ 31 by omega)
      refine ⟨List.nodup_nil, _, _, _, _, _, _, _, rfl, hf, ⟨hB, by omega⟩, n, ?_⟩
      refine ⟨List.nodup_nil, _, _, _, rfl, hf, ⟨hB, by omega⟩, fun m1 m2 g1 g2 m => ?_⟩
      have em : (m1 = l1 ∧ m2 = l2) ∧ g1 = h1 ∧ g2 = h2 := by
        rcases m with ⟨z, rfl, rfl, rfl, rfl⟩ | ⟨z, m⟩
        · rcases n with ⟨_, rfl, rfl, rfl, rfl⟩ | ⟨z', _⟩
          · exact ⟨⟨rfl, rfl⟩, rfl, rfl⟩
          · omega
        · rcases n with ⟨z', _⟩ | ⟨_, n⟩
          · omega
          · exact Nb.uniq (by omega) m n
      obtain ⟨⟨rfl, rfl⟩, rfl, rfl⟩ := em
      refine ⟨List.nodup_nil, _, _, _, _, _, _, rfl, ⟨ba, bb, bl1, bl2, bh1, bh2⟩, ⟨shp_near _ _ _ _ _ _, shp_near _ _ _ _ _ _⟩, ite_no (by rw [deq_refl]; rfl) ?_⟩
      refine ite_both (fun q => ?_) (fun q => ite_no rfl (law_rest hp (by omega) hB hB' pl ph fun C p' z7 z8 c1 c2 hp' => ⟨_, _, _, _, _, _, rfl, ⟨c1, c2⟩, hp'⟩))
      have q := is_lt q
      have n' : Nb a b B m1 m2 g1 g2 := by
        rcases n with ⟨z, _⟩ | ⟨_, n⟩
        · omega
        · exact n
      exact ⟨List.nodup_nil, _, _, _, _, _, _, _, rfl, hf, hB', n', ite_no rfl (law_rest hp (by omega) hB hB' pl ph fun C p' z7 z8 c1 c2 hp' => ⟨_, _, _, _, _, _, rfl, ⟨c1, c2⟩, hp'⟩)⟩
    · rintro ds ⟨B, p, y5, y6, y7, y8, rfl, _, _⟩
      exact ⟨_, _, _, _, _, _, _, _, rfl⟩
  · rintro ds ⟨x1, x2, x3, x4, x5, x6, x7, x8, rfl⟩
    exact h
end K51

/-! the defs of the text keep their promises, printed by gen.py -/
namespace K51
open PySem PySem.Spec PyProof.Rows L2 DW
def topS (i : Nat) : Stmt := PySem.Challenge.pw_termwide_k51_whole_neighbours.main.body.getD i (.Pass ⟨0, 0, 0, 0⟩)
abbrev s__law_purse : Stmt := topS 18
abbrev N__law_purse : List Str := ["cell"]
theorem sc__law_purse : FnScope N__law_purse ["cell"] (defScope s__law_purse) := ⟨rfl, rfl, rfl, by decide +kernel, rfl, by decide +kernel, by decide +kernel⟩
abbrev s__law_take : Stmt := topS 19
abbrev N__law_take : List Str := ["purse", "many", "digit", "one", "other"]
theorem sc__law_take : FnScope N__law_take ["purse", "many"] (defScope s__law_take) := ⟨rfl, rfl, rfl, by decide +kernel, rfl, by decide +kernel, by decide +kernel⟩
abbrev s__law_common : Stmt := topS 20
abbrev N__law_common : List Str := ["one", "other"]
theorem sc__law_common : FnScope N__law_common ["one", "other"] (defScope s__law_common) := ⟨rfl, rfl, rfl, by decide +kernel, rfl, by decide +kernel, by decide +kernel⟩
abbrev s__law_made : Stmt := topS 21
abbrev N__law_made : List Str := ["top", "bottom", "by"]
theorem sc__law_made : FnScope N__law_made ["top", "bottom"] (defScope s__law_made) := ⟨rfl, rfl, rfl, by decide +kernel, rfl, by decide +kernel, by decide +kernel⟩
abbrev s__law_digits : Stmt := topS 22
abbrev N__law_digits : List Str := ["purse", "figures", "found", "k"]
theorem sc__law_digits : FnScope N__law_digits ["purse", "figures"] (defScope s__law_digits) := ⟨rfl, rfl, rfl, by decide +kernel, rfl, by decide +kernel, by decide +kernel⟩
abbrev s__law_fraction : Stmt := topS 23
abbrev N__law_fraction : List Str := ["purse", "way", "top", "bottom", "many", "great", "k", "whole"]
theorem sc__law_fraction : FnScope N__law_fraction ["purse"] (defScope s__law_fraction) := ⟨rfl, rfl, rfl, by decide +kernel, rfl, by decide +kernel, by decide +kernel⟩
abbrev s__law_bound : Stmt := topS 24
abbrev N__law_bound : List Str := ["purse", "fraction", "way"]
theorem sc__law_bound : FnScope N__law_bound ["purse", "fraction"] (defScope s__law_bound) := ⟨rfl, rfl, rfl, by decide +kernel, rfl, by decide +kernel, by decide +kernel⟩
abbrev s__law_cell : Stmt := topS 17
abbrev N__law_cell : List Str := ["script", "k"]
theorem sc__law_cell : FnScope N__law_cell ["script", "k"] (defScope s__law_cell) := ⟨rfl, rfl, rfl, by decide +kernel, rfl, by decide +kernel, by decide +kernel⟩
abbrev s_is_number : Stmt := topS 5
abbrev N_is_number : List Str := ["thing"]
theorem sc_is_number : FnScope N_is_number ["thing"] (defScope s_is_number) := ⟨rfl, rfl, rfl, by decide +kernel, rfl, by decide +kernel, by decide +kernel⟩
abbrev s_common : Stmt := topS 7
abbrev N_common : List Str := ["one", "other"]
theorem sc_common : FnScope N_common ["one", "other"] (defScope s_common) := ⟨rfl, rfl, rfl, by decide +kernel, rfl, by decide +kernel, by decide +kernel⟩
abbrev s_is_fraction : Stmt := topS 8
abbrev N_is_fraction : List Str := ["thing"]
theorem sc_is_fraction : FnScope N_is_fraction ["thing"] (defScope s_is_fraction) := ⟨rfl, rfl, rfl, by decide +kernel, rfl, by decide +kernel, by decide +kernel⟩
abbrev s_need_fraction : Stmt := topS 10
abbrev N_need_fraction : List Str := ["thing"]
theorem sc_need_fraction : FnScope N_need_fraction ["thing"] (defScope s_need_fraction) := ⟨rfl, rfl, rfl, by decide +kernel, rfl, by decide +kernel, by decide +kernel⟩
abbrev s_need_both : Stmt := topS 11
abbrev N_need_both : List Str := ["fraction", "bound"]
theorem sc_need_both : FnScope N_need_both ["fraction", "bound"] (defScope s_need_both) := ⟨rfl, rfl, rfl, by decide +kernel, rfl, by decide +kernel, by decide +kernel⟩
abbrev s_moved : Stmt := topS 12
abbrev N_moved : List Str := ["one", "other", "many"]
theorem sc_moved : FnScope N_moved ["one", "other", "many"] (defScope s_moved) := ⟨rfl, rfl, rfl, by decide +kernel, rfl, by decide +kernel, by decide +kernel⟩
abbrev s_gap : Stmt := topS 13
abbrev N_gap : List Str := ["lesser", "greater"]
theorem sc_gap : FnScope N_gap ["lesser", "greater"] (defScope s_gap) := ⟨rfl, rfl, rfl, by decide +kernel, rfl, by decide +kernel, by decide +kernel⟩
abbrev s_neighbours : Stmt := topS 14
abbrev N_neighbours : List Str := ["fraction", "bound", "whole", "low", "high", "many"]
theorem sc_neighbours : FnScope N_neighbours ["fraction", "bound"] (defScope s_neighbours) := ⟨rfl, rfl, rfl, by decide +kernel, rfl, by decide +kernel, by decide +kernel⟩
abbrev s__law_gap : Stmt := topS 26
abbrev N__law_gap : List Str := ["low", "high"]
theorem sc__law_gap : FnScope N__law_gap ["low", "high"] (defScope s__law_gap) := ⟨rfl, rfl, rfl, by decide +kernel, rfl, by decide +kernel, by decide +kernel⟩
abbrev s__law_is_fraction : Stmt := topS 25
abbrev N__law_is_fraction : List Str := ["thing", "part"]
theorem sc__law_is_fraction : FnScope N__law_is_fraction ["thing"] (defScope s__law_is_fraction) := ⟨rfl, rfl, rfl, by decide +kernel, rfl, by decide +kernel, by decide +kernel⟩
abbrev s__law_shown : Stmt := topS 27
abbrev N__law_shown : List Str := ["found", "fraction", "bound", "low", "high", "one"]
theorem sc__law_shown : FnScope N__law_shown ["found", "fraction", "bound"] (defScope s__law_shown) := ⟨rfl, rfl, rfl, by decide +kernel, rfl, by decide +kernel, by decide +kernel⟩
abbrev s_nearest : Stmt := topS 15
abbrev N_nearest : List Str := ["fraction", "bound", "low", "high", "below", "above"]
theorem sc_nearest : FnScope N_nearest ["fraction", "bound"] (defScope s_nearest) := ⟨rfl, rfl, rfl, by decide +kernel, rfl, by decide +kernel, by decide +kernel⟩
abbrev s__law_near : Stmt := topS 28
abbrev N__law_near : List Str := ["pair", "fraction", "low", "high", "below", "above"]
theorem sc__law_near : FnScope N__law_near ["pair", "fraction"] (defScope s__law_near) := ⟨rfl, rfl, rfl, by decide +kernel, rfl, by decide +kernel, by decide +kernel⟩
abbrev s__law_turns_right : Stmt := topS 29
abbrev N__law_turns_right : List Str := ["pair", "fraction", "low", "high", "first", "total", "bound", "amid", "side", "due"]
theorem sc__law_turns_right : FnScope N__law_turns_right ["pair", "fraction"] (defScope s__law_turns_right) := ⟨rfl, rfl, rfl, by decide +kernel, rfl, by decide +kernel, by decide +kernel⟩
abbrev s_law : Stmt := topS 30
abbrev N_law : List Str := ["script", "k", "purse", "fraction", "bound", "turn", "pair", "way", "total"]
theorem sc_law : FnScope N_law ["script"] (defScope s_law) := ⟨rfl, rfl, rfl, by decide +kernel, rfl, by decide +kernel, by decide +kernel⟩
section
variable {P : Program} {w : World} {K : PySem.W.Frag} {mg : Str → Option Value} {base : Heap}
theorem ok__law_purse {f : Addr} {fd : FuncData} (Fn : Fun K "_law_purse" "_law_purse" s__law_purse f fd) (hm : mg "_law_purse" = some (.ref f)) (bb : Binds K fd ["cell"] []) (m_max : mg "max" = none) :
    Cal P w K mg base 1 "_law_purse" ["cell"] sp__law_purse :=
  .mk2 Fn hm bb sc__law_purse len__law_purse (by decide) (fun cdv A outer s H E hr => (ss_one (s_retO (o_lst (l_cons (d_max m_max d_int (d_sub (d_var 0) (d_pow d_int d_int))) (l_cons (d_mod (d_var 0) d_int) (l_cons d_int l_nil))))))) kp__law_purse
theorem ok__law_take {f : Addr} {fd : FuncData} (Fn : Fun K "_law_take" "_law_take" s__law_take f fd) (hm : mg "_law_take" = some (.ref f)) (bb : Binds K fd ["purse", "many"] [])  :
    Cal P w K mg base 1 "_law_take" ["purse", "many"] sp__law_take :=
  .mk2 Fn hm bb sc__law_take len__law_take (by decide) (fun cdv A outer s H E hr => (ss_cons (s_if (t_gt (d_ixO 0 d_int) d_int) (ss_cons (s_set 2 (d_mod (d_ixO 0 d_int) (d_var 1)))
    (ss_cons (s_put 0 (d_fdiv (d_ixO 0 d_int) (d_var 1)) d_int)
    (ss_one (s_ret (d_var 2))))) ss_nil)
    (ss_cons (s_put 0 (d_add (d_ixO 0 d_int) d_int) d_int)
    (ss_cons (s_set 3 (d_mod (d_pow (d_add (d_add (d_ixO 0 d_int) (d_mul d_int (d_ixO 0 d_int))) d_int) d_int) d_int))
    (ss_cons (s_set 4 (d_mod (d_pow (d_add (d_mul (d_ixO 0 d_int) (d_ixO 0 d_int)) d_int) d_int) d_int))
    (ss_one (s_ret (d_mod (d_fdiv (d_add (d_mul (d_var 3) d_int) (d_var 4)) d_int) (d_var 1))))))))) kp__law_take
theorem ok__law_common {f : Addr} {fd : FuncData} (Fn : Fun K "_law_common" "_law_common" s__law_common f fd) (hm : mg "_law_common" = some (.ref f)) (bb : Binds K fd ["one", "other"] []) (m_abs : mg "abs" = none) :
    Cal P w K mg base 1 "_law_common" ["one", "other"] sp__law_common :=
  .mk2 Fn hm bb sc__law_common len__law_common (by decide) (fun cdv A outer s H E hr => (ss_cons (s_par 0 1 (d_abs m_abs (d_var 0)) (d_abs m_abs (d_var 1)))
    (ss_cons (s_while (t_ne (d_var 1) d_int) (ss_one (s_par 0 1 (d_var 1) (d_mod (d_var 0) (d_var 1)))))
    (ss_one (s_ret (d_var 0)))))) kp__law_common
theorem ok__law_made {f : Addr} {fd : FuncData} (Fn : Fun K "_law_made" "_law_made" s__law_made f fd) (hm : mg "_law_made" = some (.ref f)) (bb : Binds K fd ["top", "bottom"] []) (c__law_common : Cal P w K mg base 1 "_law_common" ["one", "other"] sp__law_common) :
    Cal P w K mg base 2 "_law_made" ["top", "bottom"] sp__law_made :=
  .mk2 Fn hm bb sc__law_made len__law_made (by decide) (fun cdv A outer s H E hr => (ss_cons (s_set 2 (d_callC c__law_common (c_v (d_var 0) (c_v (d_var 1) c_nil))))
    (ss_cons (s_if (t_lt (d_var 1) d_int) (ss_one (s_set 2 (d_sub d_int (d_var 2)))) ss_nil)
    (ss_one (s_ret (d_tup (l_cons (d_fdiv (d_var 0) (d_var 2)) (l_cons (d_fdiv (d_var 1) (d_var 2)) l_nil)))))))) kp__law_made
theorem ok__law_digits {f : Addr} {fd : FuncData} (Fn : Fun K "_law_digits" "_law_digits" s__law_digits f fd) (hm : mg "_law_digits" = some (.ref f)) (bb : Binds K fd ["purse", "figures"] []) (m_range : mg "range" = none) (c__law_take : Cal P w K mg base 1 "_law_take" ["purse", "many"] sp__law_take) :
    Cal P w K mg base 2 "_law_digits" ["purse", "figures"] sp__law_digits :=
  .mk2 Fn hm bb sc__law_digits len__law_digits (by decide) (fun cdv A outer s H E hr => (ss_cons (s_set 2 d_int)
    (ss_cons (s_forR1 m_range (d_var 1) (g_nm 3) (ss_one (s_set 2 (d_add (d_mul d_int (d_var 2)) (d_callC c__law_take (c_s 0 (c_v d_int c_nil)))))))
    (ss_one (s_ret (d_var 2)))))) kp__law_digits
theorem ok__law_fraction {f : Addr} {fd : FuncData} (Fn : Fun K "_law_fraction" "_law_fraction" s__law_fraction f fd) (hm : mg "_law_fraction" = some (.ref f)) (bb : Binds K fd ["purse"] []) (m_abs : mg "abs" = none) (m_max : mg "max" = none) (m_range : mg "range" = none) (c__law_take : Cal P w K mg base 1 "_law_take" ["purse", "many"] sp__law_take) (c__law_digits : Cal P w K mg base 2 "_law_digits" ["purse", "figures"] sp__law_digits) (c__law_made : Cal P w K mg base 2 "_law_made" ["top", "bottom"] sp__law_made) :
    Cal P w K mg base 3 "_law_fraction" ["purse"] sp__law_fraction :=
  .mk2 Fn hm bb sc__law_fraction len__law_fraction (by decide) (fun cdv A outer s H E hr => (ss_cons (s_set 1 (d_callC c__law_take (c_s 0 (c_v d_int c_nil))))
    (ss_cons (s_if (t_lt (d_var 1) d_int) (ss_cons (s_set 2 (d_callC c__law_digits (c_s 0 (c_v (d_ix (d_frz (o_lst (l_cons d_int (l_cons d_int l_nil)))) (d_var 1)) c_nil))))
    (ss_cons (s_set 3 (d_add d_int (d_mod (d_callC c__law_digits (c_s 0 (c_v (d_ix (d_frz (o_lst (l_cons d_int (l_cons d_int l_nil)))) (d_callC c__law_take (c_s 0 (c_v d_int c_nil)))) c_nil))) (d_sub (d_pow d_int d_int) d_int))))
    (ss_one (s_ret (d_callC c__law_made (c_v (d_mul (d_var 2) (d_sub d_int (d_mul d_int (d_callC c__law_take (c_s 0 (c_v d_int c_nil)))))) (c_v (d_var 3) c_nil))))))) ss_nil)
    (ss_cons (s_asg (d_tup (l_cons d_int (l_cons d_int l_nil))) (g_tp (gs_cons (g_nm 2) (gs_cons (g_nm 3) gs_nil))))
    (ss_cons (s_set 4 (d_add d_int (d_callC c__law_take (c_s 0 (c_v d_int c_nil)))))
    (ss_cons (s_set 5 (d_ix (d_frz (o_lst (l_cons d_int (l_cons d_int (l_cons d_int (l_cons d_int l_nil)))))) (d_callC c__law_take (c_s 0 (c_v d_int c_nil)))))
    (ss_cons (s_forR1 m_range (d_var 4) (g_nm 6) (ss_one (s_if (t_lt (d_max m_max (d_abs m_abs (d_var 2)) (d_var 3)) (d_pow d_int d_int)) (ss_one (s_par 2 3 (d_add (d_mul (d_var 2) (d_add d_int (d_callC c__law_take (c_s 0 (c_v (d_var 5) c_nil))))) (d_var 3)) (d_var 2))) ss_nil)))
    (ss_cons (s_set 7 (d_sub (d_callC c__law_take (c_s 0 (c_v d_int c_nil))) d_int))
    (ss_one (s_ret (d_callC c__law_made (c_v (d_add (d_mul (d_var 7) (d_var 2)) (d_var 3)) (c_v (d_var 2) c_nil))))))))))))) kp__law_fraction
theorem ok__law_bound {f : Addr} {fd : FuncData} (Fn : Fun K "_law_bound" "_law_bound" s__law_bound f fd) (hm : mg "_law_bound" = some (.ref f)) (bb : Binds K fd ["purse", "fraction"] []) (m_min : mg "min" = none) (m_max : mg "max" = none) (c__law_take : Cal P w K mg base 1 "_law_take" ["purse", "many"] sp__law_take) (c__law_digits : Cal P w K mg base 2 "_law_digits" ["purse", "figures"] sp__law_digits) :
    Cal P w K mg base 3 "_law_bound" ["purse", "fraction"] sp__law_bound :=
  .mk2 Fn hm bb sc__law_bound len__law_bound (by decide) (fun cdv A outer s H E hr => (ss_cons (s_set 2 (d_callC c__law_take (c_s 0 (c_v d_int c_nil))))
    (ss_cons (s_if (t_eq (d_var 2) d_int) (ss_one (s_ret (d_max m_max d_int (d_min m_min (d_sub (d_pow d_int d_int) d_int) (d_add (d_sub (d_ix (d_var 1) d_int) d_int) (d_callC c__law_take (c_s 0 (c_v d_int c_nil)))))))) ss_nil)
    (ss_cons (s_if (t_eq (d_var 2) d_int) (ss_one (s_ret (d_add d_int (d_callC c__law_take (c_s 0 (c_v d_int c_nil)))))) ss_nil)
    (ss_one (s_ret (d_add d_int (d_mod (d_callC c__law_digits (c_s 0 (c_v (d_ix (d_frz (o_lst (l_cons d_int (l_cons d_int l_nil)))) (d_sub (d_var 2) d_int)) c_nil))) (d_sub (d_pow d_int d_int) d_int))))))))) kp__law_bound
theorem ok__law_cell {f : Addr} {fd : FuncData} (Fn : Fun K "_law_cell" "_law_cell" s__law_cell f fd) (hm : mg "_law_cell" = some (.ref f)) (bb : Binds K fd ["script", "k"] []) (m_len : mg "len" = none) :
    Cal P w K mg base 1 "_law_cell" ["script", "k"] sp__law_cell :=
  .mk2 Fn hm bb sc__law_cell len__law_cell (by decide) (fun cdv A outer s H E hr => (ss_cons (s_if (t_lt (d_var 1) (d_len m_len (d_var 0))) (ss_one (s_ret (d_ix (d_var 0) (d_var 1)))) ss_nil)
    (ss_one (s_ret (d_add (d_mul d_int (d_var 1)) d_int))))) kp__law_cell
theorem ok_is_number {f : Addr} {fd : FuncData} (Fn : Fun K "is_number" "is_number" s_is_number f fd) (hm : mg "is_number" = some (.ref f)) (bb : Binds K fd ["thing"] []) (m_isinstance : mg "isinstance" = none) (m_int : mg "int" = none) (m_bool : mg "bool" = none) :
    Cal P w K mg base 1 "is_number" ["thing"] sp_is_number :=
  .mk2 Fn hm bb sc_is_number len_is_number (by decide) (fun cdv A outer s H E hr => (ss_one (s_ret (d_and (d_isi .int m_isinstance m_int (by decide +kernel) rfl (d_var 0)) (d_one (d_not (d_isi .bool m_isinstance m_bool (by decide +kernel) rfl (d_var 0)))))))) kp_is_number
theorem ok_common {f : Addr} {fd : FuncData} (Fn : Fun K "common" "common" s_common f fd) (hm : mg "common" = some (.ref f)) (bb : Binds K fd ["one", "other"] []) (m_abs : mg "abs" = none) :
    Cal P w K mg base 1 "common" ["one", "other"] sp_common :=
  .mk2 Fn hm bb sc_common len_common (by decide) (fun cdv A outer s H E hr => (ss_cons (s_set 0 (d_abs m_abs (d_var 0)))
    (ss_cons (s_set 1 (d_abs m_abs (d_var 1)))
    (ss_cons (s_while (t_ne (d_var 1) d_int) (ss_one (s_par 0 1 (d_var 1) (d_mod (d_var 0) (d_var 1)))))
    (ss_one (s_ret (d_var 0))))))) kp_common
theorem ok_is_fraction {f : Addr} {fd : FuncData} (Fn : Fun K "is_fraction" "is_fraction" s_is_fraction f fd) (hm : mg "is_fraction" = some (.ref f)) (bb : Binds K fd ["thing"] []) (m_isinstance : mg "isinstance" = none) (m_tuple : mg "tuple" = none) (m_len : mg "len" = none) (c_is_number : Cal P w K mg base 1 "is_number" ["thing"] sp_is_number) (c_common : Cal P w K mg base 1 "common" ["one", "other"] sp_common) :
    Cal P w K mg base 2 "is_fraction" ["thing"] sp_is_fraction :=
  .mk2 Fn hm bb sc_is_fraction len_is_fraction (by decide) (fun cdv A outer s H E hr => (ss_cons (s_if (p_pt (p_or (t_not (t_val (d_isi .tuple m_isinstance m_tuple (by decide +kernel) rfl (d_var 0)))) (p_or (t_ne (d_len m_len (d_var 0)) d_int) (p_or (t_not (t_val (d_callC c_is_number (c_v (d_ix (d_var 0) d_int) c_nil)))) (p_or1 (t_not (t_val (d_callC c_is_number (c_v (d_ix (d_var 0) d_int) c_nil))))))))) (ss_one (s_ret d_bl)) ss_nil)
    (ss_one (s_ret (d_and (d_ge (d_ix (d_var 0) d_int) d_int) (d_one (d_eq (d_callC c_common (c_v (d_ix (d_var 0) d_int) (c_v (d_ix (d_var 0) d_int) c_nil))) d_int))))))) kp_is_fraction
theorem ok_need_fraction {f : Addr} {fd : FuncData} (Fn : Fun K "need_fraction" "need_fraction" s_need_fraction f fd) (hm : mg "need_fraction" = some (.ref f)) (bb : Binds K fd ["thing"] []) (c_is_fraction : Cal P w K mg base 2 "is_fraction" ["thing"] sp_is_fraction) :
    Cal P w K mg base 3 "need_fraction" ["thing"] sp_need_fraction :=
  .mk2 Fn hm bb sc_need_fraction len_need_fraction (by decide) (fun cdv A outer s H E hr => (ss_one (s_if (t_not (t_val (d_callC c_is_fraction (c_v (d_var 0) c_nil)))) (ss_one s_never) ss_nil))) kp_need_fraction
theorem ok_need_both {f : Addr} {fd : FuncData} (Fn : Fun K "need_both" "need_both" s_need_both f fd) (hm : mg "need_both" = some (.ref f)) (bb : Binds K fd ["fraction", "bound"] []) (c_need_fraction : Cal P w K mg base 3 "need_fraction" ["thing"] sp_need_fraction) (c_is_number : Cal P w K mg base 1 "is_number" ["thing"] sp_is_number) :
    Cal P w K mg base 4 "need_both" ["fraction", "bound"] sp_need_both :=
  .mk2 Fn hm bb sc_need_both len_need_both (by decide) (fun cdv A outer s H E hr => (ss_cons (s_drop (d_callC c_need_fraction (c_v (d_var 0) c_nil)))
    (ss_one (s_if (p_pt (p_or (t_not (t_val (d_callC c_is_number (c_v (d_var 1) c_nil)))) (p_or1 (t_lt (d_var 1) d_int)))) (ss_one s_never) ss_nil)))) kp_need_both
theorem ok_moved {f : Addr} {fd : FuncData} (Fn : Fun K "moved" "moved" s_moved f fd) (hm : mg "moved" = some (.ref f)) (bb : Binds K fd ["one", "other", "many"] [])  :
    Cal P w K mg base 1 "moved" ["one", "other", "many"] sp_moved :=
  .mk2 Fn hm bb sc_moved len_moved (by decide) (fun cdv A outer s H E hr => (ss_one (s_ret (d_tup (l_cons (d_add (d_ix (d_var 0) d_int) (d_mul (d_var 2) (d_ix (d_var 1) d_int))) (l_cons (d_add (d_ix (d_var 0) d_int) (d_mul (d_var 2) (d_ix (d_var 1) d_int))) l_nil)))))) kp_moved
theorem ok_gap {f : Addr} {fd : FuncData} (Fn : Fun K "gap" "gap" s_gap f fd) (hm : mg "gap" = some (.ref f)) (bb : Binds K fd ["lesser", "greater"] [])  :
    Cal P w K mg base 1 "gap" ["lesser", "greater"] sp_gap :=
  .mk2 Fn hm bb sc_gap len_gap (by decide) (fun cdv A outer s H E hr => (ss_one (s_ret (d_sub (d_mul (d_ix (d_var 1) d_int) (d_ix (d_var 0) d_int)) (d_mul (d_ix (d_var 0) d_int) (d_ix (d_var 1) d_int)))))) kp_gap
theorem ok_neighbours {f : Addr} {fd : FuncData} (Fn : Fun K "neighbours" "neighbours" s_neighbours f fd) (hm : mg "neighbours" = some (.ref f)) (bb : Binds K fd ["fraction", "bound"] []) (m_min : mg "min" = none) (c_need_both : Cal P w K mg base 4 "need_both" ["fraction", "bound"] sp_need_both) (c_gap : Cal P w K mg base 1 "gap" ["lesser", "greater"] sp_gap) (c_moved : Cal P w K mg base 1 "moved" ["one", "other", "many"] sp_moved) :
    Cal P w K mg base 5 "neighbours" ["fraction", "bound"] sp_neighbours :=
  .mk2 Fn hm bb sc_neighbours len_neighbours (by decide) (fun cdv A outer s H E hr => (ss_cons (s_drop (d_callC c_need_both (c_v (d_var 0) (c_v (d_var 1) c_nil))))
    (ss_cons (s_if (t_le (d_ix (d_var 0) d_int) (d_var 1)) (ss_one (s_ret (d_tup (l_cons (d_var 0) (l_cons (d_var 0) l_nil))))) ss_nil)
    (ss_cons (s_set 2 (d_fdiv (d_ix (d_var 0) d_int) (d_ix (d_var 0) d_int)))
    (ss_cons (s_par 3 4 (d_tup (l_cons (d_var 2) (l_cons d_int l_nil))) (d_tup (l_cons (d_add (d_var 2) d_int) (l_cons d_int l_nil))))
    (ss_cons (s_while (t_le (d_add (d_ix (d_var 3) d_int) (d_ix (d_var 4) d_int)) (d_var 1)) (ss_cons (s_set 5 (d_fdiv (d_callC c_gap (c_v (d_var 3) (c_v (d_var 0) c_nil))) (d_callC c_gap (c_v (d_var 0) (c_v (d_var 4) c_nil)))))
    (ss_cons (s_set 3 (d_callC c_moved (c_v (d_var 3) (c_v (d_var 4) (c_v (d_min m_min (d_var 5) (d_fdiv (d_sub (d_var 1) (d_ix (d_var 3) d_int)) (d_ix (d_var 4) d_int))) c_nil)))))
    (ss_cons (s_set 5 (d_fdiv (d_callC c_gap (c_v (d_var 0) (c_v (d_var 4) c_nil))) (d_callC c_gap (c_v (d_var 3) (c_v (d_var 0) c_nil)))))
    (ss_one (s_set 4 (d_callC c_moved (c_v (d_var 4) (c_v (d_var 3) (c_v (d_min m_min (d_var 5) (d_fdiv (d_sub (d_var 1) (d_ix (d_var 4) d_int)) (d_ix (d_var 3) d_int))) c_nil))))))))))
    (ss_one (s_ret (d_tup (l_cons (d_var 3) (l_cons (d_var 4) l_nil))))))))))) kp_neighbours
theorem ok__law_gap {f : Addr} {fd : FuncData} (Fn : Fun K "_law_gap" "_law_gap" s__law_gap f fd) (hm : mg "_law_gap" = some (.ref f)) (bb : Binds K fd ["low", "high"] [])  :
    Cal P w K mg base 1 "_law_gap" ["low", "high"] sp__law_gap :=
  .mk2 Fn hm bb sc__law_gap len__law_gap (by decide) (fun cdv A outer s H E hr => (ss_one (s_ret (d_sub (d_mul (d_ix (d_var 1) d_int) (d_ix (d_var 0) d_int)) (d_mul (d_ix (d_var 0) d_int) (d_ix (d_var 1) d_int)))))) kp__law_gap
theorem ok__law_is_fraction {f : Addr} {fd : FuncData} (Fn : Fun K "_law_is_fraction" "_law_is_fraction" s__law_is_fraction f fd) (hm : mg "_law_is_fraction" = some (.ref f)) (bb : Binds K fd ["thing"] []) (m_isinstance : mg "isinstance" = none) (m_tuple : mg "tuple" = none) (m_len : mg "len" = none) (m_int : mg "int" = none) (m_bool : mg "bool" = none) (m_all : mg "all" = none) (c__law_common : Cal P w K mg base 1 "_law_common" ["one", "other"] sp__law_common) :
    Cal P w K mg base 2 "_law_is_fraction" ["thing"] sp__law_is_fraction :=
  .mk2 Fn hm bb sc__law_is_fraction len__law_is_fraction (by decide) (fun cdv A outer s H E hr => (ss_cons (s_if (p_pt (p_or (t_not (t_val (d_isi .tuple m_isinstance m_tuple (by decide +kernel) rfl (d_var 0)))) (p_or1 (t_ne (d_len m_len (d_var 0)) d_int)))) (ss_one (s_ret d_bl)) ss_nil)
    (ss_cons (s_if (t_not (t_val (d_all m_all (d_frz (o_lc [("part", 1)] (d_var 0) (g_nm 1) ts_nil (d_and (d_isi .int m_isinstance m_int (by decide +kernel) rfl (d_var 1)) (d_one (d_not (d_isi .bool m_isinstance m_bool (by decide +kernel) rfl (d_var 1))))) (fun _ => blkOk_by (N := N__law_is_fraction) (sc := defScope s__law_is_fraction) (by decide +kernel))))))) (ss_one (s_ret d_bl)) ss_nil)
    (ss_one (s_ret (d_and (d_gt (d_ix (d_var 0) d_int) d_int) (d_one (d_eq (d_callC c__law_common (c_v (d_ix (d_var 0) d_int) (c_v (d_ix (d_var 0) d_int) c_nil))) d_int)))))))) kp__law_is_fraction
theorem ok__law_shown {f : Addr} {fd : FuncData} (Fn : Fun K "_law_shown" "_law_shown" s__law_shown f fd) (hm : mg "_law_shown" = some (.ref f)) (bb : Binds K fd ["found", "fraction", "bound"] []) (m_isinstance : mg "isinstance" = none) (m_tuple : mg "tuple" = none) (m_len : mg "len" = none) (m_all : mg "all" = none) (c__law_is_fraction : Cal P w K mg base 2 "_law_is_fraction" ["thing"] sp__law_is_fraction) (c__law_gap : Cal P w K mg base 1 "_law_gap" ["low", "high"] sp__law_gap) :
    Cal P w K mg base 3 "_law_shown" ["found", "fraction", "bound"] sp__law_shown :=
  .mk2 Fn hm bb sc__law_shown len__law_shown (by decide) (fun cdv A outer s H E hr => (ss_cons (s_if (p_pt (p_or (t_not (t_val (d_isi .tuple m_isinstance m_tuple (by decide +kernel) rfl (d_var 0)))) (p_or (t_ne (d_len m_len (d_var 0)) d_int) (p_or1 (t_not (t_val (d_all m_all (d_frz (o_lc [("one", 5)] (d_var 0) (g_nm 5) ts_nil (d_callC c__law_is_fraction (c_v (d_var 5) c_nil)) (fun _ => blkOk_by (N := N__law_shown) (sc := defScope s__law_shown) (by decide +kernel))))))))))) (ss_one (s_ret d_bl)) ss_nil)
    (ss_cons (s_asg (d_var 0) (g_tp (gs_cons (g_nm 3) (gs_cons (g_nm 4) gs_nil))))
    (ss_cons (s_if (t_le (d_ix (d_var 1) d_int) (d_var 2)) (ss_one (s_ret (d_and (d_eq (d_var 3) (d_var 1)) (d_one (d_eq (d_var 4) (d_var 1)))))) ss_nil)
    (ss_cons (s_if (p_pt (p_or (t_gt (d_ix (d_var 3) d_int) (d_var 2)) (p_or (t_gt (d_ix (d_var 4) d_int) (d_var 2)) (p_or1 (t_le (d_add (d_ix (d_var 3) d_int) (d_ix (d_var 4) d_int)) (d_var 2)))))) (ss_one (s_ret d_bl)) ss_nil)
    (ss_one (s_ret (d_and (d_gt (d_callC c__law_gap (c_v (d_var 3) (c_v (d_var 1) c_nil))) d_int) (d_and (d_gt (d_callC c__law_gap (c_v (d_var 1) (c_v (d_var 4) c_nil))) d_int) (d_one (d_eq (d_callC c__law_gap (c_v (d_var 3) (c_v (d_var 4) c_nil))) d_int))))))))))) kp__law_shown
theorem ok_nearest {f : Addr} {fd : FuncData} (Fn : Fun K "nearest" "nearest" s_nearest f fd) (hm : mg "nearest" = some (.ref f)) (bb : Binds K fd ["fraction", "bound"] []) (c_neighbours : Cal P w K mg base 5 "neighbours" ["fraction", "bound"] sp_neighbours) (c_gap : Cal P w K mg base 1 "gap" ["lesser", "greater"] sp_gap) :
    Cal P w K mg base 6 "nearest" ["fraction", "bound"] sp_nearest :=
  .mk2 Fn hm bb sc_nearest len_nearest (by decide) (fun cdv A outer s H E hr => (ss_cons (s_asg (d_callC c_neighbours (c_v (d_var 0) (c_v (d_var 1) c_nil))) (g_tp (gs_cons (g_nm 2) (gs_cons (g_nm 3) gs_nil))))
    (ss_cons (s_set 4 (d_mul (d_callC c_gap (c_v (d_var 2) (c_v (d_var 0) c_nil))) (d_ix (d_var 3) d_int)))
    (ss_cons (s_set 5 (d_mul (d_callC c_gap (c_v (d_var 0) (c_v (d_var 3) c_nil))) (d_ix (d_var 2) d_int)))
    (ss_cons (s_if (t_eq (d_var 4) (d_var 5)) (ss_one (s_ret (d_if (t_le (d_ix (d_var 2) d_int) (d_ix (d_var 3) d_int)) (d_var 2) (d_var 3)))) ss_nil)
    (ss_one (s_ret (d_if (t_lt (d_var 4) (d_var 5)) (d_var 2) (d_var 3))))))))) kp_nearest
theorem ok__law_near {f : Addr} {fd : FuncData} (Fn : Fun K "_law_near" "_law_near" s__law_near f fd) (hm : mg "_law_near" = some (.ref f)) (bb : Binds K fd ["pair", "fraction"] []) (c__law_gap : Cal P w K mg base 1 "_law_gap" ["low", "high"] sp__law_gap) :
    Cal P w K mg base 2 "_law_near" ["pair", "fraction"] sp__law_near :=
  .mk2 Fn hm bb sc__law_near len__law_near (by decide) (fun cdv A outer s H E hr => (ss_cons (s_asg (d_var 0) (g_tp (gs_cons (g_nm 2) (gs_cons (g_nm 3) gs_nil))))
    (ss_cons (s_set 4 (d_mul (d_callC c__law_gap (c_v (d_var 2) (c_v (d_var 1) c_nil))) (d_ix (d_var 3) d_int)))
    (ss_cons (s_set 5 (d_mul (d_callC c__law_gap (c_v (d_var 1) (c_v (d_var 3) c_nil))) (d_ix (d_var 2) d_int)))
    (ss_cons (s_if (t_eq (d_var 4) (d_var 5)) (ss_one (s_ret (d_if (t_le (d_ix (d_var 2) d_int) (d_ix (d_var 3) d_int)) (d_var 2) (d_var 3)))) ss_nil)
    (ss_one (s_ret (d_if (t_lt (d_var 4) (d_var 5)) (d_var 2) (d_var 3))))))))) kp__law_near
theorem ok__law_turns_right {f : Addr} {fd : FuncData} (Fn : Fun K "_law_turns_right" "_law_turns_right" s__law_turns_right f fd) (hm : mg "_law_turns_right" = some (.ref f)) (bb : Binds K fd ["pair", "fraction"] []) (m_max : mg "max" = none) (c_neighbours : Cal P w K mg base 5 "neighbours" ["fraction", "bound"] sp_neighbours) (c_nearest : Cal P w K mg base 6 "nearest" ["fraction", "bound"] sp_nearest) (c__law_near : Cal P w K mg base 2 "_law_near" ["pair", "fraction"] sp__law_near) (c__law_gap : Cal P w K mg base 1 "_law_gap" ["low", "high"] sp__law_gap) :
    Cal P w K mg base 7 "_law_turns_right" ["pair", "fraction"] sp__law_turns_right :=
  .mk2 Fn hm bb sc__law_turns_right len__law_turns_right (by decide) (fun cdv A outer s H E hr => (ss_cons (s_asg (d_var 0) (g_tp (gs_cons (g_nm 2) (gs_cons (g_nm 3) gs_nil))))
    (ss_cons (s_set 4 (d_max m_max (d_ix (d_var 2) d_int) (d_ix (d_var 3) d_int)))
    (ss_cons (s_set 5 (d_add (d_ix (d_var 2) d_int) (d_ix (d_var 3) d_int)))
    (ss_cons (s_for (d_frz (o_lst (l_cons (d_var 4) (l_cons (d_sub (d_var 5) d_int) (l_cons (d_fdiv (d_sub (d_add (d_var 4) (d_var 5)) d_int) d_int) l_nil))))) (g_nm 6) (ss_one (s_if (p_pt (p_or (t_ne (d_callC c_neighbours (c_v (d_var 1) (c_v (d_var 6) c_nil))) (d_var 0)) (p_or1 (t_ne (d_callC c_nearest (c_v (d_var 1) (c_v (d_var 6) c_nil))) (d_callC c__law_near (c_v (d_var 0) (c_v (d_var 1) c_nil))))))) (ss_one (s_ret d_bl)) ss_nil)))
    (ss_cons (s_set 7 (d_tup (l_cons (d_add (d_ix (d_var 2) d_int) (d_ix (d_var 3) d_int)) (l_cons (d_var 5) l_nil))))
    (ss_cons (s_set 8 (d_callC c__law_gap (c_v (d_var 7) (c_v (d_var 1) c_nil))))
    (ss_cons (s_set 9 (d_if (t_eq (d_var 8) d_int) (d_tup (l_cons (d_var 1) (l_cons (d_var 1) l_nil))) (d_if (t_gt (d_var 8) d_int) (d_tup (l_cons (d_var 7) (l_cons (d_var 3) l_nil))) (d_tup (l_cons (d_var 2) (l_cons (d_var 7) l_nil))))))
    (ss_one (s_ret (d_eq (d_callC c_neighbours (c_v (d_var 1) (c_v (d_var 5) c_nil))) (d_var 9)))))))))))) kp__law_turns_right
theorem ok_law {f : Addr} {fd : FuncData} (Fn : Fun K "law" "law" s_law f fd) (hm : mg "law" = some (.ref f)) (bb : Binds K fd ["script"] []) (m_len : mg "len" = none) (m_min : mg "min" = none) (m_max : mg "max" = none) (m_range : mg "range" = none) (c__law_purse : Cal P w K mg base 1 "_law_purse" ["cell"] sp__law_purse) (c__law_cell : Cal P w K mg base 1 "_law_cell" ["script", "k"] sp__law_cell) (c__law_fraction : Cal P w K mg base 3 "_law_fraction" ["purse"] sp__law_fraction) (c__law_bound : Cal P w K mg base 3 "_law_bound" ["purse", "fraction"] sp__law_bound) (c_neighbours : Cal P w K mg base 5 "neighbours" ["fraction", "bound"] sp_neighbours) (c__law_shown : Cal P w K mg base 3 "_law_shown" ["found", "fraction", "bound"] sp__law_shown) (c_nearest : Cal P w K mg base 6 "nearest" ["fraction", "bound"] sp_nearest) (c__law_near : Cal P w K mg base 2 "_law_near" ["pair", "fraction"] sp__law_near) (c__law_turns_right : Cal P w K mg base 7 "_law_turns_right" ["pair", "fraction"] sp__law_turns_right) (c__law_take : Cal P w K mg base 1 "_law_take" ["purse", "many"] sp__law_take) :
    Cal P w K mg base 8 "law" ["script"] sp_law :=
  .mk2 Fn hm bb sc_law len_law (by decide) (fun cdv A outer s H E hr => (ss_cons (s_forR1 m_range (d_max m_max d_int (d_min m_min d_int (d_len m_len (d_var 0)))) (g_nm 1) (ss_cons (s_setO 2 (o_callC c__law_purse (c_v (d_callC c__law_cell (c_v (d_var 0) (c_v (d_var 1) c_nil))) c_nil)))
    (ss_cons (s_set 3 (d_callC c__law_fraction (c_s 2 c_nil)))
    (ss_cons (s_set 4 (d_callC c__law_bound (c_s 2 (c_v (d_var 3) c_nil))))
    (ss_one (s_forR1 m_range d_int (g_nm 5) (ss_cons (s_set 6 (d_callC c_neighbours (c_v (d_var 3) (c_v (d_var 4) c_nil))))
    (ss_cons (s_if (p_pt (p_or (t_not (t_val (d_callC c__law_shown (c_v (d_var 6) (c_v (d_var 3) (c_v (d_var 4) c_nil)))))) (p_or1 (t_ne (d_callC c_nearest (c_v (d_var 3) (c_v (d_var 4) c_nil))) (d_callC c__law_near (c_v (d_var 6) (c_v (d_var 3) c_nil))))))) (ss_one (s_ret d_bl)) ss_nil)
    (ss_cons (s_if (p_pt (p_and (t_gt (d_ix (d_var 3) d_int) (d_var 4)) (p_and1 (t_not (t_val (d_callC c__law_turns_right (c_v (d_var 6) (c_v (d_var 3) c_nil)))))))) (ss_one (s_ret d_bl)) ss_nil)
    (ss_cons (s_set 7 (d_callC c__law_take (c_s 2 (c_v d_int c_nil))))
    (ss_cons (s_set 8 (d_min m_min (d_sub (d_pow d_int d_int) d_int) (d_add (d_ix (d_ix (d_var 6) d_int) d_int) (d_ix (d_ix (d_var 6) d_int) d_int))))
    (ss_one (s_set 4 (d_ix (d_frz (o_lst (l_cons (d_var 8) (l_cons (d_max m_max d_int (d_fdiv (d_var 4) d_int)) (l_cons (d_add d_int (d_callC c__law_take (c_s 2 (c_v (d_pow d_int d_int) c_nil)))) l_nil))))) (d_var 7)))))))))))))))
    (ss_one (s_ret d_bl)))) kp_law
end
theorem all_mk {l : PySem.W.OpenLaw} {w : World} {K : PySem.W.Frag} {h : Heap} {mg : Str → Option Value} {fa f1 f2 f3 f4 f5 f6 f7 f8 f9 f10 f11 f12 f13 f14 f15 f16 f17 f18 f19 f20 f21 f22 f23 : Addr} (X : K.In h) (G : h.Ns mainGlobals mg) (hfa : mg "law" = some (.ref fa))
    {od1 an1 od2 an2 od3 an3 od4 an4 od5 an5 od6 an6 od7 an7 od8 an8 od9 an9 od10 an10 od11 an11 od12 an12 od13 an13 od14 an14 od15 an15 od16 an16 od17 an17 od18 an18 od19 an19 od20 an20 od21 an21 od22 an22 od23 an23 : Option Addr} {sl1 sl2 sl3 sl4 sl5 sl6 sl7 sl8 sl9 sl10 sl11 sl12 sl13 sl14 sl15 sl16 sl17 sl18 sl19 sl20 sl21 sl22 sl23 : Array (Option Value)} {oc1 kV1 dc1 pm1 cd1 ct1 oc2 kV2 dc2 pm2 cd2 ct2 oc3 kV3 dc3 pm3 cd3 ct3 oc4 kV4 dc4 pm4 cd4 ct4 oc5 kV5 dc5 pm5 cd5 ct5 oc6 kV6 dc6 pm6 cd6 ct6 oc7 kV7 dc7 pm7 cd7 ct7 oc8 kV8 dc8 pm8 cd8 ct8 oc9 kV9 dc9 pm9 cd9 ct9 oc10 kV10 dc10 pm10 cd10 ct10 oc11 kV11 dc11 pm11 cd11 ct11 oc12 kV12 dc12 pm12 cd12 ct12 oc13 kV13 dc13 pm13 cd13 ct13 oc14 kV14 dc14 pm14 cd14 ct14 oc15 kV15 dc15 pm15 cd15 ct15 oc16 kV16 dc16 pm16 cd16 ct16 oc17 kV17 dc17 pm17 cd17 ct17 oc18 kV18 dc18 pm18 cd18 ct18 oc19 kV19 dc19 pm19 cd19 ct19 oc20 kV20 dc20 pm20 cd20 ct20 oc21 kV21 dc21 pm21 cd21 ct21 oc22 kV22 dc22 pm22 cd22 ct22 oc23 kV23 dc23 pm23 cd23 ct23 : Value}
    (a1 : PySem.W.nsIn K mainGlobals "_law_purse" = some (some (.ref f1))) (l1 : K.lookup f1 = some ⟨oc1, od1, .func (PySem.W.fnOf "_law_purse" "_law_purse" (defArgs s__law_purse) (defBody s__law_purse) (defScope s__law_purse) .none kV1 dc1 pm1 an1 cd1 ct1), sl1⟩) (c1 : PySem.W.codeIn K cd1 "_law_purse" = true) (k1 : PySem.W.keepIn K (.ref f1) = true)
    (a2 : PySem.W.nsIn K mainGlobals "_law_take" = some (some (.ref f2))) (l2 : K.lookup f2 = some ⟨oc2, od2, .func (PySem.W.fnOf "_law_take" "_law_take" (defArgs s__law_take) (defBody s__law_take) (defScope s__law_take) .none kV2 dc2 pm2 an2 cd2 ct2), sl2⟩) (c2 : PySem.W.codeIn K cd2 "_law_take" = true) (k2 : PySem.W.keepIn K (.ref f2) = true)
    (a3 : PySem.W.nsIn K mainGlobals "_law_common" = some (some (.ref f3))) (l3 : K.lookup f3 = some ⟨oc3, od3, .func (PySem.W.fnOf "_law_common" "_law_common" (defArgs s__law_common) (defBody s__law_common) (defScope s__law_common) .none kV3 dc3 pm3 an3 cd3 ct3), sl3⟩) (c3 : PySem.W.codeIn K cd3 "_law_common" = true) (k3 : PySem.W.keepIn K (.ref f3) = true)
    (a4 : PySem.W.nsIn K mainGlobals "_law_made" = some (some (.ref f4))) (l4 : K.lookup f4 = some ⟨oc4, od4, .func (PySem.W.fnOf "_law_made" "_law_made" (defArgs s__law_made) (defBody s__law_made) (defScope s__law_made) .none kV4 dc4 pm4 an4 cd4 ct4), sl4⟩) (c4 : PySem.W.codeIn K cd4 "_law_made" = true) (k4 : PySem.W.keepIn K (.ref f4) = true)
    (a5 : PySem.W.nsIn K mainGlobals "_law_digits" = some (some (.ref f5))) (l5 : K.lookup f5 = some ⟨oc5, od5, .func (PySem.W.fnOf "_law_digits" "_law_digits" (defArgs s__law_digits) (defBody s__law_digits) (defScope s__law_digits) .none kV5 dc5 pm5 an5 cd5 ct5), sl5⟩) (c5 : PySem.W.codeIn K cd5 "_law_digits" = true) (k5 : PySem.W.keepIn K (.ref f5) = true)
    (a6 : PySem.W.nsIn K mainGlobals "_law_fraction" = some (some (.ref f6))) (l6 : K.lookup f6 = some ⟨oc6, od6, .func (PySem.W.fnOf "_law_fraction" "_law_fraction" (defArgs s__law_fraction) (defBody s__law_fraction) (defScope s__law_fraction) .none kV6 dc6 pm6 an6 cd6 ct6), sl6⟩) (c6 : PySem.W.codeIn K cd6 "_law_fraction" = true) (k6 : PySem.W.keepIn K (.ref f6) = true)
    (a7 : PySem.W.nsIn K mainGlobals "_law_bound" = some (some (.ref f7))) (l7 : K.lookup f7 = some ⟨oc7, od7, .func (PySem.W.fnOf "_law_bound" "_law_bound" (defArgs s__law_bound) (defBody s__law_bound) (defScope s__law_bound) .none kV7 dc7 pm7 an7 cd7 ct7), sl7⟩) (c7 : PySem.W.codeIn K cd7 "_law_bound" = true) (k7 : PySem.W.keepIn K (.ref f7) = true)
    (a8 : PySem.W.nsIn K mainGlobals "_law_cell" = some (some (.ref f8))) (l8 : K.lookup f8 = some ⟨oc8, od8, .func (PySem.W.fnOf "_law_cell" "_law_cell" (defArgs s__law_cell) (defBody s__law_cell) (defScope s__law_cell) .none kV8 dc8 pm8 an8 cd8 ct8), sl8⟩) (c8 : PySem.W.codeIn K cd8 "_law_cell" = true) (k8 : PySem.W.keepIn K (.ref f8) = true)
    (a9 : PySem.W.nsIn K mainGlobals "is_number" = some (some (.ref f9))) (l9 : K.lookup f9 = some ⟨oc9, od9, .func (PySem.W.fnOf "is_number" "is_number" (defArgs s_is_number) (defBody s_is_number) (defScope s_is_number) .none kV9 dc9 pm9 an9 cd9 ct9), sl9⟩) (c9 : PySem.W.codeIn K cd9 "is_number" = true) (k9 : PySem.W.keepIn K (.ref f9) = true)
    (a10 : PySem.W.nsIn K mainGlobals "common" = some (some (.ref f10))) (l10 : K.lookup f10 = some ⟨oc10, od10, .func (PySem.W.fnOf "common" "common" (defArgs s_common) (defBody s_common) (defScope s_common) .none kV10 dc10 pm10 an10 cd10 ct10), sl10⟩) (c10 : PySem.W.codeIn K cd10 "common" = true) (k10 : PySem.W.keepIn K (.ref f10) = true)
    (a11 : PySem.W.nsIn K mainGlobals "is_fraction" = some (some (.ref f11))) (l11 : K.lookup f11 = some ⟨oc11, od11, .func (PySem.W.fnOf "is_fraction" "is_fraction" (defArgs s_is_fraction) (defBody s_is_fraction) (defScope s_is_fraction) .none kV11 dc11 pm11 an11 cd11 ct11), sl11⟩) (c11 : PySem.W.codeIn K cd11 "is_fraction" = true) (k11 : PySem.W.keepIn K (.ref f11) = true)
    (a12 : PySem.W.nsIn K mainGlobals "need_fraction" = some (some (.ref f12))) (l12 : K.lookup f12 = some ⟨oc12, od12, .func (PySem.W.fnOf "need_fraction" "need_fraction" (defArgs s_need_fraction) (defBody s_need_fraction) (defScope s_need_fraction) .none kV12 dc12 pm12 an12 cd12 ct12), sl12⟩) (c12 : PySem.W.codeIn K cd12 "need_fraction" = true) (k12 : PySem.W.keepIn K (.ref f12) = true)
    (a13 : PySem.W.nsIn K mainGlobals "need_both" = some (some (.ref f13))) (l13 : K.lookup f13 = some ⟨oc13, od13, .func (PySem.W.fnOf "need_both" "need_both" (defArgs s_need_both) (defBody s_need_both) (defScope s_need_both) .none kV13 dc13 pm13 an13 cd13 ct13), sl13⟩) (c13 : PySem.W.codeIn K cd13 "need_both" = true) (k13 : PySem.W.keepIn K (.ref f13) = true)
    (a14 : PySem.W.nsIn K mainGlobals "moved" = some (some (.ref f14))) (l14 : K.lookup f14 = some ⟨oc14, od14, .func (PySem.W.fnOf "moved" "moved" (defArgs s_moved) (defBody s_moved) (defScope s_moved) .none kV14 dc14 pm14 an14 cd14 ct14), sl14⟩) (c14 : PySem.W.codeIn K cd14 "moved" = true) (k14 : PySem.W.keepIn K (.ref f14) = true)
    (a15 : PySem.W.nsIn K mainGlobals "gap" = some (some (.ref f15))) (l15 : K.lookup f15 = some ⟨oc15, od15, .func (PySem.W.fnOf "gap" "gap" (defArgs s_gap) (defBody s_gap) (defScope s_gap) .none kV15 dc15 pm15 an15 cd15 ct15), sl15⟩) (c15 : PySem.W.codeIn K cd15 "gap" = true) (k15 : PySem.W.keepIn K (.ref f15) = true)
    (a16 : PySem.W.nsIn K mainGlobals "neighbours" = some (some (.ref f16))) (l16 : K.lookup f16 = some ⟨oc16, od16, .func (PySem.W.fnOf "neighbours" "neighbours" (defArgs s_neighbours) (defBody s_neighbours) (defScope s_neighbours) .none kV16 dc16 pm16 an16 cd16 ct16), sl16⟩) (c16 : PySem.W.codeIn K cd16 "neighbours" = true) (k16 : PySem.W.keepIn K (.ref f16) = true)
    (a17 : PySem.W.nsIn K mainGlobals "_law_gap" = some (some (.ref f17))) (l17 : K.lookup f17 = some ⟨oc17, od17, .func (PySem.W.fnOf "_law_gap" "_law_gap" (defArgs s__law_gap) (defBody s__law_gap) (defScope s__law_gap) .none kV17 dc17 pm17 an17 cd17 ct17), sl17⟩) (c17 : PySem.W.codeIn K cd17 "_law_gap" = true) (k17 : PySem.W.keepIn K (.ref f17) = true)
    (a18 : PySem.W.nsIn K mainGlobals "_law_is_fraction" = some (some (.ref f18))) (l18 : K.lookup f18 = some ⟨oc18, od18, .func (PySem.W.fnOf "_law_is_fraction" "_law_is_fraction" (defArgs s__law_is_fraction) (defBody s__law_is_fraction) (defScope s__law_is_fraction) .none kV18 dc18 pm18 an18 cd18 ct18), sl18⟩) (c18 : PySem.W.codeIn K cd18 "_law_is_fraction" = true) (k18 : PySem.W.keepIn K (.ref f18) = true)
    (a19 : PySem.W.nsIn K mainGlobals "_law_shown" = some (some (.ref f19))) (l19 : K.lookup f19 = some ⟨oc19, od19, .func (PySem.W.fnOf "_law_shown" "_law_shown" (defArgs s__law_shown) (defBody s__law_shown) (defScope s__law_shown) .none kV19 dc19 pm19 an19 cd19 ct19), sl19⟩) (c19 : PySem.W.codeIn K cd19 "_law_shown" = true) (k19 : PySem.W.keepIn K (.ref f19) = true)
    (a20 : PySem.W.nsIn K mainGlobals "nearest" = some (some (.ref f20))) (l20 : K.lookup f20 = some ⟨oc20, od20, .func (PySem.W.fnOf "nearest" "nearest" (defArgs s_nearest) (defBody s_nearest) (defScope s_nearest) .none kV20 dc20 pm20 an20 cd20 ct20), sl20⟩) (c20 : PySem.W.codeIn K cd20 "nearest" = true) (k20 : PySem.W.keepIn K (.ref f20) = true)
    (a21 : PySem.W.nsIn K mainGlobals "_law_near" = some (some (.ref f21))) (l21 : K.lookup f21 = some ⟨oc21, od21, .func (PySem.W.fnOf "_law_near" "_law_near" (defArgs s__law_near) (defBody s__law_near) (defScope s__law_near) .none kV21 dc21 pm21 an21 cd21 ct21), sl21⟩) (c21 : PySem.W.codeIn K cd21 "_law_near" = true) (k21 : PySem.W.keepIn K (.ref f21) = true)
    (a22 : PySem.W.nsIn K mainGlobals "_law_turns_right" = some (some (.ref f22))) (l22 : K.lookup f22 = some ⟨oc22, od22, .func (PySem.W.fnOf "_law_turns_right" "_law_turns_right" (defArgs s__law_turns_right) (defBody s__law_turns_right) (defScope s__law_turns_right) .none kV22 dc22 pm22 an22 cd22 ct22), sl22⟩) (c22 : PySem.W.codeIn K cd22 "_law_turns_right" = true) (k22 : PySem.W.keepIn K (.ref f22) = true)
    (a23 : PySem.W.nsIn K mainGlobals "law" = some (some (.ref f23))) (l23 : K.lookup f23 = some ⟨oc23, od23, .func (PySem.W.fnOf "law" "law" (defArgs s_law) (defBody s_law) (defScope s_law) .none kV23 dc23 pm23 an23 cd23 ct23), sl23⟩) (c23 : PySem.W.codeIn K cd23 "law" = true) (k23 : PySem.W.keepIn K (.ref f23) = true)
    (z_max : PySem.W.nsIn K mainGlobals "max" = some none) (z_abs : PySem.W.nsIn K mainGlobals "abs" = some none) (z_range : PySem.W.nsIn K mainGlobals "range" = some none) (z_min : PySem.W.nsIn K mainGlobals "min" = some none) (z_len : PySem.W.nsIn K mainGlobals "len" = some none) (z_isinstance : PySem.W.nsIn K mainGlobals "isinstance" = some none) (z_int : PySem.W.nsIn K mainGlobals "int" = some none) (z_bool : PySem.W.nsIn K mainGlobals "bool" = some none) (z_tuple : PySem.W.nsIn K mainGlobals "tuple" = some none) (z_all : PySem.W.nsIn K mainGlobals "all" = some none) :
    ∃ fd : FuncData, (∀ (s : Shared) (v : Value), BindsTo s fd ⟨[v], []⟩ [("script", v)]) ∧ ∀ base : Heap, K.In base → base.Ns mainGlobals mg → FnOk l.prog w K mg base CX0 8 fa fd ["script"] (spOf K sp_law) := by
  have e := hfa.symm.trans (PySem.W.mg_of X G a23)
  cases e
  have m_max := PySem.W.mg_none_of X G z_max
  have m_abs := PySem.W.mg_none_of X G z_abs
  have m_range := PySem.W.mg_none_of X G z_range
  have m_min := PySem.W.mg_none_of X G z_min
  have m_len := PySem.W.mg_none_of X G z_len
  have m_isinstance := PySem.W.mg_none_of X G z_isinstance
  have m_int := PySem.W.mg_none_of X G z_int
  have m_bool := PySem.W.mg_none_of X G z_bool
  have m_tuple := PySem.W.mg_none_of X G z_tuple
  have m_all := PySem.W.mg_none_of X G z_all
  refine ⟨PySem.W.fnOf "law" "law" (defArgs s_law) (defBody s_law) (defScope s_law) .none kV23 dc23 pm23 an23 cd23 ct23, fun s v => .of_eq rfl, fun base _ _ => ?_⟩
  have F__law_purse := fun_mk (st := s__law_purse) l1 c1 k1
  have c__law_purse := ok__law_purse (P := l.prog) (w := w) (base := base) F__law_purse (PySem.W.mg_of X G a1) (F__law_purse.binds (ps := ["cell"]) fun _ _ _ _ _ _ us hl => match us, hl with | [_], _ => rfl) m_max
  have F__law_take := fun_mk (st := s__law_take) l2 c2 k2
  have c__law_take := ok__law_take (P := l.prog) (w := w) (base := base) F__law_take (PySem.W.mg_of X G a2) (F__law_take.binds (ps := ["purse", "many"]) fun _ _ _ _ _ _ us hl => match us, hl with | [_, _], _ => rfl) 
  have F__law_common := fun_mk (st := s__law_common) l3 c3 k3
  have c__law_common := ok__law_common (P := l.prog) (w := w) (base := base) F__law_common (PySem.W.mg_of X G a3) (F__law_common.binds (ps := ["one", "other"]) fun _ _ _ _ _ _ us hl => match us, hl with | [_, _], _ => rfl) m_abs
  have F__law_made := fun_mk (st := s__law_made) l4 c4 k4
  have c__law_made := ok__law_made (P := l.prog) (w := w) (base := base) F__law_made (PySem.W.mg_of X G a4) (F__law_made.binds (ps := ["top", "bottom"]) fun _ _ _ _ _ _ us hl => match us, hl with | [_, _], _ => rfl) c__law_common
  have F__law_digits := fun_mk (st := s__law_digits) l5 c5 k5
  have c__law_digits := ok__law_digits (P := l.prog) (w := w) (base := base) F__law_digits (PySem.W.mg_of X G a5) (F__law_digits.binds (ps := ["purse", "figures"]) fun _ _ _ _ _ _ us hl => match us, hl with | [_, _], _ => rfl) m_range c__law_take
  have F__law_fraction := fun_mk (st := s__law_fraction) l6 c6 k6
  have c__law_fraction := ok__law_fraction (P := l.prog) (w := w) (base := base) F__law_fraction (PySem.W.mg_of X G a6) (F__law_fraction.binds (ps := ["purse"]) fun _ _ _ _ _ _ us hl => match us, hl with | [_], _ => rfl) m_abs m_max m_range c__law_take c__law_digits c__law_made
  have F__law_bound := fun_mk (st := s__law_bound) l7 c7 k7
  have c__law_bound := ok__law_bound (P := l.prog) (w := w) (base := base) F__law_bound (PySem.W.mg_of X G a7) (F__law_bound.binds (ps := ["purse", "fraction"]) fun _ _ _ _ _ _ us hl => match us, hl with | [_, _], _ => rfl) m_min m_max c__law_take c__law_digits
  have F__law_cell := fun_mk (st := s__law_cell) l8 c8 k8
  have c__law_cell := ok__law_cell (P := l.prog) (w := w) (base := base) F__law_cell (PySem.W.mg_of X G a8) (F__law_cell.binds (ps := ["script", "k"]) fun _ _ _ _ _ _ us hl => match us, hl with | [_, _], _ => rfl) m_len
  have F_is_number := fun_mk (st := s_is_number) l9 c9 k9
  have c_is_number := ok_is_number (P := l.prog) (w := w) (base := base) F_is_number (PySem.W.mg_of X G a9) (F_is_number.binds (ps := ["thing"]) fun _ _ _ _ _ _ us hl => match us, hl with | [_], _ => rfl) m_isinstance m_int m_bool
  have F_common := fun_mk (st := s_common) l10 c10 k10
  have c_common := ok_common (P := l.prog) (w := w) (base := base) F_common (PySem.W.mg_of X G a10) (F_common.binds (ps := ["one", "other"]) fun _ _ _ _ _ _ us hl => match us, hl with | [_, _], _ => rfl) m_abs
  have F_is_fraction := fun_mk (st := s_is_fraction) l11 c11 k11
  have c_is_fraction := ok_is_fraction (P := l.prog) (w := w) (base := base) F_is_fraction (PySem.W.mg_of X G a11) (F_is_fraction.binds (ps := ["thing"]) fun _ _ _ _ _ _ us hl => match us, hl with | [_], _ => rfl) m_isinstance m_tuple m_len c_is_number c_common
  have F_need_fraction := fun_mk (st := s_need_fraction) l12 c12 k12
  have c_need_fraction := ok_need_fraction (P := l.prog) (w := w) (base := base) F_need_fraction (PySem.W.mg_of X G a12) (F_need_fraction.binds (ps := ["thing"]) fun _ _ _ _ _ _ us hl => match us, hl with | [_], _ => rfl) c_is_fraction
  have F_need_both := fun_mk (st := s_need_both) l13 c13 k13
  have c_need_both := ok_need_both (P := l.prog) (w := w) (base := base) F_need_both (PySem.W.mg_of X G a13) (F_need_both.binds (ps := ["fraction", "bound"]) fun _ _ _ _ _ _ us hl => match us, hl with | [_, _], _ => rfl) c_need_fraction c_is_number
  have F_moved := fun_mk (st := s_moved) l14 c14 k14
  have c_moved := ok_moved (P := l.prog) (w := w) (base := base) F_moved (PySem.W.mg_of X G a14) (F_moved.binds (ps := ["one", "other", "many"]) fun _ _ _ _ _ _ us hl => match us, hl with | [_, _, _], _ => rfl) 
  have F_gap := fun_mk (st := s_gap) l15 c15 k15
  have c_gap := ok_gap (P := l.prog) (w := w) (base := base) F_gap (PySem.W.mg_of X G a15) (F_gap.binds (ps := ["lesser", "greater"]) fun _ _ _ _ _ _ us hl => match us, hl with | [_, _], _ => rfl) 
  have F_neighbours := fun_mk (st := s_neighbours) l16 c16 k16
  have c_neighbours := ok_neighbours (P := l.prog) (w := w) (base := base) F_neighbours (PySem.W.mg_of X G a16) (F_neighbours.binds (ps := ["fraction", "bound"]) fun _ _ _ _ _ _ us hl => match us, hl with | [_, _], _ => rfl) m_min c_need_both c_gap c_moved
  have F__law_gap := fun_mk (st := s__law_gap) l17 c17 k17
  have c__law_gap := ok__law_gap (P := l.prog) (w := w) (base := base) F__law_gap (PySem.W.mg_of X G a17) (F__law_gap.binds (ps := ["low", "high"]) fun _ _ _ _ _ _ us hl => match us, hl with | [_, _], _ => rfl) 
  have F__law_is_fraction := fun_mk (st := s__law_is_fraction) l18 c18 k18
  have c__law_is_fraction := ok__law_is_fraction (P := l.prog) (w := w) (base := base) F__law_is_fraction (PySem.W.mg_of X G a18) (F__law_is_fraction.binds (ps := ["thing"]) fun _ _ _ _ _ _ us hl => match us, hl with | [_], _ => rfl) m_isinstance m_tuple m_len m_int m_bool m_all c__law_common
  have F__law_shown := fun_mk (st := s__law_shown) l19 c19 k19
  have c__law_shown := ok__law_shown (P := l.prog) (w := w) (base := base) F__law_shown (PySem.W.mg_of X G a19) (F__law_shown.binds (ps := ["found", "fraction", "bound"]) fun _ _ _ _ _ _ us hl => match us, hl with | [_, _, _], _ => rfl) m_isinstance m_tuple m_len m_all c__law_is_fraction c__law_gap
  have F_nearest := fun_mk (st := s_nearest) l20 c20 k20
  have c_nearest := ok_nearest (P := l.prog) (w := w) (base := base) F_nearest (PySem.W.mg_of X G a20) (F_nearest.binds (ps := ["fraction", "bound"]) fun _ _ _ _ _ _ us hl => match us, hl with | [_, _], _ => rfl) c_neighbours c_gap
  have F__law_near := fun_mk (st := s__law_near) l21 c21 k21
  have c__law_near := ok__law_near (P := l.prog) (w := w) (base := base) F__law_near (PySem.W.mg_of X G a21) (F__law_near.binds (ps := ["pair", "fraction"]) fun _ _ _ _ _ _ us hl => match us, hl with | [_, _], _ => rfl) c__law_gap
  have F__law_turns_right := fun_mk (st := s__law_turns_right) l22 c22 k22
  have c__law_turns_right := ok__law_turns_right (P := l.prog) (w := w) (base := base) F__law_turns_right (PySem.W.mg_of X G a22) (F__law_turns_right.binds (ps := ["pair", "fraction"]) fun _ _ _ _ _ _ us hl => match us, hl with | [_, _], _ => rfl) m_max c_neighbours c_nearest c__law_near c__law_gap
  exact fn_keeps0 (fun_mk (st := s_law) l23 c23 k23) sc_law len_law (by decide) (fun cdv A outer s H E hr => (ss_cons (s_forR1 m_range (d_max m_max d_int (d_min m_min d_int (d_len m_len (d_var 0)))) (g_nm 1) (ss_cons (s_setO 2 (o_callC c__law_purse (c_v (d_callC c__law_cell (c_v (d_var 0) (c_v (d_var 1) c_nil))) c_nil)))
    (ss_cons (s_set 3 (d_callC c__law_fraction (c_s 2 c_nil)))
    (ss_cons (s_set 4 (d_callC c__law_bound (c_s 2 (c_v (d_var 3) c_nil))))
    (ss_one (s_forR1 m_range d_int (g_nm 5) (ss_cons (s_set 6 (d_callC c_neighbours (c_v (d_var 3) (c_v (d_var 4) c_nil))))
    (ss_cons (s_if (p_pt (p_or (t_not (t_val (d_callC c__law_shown (c_v (d_var 6) (c_v (d_var 3) (c_v (d_var 4) c_nil)))))) (p_or1 (t_ne (d_callC c_nearest (c_v (d_var 3) (c_v (d_var 4) c_nil))) (d_callC c__law_near (c_v (d_var 6) (c_v (d_var 3) c_nil))))))) (ss_one (s_ret d_bl)) ss_nil)
    (ss_cons (s_if (p_pt (p_and (t_gt (d_ix (d_var 3) d_int) (d_var 4)) (p_and1 (t_not (t_val (d_callC c__law_turns_right (c_v (d_var 6) (c_v (d_var 3) c_nil)))))))) (ss_one (s_ret d_bl)) ss_nil)
    (ss_cons (s_set 7 (d_callC c__law_take (c_s 2 (c_v d_int c_nil))))
    (ss_cons (s_set 8 (d_min m_min (d_sub (d_pow d_int d_int) d_int) (d_add (d_ix (d_ix (d_var 6) d_int) d_int) (d_ix (d_ix (d_var 6) d_int) d_int))))
    (ss_one (s_set 4 (d_ix (d_frz (o_lst (l_cons (d_var 8) (l_cons (d_max m_max d_int (d_fdiv (d_var 4) d_int)) (l_cons (d_add d_int (d_callC c__law_take (c_s 2 (c_v (d_pow d_int d_int) c_nil)))) l_nil))))) (d_var 7)))))))))))))))
    (ss_one (s_ret d_bl)))) kp_law
end K51
open PySem PySem.W PyProof.Rows in
set_option maxRecDepth 100000 in
set_option maxHeartbeats 0 in
theorem PySem.Challenge.cw_termwide_k51_whole_neighbours_holds : PySem.Challenge.rw_termwide_k51_whole_neighbours.Holds := by
  w_on; o_law; k_head; (case hw => w_witness2)
  k_fill
  refine L2.walk_of (l := PySem.Challenge.rw_termwide_k51_whole_neighbours) (n := 63) (k := 8) (x := "script") (CX := fun _ => L2.CX0) (sp := fun w => DW.spOf _ K51.sp_law) rfl (by decide) rfl ⟨rfl, by decide, by decide⟩ (fun w h Y => PySem.W.kIn_of Y) ?F (fun _ _ a ns hl _ hS => DW.law_sp (K51.law_ints ns hl) hS) (fun _ _ _ _ _ h => h)
  case F =>
    intro w mg fa h KX G hmg
    refine' K51.all_mk KX G hmg ?a1 ?l1 ?c1 ?k1 ?a2 ?l2 ?c2 ?k2 ?a3 ?l3 ?c3 ?k3 ?a4 ?l4 ?c4 ?k4 ?a5 ?l5 ?c5 ?k5 ?a6 ?l6 ?c6 ?k6 ?a7 ?l7 ?c7 ?k7 ?a8 ?l8 ?c8 ?k8 ?a9 ?l9 ?c9 ?k9 ?a10 ?l10 ?c10 ?k10 ?a11 ?l11 ?c11 ?k11 ?a12 ?l12 ?c12 ?k12 ?a13 ?l13 ?c13 ?k13 ?a14 ?l14 ?c14 ?k14 ?a15 ?l15 ?c15 ?k15 ?a16 ?l16 ?c16 ?k16 ?a17 ?l17 ?c17 ?k17 ?a18 ?l18 ?c18 ?k18 ?a19 ?l19 ?c19 ?k19 ?a20 ?l20 ?c20 ?k20 ?a21 ?l21 ?c21 ?k21 ?a22 ?l22 ?c22 ?k22 ?a23 ?l23 ?c23 ?k23 ?z_max ?z_abs ?z_range ?z_min ?z_len ?z_isinstance ?z_int ?z_bool ?z_tuple ?z_all
    (case a1 => k_is)
    (case l1 => k_is)
    (case c1 => k_is)
    (case k1 => k_is)
    (case a2 => k_is)
    (case l2 => k_is)
    (case c2 => k_is)
    (case k2 => k_is)
    (case a3 => k_is)
    (case l3 => k_is)
    (case c3 => k_is)
    (case k3 => k_is)
    (case a4 => k_is)
    (case l4 => k_is)
    (case c4 => k_is)
    (case k4 => k_is)
    (case a5 => k_is)
    (case l5 => k_is)
    (case c5 => k_is)
    (case k5 => k_is)
    (case a6 => k_is)
    (case l6 => k_is)
    (case c6 => k_is)
    (case k6 => k_is)
    (case a7 => k_is)
    (case l7 => k_is)
    (case c7 => k_is)
    (case k7 => k_is)
    (case a8 => k_is)
    (case l8 => k_is)
    (case c8 => k_is)
    (case k8 => k_is)
    (case a9 => k_is)
    (case l9 => k_is)
    (case c9 => k_is)
    (case k9 => k_is)
    (case a10 => k_is)
    (case l10 => k_is)
    (case c10 => k_is)
    (case k10 => k_is)
    (case a11 => k_is)
    (case l11 => k_is)
    (case c11 => k_is)
    (case k11 => k_is)
    (case a12 => k_is)
    (case l12 => k_is)
    (case c12 => k_is)
    (case k12 => k_is)
    (case a13 => k_is)
    (case l13 => k_is)
    (case c13 => k_is)
    (case k13 => k_is)
    (case a14 => k_is)
    (case l14 => k_is)
    (case c14 => k_is)
    (case k14 => k_is)
    (case a15 => k_is)
    (case l15 => k_is)
    (case c15 => k_is)
    (case k15 => k_is)
    (case a16 => k_is)
    (case l16 => k_is)
    (case c16 => k_is)
    (case k16 => k_is)
    (case a17 => k_is)
    (case l17 => k_is)
    (case c17 => k_is)
    (case k17 => k_is)
    (case a18 => k_is)
    (case l18 => k_is)
    (case c18 => k_is)
    (case k18 => k_is)
    (case a19 => k_is)
    (case l19 => k_is)
    (case c19 => k_is)
    (case k19 => k_is)
    (case a20 => k_is)
    (case l20 => k_is)
    (case c20 => k_is)
    (case k20 => k_is)
    (case a21 => k_is)
    (case l21 => k_is)
    (case c21 => k_is)
    (case k21 => k_is)
    (case a22 => k_is)
    (case l22 => k_is)
    (case c22 => k_is)
    (case k22 => k_is)
    (case a23 => k_is)
    (case l23 => k_is)
    (case c23 => k_is)
    (case k23 => k_is)
    (case z_max => k_is)
    (case z_abs => k_is)
    (case z_range => k_is)
    (case z_min => k_is)
    (case z_len => k_is)
    (case z_isinstance => k_is)
    (case z_int => k_is)
    (case z_bool => k_is)
    (case z_tuple => k_is)
    (case z_all => k_is)
