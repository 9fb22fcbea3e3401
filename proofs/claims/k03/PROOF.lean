import PyProof.Rows.All
import Wide.All
import OpenK.AllK
import Wide.FinOn
import PySem.Challenge.RW_polyways_k03_bars_of_rests
import HandS.ForSpec
import HandS.ForMost
import HandS.CallSlots
import HandS.Defaults
import HandS.Wide
import HandS.Evl
import HandS.TupAny
import HandS.Style
import HandS.RaiseMore
import HandS.Small
import HandS.Deep
import HandS.Flow
import HandS.WideMore
import HandS.Exc
import HandS.Head0
import HandS.Head1
import HandS.Head2
import HandS.HeadEnd
import HandS.HeadHook1
import HandS.HeadHook2
import HandS.HeadHook4
set_option Elab.async false
set_option linter.all false
set_option maxRecDepth 100000
set_option maxHeartbeats 0
/-! PyA: data, cells, and what a piece of code asks of them (plain predicates; no heap of the machine in sight). -/
namespace PL
open PySem

/-- a datum: what never changes, or a cell's number -/
inductive D where
  | non | bl (b : Bool) | int (i : Int) | str (s : Str)
  | tup (xs : List D) | lst (xs : List D)
  | ins (c : Str) (fs : List (Str × D))
  | old (xs : List D)
  | cell (n : Nat)
/-- what may change -/
inductive Cell where
  | lst (xs : List D)
  | dk (kvs : List (L2.Key × D))
  | dt (kvs : List (List L2.Key × D))
  | ins (c : Str) (fs : List (Str × D))
  | dead
abbrev Mem := List Cell
structure Xc where
  cls : Str
  fs : List (Str × D)
abbrev Lo := List (Option D)
abbrev DK := D → Mem → Prop
abbrev EK := Xc → Mem → Prop
abbrev RD := Lo → Mem → DK → EK → Prop
abbrev RA := Lo → Mem → (List D → Mem → Prop) → EK → Prop
abbrev RT := Lo → Mem → (Bool → Mem → Prop) → EK → Prop
structure Go where
  nx : Lo → Mem → Prop
  rt : DK
  ex : Xc → Lo → Mem → Prop
abbrev SD := Lo → Mem → Go → Prop
abbrev FnC := List D → Mem → DK → EK → Prop
abbrev GD := D → Lo → Mem → (Lo → Mem → Prop) → Prop

def Lo.at : Lo → Nat → Option D
  | [], _ => none
  | x :: _, 0 => x
  | _ :: r, n + 1 => Lo.at r n
def Lo.put : Lo → Nat → D → Lo
  | [], _, _ => []
  | _ :: r, 0, d => some d :: r
  | x :: r, n + 1, d => x :: Lo.put r n d
def Lo.del : Lo → Nat → Lo
  | [], _ => []
  | _ :: r, 0 => none :: r
  | x :: r, n + 1 => x :: Lo.del r n
def Lo.wipe (e : Lo) : List Nat → Lo
  | [] => e
  | v :: vs => (Lo.wipe e vs).del v

/-! ### data as PyData -/
def allO {α β : Type} (f : α → Option β) : List α → Option (List β)
  | [] => some []
  | x :: xs => match f x, allO f xs with
    | some a, some b => some (a :: b)
    | _, _ => none
def D.pyN (m : Mem) : Nat → D → Option PyData
  | _, .non => some .none
  | _, .bl b => some (.bool b)
  | _, .int i => some (.int i)
  | _, .str s => some (.str s)
  | k + 1, .tup xs => (allO (D.pyN m k) xs).map .tuple
  | k + 1, .lst xs => (allO (D.pyN m k) xs).map .list
  | k + 1, .old xs => (allO (D.pyN m k) xs).map .list
  | k + 1, .cell n => match m[n]? with
    | some (.lst xs) => (allO (D.pyN m k) xs).map .list
    | _ => none
  | _, _ => none
/-- the datum as a tree -/
def D.py (m : Mem) (d : D) : Option PyData := d.pyN m 20

/-- a list's items -/
def D.items (m : Mem) : D → Option (List D)
  | .lst xs => some xs
  | .old xs => some xs
  | .cell n => match m[n]? with
    | some (.lst xs) => some xs
    | _ => none
  | _ => none
/-- .. of one that is no foreign one -/
def D.items0 (m : Mem) : D → Option (List D)
  | .lst xs => some xs
  | .cell n => match m[n]? with
    | some (.lst xs) => some xs
    | _ => none
  | _ => none
/-- a list's or a tuple's items -/
def D.seq (m : Mem) : D → Option (List D)
  | .tup xs => some xs
  | d => d.items m

/-! ### expressions -/
abbrev Op1 := Mem → D → (D → Prop) → Prop
abbrev Op2 := Mem → D → D → (D → Prop) → Prop
abbrev OpN := Mem → List D → (D → Prop) → Prop
def rVar (i : Nat) : RD := fun e m K _ => match e.at i with
  | some d => K d m
  | none => False
def rC (d : D) : RD := fun _ m K _ => K d m
def rOp1 (o : Op1) (a : RD) : RD := fun e m K E => a e m (fun x m => o m x fun z => K z m) E
def rOp2 (o : Op2) (a b : RD) : RD := fun e m K E => a e m (fun x m => b e m (fun y m => o m x y fun z => K z m) E) E
def raNil : RA := fun _ m K _ => K [] m
def raCons (a : RD) (r : RA) : RA := fun e m K E => a e m (fun x m => r e m (fun xs m => K (x :: xs) m) E) E
def rOpN (o : OpN) (a : RA) : RD := fun e m K E => a e m (fun xs m => o m xs fun z => K z m) E
def rTup (a : RA) : RD := fun e m K E => a e m (fun xs m => K (.tup xs) m) E
def rLst (a : RA) : RD := fun e m K E => a e m (fun xs m => K (.lst xs) m) E
/-- a new list, a cell -/
def rLstN (a : RA) : RD := fun e m K E => a e m (fun xs m => K (.cell m.length) (m ++ [.lst xs])) E
/-- what makes a new list's items -/
abbrev OpF := Mem → List D → (List D → Prop) → Prop
def rF (o : OpF) (a : RA) : RD := fun e m K E => a e m (fun xs m => o m xs fun ys => K (.lst ys) m) E
def rFN (o : OpF) (a : RA) : RD := fun e m K E => a e m (fun xs m => o m xs fun ys => K (.cell m.length) (m ++ [.lst ys])) E
def rDict : RD := fun _ m K _ => K (.cell m.length) (m ++ [.dk []])
def rDictT : RD := fun _ m K _ => K (.cell m.length) (m ++ [.dt []])
def rIf (c : RT) (a b : RD) : RD := fun e m K E => c e m (fun k m => if k = true then a e m K E else b e m K E) E
def rCall (c : FnC) (a : RA) : RD := fun e m K E => a e m (fun xs m => c xs m K E) E
inductive Src where
  | p (i : Nat) | k (i : Nat) | d (v : D)
def Src.get (ps ks : List D) : Src → Option D
  | .p i => ps[i]?
  | .k i => ks[i]?
  | .d v => some v
def srcs (ps ks : List D) : List Src → Option (List D)
  | [] => some []
  | s :: r => match s.get ps ks, srcs ps ks r with
    | some a, some b => some (a :: b)
    | _, _ => none
def rCallK (c : FnC) (ss : List Src) (a k : RA) : RD := fun e m K E => a e m (fun xs m => k e m (fun ks m => ∃ vs, srcs xs ks ss = some vs ∧ c vs m K E) E) E
def rMeth (c : FnC) (o : RD) (a : RA) : RD := fun e m K E => o e m (fun x m => a e m (fun xs m => c (x :: xs) m K E) E) E

/-! ### tests -/
def rtB (a : RD) : RT := fun e m K E => a e m (fun x m => match x with
  | .bl b => K b m
  | _ => False) E
def rtAnd (a b : RT) : RT := fun e m K E => a e m (fun k m => if k = true then b e m K E else K false m) E
def rtOr (a b : RT) : RT := fun e m K E => a e m (fun k m => if k = true then K true m else b e m K E) E
def rtNot (a : RT) : RT := fun e m K E => a e m (fun k m => K (!k) m) E
def rAnd (a b : RD) : RD := fun e m K E => a e m (fun x m => match x with
  | .bl c => if c = true then b e m K E else K (.bl false) m
  | _ => False) E
def rOr (a b : RD) : RD := fun e m K E => a e m (fun x m => match x with
  | .bl c => if c = true then K (.bl true) m else b e m K E
  | _ => False) E
def rNot (a : RD) : RD := fun e m K E => a e m (fun x m => match x with
  | .bl c => K (.bl (!c)) m
  | _ => False) E

/-! ### what is walked -/
/-- the items, and what must stay true of the cells while they are walked -/
abbrev RI := Lo → Mem → ((Mem → Prop) → List D → Mem → Prop) → EK → Prop
def riSeq (a : RD) : RI := fun e m K E => a e m (fun x m => ∃ xs, x.seq m = some xs ∧ K (fun m => x.seq m = some xs) xs m) E
def upto (lo : Int) : Nat → List D
  | 0 => []
  | n + 1 => .int lo :: upto (lo + 1) n
def wide62 : Int := 4611686018427387904
def riRange1 (a : RD) : RI := fun e m K E => a e m (fun x m => match x with
  | .int j => (-wide62 ≤ j ∧ j < wide62) ∧ K (fun _ => True) (upto 0 j.toNat) m
  | _ => False) E
def riRange2 (a b : RD) : RI := fun e m K E => a e m (fun x m => b e m (fun y m => match x, y with
  | .int i, .int j => (-wide62 ≤ i ∧ i < wide62 ∧ -wide62 ≤ j ∧ j < wide62) ∧ K (fun _ => True) (upto i (j - i).toNat) m
  | _, _ => False) E) E

/-! ### targets -/
def gName (i : Nat) : GD := fun d e m K => K (e.put i d) m
abbrev GDs := List D → Lo → Mem → (Lo → Mem → Prop) → Prop
def gsNil : GDs := fun ds e m K => match ds with
  | [] => K e m
  | _ :: _ => False
def gsCons (g : GD) (r : GDs) : GDs := fun ds e m K => match ds with
  | [] => False
  | d :: ds => g d e m fun e m => r ds e m K
/-- a tuple's places -/
def gTup (n : Nat) (r : GDs) : GD := fun d e m K => match d with
  | .tup xs => xs.length = n ∧ r xs e m K
  | _ => False

/-! ### comprehensions -/
def compL (chk : Mem → Prop) (g : GD) (t : RT) (a : RD) (vs : List Nat) : List D → List D → Lo → Mem → (List D → Mem → Prop) → EK → Prop
  | [], acc, _, m, K, _ => chk m ∧ K acc m
  | x :: xs, acc, e, m, K, E => chk m ∧ g x (e.wipe vs) m fun e' m => t e' m (fun b m => if b = true then a e' m (fun y m => acc.length < 100000 ∧ compL chk g t a vs xs (acc ++ [y]) e m K E) E else compL chk g t a vs xs acc e m K E) E
def rtYes : RT := fun _ m K _ => K true m
def rComp (i : RI) (g : GD) (t : RT) (a : RD) (vs : List Nat) : RD := fun e m K E => i e m (fun chk xs m => compL chk g t a vs xs [] e m (fun ys m => K (.lst ys) m) fun _ _ => False) E
def rCompN (i : RI) (g : GD) (t : RT) (a : RD) (vs : List Nat) : RD := fun e m K E => i e m (fun chk xs m => compL chk g t a vs xs [] e m (fun ys m => K (.cell m.length) (m ++ [.lst ys])) fun _ _ => False) E

/-! ### statements -/
def sSkip : SD := fun e m K => K.nx e m
def sSeq (a b : SD) : SD := fun e m K => a e m { K with nx := fun e m => b e m K }
def sDrop (a : RD) : SD := fun e m K => a e m (fun _ m => K.nx e m) (fun x m => K.ex x e m)
def sAsg (a : RD) (g : GD) : SD := fun e m K => a e m (fun d m => g d e m K.nx) (fun x m => K.ex x e m)
def sPar (i j : Nat) (a b : RD) : SD := fun e m K => a e m (fun x m => b e m (fun y m => K.nx ((e.put i x).put j y) m) (fun x m => K.ex x e m)) (fun x m => K.ex x e m)
def sAug (i : Nat) (o : Op2) (a : RD) : SD := fun e m K => match e.at i with
  | some x => a e m (fun y m => o m x y fun z => K.nx (e.put i z) m) (fun x m => K.ex x e m)
  | none => False
def sRet (a : RD) : SD := fun e m K => a e m K.rt (fun x m => K.ex x e m)
def sRetN : SD := fun _ m K => K.rt .non m
def sIf (c : RT) (a b : SD) : SD := fun e m K => c e m (fun k m => if k = true then a e m K else b e m K) (fun x m => K.ex x e m)
def sNever : SD := fun _ _ _ => False
def whileN (c : RT) (b : SD) : Nat → SD
  | 0, _, _, _ => False
  | n + 1, e, m, K => c e m (fun k m => if k = true then b e m { K with nx := fun e m => whileN c b n e m K } else K.nx e m) (fun x m => K.ex x e m)
def sWhile (c : RT) (b : SD) : SD := fun e m K => ∃ n, whileN c b n e m K
def forL (chk : Mem → Prop) (g : GD) (b : SD) : List D → SD
  | [], e, m, K => chk m ∧ K.nx e m
  | x :: xs, e, m, K => chk m ∧ g x e m fun e m => b e m { K with nx := fun e m => forL chk g b xs e m K }
def sFor (i : RI) (g : GD) (b : SD) : SD := fun e m K => i e m (fun chk xs m => forL chk g b xs e m K) (fun x m => K.ex x e m)


/-! ### operators -/
def MulOk (i j : Int) : Prop := L2.CMul i j ∨ L2.CMulW i j
def DivOk (i j : Int) : Prop := L2.CDivN i j ∨ L2.CDivW i j
def textLine : Nat := 1000000
def oAdd : Op2 := fun _ x y K => match x, y with
  | .int i, .int j => K (.int (i + j))
  | .str a, .str b => a.length + b.length ≤ textLine ∧ K (.str (a ++ b))
  | .tup a, .tup b => a.length + b.length ≤ 100000 ∧ K (.tup (a ++ b))
  | _, _ => False
def oSub : Op2 := fun _ x y K => match x, y with
  | .int i, .int j => K (.int (i - j))
  | _, _ => False
def oMul : Op2 := fun _ x y K => match x, y with
  | .int i, .int j => MulOk i j ∧ K (.int (i * j))
  | _, _ => False
def oDiv : Op2 := fun _ x y K => match x, y with
  | .int i, .int j => DivOk i j ∧ K (.int (i.fdiv j))
  | _, _ => False
def oMod : Op2 := fun _ x y K => match x, y with
  | .int i, .int j => j ≠ 0 ∧ K (.int (i.fmod j))
  | _, _ => False
def oPow : Op2 := fun _ x y K => match x, y with
  | .int i, .int j => (0 ≤ j ∧ j ≤ 1000000 ∧ i.natAbs < 2 ^ 64) ∧ K (.int (i ^ j.toNat))
  | _, _ => False
def oNeg : Op1 := fun _ x K => match x with
  | .int i => K (.int (-i))
  | _ => False
def oLt : Op2 := fun _ x y K => match x, y with
  | .int i, .int j => K (.bl (decide (i < j)))
  | _, _ => False
def oLe : Op2 := fun _ x y K => match x, y with
  | .int i, .int j => K (.bl (decide (i ≤ j)))
  | _, _ => False
def oGt : Op2 := fun _ x y K => match x, y with
  | .int i, .int j => K (.bl (decide (j < i)))
  | _, _ => False
def oGe : Op2 := fun _ x y K => match x, y with
  | .int i, .int j => K (.bl (decide (j ≤ i)))
  | _, _ => False
/-- == of data -/
def eqK (m : Mem) (x y : D) (K : Bool → Prop) : Prop := match x, y with
  | .int i, .int j => K (decide (i = j))
  | .str a, .str b => K (decide (a = b))
  | .bl a, .bl b => K (decide (a = b))
  | x, y => ∃ p q, x.py m = some p ∧ y.py m = some q ∧ p.canLay0 = true ∧ q.canLay0 = true ∧ K (PyData.eqv p q)
def oEq : Op2 := fun m x y K => eqK m x y fun b => K (.bl b)
def oNe : Op2 := fun m x y K => eqK m x y fun b => K (.bl (!b))
def oIsN : Op2 := fun _ x y K => match y with
  | .non => (match x with
    | .non => K (.bl true)
    | _ => K (.bl false))
  | _ => False
def oNotN : Op2 := fun _ x y K => match y with
  | .non => (match x with
    | .non => K (.bl false)
    | _ => K (.bl true))
  | _ => False
/-- xs[i] -/
def oIx : Op2 := fun m x y K => match x with
  | .str z => ∃ i c, y = .int i ∧ z.length ≤ textLine ∧ L2.atI z.cps.toList i = some c ∧ K (.str ⟨#[c]⟩)
  | x => ∃ xs i v, x.seq m = some xs ∧ y = .int i ∧ L2.atI xs i = some v ∧ K v
/-- a slice's ends -/
def sIx (n d : Nat) (i : Option Int) : Nat := HT.sIx n d i
def cutD {α : Type} (xs : List α) (lo hi : Option Int) : List α := (xs.drop (HT.sIx xs.length 0 lo)).take (HT.sIx xs.length xs.length hi - HT.sIx xs.length 0 lo)
abbrev RO := Lo → Mem → (Option Int → Mem → Prop) → EK → Prop
def roNone : RO := fun _ m K _ => K none m
def roSome (a : RD) : RO := fun e m K E => a e m (fun x m => match x with
  | .int i => K (some i) m
  | _ => False) E
/-- x[lo:hi]: a tuple's, a text's -/
def rSlice (a : RD) (lo hi : RO) : RD := fun e m K E => a e m (fun x m => lo e m (fun l m => hi e m (fun u m => match x with
  | .tup xs => K (.tup (cutD xs l u)) m
  | .str z => z.length ≤ textLine ∧ K (.str (L2.cutS z l u)) m
  | x => ∃ xs, x.items m = some xs ∧ K (.lst (cutD xs l u)) m) E) E) E
def rSliceN (a : RD) (lo hi : RO) : RD := fun e m K E => a e m (fun x m => lo e m (fun l m => hi e m (fun u m => ∃ xs, x.items m = some xs ∧ K (.cell m.length) (m ++ [.lst (cutD xs l u)])) E) E) E
/-- x[::-1], a list's -/
def oRev : OpF := fun m xs K => ∃ x ys, xs = [x] ∧ x.items m = some ys ∧ K ys.reverse
/-- xs + ys, lists -/
def oCat : OpF := fun m xs K => ∃ x y a b, xs = [x, y] ∧ x.items0 m = some a ∧ y.items0 m = some b ∧ a.length + b.length ≤ 100000 ∧ K (a ++ b)
/-- xs * n -/
def oRep : OpF := fun m xs K => ∃ x a n, xs = [x, .int n] ∧ x.items0 m = some a ∧ (-1000000 ≤ n ∧ n ≤ 1000000) ∧ a.length * n.toNat ≤ 100000 ∧ K (List.replicate n.toNat a).flatten

/-! ### built-ins -/
def oLen : OpN := fun m xs K => ∃ x, xs = [x] ∧ (match x with
  | .str z => z.length ≤ textLine ∧ K (.int z.length)
  | x => ∃ ys, x.seq m = some ys ∧ K (.int ys.length))
def oAbs : OpN := fun _ xs K => ∃ i, xs = [.int i] ∧ K (.int (if i < 0 then -i else i))
def oMax2 : OpN := fun _ xs K => ∃ i j, xs = [.int i, .int j] ∧ K (.int (if j > i then j else i))
def oMin2 : OpN := fun _ xs K => ∃ i j, xs = [.int i, .int j] ∧ K (.int (if j < i then j else i))
def intsD : List D → Option (List Int)
  | [] => some []
  | .int i :: r => (intsD r).map (i :: ·)
  | _ :: _ => none
def blsD : List D → Option (List Bool)
  | [] => some []
  | .bl i :: r => (blsD r).map (i :: ·)
  | _ :: _ => none
def oSum : OpN := fun m xs K => ∃ x ys ns, xs = [x] ∧ x.items m = some ys ∧ intsD ys = some ns ∧ K (.int ns.sum)
def oAll : OpN := fun m xs K => ∃ x ys bs, xs = [x] ∧ x.items m = some ys ∧ blsD ys = some bs ∧ K (.bl (bs.all id))
def oAny : OpN := fun m xs K => ∃ x ys bs, xs = [x] ∧ x.items m = some ys ∧ blsD ys = some bs ∧ K (.bl (bs.any id))
def oInt : OpN := fun _ xs K => ∃ x, xs = [x] ∧ (match x with
  | .int i => K (.int i)
  | .bl b => K (.int (if b then 1 else 0))
  | _ => False)
def oTuple : OpN := fun m xs K => ∃ x ys, xs = [x] ∧ x.seq m = some ys ∧ K (.tup ys)
def oList : OpF := fun m xs K => ∃ x ys, xs = [x] ∧ x.seq m = some ys ∧ K ys
/-- repr -/
def oRepr : OpN := fun m xs K => ∃ x p, xs = [x] ∧ x.py m = some p ∧ p.showable = true ∧ p.shown.length ≤ textLine ∧ K (.str p.shown)

/-! ### cells changed -/
abbrev OpM := Mem → D → List D → (D → Mem → Prop) → Prop
def rMtd (ty : Mem → D → Prop) (o : OpM) (a : RD) (as : RA) : RD := fun e m K E => a e m (fun x m => ty m x ∧ as e m (fun xs m => o m x xs K) E) E
def tyL : Mem → D → Prop := fun m x => ∃ xs, x.items m = some xs
def oAppend : OpM := fun m x ys K => ∃ n xs y, x = .cell n ∧ ys = [y] ∧ m[n]? = some (.lst xs) ∧ xs.length < 100000 ∧ K .non (m.set n (.lst (xs ++ [y])))
def oPop : OpM := fun m x ys K => ∃ n xs y, x = .cell n ∧ ys = [] ∧ m[n]? = some (.lst xs) ∧ xs[xs.length - 1]? = some y ∧ K y (m.set n (.lst xs.dropLast))
/-- o[i] = a, o a list -/
def sSetItem (o i a : RD) : SD := fun e m K => a e m (fun d m => o e m (fun x m => i e m (fun y m => ∃ n xs k j, x = .cell n ∧ y = .int k ∧ m[n]? = some (.lst xs) ∧ L2.ixN xs.length k = some j ∧ K.nx e (m.set n (.lst (xs.set j d)))) (fun x m => K.ex x e m)) (fun x m => K.ex x e m)) (fun x m => K.ex x e m)

/-! ### dicts -/
def D.key : D → Option L2.Key
  | .int i => some (.inl i)
  | .str s => some (.inr s)
  | _ => none
def keysD : List D → Option (List L2.Key)
  | [] => some []
  | d :: r => match d.key, keysD r with
    | some a, some b => some (a :: b)
    | _, _ => none
section
variable {κ : Type} [DecidableEq κ]
def valD (kvs : List (κ × D)) (k : κ) : Option D := (kvs.find? fun kv => decide (kv.1 = k)).map (·.2)
def putD (kvs : List (κ × D)) (k : κ) (v : D) : List (κ × D) :=
  if (kvs.any fun kv => decide (kv.1 = k)) = true then kvs.map (fun kv => if kv.1 = k then (kv.1, v) else kv) else kvs ++ [(k, v)]
end
/-- what the dict x holds at y (keys: ints and texts) -/
def getD (m : Mem) (x y : D) (r : Option D) : Prop := ∃ n kvs k, x = .cell n ∧ m[n]? = some (.dk kvs) ∧ y.key = some k ∧ r = valD kvs k
def setD (m : Mem) (x y v : D) (m' : Mem) : Prop := ∃ n kvs k, x = .cell n ∧ m[n]? = some (.dk kvs) ∧ y.key = some k ∧ kvs.length < 100000 ∧ m' = m.set n (.dk (putD kvs k v))
def rDGet (a b : RD) : RD := fun e m K E => a e m (fun x m => b e m (fun y m => ∃ v, getD m x y (some v) ∧ K v m) E) E
def rDIn (b a : RD) : RD := fun e m K E => b e m (fun y m => a e m (fun x m => ∃ r, getD m x y r ∧ K (.bl r.isSome) m) E) E
def rDNotIn (b a : RD) : RD := fun e m K E => b e m (fun y m => a e m (fun x m => ∃ r, getD m x y r ∧ K (.bl (!r.isSome)) m) E) E
def sDPut (o i a : RD) : SD := fun e m K => a e m (fun d m => o e m (fun x m => i e m (fun y m => ∃ m', setD m x y d m' ∧ K.nx e m') (fun x m => K.ex x e m)) (fun x m => K.ex x e m)) (fun x m => K.ex x e m)

/-! ### what is left of the cells when a def is left -/
/-- cells from n0 on are let go: what they hold stays as it is -/
def D.frz (m : Mem) (n0 : Nat) : Nat → D → Option D
  | _, .non => some .non
  | _, .bl b => some (.bl b)
  | _, .int i => some (.int i)
  | _, .str s => some (.str s)
  | k + 1, .tup xs => (allO (D.frz m n0 k) xs).map .tup
  | k + 1, .lst xs => (allO (D.frz m n0 k) xs).map .lst
  | k + 1, .old xs => (allO (D.frz m n0 k) xs).map .old
  | k + 1, .ins c fs => (allO (fun p => (D.frz m n0 k p.2).map fun d => (p.1, d)) fs).map (.ins c)
  | k + 1, .cell n => if n < n0 then some (.cell n) else match m[n]? with
    | some (.lst xs) => (allO (D.frz m n0 k) xs).map .lst
    | some (.ins c fs) => (allO (fun p => (D.frz m n0 k p.2).map fun d => (p.1, d)) fs).map (.ins c)
    | _ => none
  | _, _ => none
def Cell.frz (m : Mem) (n0 : Nat) : Cell → Option Cell
  | .lst xs => (allO (D.frz m n0 20) xs).map .lst
  | .dk kvs => (allO (fun p => (D.frz m n0 20 p.2).map fun d => (p.1, d)) kvs).map .dk
  | .dt kvs => (allO (fun p => (D.frz m n0 20 p.2).map fun d => (p.1, d)) kvs).map .dt
  | .ins c fs => (allO (fun p => (D.frz m n0 20 p.2).map fun d => (p.1, d)) fs).map (.ins c)
  | .dead => some .dead
/-- m ahead of the call, m1 where it is left -/
structure Leave (m m1 m2 : Mem) : Prop where
  len : m2.length = m.length
  at_ : ∀ i, i < m.length → (m1[i]? = m[i]? ∧ m2[i]? = m[i]?) ∨ ∃ c c', m1[i]? = some c ∧ c.frz m1 m.length = some c' ∧ m2[i]? = some c'
/-- a def's end, as its caller has it -/
def outK (m : Mem) (K : DK) : DK := fun d m1 => K d m1 ∨ ∃ d' m2, d.frz m1 m.length 20 = some d' ∧ Leave m m1 m2 ∧ K d' m2
def outE (m : Mem) (E : EK) : EK := fun x m1 => E x m1 ∨ ∃ fs m2, allO (fun p => (D.frz m1 m.length 20 p.2).map fun d => (p.1, d)) x.fs = some fs ∧ Leave m m1 m2 ∧ E ⟨x.cls, fs⟩ m2
def Lo.start (N : Nat) (ds : List D) : Lo := ds.map some ++ List.replicate (N - ds.length) none
/-- a def's body, from its parameters on -/
def Runs (N : Nat) (B : SD) (c : FnC) : Prop := ∀ ds m K E, c ds m K E → B (Lo.start N ds) m ⟨fun _ m1 => outK m K .non m1, outK m K, fun x _ m1 => outE m E x m1⟩
end PL

/-! PyB: how data and cells stand in the abstract heap; what a reading of PyA means for the machine's code. -/
namespace PL
open PySem PySem.Spec PyProof.Rows L2

/-- what never changes, the cells' addresses, and what is let alone for a while -/
structure Phi where
  F : Hp
  c : List Addr
  g : Hp
def grows (F G : Hp) : Prop := ∀ a o, F a = some o → G a = some o
theorem grows.refl (F : Hp) : grows F F := fun _ _ h => h
theorem grows.trans {F G H : Hp} (a : grows F G) (b : grows G H) : grows F H := fun x o h => b x o (a x o h)
theorem grows.new {F : Hp} {p : Addr} {o : HO} (h : F p = none) : grows F (upd F p o) := fun a u e => by
  rw [upd_ne (ne_of_none e h)]; exact e
structure Phi.le (a b : Phi) : Prop where
  f : grows a.F b.F
  c : a.c <+: b.c
  g : a.g = b.g
theorem Phi.le.refl (a : Phi) : a.le a := ⟨grows.refl _, List.prefix_refl _, rfl⟩
theorem Phi.le.trans {a b d : Phi} (x : a.le b) (y : b.le d) : a.le d := ⟨x.f.trans y.f, x.c.trans y.c, x.g.trans y.g⟩
/-- le, but for what is let alone -/
structure Phi.f1 (a b : Phi) : Prop where
  f : grows a.F b.F
  c : a.c <+: b.c
theorem Phi.le.to1 {a b : Phi} (x : a.le b) : a.f1 b := ⟨x.f, x.c⟩
theorem Phi.f1.refl (a : Phi) : a.f1 a := ⟨grows.refl _, List.prefix_refl _⟩
theorem Phi.f1.trans {a b d : Phi} (x : a.f1 b) (y : b.f1 d) : a.f1 d := ⟨x.f.trans y.f, x.c.trans y.c⟩
theorem Phi.f1.at {a b : Phi} (x : a.f1 b) {n : Nat} {p : Addr} (h : a.c[n]? = some p) : b.c[n]? = some p := by
  obtain ⟨t, e⟩ := x.c
  rw [← e, List.getElem?_append_left (List.getElem?_eq_some_iff.mp h).1]; exact h
theorem Phi.le.at {a b : Phi} (x : a.le b) {n : Nat} {p : Addr} (h : a.c[n]? = some p) : b.c[n]? = some p := by
  obtain ⟨t, e⟩ := x.c
  rw [← e, List.getElem?_append_left (List.getElem?_eq_some_iff.mp h).1]; exact h

theorem rd_grows {F G : Hp} {a : Addr} {u : HO} (g : grows F G) (h : Rd F a u) : Rd G a u := by
  rcases h with h | ⟨o, h⟩
  · exact .inl (g _ _ h)
  · exact .inr ⟨o, g _ _ h⟩
theorem sql_grows {K : PySem.W.Frag} {F G : Hp} {a : Addr} {xs : List V} (g : grows F G) (h : SqL K F a xs) : SqL K G a xs := h.imp (rd_grows g) id
theorem sqt_grows {K : PySem.W.Frag} {F G : Hp} {a : Addr} {xs : List V} (g : grows F G) (h : SqT K F a xs) : SqT K G a xs := h.imp (rd_grows g) id

section
variable (K : PySem.W.Frag) (mg : Str → Option Value) (F : Hp) (cs : List Addr)
mutual
inductive Rep0 : D → V → Prop
  | non : Rep0 .non .non
  | bl (b : Bool) : Rep0 (.bl b) (.bl b)
  | int (i : Int) : Rep0 (.int i) (.int i)
  | str (x : Str) : Rep0 (.str x) (.str x)
  | tup {ds : List D} {a : Addr} {vs : List V} : SqT K F a vs → Reps0 ds vs → Rep0 (.tup ds) (.ref a)
  | lst {ds : List D} {a : Addr} {vs : List V} : F a = some (.lst vs) → Reps0 ds vs → Rep0 (.lst ds) (.ref a)
  | old {ds : List D} {a : Addr} {vs : List V} : SqL K F a vs → Reps0 ds vs → Rep0 (.old ds) (.ref a)
  | ins {c : Str} {fs : List (Str × D)} {a C dx : Addr} {fvs : List (Str × V)} : mg c = some (.ref C) → F a = some (.ins C dx fvs) → RepF0 fs fvs → Rep0 (.ins c fs) (.ref a)
  | cell {n : Nat} {a : Addr} : cs[n]? = some a → Rep0 (.cell n) (.ref a)
inductive Reps0 : List D → List V → Prop
  | nil : Reps0 [] []
  | cons {d : D} {v : V} {ds : List D} {vs : List V} : Rep0 d v → Reps0 ds vs → Reps0 (d :: ds) (v :: vs)
inductive RepF0 : List (Str × D) → List (Str × V) → Prop
  | nil : RepF0 [] []
  | cons {x : Str} {d : D} {v : V} {ds : List (Str × D)} {vs : List (Str × V)} : Rep0 d v → RepF0 ds vs → RepF0 ((x, d) :: ds) ((x, v) :: vs)
end
end
abbrev Rep (K : PySem.W.Frag) (mg : Str → Option Value) (Φ : Phi) : D → V → Prop := Rep0 K mg Φ.F Φ.c
abbrev Reps (K : PySem.W.Frag) (mg : Str → Option Value) (Φ : Phi) : List D → List V → Prop := Reps0 K mg Φ.F Φ.c
abbrev RepF (K : PySem.W.Frag) (mg : Str → Option Value) (Φ : Phi) : List (Str × D) → List (Str × V) → Prop := RepF0 K mg Φ.F Φ.c
section
variable {K : PySem.W.Frag} {mg : Str → Option Value} {Φ Φ' : Phi}
mutual
theorem Rep0.mono1 (l : Φ.f1 Φ') : ∀ {d : D} {v : V}, Rep K mg Φ d v → Rep K mg Φ' d v
  | _, _, .non => .non
  | _, _, .bl b => .bl b
  | _, _, .int i => .int i
  | _, _, .str x => .str x
  | _, _, .tup h r => .tup (sqt_grows l.f h) (Reps0.mono1 l r)
  | _, _, .lst h r => .lst (l.f _ _ h) (Reps0.mono1 l r)
  | _, _, .old h r => .old (sql_grows l.f h) (Reps0.mono1 l r)
  | _, _, .ins h1 h2 r => .ins h1 (l.f _ _ h2) (RepF0.mono1 l r)
  | _, _, .cell h => .cell (l.at h)
theorem Reps0.mono1 (l : Φ.f1 Φ') : ∀ {d : List D} {v : List V}, Reps K mg Φ d v → Reps K mg Φ' d v
  | _, _, .nil => .nil
  | _, _, .cons h r => .cons (Rep0.mono1 l h) (Reps0.mono1 l r)
theorem RepF0.mono1 (l : Φ.f1 Φ') : ∀ {d : List (Str × D)} {v : List (Str × V)}, RepF K mg Φ d v → RepF K mg Φ' d v
  | _, _, .nil => .nil
  | _, _, .cons h r => .cons (Rep0.mono1 l h) (RepF0.mono1 l r)
end
theorem Rep0.mono (l : Φ.le Φ') {d : D} {v : V} (h : Rep K mg Φ d v) : Rep K mg Φ' d v := Rep0.mono1 l.to1 h
theorem Reps0.mono (l : Φ.le Φ') {d : List D} {v : List V} (h : Reps K mg Φ d v) : Reps K mg Φ' d v := Reps0.mono1 l.to1 h
theorem RepF0.mono (l : Φ.le Φ') {d : List (Str × D)} {v : List (Str × V)} (h : RepF K mg Φ d v) : RepF K mg Φ' d v := RepF0.mono1 l.to1 h
theorem Reps0.length : ∀ {d : List D} {v : List V}, Reps K mg Φ d v → d.length = v.length
  | _, _, .nil => rfl
  | _, _, .cons _ r => congrArg Nat.succ (Reps0.length r)
theorem Reps0.get : ∀ {d : List D} {v : List V} {i : Nat} {x : D}, Reps K mg Φ d v → d[i]? = some x → ∃ u, v[i]? = some u ∧ Rep K mg Φ x u
  | _, _, _, _, .nil, e => by simp at e
  | _, _, 0, x, .cons h _, e => by
    simp at e; subst e; exact ⟨_, rfl, h⟩
  | _, _, i + 1, x, .cons _ r, e => by
    obtain ⟨u, h1, h2⟩ := Reps0.get (i := i) (x := x) r (by simpa using e)
    exact ⟨u, by simpa using h1, h2⟩
theorem Reps0.getV : ∀ {d : List D} {v : List V} {i : Nat} {u : V}, Reps K mg Φ d v → v[i]? = some u → ∃ x, d[i]? = some x ∧ Rep K mg Φ x u
  | _, _, _, _, .nil, e => by simp at e
  | _, _, 0, x, .cons h _, e => by
    simp at e; subst e; exact ⟨_, rfl, h⟩
  | _, _, i + 1, x, .cons _ r, e => by
    obtain ⟨u, h1, h2⟩ := Reps0.getV (i := i) (u := x) r (by simpa using e)
    exact ⟨u, by simpa using h1, h2⟩
theorem Reps0.append : ∀ {d : List D} {v : List V} {d' : List D} {v' : List V}, Reps K mg Φ d v → Reps K mg Φ d' v' → Reps K mg Φ (d ++ d') (v ++ v')
  | _, _, _, _, .nil, s => s
  | _, _, _, _, .cons h r, s => .cons h (Reps0.append r s)
theorem Reps0.set : ∀ {d : List D} {v : List V} {x : D} {u : V} (i : Nat), Reps K mg Φ d v → Rep K mg Φ x u → Reps K mg Φ (d.set i x) (v.set i u)
  | _, _, _, _, _, .nil, _ => .nil
  | _, _, _, _, 0, .cons _ r, s => .cons s r
  | _, _, _, _, i + 1, .cons h r, s => .cons h (Reps0.set i r s)
theorem Reps0.take : ∀ {d : List D} {v : List V} (n : Nat), Reps K mg Φ d v → Reps K mg Φ (d.take n) (v.take n)
  | _, _, 0, _ => by simpa using Reps0.nil
  | _, _, n + 1, .nil => .nil
  | _, _, n + 1, .cons h r => .cons h (Reps0.take n r)
theorem Reps0.drop : ∀ {d : List D} {v : List V} (n : Nat), Reps K mg Φ d v → Reps K mg Φ (d.drop n) (v.drop n)
  | _, _, 0, r => by simpa using r
  | _, _, n + 1, .nil => .nil
  | _, _, n + 1, .cons _ r => Reps0.drop n r
theorem Reps0.reverse : ∀ {d : List D} {v : List V}, Reps K mg Φ d v → Reps K mg Φ d.reverse v.reverse
  | _, _, .nil => .nil
  | _, _, .cons h r => by
    rw [List.reverse_cons, List.reverse_cons]; exact (Reps0.reverse r).append (.cons h .nil)
theorem Reps0.dropLast {d : List D} {v : List V} (r : Reps K mg Φ d v) : Reps K mg Φ d.dropLast v.dropLast := by
  rw [List.dropLast_eq_take, List.dropLast_eq_take, r.length]; exact r.take _
theorem Reps0.replicate {x : D} {u : V} (h : Rep K mg Φ x u) : ∀ n : Nat, Reps K mg Φ (List.replicate n x) (List.replicate n u)
  | 0 => .nil
  | n + 1 => .cons h (Reps0.replicate h n)
end

/-- two lists alike, place by place, keys the same -/
def RepK {κ : Type} (K : PySem.W.Frag) (mg : Str → Option Value) (Φ : Phi) (a : List (κ × D)) (b : List (κ × V)) : Prop := Paired (fun p q => p.1 = q.1 ∧ Rep K mg Φ p.2 q.2) a b
theorem RepK.mono {κ : Type} {K : PySem.W.Frag} {mg : Str → Option Value} {Φ Φ' : Phi} {a : List (κ × D)} {b : List (κ × V)} (h : RepK K mg Φ a b) (l : Φ.le Φ') : RepK K mg Φ' a b := Paired.mapP h fun _ _ z => ⟨z.1, z.2.mono l⟩
def CellR (K : PySem.W.Frag) (mg : Str → Option Value) (Φ : Phi) (H : Hp) (a : Addr) : Cell → Prop
  | .lst xs => ∃ vs, H a = some (.lst vs) ∧ Reps K mg Φ xs vs
  | .dk kvs => ∃ kws, H a = some (.dK kws) ∧ RepK K mg Φ kvs kws
  | .dt kvs => ∃ kws, H a = some (.dT kws) ∧ RepK K mg Φ kvs kws
  | .ins c fs => ∃ C dx fvs, mg c = some (.ref C) ∧ H a = some (.ins C dx fvs) ∧ RepF K mg Φ fs fvs
  | .dead => True
theorem CellR.mono1 {K : PySem.W.Frag} {mg : Str → Option Value} {Φ Φ' : Phi} {H H' : Hp} {a : Addr} (l : Φ.f1 Φ') (e : H' a = H a) : ∀ {c : Cell}, CellR K mg Φ H a c → CellR K mg Φ' H' a c
  | .lst _, ⟨vs, h, r⟩ => ⟨vs, e.trans h, r.mono1 l⟩
  | .dk _, ⟨vs, h, r⟩ => ⟨vs, e.trans h, Paired.mapP r fun _ _ z => ⟨z.1, z.2.mono1 l⟩⟩
  | .dt _, ⟨vs, h, r⟩ => ⟨vs, e.trans h, Paired.mapP r fun _ _ z => ⟨z.1, z.2.mono1 l⟩⟩
  | .ins _ _, ⟨C, dx, vs, g, h, r⟩ => ⟨C, dx, vs, g, e.trans h, r.mono1 l⟩
  | .dead, _ => trivial
theorem CellR.mono {K : PySem.W.Frag} {mg : Str → Option Value} {Φ Φ' : Phi} {H H' : Hp} {a : Addr} (l : Φ.le Φ') (e : H' a = H a) {c : Cell} (h : CellR K mg Φ H a c) : CellR K mg Φ' H' a c := CellR.mono1 l.to1 e h

/-- the abstract heap holds what never changes, and the cells -/
structure Sim (K : PySem.W.Frag) (mg : Str → Option Value) (Φ : Phi) (m : Mem) (H : Hp) : Prop where
  sub : grows Φ.F H
  len : Φ.c.length = m.length
  nd : Φ.c.Nodup
  out : ∀ a ∈ Φ.c, Φ.F a = none ∧ ∃ o, H a = some o
  gd : ∀ a o, Φ.g a = some o → H a = some o ∧ Φ.F a = none ∧ a ∉ Φ.c
  at_ : ∀ (n : Nat) (x : Cell) (a : Addr), m[n]? = some x → Φ.c[n]? = some a → CellR K mg Φ H a x

/-- locals -/
structure LoR (K : PySem.W.Frag) (mg : Str → Option Value) (Φ : Phi) (e : Lo) (σ : L2.St) : Prop where
  len : e.length = σ.length
  at_ : ∀ (i : Nat) (d : D), e.at i = some d → ∃ v, σ[i]? = some (some v) ∧ Rep K mg Φ d v
theorem LoR.mono {K : PySem.W.Frag} {mg : Str → Option Value} {Φ Φ' : Phi} {e : Lo} {σ : L2.St} (h : LoR K mg Φ e σ) (l : Φ.le Φ') : LoR K mg Φ' e σ :=
  ⟨h.len, fun i d q => let ⟨v, a, b⟩ := h.at_ i d q; ⟨v, a, b.mono l⟩⟩
theorem Lo.put_length : ∀ (e : Lo) (i : Nat) (d : D), (e.put i d).length = e.length
  | [], _, _ => rfl
  | _ :: _, 0, _ => rfl
  | _ :: r, i + 1, d => congrArg Nat.succ (Lo.put_length r i d)
theorem Lo.put_at : ∀ (e : Lo) (i j : Nat) (d x : D), (e.put i d).at j = some x → (i = j ∧ x = d ∧ i < e.length) ∨ (i ≠ j ∧ e.at j = some x)
  | [], _, _, _, _, h => by cases h
  | _ :: _, 0, 0, d, x, h => .inl ⟨rfl, (Option.some.inj h).symm, Nat.succ_pos _⟩
  | _ :: _, 0, j + 1, d, x, h => .inr ⟨by omega, h⟩
  | _ :: _, i + 1, 0, d, x, h => .inr ⟨by omega, h⟩
  | _ :: r, i + 1, j + 1, d, x, h => by
    rcases Lo.put_at r i j d x h with ⟨a, b, c⟩ | ⟨a, b⟩
    · exact .inl ⟨congrArg Nat.succ a, b, Nat.succ_lt_succ c⟩
    · exact .inr ⟨by omega, b⟩
theorem LoR.put {K : PySem.W.Frag} {mg : Str → Option Value} {Φ : Phi} {e : Lo} {σ : L2.St} (h : LoR K mg Φ e σ) (i : Nat) {d : D} {v : V} (r : Rep K mg Φ d v) : LoR K mg Φ (e.put i d) (σ.set i (some v)) := by
  refine ⟨by rw [Lo.put_length, List.length_set]; exact h.len, fun j x q => ?_⟩
  rcases Lo.put_at e i j d x q with ⟨a, b, c⟩ | ⟨a, b⟩
  · subst a b
    exact ⟨v, List.getElem?_set_self (by rw [← h.len]; exact c), r⟩
  · obtain ⟨u, h1, h2⟩ := h.at_ j x b
    exact ⟨u, by rw [List.getElem?_set_ne a]; exact h1, h2⟩
theorem Lo.del_length : ∀ (e : Lo) (i : Nat), (e.del i).length = e.length
  | [], _ => rfl
  | _ :: _, 0 => rfl
  | _ :: r, i + 1 => congrArg Nat.succ (Lo.del_length r i)
theorem Lo.del_at : ∀ (e : Lo) (i j : Nat) (x : D), (e.del i).at j = some x → i ≠ j ∧ e.at j = some x
  | [], _, _, _, h => by cases h
  | _ :: _, 0, 0, x, h => by cases h
  | _ :: _, 0, j + 1, x, h => ⟨by omega, h⟩
  | _ :: _, i + 1, 0, x, h => ⟨by omega, h⟩
  | _ :: r, i + 1, j + 1, x, h => by
    obtain ⟨a, b⟩ := Lo.del_at r i j x h
    exact ⟨by omega, b⟩
theorem LoR.wipe {K : PySem.W.Frag} {mg : Str → Option Value} {Φ : Phi} {e : Lo} {σ : L2.St} (h : LoR K mg Φ e σ) : ∀ vs : List Nat, LoR K mg Φ (e.wipe vs) (L2.wipe σ vs)
  | [] => h
  | v :: vs => by
    have ih := LoR.wipe h vs
    refine ⟨?_, fun j x q => ?_⟩
    · show ((e.wipe vs).del v).length = ((L2.wipe σ vs).set v none).length
      rw [Lo.del_length, List.length_set]; exact ih.len
    · obtain ⟨a, b⟩ := Lo.del_at _ _ _ _ q
      obtain ⟨u, h1, h2⟩ := ih.at_ j x b
      refine ⟨u, ?_, h2⟩
      show ((L2.wipe σ vs).set v none)[j]? = _
      rw [List.getElem?_set_ne a]; exact h1

/-- a raised thing -/
def RepX (K : PySem.W.Frag) (mg : Str → Option Value) (Φ : Phi) (x : Xc) (cls : Value) (d : Option Addr) : Prop :=
  (mg x.cls = some cls ∨ (mg x.cls = none ∧ bootBuiltins x.cls = some cls)) ∧ ((x.fs = [] ∧ d = none) ∨ ∃ dx fvs, d = some dx ∧ Φ.F dx = some (.xd fvs) ∧ RepF K mg Φ x.fs fvs)

/-! ### readings of the machine's code, by those of PyA -/
def LE (K : PySem.W.Frag) (mg : Str → Option Value) (r : RD) (W : WX) : TE := fun σ H Q => ∃ (e : Lo) (m : Mem) (Φ : Phi) (K' : DK) (E' : EK), Sim K mg Φ m H ∧ LoR K mg Φ e σ ∧ r e m K' E' ∧
  (∀ d m' Φ' H' v, K' d m' → Φ.le Φ' → Sim K mg Φ' m' H' → Rep K mg Φ' d v → Q v H') ∧ (∀ x m' Φ' H' cls dd, E' x m' → Φ.le Φ' → Sim K mg Φ' m' H' → RepX K mg Φ' x cls dd → W cls dd σ H')
def LA (K : PySem.W.Frag) (mg : Str → Option Value) (n : Nat) (r : RA) (W : WX) : TA := fun σ H Q => ∃ (e : Lo) (m : Mem) (Φ : Phi) (K' : List D → Mem → Prop) (E' : EK), Sim K mg Φ m H ∧ LoR K mg Φ e σ ∧ r e m K' E' ∧
  (∀ d m' Φ' H' v, K' d m' → Φ.le Φ' → Sim K mg Φ' m' H' → Reps K mg Φ' d v → d.length = n → Q v H') ∧ (∀ x m' Φ' H' cls dd, E' x m' → Φ.le Φ' → Sim K mg Φ' m' H' → RepX K mg Φ' x cls dd → W cls dd σ H')
def LT (K : PySem.W.Frag) (mg : Str → Option Value) (r : RT) (W : WX) : TT := fun σ H Q => ∃ (e : Lo) (m : Mem) (Φ : Phi) (K' : Bool → Mem → Prop) (E' : EK), Sim K mg Φ m H ∧ LoR K mg Φ e σ ∧ r e m K' E' ∧
  (∀ d m' Φ' H', K' d m' → Φ.le Φ' → Sim K mg Φ' m' H' → Q d H') ∧ (∀ x m' Φ' H' cls dd, E' x m' → Φ.le Φ' → Sim K mg Φ' m' H' → RepX K mg Φ' x cls dd → W cls dd σ H')
/-- what is wanted behind a statement, by what its reading wants -/
structure GoOk (K : PySem.W.Frag) (mg : Str → Option Value) (W : WX) (Φ : Phi) (G : Go) (D : Ends) : Prop where
  nx : ∀ e' m' Φ' H' σ', G.nx e' m' → Φ.le Φ' → Sim K mg Φ' m' H' → LoR K mg Φ' e' σ' → D.nx σ' H'
  rt : ∀ d m' Φ' H' v, G.rt d m' → Φ.le Φ' → Sim K mg Φ' m' H' → Rep K mg Φ' d v → D.rt v H'
  ex : ∀ x e' m' Φ' H' σ' cls dd, G.ex x e' m' → Φ.le Φ' → Sim K mg Φ' m' H' → LoR K mg Φ' e' σ' → RepX K mg Φ' x cls dd → W cls dd σ' H'
theorem GoOk.mono {K : PySem.W.Frag} {mg : Str → Option Value} {W : WX} {Φ Φ' : Phi} {G : Go} {D : Ends} (g : GoOk K mg W Φ G D) (l : Φ.le Φ') : GoOk K mg W Φ' G D :=
  ⟨fun e m P H σ h k => g.nx e m P H σ h (l.trans k), fun d m P H v h k => g.rt d m P H v h (l.trans k), fun x e m P H σ c d h k => g.ex x e m P H σ c d h (l.trans k)⟩
def LS (K : PySem.W.Frag) (mg : Str → Option Value) (r : SD) (W : WX) : TS := fun D σ H => ∃ (e : Lo) (m : Mem) (Φ : Phi) (G : Go), Sim K mg Φ m H ∧ LoR K mg Φ e σ ∧ r e m G ∧ GoOk K mg W Φ G D
/-- targets; vs: the slots that they may set -/
def LG (K : PySem.W.Frag) (mg : Str → Option Value) (vs : List Nat) (g : GD) : TG := fun v σ H Q => ∃ (d : D) (e : Lo) (m : Mem) (Φ : Phi) (K' : Lo → Mem → Prop), Sim K mg Φ m H ∧ LoR K mg Φ e σ ∧ Rep K mg Φ d v ∧ g d e m K' ∧
  ∀ e' m' Φ' σ' H', K' e' m' → Φ.le Φ' → Sim K mg Φ' m' H' → LoR K mg Φ' e' σ' → L2.wipe σ' vs = L2.wipe σ vs → Q σ' H'
def LGs (K : PySem.W.Frag) (mg : Str → Option Value) (vs : List Nat) (g : GDs) : TGs := fun us σ H Q => ∃ (ds : List D) (e : Lo) (m : Mem) (Φ : Phi) (K' : Lo → Mem → Prop), Sim K mg Φ m H ∧ LoR K mg Φ e σ ∧ Reps K mg Φ ds us ∧ g ds e m K' ∧
  ∀ e' m' Φ' σ' H', K' e' m' → Φ.le Φ' → Sim K mg Φ' m' H' → LoR K mg Φ' e' σ' → L2.wipe σ' vs = L2.wipe σ vs → Q σ' H'
/-- what an iterator yields -/
def ItOk (K : PySem.W.Frag) (mg : Str → Option Value) (Φ : Phi) (J : It) (chk : Mem → Prop) (xs : List D) : Prop := ∀ (i : Nat) (m : Mem) (Φ' : Phi) (H : Hp), Φ.f1 Φ' → Sim K mg Φ' m H → chk m →
  (xs.length ≤ i → J.stop i H) ∧ ∀ x, xs[i]? = some x → J.go i H ∧ ∀ v H', J.yld i H v H' → ∃ Φ'', Φ'.le Φ'' ∧ Sim K mg Φ'' m H' ∧ Rep K mg Φ'' x v
def LI (K : PySem.W.Frag) (mg : Str → Option Value) (r : RI) (W : WX) : TI := fun σ H R => ∃ (e : Lo) (m : Mem) (Φ : Phi) (K' : (Mem → Prop) → List D → Mem → Prop) (E' : EK), Sim K mg Φ m H ∧ LoR K mg Φ e σ ∧ r e m K' E' ∧
  (∀ chk xs m' Φ' H' J, K' chk xs m' → Φ.le Φ' → Sim K mg Φ' m' H' → ItOk K mg Φ' J chk xs → R J H') ∧ (∀ x m' Φ' H' cls dd, E' x m' → Φ.le Φ' → Sim K mg Φ' m' H' → RepX K mg Φ' x cls dd → W cls dd σ H')
theorem _root_.L2.PE.imp {X : Cx} {e : Expr} {t t' : TE} (h : PE X e t) (hi : ∀ σ H Q, t' σ H Q → t σ H Q) : PE X e t' := ⟨fun pins s σ H Q I hq => h.run pins s σ H Q I (hi _ _ _ hq)⟩
theorem _root_.L2.PA.imp {X : Cx} {e : List Expr} {t t' : TA} (h : PA X e t) (hi : ∀ σ H Q, t' σ H Q → t σ H Q) : PA X e t' := ⟨fun pos pins s σ H Q I hq => h.run pos pins s σ H Q I (hi _ _ _ hq)⟩
theorem _root_.L2.PK.imp {X : Cx} {e : List Keyword} {t t' : TA} (h : PK X e t) (hi : ∀ σ H Q, t' σ H Q → t σ H Q) : PK X e t' := ⟨fun pos pins s σ H Q I hq => h.run pos pins s σ H Q I (hi _ _ _ hq)⟩
theorem _root_.L2.PT.imp {X : Cx} {e : Expr} {t t' : TT} (h : PT X e t) (hi : ∀ σ H Q, t' σ H Q → t σ H Q) : PT X e t' := ⟨fun pins s σ H Q I hq => h.run pins s σ H Q I (hi _ _ _ hq)⟩
theorem _root_.L2.PW.imp {X : Cx} {e : Expr} {t t' : TT} (h : PW X e t) (hi : ∀ σ H Q, t' σ H Q → t σ H Q) : PW X e t' := ⟨fun wh pins s σ H Q I hq => h.run wh pins s σ H Q I (hi _ _ _ hq)⟩
theorem _root_.L2.PS.imp {X : Cx} {e : Stmt} {t t' : TS} (h : PS X e t) (hi : ∀ D σ H, t' D σ H → t D σ H) : PS X e t' := ⟨fun pins s σ H D I hq => h.run pins s σ H D I (hi _ _ _ hq)⟩
theorem _root_.L2.PSs.imp {X : Cx} {e : List Stmt} {t t' : TS} (h : PSs X e t) (hi : ∀ D σ H, t' D σ H → t D σ H) : PSs X e t' := ⟨fun pins s σ H D I hq => h.run pins s σ H D I (hi _ _ _ hq)⟩
end PL

/-! PyC: each combinator of PyA, shown for the machine's code. -/
namespace PL
open PySem PySem.Spec PyProof.Rows L2
abbrev GE (X : Cx) (W : WX) (e : Expr) (r : RD) : Prop := PE X e (LE X.K X.mg r W)
abbrev GA (X : Cx) (W : WX) (e : List Expr) (r : RA) : Prop := PA X e (LA X.K X.mg e.length r W)
abbrev GT (X : Cx) (W : WX) (e : Expr) (r : RT) : Prop := PT X e (LT X.K X.mg r W)
abbrev GS (X : Cx) (W : WX) (e : Stmt) (r : SD) : Prop := PS X e (LS X.K X.mg r W)
abbrev GB (X : Cx) (W : WX) (e : List Stmt) (r : SD) : Prop := PSs X e (LS X.K X.mg r W)

/-! ### what is new in the heap -/
theorem Phi.le.snoc (Φ : Phi) (p : Addr) : Φ.le ⟨Φ.F, Φ.c ++ [p], Φ.g⟩ := ⟨grows.refl _, List.prefix_append _ _, rfl⟩
section
variable {K : PySem.W.Frag} {mg : Str → Option Value} {Φ : Phi} {m : Mem} {H : Hp}
theorem Sim.fresh (S : Sim K mg Φ m H) {p : Addr} (h : H p = none) : Φ.F p = none ∧ p ∉ Φ.c := by
  refine ⟨?_, fun hp => ?_⟩
  · cases e : Φ.F p with
    | none => rfl
    | some o => have := S.sub p o e; rw [h] at this; cases this
  · obtain ⟨_, o, e⟩ := S.out p hp; rw [h] at e; cases e
theorem Sim.lt (S : Sim K mg Φ m H) {n : Nat} {x : Cell} (h : m[n]? = some x) : ∃ a, Φ.c[n]? = some a := by
  have h1 : n < Φ.c.length := by rw [S.len]; exact (List.getElem?_eq_some_iff.mp h).1
  exact ⟨_, List.getElem?_eq_getElem h1⟩
/-- a new thing that never changes -/
theorem Sim.newF (S : Sim K mg Φ m H) {p : Addr} {o : HO} (h : H p = none) : Φ.le ⟨upd Φ.F p o, Φ.c, Φ.g⟩ ∧ Sim K mg ⟨upd Φ.F p o, Φ.c, Φ.g⟩ m (upd H p o) := by
  obtain ⟨h1, h2⟩ := S.fresh h
  have l : Φ.le ⟨upd Φ.F p o, Φ.c, Φ.g⟩ := ⟨grows.new h1, List.prefix_refl _, rfl⟩
  refine ⟨l, fun a u e => ?_, S.len, S.nd, fun a ha => ?_, fun a u q => ?_, fun n x a hx ha => ?_⟩
  · by_cases z : a = p
    · subst z
      have e : upd Φ.F a o a = some u := e
      rw [upd_same] at e ⊢; exact e
    · have e : upd Φ.F p o a = some u := e
      rw [upd_ne z] at e ⊢; exact S.sub a u e
  · have z : a ≠ p := fun q => h2 (q ▸ ha)
    obtain ⟨q1, u, q2⟩ := S.out a ha
    exact ⟨by show upd Φ.F p o a = none; rw [upd_ne z]; exact q1, u, by rw [upd_ne z]; exact q2⟩
  · have q : Φ.g a = some u := q
    obtain ⟨k1, k2, k3⟩ := S.gd a u q
    have z : a ≠ p := ne_of_none k1 h
    exact ⟨by rw [upd_ne z]; exact k1, by show upd Φ.F p o a = none; rw [upd_ne z]; exact k2, k3⟩
  · have z : a ≠ p := fun q => h2 (q ▸ List.mem_of_getElem? ha)
    exact (S.at_ n x a hx ha).mono l (upd_ne z)
/-- a new cell -/
theorem Sim.newC (S : Sim K mg Φ m H) {p : Addr} {o : HO} {x : Cell} (h : H p = none) (hx : CellR K mg ⟨Φ.F, Φ.c ++ [p], Φ.g⟩ (upd H p o) p x) :
    Φ.le ⟨Φ.F, Φ.c ++ [p], Φ.g⟩ ∧ Sim K mg ⟨Φ.F, Φ.c ++ [p], Φ.g⟩ (m ++ [x]) (upd H p o) := by
  obtain ⟨h1, h2⟩ := S.fresh h
  have l : Φ.le ⟨Φ.F, Φ.c ++ [p], Φ.g⟩ := Phi.le.snoc Φ p
  refine ⟨l, fun a u e => ?_, by simp [S.len], ?_, fun a ha => ?_, fun a u q => ?_, fun n y a hy ha => ?_⟩
  · have z : a ≠ p := fun q => by subst q; have e : Φ.F a = some u := e; rw [h1] at e; cases e
    rw [upd_ne z]; exact S.sub a u e
  · show (Φ.c ++ [p]).Nodup
    rw [List.nodup_append]
    refine ⟨S.nd, by simp, fun a ha b hb => ?_⟩
    rw [List.mem_singleton] at hb; subst hb
    exact fun q => h2 (q ▸ ha)
  · rcases List.mem_append.mp ha with ha | ha
    · have z : a ≠ p := fun q => h2 (q ▸ ha)
      obtain ⟨q1, u, q2⟩ := S.out a ha
      exact ⟨q1, u, by rw [upd_ne z]; exact q2⟩
    · rw [List.mem_singleton] at ha; subst ha
      exact ⟨h1, o, upd_same⟩
  · have q : Φ.g a = some u := q
    obtain ⟨k1, k2, k3⟩ := S.gd a u q
    have z : a ≠ p := ne_of_none k1 h
    refine ⟨by rw [upd_ne z]; exact k1, k2, fun hm => ?_⟩
    rcases List.mem_append.mp hm with hm | hm
    · exact k3 hm
    · rw [List.mem_singleton] at hm; exact z hm
  · by_cases hn : n < m.length
    · rw [List.getElem?_append_left hn] at hy
      have ha : (Φ.c ++ [p])[n]? = some a := ha
      rw [List.getElem?_append_left (by rw [S.len]; exact hn)] at ha
      have z : a ≠ p := fun q => h2 (q ▸ List.mem_of_getElem? ha)
      exact (S.at_ n y a hy ha).mono l (upd_ne z)
    · rw [List.getElem?_append_right (by omega)] at hy
      have ha : (Φ.c ++ [p])[n]? = some a := ha
      rw [List.getElem?_append_right (by rw [S.len]; omega)] at ha
      obtain ⟨k, hk⟩ : ∃ k, k = n - m.length := ⟨_, rfl⟩
      rw [← hk] at hy
      rw [S.len, ← hk] at ha
      cases k with
      | zero => simp at hy ha; subst hy ha; exact hx
      | succ k => simp at hy
/-- a cell's content changes -/
theorem Sim.set (S : Sim K mg Φ m H) {n : Nat} {p : Addr} {o : HO} {x : Cell} (hn : n < m.length) (hp : Φ.c[n]? = some p) (hx : CellR K mg Φ (upd H p o) p x) : Sim K mg Φ (m.set n x) (upd H p o) := by
  have hm : p ∈ Φ.c := List.mem_of_getElem? hp
  refine ⟨fun a u e => ?_, by simpa using S.len, S.nd, fun a ha => ?_, fun a u q => ?_, fun k y a hy ha => ?_⟩
  · have z : a ≠ p := fun q => by subst q; rw [(S.out a hm).1] at e; cases e
    rw [upd_ne z]; exact S.sub a u e
  · obtain ⟨q1, u, q2⟩ := S.out a ha
    refine ⟨q1, ?_⟩
    by_cases z : a = p
    · subst z; exact ⟨o, upd_same⟩
    · exact ⟨u, by rw [upd_ne z]; exact q2⟩
  · obtain ⟨k1, k2, k3⟩ := S.gd a u q
    have z : a ≠ p := fun e => k3 (e ▸ hm)
    exact ⟨by rw [upd_ne z]; exact k1, k2, k3⟩
  · by_cases hk : n = k
    · subst hk
      rw [List.getElem?_set_self hn] at hy
      rw [hp] at ha
      cases hy; cases ha
      exact hx
    · rw [List.getElem?_set_ne hk] at hy
      have z : a ≠ p := fun q => by
        subst q
        obtain ⟨h1, e1⟩ := List.getElem?_eq_some_iff.mp hp
        obtain ⟨h2, e2⟩ := List.getElem?_eq_some_iff.mp ha
        exact hk ((List.getElem_inj S.nd).mp (e1.trans e2.symm))
      exact (S.at_ k y a hy ha).mono (Phi.le.refl _) (upd_ne z)
theorem Sim.seqT (S : Sim K mg Φ m H) {a : Addr} {vs : List V} (h : SqT K Φ.F a vs) : SqT K H a vs := sqt_grows S.sub h
theorem Sim.seqL (S : Sim K mg Φ m H) {a : Addr} {vs : List V} (h : SqL K Φ.F a vs) : SqL K H a vs := sql_grows S.sub h
end

/-! ### expressions -/
section
variable {X : Cx} {W : WX}
theorem ge_var {i : Nat} {x : Str} {pos : Pos} (hN : X.N[i]? = some x) (hv : Vis X.env.scope x) (hd : (x == ("__debug__" : Str)) = false) (hcd : (x == ("__classdict__" : Str)) = false) : GE X W (.Name x pos) (rVar i) :=
  (pe_var hN hv hd hcd).imp fun σ H Q ⟨e, m, Φ, K, E, S, R, h, hK, _⟩ => by
    unfold rVar at h
    cases q : e.at i with
    | none => rw [q] at h; exact h.elim
    | some d =>
      rw [q] at h
      obtain ⟨v, h1, h2⟩ := R.at_ i d q
      exact ⟨v, h1, hK _ _ _ _ _ h (Phi.le.refl _) S h2⟩
/-- a constant -/
theorem ge_c {e : Expr} {d : D} {v : V} (h : PE X e (tC v)) (r : ∀ Φ m H, Sim X.K X.mg Φ m H → Rep X.K X.mg Φ d v) : GE X W e (rC d) :=
  h.imp fun σ H Q ⟨e, m, Φ, K, E, S, R, h, hK, _⟩ => hK _ _ _ _ _ h (Phi.le.refl _) S (r Φ m H S)

def Op1Ok (X : Cx) (o : Op1) (r : V → Hp → VK → Prop) : Prop := ∀ (Φ : Phi) (m : Mem) (H : Hp) (x : D) (v : V) (K : D → Prop) (Q : VK), Sim X.K X.mg Φ m H → Rep X.K X.mg Φ x v → o m x K →
  (∀ z Φ' H' w, K z → Φ.le Φ' → Sim X.K X.mg Φ' m H' → Rep X.K X.mg Φ' z w → Q w H') → r v H Q
def Op2Ok (X : Cx) (o : Op2) (r : R2) : Prop := ∀ (Φ : Phi) (m : Mem) (H : Hp) (x y : D) (v u : V) (K : D → Prop) (Q : VK), Sim X.K X.mg Φ m H → Rep X.K X.mg Φ x v → Rep X.K X.mg Φ y u → o m x y K →
  (∀ z Φ' H' w, K z → Φ.le Φ' → Sim X.K X.mg Φ' m H' → Rep X.K X.mg Φ' z w → Q w H') → r v u H Q
def OpNOk (X : Cx) (o : OpN) (r : List V → Hp → VK → Prop) : Prop := ∀ (Φ : Phi) (m : Mem) (H : Hp) (xs : List D) (vs : List V) (K : D → Prop) (Q : VK), Sim X.K X.mg Φ m H → Reps X.K X.mg Φ xs vs → o m xs K →
  (∀ z Φ' H' w, K z → Φ.le Φ' → Sim X.K X.mg Φ' m H' → Rep X.K X.mg Φ' z w → Q w H') → r vs H Q
/-- the items of a new list -/
def OpFOk (X : Cx) (o : OpF) (r : List V → Hp → VK → Prop) : Prop := ∀ (Φ : Phi) (m : Mem) (H : Hp) (xs : List D) (vs : List V) (K : List D → Prop) (Q : VK), Sim X.K X.mg Φ m H → Reps X.K X.mg Φ xs vs → o m xs K →
  (∀ ys Φ' H' ws p, K ys → Φ.le Φ' → Sim X.K X.mg Φ' m H' → Reps X.K X.mg Φ' ys ws → H' p = none → Q (.ref p) (upd H' p (.lst ws))) → r vs H Q

theorem le_op1 {o : Op1} {r : V → Hp → VK → Prop} {a : RD} (ok : Op1Ok X o r) (σ : L2.St) (H : Hp) (Q : VK) (h : LE X.K X.mg (rOp1 o a) W σ H Q) : LE X.K X.mg a W σ H fun x H1 => r x H1 Q := by
  obtain ⟨e, m, Φ, K, E, S, R, h, hK, hE⟩ := h
  exact ⟨e, m, Φ, _, E, S, R, h, fun x m1 Φ1 H1 v h1 l1 S1 r1 => ok Φ1 m1 H1 x v _ Q S1 r1 h1 fun z Φ' H' w hz l2 S2 r2 => hK z m1 Φ' H' w hz (l1.trans l2) S2 r2, hE⟩
theorem le_op2 {o : Op2} {r : R2} {a b : RD} (ok : Op2Ok X o r) (σ : L2.St) (H : Hp) (Q : VK) (h : LE X.K X.mg (rOp2 o a b) W σ H Q) : tOp r (LE X.K X.mg a W) (LE X.K X.mg b W) σ H Q := by
  obtain ⟨e, m, Φ, K, E, S, R, h, hK, hE⟩ := h
  refine ⟨e, m, Φ, _, E, S, R, h, fun x m1 Φ1 H1 v h1 l1 S1 r1 => ?_, hE⟩
  refine ⟨e, m1, Φ1, _, E, S1, R.mono l1, h1, fun y m2 Φ2 H2 u h2 l2 S2 r2 => ?_, fun x m' Φ' H' c d z l => hE x m' Φ' H' c d z (l1.trans l)⟩
  exact ok Φ2 m2 H2 x y v u _ Q S2 (r1.mono l2) r2 h2 fun z Φ' H' w hz l3 S3 r3 => hK z m2 Φ' H' w hz ((l1.trans l2).trans l3) S3 r3
theorem ge_bin {o : Op2} {r : R2} {a b : RD} {op : Operator} {ea eb : Expr} {pos : Pos} (ho : OpR X (binaryOp op) r) (ok : Op2Ok X o r) (ha : GE X W ea a) (hb : GE X W eb b) : GE X W (.BinOp ea op eb pos) (rOp2 o a b) :=
  (pe_op ho ha hb).imp (le_op2 ok)
theorem ge_un {o : Op1} {r : V → Hp → VK → Prop} {a : RD} {op : UnaryOp} {ea : Expr} {pos : Pos} (ho : UnR X (unaryOp op) r) (ok : Op1Ok X o r) (ha : GE X W ea a) : GE X W (.UnaryOp op ea pos) (rOp1 o a) :=
  (pe_un ho ha).imp (le_op1 ok)
theorem ge_cmp {o : Op2} {r : R2} {a b : RD} {op : CmpOp} {ea eb : Expr} {pos : Pos} (ho : OpR X (compareOp op) r) (ok : Op2Ok X o r) (hm : behindInMarks op eb = false) (ha : GE X W ea a) (hb : GE X W eb b) : GE X W (.Compare ea [op] [eb] pos) (rOp2 o a b) :=
  (pe_cmpR ho ha hb hm).imp (le_op2 ok)
theorem gt_cmp {o : Op2} {r : R2} {a b : RD} {op : CmpOp} {ea eb : Expr} {pos : Pos} (ho : OpR X (compareOp op) r) (ok : Op2Ok X o r) (hm : behindInMarks op eb = false) (ha : GE X W ea a) (hb : GE X W eb b) : GT X W (.Compare ea [op] [eb] pos) (rtB (rOp2 o a b)) :=
  (pt_cmpR ho ha hb hm).imp fun σ H Q ⟨e, m, Φ, K, E, S, R, h, hK, hE⟩ => by
    refine le_op2 ok σ H _ ⟨e, m, Φ, _, E, S, R, h, fun x m1 Φ1 H1 v h1 l1 S1 r1 => ?_, hE⟩
    cases r1 with
    | bl b => exact ⟨b, rfl, hK b m1 Φ1 H1 h1 l1 S1⟩
    | _ => exact h1.elim
theorem ga_nil : GA X W [] raNil := pa_nil.imp fun σ H Q ⟨e, m, Φ, K, E, S, R, h, hK, hE⟩ => hK _ _ _ _ _ h (Phi.le.refl _) S .nil rfl
theorem ga_cons {a : RD} {r : RA} {ea : Expr} {es : List Expr} (ha : GE X W ea a) (hr : GA X W es r) (hs : starEach (ea :: es) X.env = (false, eval ea X.env) :: starEach es X.env) : GA X W (ea :: es) (raCons a r) :=
  (pa_cons ha hr hs).imp fun σ H Q ⟨e, m, Φ, K, E, S, R, h, hK, hE⟩ => by
    refine ⟨e, m, Φ, _, E, S, R, h, fun x m1 Φ1 H1 v h1 l1 S1 r1 => ?_, hE⟩
    refine ⟨e, m1, Φ1, _, E, S1, R.mono l1, h1, fun y m2 Φ2 H2 u h2 l2 S2 r2 n2 => ?_, fun x m' Φ' H' c d z l => hE x m' Φ' H' c d z (l1.trans l)⟩
    exact hK _ _ _ _ _ h2 (l1.trans l2) S2 (.cons (r1.mono l2) r2) (congrArg Nat.succ n2)
theorem le_opN {o : OpN} {r : List V → Hp → VK → Prop} {n : Nat} {a : RA} (ok : OpNOk X o r) (σ : L2.St) (H : Hp) (Q : VK) (h : LE X.K X.mg (rOpN o a) W σ H Q) : tCB r (LA X.K X.mg n a W) σ H Q := by
  obtain ⟨e, m, Φ, K, E, S, R, h, hK, hE⟩ := h
  exact ⟨e, m, Φ, _, E, S, R, h, fun x m1 Φ1 H1 v h1 l1 S1 r1 n1 => ok Φ1 m1 H1 x v _ Q S1 r1 h1 fun z Φ' H' w hz l2 S2 r2 => hK z m1 Φ' H' w hz (l1.trans l2) S2 r2, hE⟩
theorem le_F {o : OpF} {r : List V → Hp → VK → Prop} {n : Nat} {a : RA} (ok : OpFOk X o r) (σ : L2.St) (H : Hp) (Q : VK) (h : LE X.K X.mg (rF o a) W σ H Q) : tCB r (LA X.K X.mg n a W) σ H Q := by
  obtain ⟨e, m, Φ, K, E, S, R, h, hK, hE⟩ := h
  refine ⟨e, m, Φ, _, E, S, R, h, fun x m1 Φ1 H1 v h1 l1 S1 r1 n1 => ok Φ1 m1 H1 x v _ Q S1 r1 h1 fun ys Φ' H' ws p hz l2 S2 r2 hp => ?_, hE⟩
  obtain ⟨l3, S3⟩ := S2.newF (o := .lst ws) hp
  exact hK _ m1 _ _ _ hz ((l1.trans l2).trans l3) S3 (.lst upd_same (r2.mono l3))
theorem le_FN {o : OpF} {r : List V → Hp → VK → Prop} {n : Nat} {a : RA} (ok : OpFOk X o r) (σ : L2.St) (H : Hp) (Q : VK) (h : LE X.K X.mg (rFN o a) W σ H Q) : tCB r (LA X.K X.mg n a W) σ H Q := by
  obtain ⟨e, m, Φ, K, E, S, R, h, hK, hE⟩ := h
  refine ⟨e, m, Φ, _, E, S, R, h, fun x m1 Φ1 H1 v h1 l1 S1 r1 n1 => ok Φ1 m1 H1 x v _ Q S1 r1 h1 fun ys Φ' H' ws p hz l2 S2 r2 hp => ?_, hE⟩
  obtain ⟨l3, S3⟩ := S2.newC (o := .lst ws) (x := .lst ys) hp ⟨ws, upd_same, r2.mono (Phi.le.snoc Φ' p)⟩
  refine hK _ _ _ _ _ hz ((l1.trans l2).trans l3) S3 (.cell ?_)
  show (Φ'.c ++ [p])[m1.length]? = some p
  rw [← S2.len, List.getElem?_append_right (Nat.le_refl _)]; simp
theorem ge_tup {a : RA} {es : List Expr} {k : Nat} {pos : Pos} (hz : es.length ≤ 1000) (ha : GA X W es a) : GE X W (.Tuple es k pos) (rTup a) :=
  (pe_tup ha).imp fun σ H Q ⟨e, m, Φ, K, E, S, R, h, hK, hE⟩ => by
    refine ⟨e, m, Φ, _, E, S, R, h, fun x m1 Φ1 H1 v h1 l1 S1 r1 n1 => ⟨?_, fun p hp => ?_⟩, hE⟩
    · rw [← r1.length, n1]; exact Nat.le_trans hz (by decide)
    · obtain ⟨l3, S3⟩ := S1.newF (o := .tup v) hp
      exact hK _ m1 _ _ _ h1 (l1.trans l3) S3 (.tup (.inl (.inl upd_same)) (r1.mono l3))
theorem ge_lst {a : RA} {es : List Expr} {pos : Pos} (hz : es.length ≤ 1000) (ha : GA X W es a) : GE X W (.List es pos) (rLst a) :=
  (pe_lst ha).imp fun σ H Q ⟨e, m, Φ, K, E, S, R, h, hK, hE⟩ => by
    refine ⟨e, m, Φ, _, E, S, R, h, fun x m1 Φ1 H1 v h1 l1 S1 r1 n1 => ⟨?_, fun p hp => ?_⟩, hE⟩
    · rw [← r1.length, n1]; exact Nat.le_trans hz (by decide)
    · obtain ⟨l3, S3⟩ := S1.newF (o := .lst v) hp
      exact hK _ m1 _ _ _ h1 (l1.trans l3) S3 (.lst upd_same (r1.mono l3))
theorem Sim.cellAt {K : PySem.W.Frag} {mg : Str → Option Value} {Φ : Phi} {m : Mem} {H : Hp} (S : Sim K mg Φ m H) (p : Addr) : (Φ.c ++ [p])[m.length]? = some p := by
  rw [← S.len, List.getElem?_append_right (Nat.le_refl _)]; simp
theorem ge_lstN {a : RA} {es : List Expr} {pos : Pos} (hz : es.length ≤ 1000) (ha : GA X W es a) : GE X W (.List es pos) (rLstN a) :=
  (pe_lst ha).imp fun σ H Q ⟨e, m, Φ, K, E, S, R, h, hK, hE⟩ => by
    refine ⟨e, m, Φ, _, E, S, R, h, fun x m1 Φ1 H1 v h1 l1 S1 r1 n1 => ⟨?_, fun p hp => ?_⟩, hE⟩
    · rw [← r1.length, n1]; exact Nat.le_trans hz (by decide)
    · obtain ⟨l3, S3⟩ := S1.newC (o := .lst v) (x := .lst x) hp ⟨v, upd_same, r1.mono (Phi.le.snoc Φ1 p)⟩
      exact hK _ _ _ _ _ h1 (l1.trans l3) S3 (.cell (S1.cellAt p))
theorem ge_if {c : RT} {a b : RD} {ec ea eb : Expr} {pos : Pos} (hc : GT X W ec c) (ha : GE X W ea a) (hb : GE X W eb b) : GE X W (.IfExp ec ea eb pos) (rIf c a b) :=
  (pe_ifExp hc ha hb).imp fun σ H Q ⟨e, m, Φ, K, E, S, R, h, hK, hE⟩ => by
    refine ⟨e, m, Φ, _, E, S, R, h, fun k m1 Φ1 H1 h1 l1 S1 => ?_, hE⟩
    have hE' := fun x m' Φ' H' c d z l => hE x m' Φ' H' c d z (l1.trans l)
    cases k with
    | true =>
      rw [if_pos rfl] at h1
      refine L2.iteT ?_
      exact ⟨e, m1, Φ1, _, E, S1, R.mono l1, h1, fun y m2 Φ2 H2 u h2 l2 S2 r2 => hK _ _ _ _ _ h2 (l1.trans l2) S2 r2, hE'⟩
    | false =>
      rw [if_neg Bool.false_ne_true] at h1
      refine L2.iteF ?_
      exact ⟨e, m1, Φ1, _, E, S1, R.mono l1, h1, fun y m2 Φ2 H2 u h2 l2 S2 r2 => hK _ _ _ _ _ h2 (l1.trans l2) S2 r2, hE'⟩

/-! ### tests -/
theorem le_B {a : RD} (σ : L2.St) (H : Hp) (Q : Bool → Hp → Prop) (h : LT X.K X.mg (rtB a) W σ H Q) : tB (LE X.K X.mg a W) σ H Q := by
  obtain ⟨e, m, Φ, K, E, S, R, h, hK, hE⟩ := h
  refine ⟨e, m, Φ, _, E, S, R, h, fun x m1 Φ1 H1 v h1 l1 S1 r1 => ?_, hE⟩
  cases r1 with
  | bl b => exact ⟨b, rfl, hK b m1 Φ1 H1 h1 l1 S1⟩
  | _ => exact h1.elim
theorem gt_val {a : RD} {ea : Expr} (ha : GE X W ea a) (he : ∀ whole, isTrue ea X.env whole = (do let v ← whole; standAt ea.pos; holding [v] (truthy v))) : GT X W ea (rtB a) :=
  (pt_val ha he).imp le_B
theorem gt_not {a : RT} {ea : Expr} {pos : Pos} (ha : GT X W ea a) : GT X W (.UnaryOp .Not ea pos) (rtNot a) :=
  (pt_not ha).imp fun σ H Q ⟨e, m, Φ, K, E, S, R, h, hK, hE⟩ => ⟨e, m, Φ, _, E, S, R, h, fun k m1 Φ1 H1 h1 l1 S1 => hK _ _ _ _ h1 l1 S1, hE⟩
theorem lt_and {a b : RT} (σ : L2.St) (H : Hp) (Q : Bool → Hp → Prop) (h : LT X.K X.mg (rtAnd a b) W σ H Q) : tAnd (LT X.K X.mg a W) (LT X.K X.mg b W) σ H Q := by
  obtain ⟨e, m, Φ, K, E, S, R, h, hK, hE⟩ := h
  refine ⟨e, m, Φ, _, E, S, R, h, fun k m1 Φ1 H1 h1 l1 S1 => ?_, hE⟩
  cases k with
  | true =>
    rw [if_pos rfl] at h1
    refine L2.iteT ?_
    exact ⟨e, m1, Φ1, _, E, S1, R.mono l1, h1, fun y m2 Φ2 H2 h2 l2 S2 => hK _ _ _ _ h2 (l1.trans l2) S2, fun x m' Φ' H' c d z l => hE x m' Φ' H' c d z (l1.trans l)⟩
  | false =>
    rw [if_neg Bool.false_ne_true] at h1
    refine L2.iteF ?_
    exact hK _ _ _ _ h1 l1 S1
theorem lt_or {a b : RT} (σ : L2.St) (H : Hp) (Q : Bool → Hp → Prop) (h : LT X.K X.mg (rtOr a b) W σ H Q) : tOr (LT X.K X.mg a W) (LT X.K X.mg b W) σ H Q := by
  obtain ⟨e, m, Φ, K, E, S, R, h, hK, hE⟩ := h
  refine ⟨e, m, Φ, _, E, S, R, h, fun k m1 Φ1 H1 h1 l1 S1 => ?_, hE⟩
  cases k with
  | false =>
    rw [if_neg Bool.false_ne_true] at h1
    refine L2.iteF ?_
    exact ⟨e, m1, Φ1, _, E, S1, R.mono l1, h1, fun y m2 Φ2 H2 h2 l2 S2 => hK _ _ _ _ h2 (l1.trans l2) S2, fun x m' Φ' H' c d z l => hE x m' Φ' H' c d z (l1.trans l)⟩
  | true =>
    rw [if_pos rfl] at h1
    refine L2.iteT ?_
    exact hK _ _ _ _ h1 l1 S1
/-- and, or of several, as a test -/
abbrev GW (X : Cx) (W : WX) (e : Expr) (r : RT) : Prop := PW X e (LT X.K X.mg r W)
theorem gw_and1 {a : RT} {ea : Expr} {pos : Pos} (ha : GT X W ea a) : GW X W (.BoolOp .And [ea] pos) a := pw_and1 ha
theorem gw_or1 {a : RT} {ea : Expr} {pos : Pos} (ha : GT X W ea a) : GW X W (.BoolOp .Or [ea] pos) a := pw_or1 ha
theorem gw_and {a b : RT} {ea eb : Expr} {es : List Expr} {pos : Pos} (ha : GT X W ea a) (hb : GW X W (.BoolOp .And (eb :: es) pos) b) : GW X W (.BoolOp .And (ea :: eb :: es) pos) (rtAnd a b) := (pw_and ha hb).imp lt_and
theorem gw_or {a b : RT} {ea eb : Expr} {es : List Expr} {pos : Pos} (ha : GT X W ea a) (hb : GW X W (.BoolOp .Or (eb :: es) pos) b) : GW X W (.BoolOp .Or (ea :: eb :: es) pos) (rtOr a b) := (pw_or ha hb).imp lt_or
theorem ge_not {a : RD} {ea : Expr} {pos : Pos} (ha : GE X W ea a) : GE X W (.UnaryOp .Not ea pos) (rNot a) :=
  (pe_not ha).imp fun σ H Q ⟨e, m, Φ, K, E, S, R, h, hK, hE⟩ => by
    refine ⟨e, m, Φ, _, E, S, R, h, fun x m1 Φ1 H1 v h1 l1 S1 r1 => ?_, hE⟩
    cases r1 with
    | bl b => exact ⟨b, rfl, hK _ _ _ _ _ h1 l1 S1 (.bl _)⟩
    | _ => exact h1.elim
theorem ge_one {a : RD} {ea : Expr} {op : BoolOp} {pos : Pos} (ha : GE X W ea a) : GE X W (.BoolOp op [ea] pos) a := pe_one ha
theorem ge_and {a b : RD} {ea eb : Expr} {es : List Expr} {pos : Pos} (ha : GE X W ea a) (hb : GE X W (.BoolOp .And (eb :: es) pos) b) : GE X W (.BoolOp .And (ea :: eb :: es) pos) (rAnd a b) :=
  (pe_and ha hb).imp fun σ H Q ⟨e, m, Φ, K, E, S, R, h, hK, hE⟩ => by
    refine ⟨e, m, Φ, _, E, S, R, h, fun x m1 Φ1 H1 v h1 l1 S1 r1 => ?_, hE⟩
    cases r1 with
    | bl k =>
      refine ⟨k, rfl, ?_⟩
      cases k with
      | true =>
        refine L2.iteT ?_
        exact ⟨e, m1, Φ1, _, E, S1, R.mono l1, h1, fun y m2 Φ2 H2 u h2 l2 S2 r2 => hK _ _ _ _ _ h2 (l1.trans l2) S2 r2, fun x m' Φ' H' c d z l => hE x m' Φ' H' c d z (l1.trans l)⟩
      | false =>
        refine L2.iteF ?_
        exact hK _ _ _ _ _ h1 l1 S1 (.bl _)
    | _ => exact h1.elim
theorem ge_or {a b : RD} {ea eb : Expr} {es : List Expr} {pos : Pos} (ha : GE X W ea a) (hb : GE X W (.BoolOp .Or (eb :: es) pos) b) : GE X W (.BoolOp .Or (ea :: eb :: es) pos) (rOr a b) :=
  (pe_or ha hb).imp fun σ H Q ⟨e, m, Φ, K, E, S, R, h, hK, hE⟩ => by
    refine ⟨e, m, Φ, _, E, S, R, h, fun x m1 Φ1 H1 v h1 l1 S1 r1 => ?_, hE⟩
    cases r1 with
    | bl k =>
      refine ⟨k, rfl, ?_⟩
      cases k with
      | false =>
        refine L2.iteF ?_
        exact ⟨e, m1, Φ1, _, E, S1, R.mono l1, h1, fun y m2 Φ2 H2 u h2 l2 S2 r2 => hK _ _ _ _ _ h2 (l1.trans l2) S2 r2, fun x m' Φ' H' c d z l => hE x m' Φ' H' c d z (l1.trans l)⟩
      | true =>
        refine L2.iteT ?_
        exact hK _ _ _ _ _ h1 l1 S1 (.bl _)
    | _ => exact h1.elim
end
end PL

/-! PyD: targets, what is walked, comprehensions, statements. -/
namespace PL
open PySem PySem.Spec PyProof.Rows L2
abbrev GG (X : Cx) (vs : List Nat) (e : Expr) (g : GD) : Prop := PG X e (LG X.K X.mg vs g)
abbrev GGs (X : Cx) (vs : List Nat) (e : List Expr) (g : GDs) : Prop := PGs X e (LGs X.K X.mg vs g)
abbrev GI (X : Cx) (W : WX) (tg e : Expr) (r : RI) : Prop := PI X tg e (LI X.K X.mg r W)
theorem _root_.L2.PG.imp {X : Cx} {e : Expr} {t t' : TG} (h : PG X e t) (hi : ∀ v σ H Q, t' v σ H Q → t v σ H Q) : PG X e t' := ⟨fun pins s σ H v u Q I r hq => h.run pins s σ H v u Q I r (hi _ _ _ _ hq)⟩
theorem _root_.L2.PGs.imp {X : Cx} {e : List Expr} {t t' : TGs} (h : PGs X e t) (hi : ∀ v σ H Q, t' v σ H Q → t v σ H Q) : PGs X e t' := ⟨fun pins s σ H v u Q I r hq => h.run pins s σ H v u Q I r (hi _ _ _ _ hq)⟩
theorem _root_.L2.PI.imp {X : Cx} {tg e : Expr} {t t' : TI} (h : PI X tg e t) (hi : ∀ σ H R, t' σ H R → t σ H R) : PI X tg e t' := ⟨fun pins s σ H R I hq => h.run pins s σ H R I (hi _ _ _ hq)⟩
section
variable {X : Cx} {W : WX}
/-! ### targets -/
theorem wipe_at : ∀ (vs : List Nat) (σ : L2.St) (i : Nat), (L2.wipe σ vs)[i]? = if i ∈ vs ∧ i < σ.length then some none else σ[i]?
  | [], σ, i => by simp [L2.wipe]
  | v :: vs, σ, i => by
    show ((L2.wipe σ vs).set v none)[i]? = _
    by_cases hv : v = i
    · subst hv
      by_cases hl : v < σ.length
      · rw [List.getElem?_set_self (by rw [L2.wipe_length]; exact hl)]; simp [hl]
      · rw [List.getElem?_eq_none (by rw [List.length_set, L2.wipe_length]; omega)]
        rw [if_neg (by omega), List.getElem?_eq_none (by omega)]
    · rw [List.getElem?_set_ne hv, wipe_at vs σ i]
      have : (i ∈ v :: vs) ↔ i ∈ vs := by simp [Ne.symm hv]
      simp only [this]
theorem wipe_set {vs : List Nat} {σ : L2.St} {i : Nat} {x : Option V} (h : i ∈ vs) : L2.wipe (σ.set i x) vs = L2.wipe σ vs := by
  apply List.ext_getElem?
  intro j
  rw [wipe_at, wipe_at, List.length_set]
  by_cases hj : j ∈ vs ∧ j < σ.length
  · rw [if_pos hj, if_pos hj]
  · rw [if_neg hj, if_neg hj]
    by_cases e : i = j
    · subst e
      have : ¬ i < σ.length := fun z => hj ⟨h, z⟩
      rw [List.getElem?_eq_none (by rw [List.length_set]; omega), List.getElem?_eq_none (by omega)]
    · rw [List.getElem?_set_ne e]
theorem wipe_twice (σ : L2.St) (vs : List Nat) : L2.wipe (L2.wipe σ vs) vs = L2.wipe σ vs := by
  apply List.ext_getElem?
  intro i
  rw [wipe_at, wipe_at, L2.wipe_length]
  split <;> rfl
variable {vs : List Nat}
theorem gg_name {i : Nat} {x : Str} {pos : Pos} (hN : X.N.Nodup) (hi : X.N[i]? = some x) (hx : Loc X.env.scope x) (hf : X.fn x = true ∨ X.env.scope.names.lookup x = some .local) (hv : i ∈ vs) : GG X vs (.Name x pos) (gName i) :=
  (pg_name hN hi hx hf).imp fun v σ H Q ⟨d, e, m, Φ, K, S, R, r, h, hK⟩ => hK _ _ _ _ _ h (Phi.le.refl _) S (R.put i r) (wipe_set hv)
theorem ggs_nil : GGs X vs [] gsNil := pgs_nil.imp fun vs σ H Q ⟨ds, e, m, Φ, K, S, R, r, h, hK⟩ => by
  cases r with
  | nil => exact ⟨rfl, hK _ _ _ _ _ h (Phi.le.refl _) S R rfl⟩
  | cons _ _ => exact h.elim
theorem ggs_cons {g : GD} {gs : GDs} {e : Expr} {es : List Expr} (h1 : GG X vs e g) (h2 : GGs X vs es gs) (hs : (assignEach (e :: es) X.env).map (·.2) = assign e X.env :: (assignEach es X.env).map (·.2)) : GGs X vs (e :: es) (gsCons g gs) :=
  (pgs_cons h1 h2 hs).imp fun us σ H Q ⟨ds, e, m, Φ, K, S, R, r, h, hK⟩ => by
    cases r with
    | nil => exact h.elim
    | cons r rs => exact ⟨_, _, rfl, _, e, m, Φ, _, S, R, r, h, fun e1 m1 Φ1 σ1 H1 h1 l1 S1 R1 w1 => ⟨_, e1, m1, Φ1, _, S1, R1, rs.mono l1, h1, fun e2 m2 Φ2 σ2 H2 h2 l2 S2 R2 w2 => hK _ _ _ _ _ h2 (l1.trans l2) S2 R2 (w2.trans w1)⟩⟩
theorem gg_tup {gs : GDs} {es : List Expr} {k n : Nat} {pos : Pos} (hc : X.calm = true) (h : GGs X vs es gs) (hn : (assignEach es X.env).length = n) (hst : (assignEach es X.env).findIdx? (·.1) = none) : GG X vs (.Tuple es k pos) (gTup n gs) :=
  (pg_tup hc h hn hst).imp fun v σ H Q ⟨d, e, m, Φ, K, S, R, r, h, hK⟩ => by
    cases r with
    | tup hq rs => exact ⟨_, _, rfl, S.seqT hq, rs.length.symm.trans h.1, _, e, m, Φ, _, S, R, rs, h.2, hK⟩
    | _ => exact h.elim

/-! ### what is walked -/
theorem ItOk.mono {K : PySem.W.Frag} {mg : Str → Option Value} {Φ Φ' : Phi} {J : It} {chk : Mem → Prop} {xs : List D} (h : ItOk K mg Φ J chk xs) (l : Φ.f1 Φ') : ItOk K mg Φ' J chk xs :=
  fun i m P H l' => h i m P H (l.trans l')
theorem it_list {K : PySem.W.Frag} {mg : Str → Option Value} {Φ : Phi} {a : Addr} {chk : Mem → Prop} {xs : List D} (h : ∀ (m : Mem) (Φ' : Phi) (H : Hp), Φ.f1 Φ' → Sim K mg Φ' m H → chk m → ∃ vs, SqL K H a vs ∧ Reps K mg Φ' xs vs) : ItOk K mg Φ (Itl K a) chk xs :=
  fun i m P H l S c => by
    obtain ⟨vs, q, r⟩ := h m P H l S c
    refine ⟨fun hi => ⟨vs, q, by rw [← r.length]; exact hi⟩, fun x hx => ?_⟩
    obtain ⟨u, h1, h2⟩ := r.get hx
    refine ⟨⟨vs, u, q, h1⟩, fun v H' y => ?_⟩
    obtain ⟨rfl, y⟩ := y
    have e : v = u := Option.some.inj ((y vs q).symm.trans h1)
    exact ⟨P, Phi.le.refl _, S, e ▸ h2⟩
theorem it_tup {K : PySem.W.Frag} {mg : Str → Option Value} {Φ : Phi} {a : Addr} {chk : Mem → Prop} {xs : List D} (h : ∀ (m : Mem) (Φ' : Phi) (H : Hp), Φ.f1 Φ' → Sim K mg Φ' m H → chk m → ∃ vs, SqT K H a vs ∧ Reps K mg Φ' xs vs) : ItOk K mg Φ (Itt K a) chk xs :=
  fun i m P H l S c => by
    obtain ⟨vs, q, r⟩ := h m P H l S c
    refine ⟨fun hi => ⟨vs, q, by rw [← r.length]; exact hi⟩, fun x hx => ?_⟩
    obtain ⟨u, h1, h2⟩ := r.get hx
    refine ⟨⟨vs, u, q, h1⟩, fun v H' y => ?_⟩
    obtain ⟨rfl, y⟩ := y
    have e : v = u := Option.some.inj ((y vs q).symm.trans h1)
    exact ⟨P, Phi.le.refl _, S, e ▸ h2⟩
theorem upto_length : ∀ (n : Nat) (lo : Int), (upto lo n).length = n
  | 0, _ => rfl
  | n + 1, lo => congrArg Nat.succ (upto_length n (lo + 1))
theorem upto_get : ∀ (n : Nat) (lo : Int) (i : Nat) (x : D), (upto lo n)[i]? = some x → x = .int (lo + i) ∧ i < n
  | 0, _, _, _, h => by simp [upto] at h
  | n + 1, lo, 0, x, h => by
    have h : some (D.int lo) = some x := h
    cases h; exact ⟨by simp, Nat.succ_pos _⟩
  | n + 1, lo, i + 1, x, h => by
    obtain ⟨a, b⟩ := upto_get n (lo + 1) i x h
    refine ⟨?_, Nat.succ_lt_succ b⟩
    rw [a]; congr 1; omega
theorem it_range {K : PySem.W.Frag} {mg : Str → Option Value} {Φ : Phi} {chk : Mem → Prop} (lo : Int) (n : Nat) : ItOk K mg Φ (Itr lo n) chk (upto lo n) := fun i m P H l S c => by
  refine ⟨fun hi => by rw [upto_length] at hi; exact hi, fun x hx => ?_⟩
  obtain ⟨rfl, hi⟩ := upto_get n lo i x hx
  refine ⟨hi, fun v H' y => ?_⟩
  obtain ⟨rfl, rfl⟩ := y
  exact ⟨P, Phi.le.refl _, S, .int _⟩
/-- a list or a tuple, whichever it is -/
theorem pi_either {tg l : Expr} {tl : TE} (hl : PE X l tl) :
    PI X tg l (fun σ H R => tl σ H fun x H1 => ∃ a, x = .ref a ∧ (((∃ xs, SqL X.K H1 a xs) ∧ R (Itl X.K a) H1) ∨ ((∃ xs, SqT X.K H1 a xs) ∧ R (Itt X.K a) H1))) := by
  constructor
  intro pins s σ H R I h
  refine thn (hl.run pins s σ H _ I h) ?_
  rintro v s1 ⟨x, H1, I1, r1, a, rfl, q⟩
  cases r1
  have new : ∀ o : Obj, Inv X pins σ H1 { s1 with heap := s1.heap.push o } := fun o => I1.kept (t' := s1.toks) fun b u e => Heap.get?_push_of_some _ e
  have fp : ∀ b ∈ [s1.heap.objs.size], FpOk X pins H1 b := fun b hb => by
    obtain rfl := List.mem_singleton.mp hb
    exact I1.fpOk (Nat.le_refl _) (I1.hok.fresh (Nat.le_refl _))
  rcases q with ⟨⟨xs, hq⟩, q⟩ | ⟨⟨xs, hq⟩, q⟩
  · obtain ⟨its, rv, p, hz⟩ := I1.list hq
    exact wpAny_pyIter_list p.isList ⟨_, [s1.heap.objs.size], _, _, H1, rfl, new _, turn_list a _, ⟨_, Heap.get?_push_size _ rfl, rfl, rfl⟩, fp, q⟩
  · obtain ⟨its, rv, p, hz⟩ := I1.tuple hq
    exact wpAny_pyIter_tuple (show s1.heap.IsTuple a its.toArray from p) ⟨_, [s1.heap.objs.size], _, _, H1, rfl, new _, turn_tuple a _, ⟨_, Heap.get?_push_size _ rfl, rfl, rfl⟩, fp, q⟩
/-- a row of data, where it stands -/
theorem Sim.seqAt {K : PySem.W.Frag} {mg : Str → Option Value} {Φ : Phi} {m : Mem} {H : Hp} (S : Sim K mg Φ m H) {x : D} {v : V} {xs : List D} (r : Rep K mg Φ x v) (h : x.seq m = some xs) : ∃ a vs, v = .ref a ∧ Reps K mg Φ xs vs ∧ ((SqL K H a vs ∧ x.items m = some xs) ∨ (SqT K H a vs ∧ x = .tup xs)) := by
  cases r with
  | tup hq rs =>
    have h := Option.some.inj h
    subst h
    exact ⟨_, _, rfl, rs, .inr ⟨S.seqT hq, rfl⟩⟩
  | lst hq rs =>
    have h' := Option.some.inj h
    subst h'
    exact ⟨_, _, rfl, rs, .inl ⟨.inl (.inl (S.sub _ _ hq)), rfl⟩⟩
  | old hq rs =>
    have h' := Option.some.inj h
    subst h'
    exact ⟨_, _, rfl, rs, .inl ⟨S.seqL hq, rfl⟩⟩
  | @cell n p hp =>
    have h : (match m[n]? with
      | some (.lst xs) => some xs
      | _ => none) = some xs := h
    split at h
    · rename_i ys q
      cases h
      obtain ⟨vs, k1, k2⟩ := S.at_ n _ p q hp
      refine ⟨p, vs, rfl, k2, .inl ⟨.inl (.inl k1), ?_⟩⟩
      show (match m[n]? with
      | some (.lst xs) => some xs
      | _ => none) = some _
      rw [q]
    · cases h
  | non => cases h
  | bl _ => cases h
  | int _ => cases h
  | str _ => cases h
  | ins _ _ _ => cases h
theorem D.seq_items {m : Mem} {x : D} {xs : List D} (h : x.items m = some xs) : x.seq m = some xs := by
  cases x with
  | tup _ => cases h
  | _ => exact h
theorem gi_seq {a : RD} {tg e : Expr} (ha : GE X W e a) : GI X W tg e (riSeq a) := (pi_either ha).imp fun σ H R ⟨e, m, Φ, K, E, S, L, h, hK, hE⟩ => by
  refine ⟨e, m, Φ, _, E, S, L, h, fun x m1 Φ1 H1 v h1 l1 S1 r1 => ?_, hE⟩
  obtain ⟨xs, hx, h1⟩ := h1
  obtain ⟨a, vs, rfl, rs, q⟩ := S1.seqAt r1 hx
  refine ⟨a, rfl, ?_⟩
  rcases q with ⟨q, i1⟩ | ⟨q, e⟩
  · refine .inl ⟨⟨vs, q⟩, hK _ _ _ _ _ _ h1 l1 S1 (it_list fun m P H' l S' c => ?_)⟩
    obtain ⟨b, ws, e, rs', q'⟩ := S'.seqAt (r1.mono1 l) c
    cases e
    rcases q' with ⟨q', _⟩ | ⟨_, e⟩
    · exact ⟨ws, q', rs'⟩
    · rw [e] at i1; cases i1
  · subst e
    cases r1 with
    | tup hq rs2 => exact .inr ⟨⟨vs, q⟩, hK _ _ _ _ _ _ h1 l1 S1 (it_tup fun m P H' l S' _ => ⟨_, S'.seqT (sqt_grows l.f hq), rs2.mono1 l⟩)⟩
theorem gi_range1 {a : RD} {tg e : Expr} {p pos : Pos} (hg : Gl X "range") (hm : X.mg "range" = none) (ha : GA X W [e] (raCons a raNil)) (hs : starEach [e] X.env = [(false, eval e X.env)]) : GI X W tg (.Call (.Name "range" p) [e] [] pos) (riRange1 a) :=
  (pi_range1 hg hm ha hs).imp fun σ H R ⟨e, m, Φ, K, E, S, L, h, hK, hE⟩ => by
    refine ⟨e, m, Φ, fun xs m => match xs with
      | [.int j] => (-wide62 ≤ j ∧ j < wide62) ∧ K (fun _ => True) (upto 0 j.toNat) m
      | _ => False, E, S, L, ?_, fun xs m1 Φ1 H1 vs h1 l1 S1 r1 _ => ?_, hE⟩
    · refine cast (congrArg (fun k => a e m k E) ?_) h
      funext x m
      cases x <;> rfl
    · dsimp only at h1
      split at h1
      · cases r1 with
        | cons r rr =>
          cases rr
          cases r
          exact ⟨_, rfl, h1.1.1, h1.1.2, hK _ _ _ _ _ _ h1.2 l1 S1 (it_range 0 _)⟩
      · exact False.elim h1
theorem gi_range2 {a b : RD} {tg e f : Expr} {p pos : Pos} (hg : Gl X "range") (hm : X.mg "range" = none) (ha : GA X W [e, f] (raCons a (raCons b raNil))) (hs : starEach [e, f] X.env = [(false, eval e X.env), (false, eval f X.env)]) (hs2 : starEach [f] X.env = [(false, eval f X.env)]) :
    GI X W tg (.Call (.Name "range" p) [e, f] [] pos) (riRange2 a b) :=
  (pi_range2 hg hm ha hs hs2).imp fun σ H R ⟨e, m, Φ, K, E, S, L, h, hK, hE⟩ => by
    refine ⟨e, m, Φ, fun xs m => match xs with
      | [.int i, .int j] => (-wide62 ≤ i ∧ i < wide62 ∧ -wide62 ≤ j ∧ j < wide62) ∧ K (fun _ => True) (upto i (j - i).toNat) m
      | _ => False, E, S, L, ?_, fun xs m1 Φ1 H1 vs h1 l1 S1 r1 _ => ?_, hE⟩
    · refine cast (congrArg (fun k => a e m k E) ?_) h
      funext x m
      refine congrArg (fun k => b e m k E) ?_
      funext y m
      cases x <;> first | rfl | (cases y <;> rfl)
    · dsimp only at h1
      split at h1
      · cases r1 with
        | cons r rr =>
          cases rr with
          | cons r' rr =>
            cases rr
            cases r
            cases r'
            exact ⟨_, _, rfl, h1.1, hK _ _ _ _ _ _ h1.2 l1 S1 (it_range _ _)⟩
      · exact False.elim h1

/-! ### comprehensions -/
theorem Sim.guard {K : PySem.W.Frag} {mg : Str → Option Value} {Φ : Phi} {m : Mem} {H : Hp} (S : Sim K mg Φ m H) {p : Addr} {o : HO} (h : H p = none) : Sim K mg ⟨Φ.F, Φ.c, upd Φ.g p o⟩ m (upd H p o) := by
  obtain ⟨h1, h2⟩ := S.fresh h
  have hg : Φ.g p = none := by
    cases q : Φ.g p with
    | none => rfl
    | some u => have := (S.gd p u q).1; rw [h] at this; cases this
  refine ⟨fun a u e => ?_, S.len, S.nd, fun a ha => ?_, fun a u q => ?_, fun n x a hx ha => ?_⟩
  · rw [upd_ne (ne_of_none e h1)]; exact S.sub a u e
  · obtain ⟨q1, u, q2⟩ := S.out a ha
    exact ⟨q1, u, by rw [upd_ne (ne_of_none q2 h)]; exact q2⟩
  · have q : upd Φ.g p o a = some u := q
    by_cases z : a = p
    · subst z; rw [upd_same] at q ⊢; exact ⟨q, h1, h2⟩
    · rw [upd_ne z] at q ⊢; exact S.gd a u q
  · have z : a ≠ p := fun q => h2 (q ▸ List.mem_of_getElem? ha)
    exact (S.at_ n x a hx ha).mono1 ⟨grows.refl _, List.prefix_refl _⟩ (upd_ne z)
/-- what is let alone changes by its owner's hand -/
theorem Sim.turn {K : PySem.W.Frag} {mg : Str → Option Value} {Φ : Phi} {m : Mem} {H : Hp} (S : Sim K mg Φ m H) {p : Addr} {o u : HO} (h : Φ.g p = some o) : Sim K mg ⟨Φ.F, Φ.c, upd Φ.g p u⟩ m (upd H p u) := by
  obtain ⟨h0, h1, h2⟩ := S.gd p o h
  refine ⟨fun a u e => ?_, S.len, S.nd, fun a ha => ?_, fun a u q => ?_, fun n x a hx ha => ?_⟩
  · rw [upd_ne (ne_of_none e h1)]; exact S.sub a u e
  · have z : a ≠ p := fun q => h2 (q ▸ ha)
    obtain ⟨q1, u, q2⟩ := S.out a ha
    exact ⟨q1, u, by rw [upd_ne z]; exact q2⟩
  · have q : upd Φ.g p _ a = some u := q
    by_cases z : a = p
    · subst z; rw [upd_same] at q ⊢; exact ⟨q, h1, h2⟩
    · rw [upd_ne z] at q ⊢; exact S.gd a u q
  · have z : a ≠ p := fun q => h2 (q ▸ List.mem_of_getElem? ha)
    exact (S.at_ n x a hx ha).mono1 ⟨grows.refl _, List.prefix_refl _⟩ (upd_ne z)
/-- it is let go, into what never changes -/
theorem Sim.ungF {K : PySem.W.Frag} {mg : Str → Option Value} {Φ : Phi} {m : Mem} {H : Hp} (S : Sim K mg Φ m H) {p : Addr} {o : HO} {g : Hp} (h : Φ.g = upd g p o) (hg : g p = none) : Sim K mg ⟨upd Φ.F p o, Φ.c, g⟩ m H := by
  obtain ⟨h0, h1, h2⟩ := S.gd p o (by rw [h, upd_same])
  refine ⟨fun a u e => ?_, S.len, S.nd, fun a ha => ?_, fun a u q => ?_, fun n x a hx ha => ?_⟩
  · have e : upd Φ.F p o a = some u := e
    by_cases z : a = p
    · subst z; rw [upd_same] at e; cases e; exact h0
    · rw [upd_ne z] at e; exact S.sub a u e
  · have z : a ≠ p := fun q => h2 (q ▸ ha)
    obtain ⟨q1, q2⟩ := S.out a ha
    exact ⟨by show upd Φ.F p o a = none; rw [upd_ne z]; exact q1, q2⟩
  · have q : g a = some u := q
    have z : a ≠ p := ne_of_none q hg
    obtain ⟨k1, k2, k3⟩ := S.gd a u (by rw [h, upd_ne z]; exact q)
    exact ⟨k1, by show upd Φ.F p o a = none; rw [upd_ne z]; exact k2, k3⟩
  · exact CellR.mono1 (Φ := Φ) (Φ' := ⟨upd Φ.F p o, Φ.c, g⟩) ⟨grows.new h1, List.prefix_refl _⟩ rfl (S.at_ n x a hx ha)
/-- .. or a cell -/
theorem Sim.ungC {K : PySem.W.Frag} {mg : Str → Option Value} {Φ : Phi} {m : Mem} {H : Hp} (S : Sim K mg Φ m H) {p : Addr} {o : HO} {g : Hp} {x : Cell} (h : Φ.g = upd g p o) (hg : g p = none) (hx : CellR K mg ⟨Φ.F, Φ.c ++ [p], g⟩ H p x) :
    Sim K mg ⟨Φ.F, Φ.c ++ [p], g⟩ (m ++ [x]) H := by
  obtain ⟨h0, h1, h2⟩ := S.gd p o (by rw [h, upd_same])
  refine ⟨S.sub, by simp [S.len], ?_, fun a ha => ?_, fun a u q => ?_, fun n y a hy ha => ?_⟩
  · show (Φ.c ++ [p]).Nodup
    rw [List.nodup_append]
    refine ⟨S.nd, by simp, fun a ha b hb => ?_⟩
    rw [List.mem_singleton] at hb; subst hb
    exact fun q => h2 (q ▸ ha)
  · rcases List.mem_append.mp ha with ha | ha
    · exact S.out a ha
    · rw [List.mem_singleton] at ha; subst ha
      exact ⟨h1, o, h0⟩
  · have q : g a = some u := q
    have z : a ≠ p := ne_of_none q hg
    obtain ⟨k1, k2, k3⟩ := S.gd a u (by rw [h, upd_ne z]; exact q)
    refine ⟨k1, k2, fun hm => ?_⟩
    rcases List.mem_append.mp hm with hm | hm
    · exact k3 hm
    · rw [List.mem_singleton] at hm; exact z hm
  · by_cases hn : n < m.length
    · rw [List.getElem?_append_left hn] at hy
      have ha : (Φ.c ++ [p])[n]? = some a := ha
      rw [List.getElem?_append_left (by rw [S.len]; exact hn)] at ha
      exact CellR.mono1 (Φ := Φ) (Φ' := ⟨Φ.F, Φ.c ++ [p], g⟩) ⟨grows.refl _, List.prefix_append _ _⟩ rfl (S.at_ n y a hy ha)
    · rw [List.getElem?_append_right (by omega)] at hy
      have ha : (Φ.c ++ [p])[n]? = some a := ha
      rw [List.getElem?_append_right (by rw [S.len]; omega)] at ha
      obtain ⟨k, hk⟩ : ∃ k, k = n - m.length := ⟨_, rfl⟩
      rw [← hk] at hy
      rw [S.len, ← hk] at ha
      cases k with
      | zero => simp at hy ha; subst hy ha; exact hx
      | succ k => simp at hy
abbrev WN : WX := fun _ _ _ _ => False
/-- a clause's tests -/
abbrev GTs (X : Cx) (W : WX) (e : List Expr) (r : RT) : Prop := PTs X e (LT X.K X.mg r W)
theorem gts_nil : GTs X W [] rtYes := ⟨fun pins s σ H Q I ⟨e, m, Φ, K, E, S, L, h, hK, hE⟩ => pts_nil.run pins s σ H Q I (hK _ _ _ _ h (Phi.le.refl _) S)⟩
theorem gts_one {c : RT} {e : Expr} (h : GT X W e c) : GTs X W [e] c := pts_one h
/-- a comprehension's list, before it is let go -/
theorem lc_lift {i : RI} {g : GD} {t : RT} {a : RD} {σ : L2.St} {H : Hp} {Q : VK} {e : Lo} {m : Mem} {Φ : Phi} {K2 : List D → Mem → Prop} {E : EK} {K : PySem.W.Frag} {mg : Str → Option Value} (S : Sim K mg Φ m H) (L : LoR K mg Φ e σ)
    (h : i e m (fun chk xs m => compL chk g t a vs xs [] e m K2 fun _ _ => False) E) (hE : ∀ x m' Φ' H' cls dd, E x m' → Φ.le Φ' → Sim K mg Φ' m' H' → RepX K mg Φ' x cls dd → W cls dd σ H')
    (fin : ∀ ys m' (Ψ : Phi) H' p ws, K2 ys m' → grows Φ.F Ψ.F → Φ.c <+: Ψ.c → Ψ.g = upd Φ.g p (.lst ws) → Φ.g p = none → Sim K mg Ψ m' H' → Reps K mg Ψ ys ws → Q (.ref p) H') :
    tLc (LI K mg i W) (LG K mg vs g) (LT K mg t WN) (LE K mg a WN) vs σ H Q := by
  refine ⟨e, m, Φ, _, E, S, L, h, fun chk xs m1 Φ1 H1 J h1 l1 S1 ok D hD => ?_, hE⟩
  have gD : Φ1.g D = none := by
    cases q : Φ1.g D with
    | none => rfl
    | some u => have := (S1.gd D u q).1; rw [hD] at this; cases this
  refine ⟨fun i n H => i + n = xs.length ∧ ∃ m2 Ψ acc accV, grows Φ1.F Ψ.F ∧ Φ1.c <+: Ψ.c ∧ Ψ.g = upd Φ1.g D (.lst accV) ∧ Sim K mg Ψ m2 H ∧ Reps K mg Ψ acc accV ∧ compL chk g t a vs (xs.drop i) acc e m2 K2 fun _ _ => False,
    ⟨xs.length, by omega, m1, ⟨Φ1.F, Φ1.c, upd Φ1.g D (.lst [])⟩, [], [], grows.refl _, List.prefix_refl _, rfl, S1.guard hD, .nil, h1⟩, ?_⟩
  rintro i n H ⟨hin, m2, Ψ, acc, accV, f2, c2, g2, S2, r2, h2⟩
  have ok2 := ok i m2 Ψ H ⟨f2, c2⟩ S2
  cases n with
  | zero =>
    rw [List.drop_eq_nil_of_le (by omega)] at h2
    obtain ⟨hc, hk⟩ := h2
    exact .inl ⟨(ok2 hc).1 (by omega), fin acc m2 Ψ H D accV hk (l1.f.trans f2) (l1.c.trans c2) (by rw [g2, l1.g]) (by rw [l1.g]; exact gD) S2 r2⟩
  | succ n =>
    have hi : i < xs.length := by omega
    have hx : xs[i]? = some xs[i] := List.getElem?_eq_getElem hi
    rw [List.drop_eq_getElem_cons hi] at h2
    obtain ⟨hc, h2⟩ := h2
    obtain ⟨go, yl⟩ := (ok2 hc).2 _ hx
    refine .inr ⟨go, _, fun H' z => ⟨n, Nat.lt_succ_self n, z⟩, fun v H' y => ?_⟩
    obtain ⟨Ψ3, l3, S3, r3⟩ := yl v H' y
    have L3 : LoR K mg Ψ3 e σ := ⟨L.len, fun i d q => let ⟨v, a, b⟩ := L.at_ i d q; ⟨v, a, (b.mono l1).mono1 ⟨f2.trans l3.f, c2.trans l3.c⟩⟩⟩
    refine ⟨_, e.wipe vs, m2, Ψ3, _, S3, L3.wipe vs, r3, h2, fun e4 m4 Φ4 σ4 H4 h4 l4 S4 R4 w4 => ⟨w4.trans (wipe_twice σ vs), ?_⟩⟩
    refine ⟨e4, m4, Φ4, _, _, S4, R4, h4, fun b m5 Φ5 H5 h5 l5 S5 => ?_, fun x m' Φ' H' c d z => z.elim⟩
    have l35 := (l3.trans l4).trans l5
    cases b with
    | false =>
      refine iteF ⟨by omega, m5, Φ5, acc, accV, f2.trans l35.f, c2.trans l35.c, l35.g.symm.trans g2, S5, r2.mono l35, ?_⟩
      rw [if_neg Bool.false_ne_true] at h5
      exact h5
    | true =>
      refine iteT ?_
      rw [if_pos rfl] at h5
      refine ⟨e4, m5, Φ5, _, _, S5, R4.mono l5, h5, fun y m6 Φ6 H6 v6 h6 l6 S6 r6 => ?_, fun x m' Φ' H' c d z => z.elim⟩
      have l36 := l35.trans l6
      have g6 : Φ6.g = upd Φ1.g D (.lst accV) := l36.g.symm.trans g2
      have k6 : Φ6.g D = some (.lst accV) := by rw [g6, upd_same]
      obtain ⟨d1, d2, d3⟩ := S6.gd D _ k6
      refine ⟨accV, d1, ?_, by omega, m6, ⟨Φ6.F, Φ6.c, upd Φ6.g D (.lst (accV ++ [v6]))⟩, acc ++ [y], accV ++ [v6], f2.trans l36.f, c2.trans l36.c, ?_, S6.turn k6, ?_, h6.2⟩
      · rw [← r2.length]; exact Nat.lt_of_lt_of_le h6.1 (by decide)
      · show upd Φ6.g D _ = _
        rw [g6, upd_upd]
      · exact (r2.mono l36).append (.cons r6 .nil)
theorem le_comp {i : RI} {g : GD} {t : RT} {a : RD} {K : PySem.W.Frag} {mg : Str → Option Value} (σ : L2.St) (H : Hp) (Q : VK) (h : LE K mg (rComp i g t a vs) W σ H Q) : tLc (LI K mg i W) (LG K mg vs g) (LT K mg t WN) (LE K mg a WN) vs σ H Q := by
  obtain ⟨e, m, Φ, K', E, S, L, h, hK, hE⟩ := h
  refine lc_lift S L h hE fun ys m' Ψ H' p ws hk f c g gp S' r => ?_
  have S2 := S'.ungF g gp
  have d2 := (S'.gd p (.lst ws) (by rw [g, upd_same])).2.1
  exact hK _ _ ⟨upd Ψ.F p (.lst ws), Ψ.c, Φ.g⟩ H' _ hk ⟨f.trans (grows.new d2), c, rfl⟩ S2 (.lst upd_same (Reps0.mono1 (Φ := Ψ) (Φ' := ⟨upd Ψ.F p (.lst ws), Ψ.c, Φ.g⟩) ⟨grows.new d2, List.prefix_refl _⟩ r))
theorem le_compN {i : RI} {g : GD} {t : RT} {a : RD} {K : PySem.W.Frag} {mg : Str → Option Value} (σ : L2.St) (H : Hp) (Q : VK) (h : LE K mg (rCompN i g t a vs) W σ H Q) : tLc (LI K mg i W) (LG K mg vs g) (LT K mg t WN) (LE K mg a WN) vs σ H Q := by
  obtain ⟨e, m, Φ, K', E, S, L, h, hK, hE⟩ := h
  refine lc_lift S L h hE fun ys m' Ψ H' p ws hk f c g gp S' r => ?_
  have d1 := (S'.gd p (.lst ws) (by rw [g, upd_same])).1
  have S2 := S'.ungC (x := .lst ys) g gp ⟨ws, d1, Reps0.mono1 (Φ := Ψ) (Φ' := ⟨Ψ.F, Ψ.c ++ [p], Φ.g⟩) ⟨grows.refl _, List.prefix_append _ _⟩ r⟩
  exact hK _ _ ⟨Ψ.F, Ψ.c ++ [p], Φ.g⟩ H' _ hk ⟨f, c.trans (List.prefix_append _ _), rfl⟩ S2 (.cell (S'.cellAt p))
section
variable {elt tg iter : Expr} {ifs : List Expr} {scope : Scope} {own : List (Str × Nat)} {pos : Pos} {i : RI} {g : GD} {t : RT} {a : RD}
/-- in a comprehension's block -/
def InBlk (X : Cx) (scope : Scope) (P : Cx → Prop) : Prop := ∀ (s : Shared) (H : Hp) (C : Addr) (cl : List (Str × Addr)) (fp : List Addr), P (X.blk s H scope (compEnvC scope cl C X.env) fp)
theorem ge_comp (hc : X.calm = true) (hN : X.N.Nodup) (hi : GI X W tg iter i) (ok : BlkOk X.N X.env.scope scope own) (hg : InBlk X scope fun Y => GG Y (own.map (·.2)) tg g) (ht : InBlk X scope fun Y => GTs Y WN ifs t) (he : InBlk X scope fun Y => GE Y WN elt a)
    (hs : ∀ x, foldedSetIterable iter X.env x = pure x) : GE X W (.ListComp elt [⟨tg, iter, ifs, 0⟩] scope pos) (rComp i g t a (own.map (·.2))) := (pe_lc (g := LG X.K X.mg (List.map (fun x : Str × Nat => x.2) own) g) (tt := LT X.K X.mg t WN) (te := LE X.K X.mg a WN) hc hN hi ok (fun s H C cl fp => hg s H C cl fp) (fun s H C cl fp => ht s H C cl fp) (fun s H C cl fp => he s H C cl fp) hs).imp le_comp
theorem ge_compN (hc : X.calm = true) (hN : X.N.Nodup) (hi : GI X W tg iter i) (ok : BlkOk X.N X.env.scope scope own) (hg : InBlk X scope fun Y => GG Y (own.map (·.2)) tg g) (ht : InBlk X scope fun Y => GTs Y WN ifs t) (he : InBlk X scope fun Y => GE Y WN elt a)
    (hs : ∀ x, foldedSetIterable iter X.env x = pure x) : GE X W (.ListComp elt [⟨tg, iter, ifs, 0⟩] scope pos) (rCompN i g t a (own.map (·.2))) := (pe_lc (g := LG X.K X.mg (List.map (fun x : Str × Nat => x.2) own) g) (tt := LT X.K X.mg t WN) (te := LE X.K X.mg a WN) hc hN hi ok (fun s H C cl fp => hg s H C cl fp) (fun s H C cl fp => ht s H C cl fp) (fun s H C cl fp => he s H C cl fp) hs).imp le_compN
end

/-! ### statements -/
section
variable {pos : Pos}
theorem GoOk.refl {K : PySem.W.Frag} {mg : Str → Option Value} {G : Go} {D : Ends} {Φ : Phi} (h : GoOk K mg W Φ G D) : GoOk K mg W Φ G D := h
theorem gb_nil : GB X W [] sSkip := pss_nil.imp fun D σ H ⟨e, m, Φ, G, S, L, h, ok⟩ => ok.nx _ _ _ _ _ h (Phi.le.refl _) S L
theorem gb_cons {a b : SD} {s : Stmt} {ss : List Stmt} (ha : GS X W s a) (hb : GB X W ss b) : GB X W (s :: ss) (sSeq a b) :=
  (pss_cons ha hb).imp fun D σ H ⟨e, m, Φ, G, S, L, h, ok⟩ =>
    ⟨e, m, Φ, _, S, L, h, ⟨fun e1 m1 Φ1 H1 σ1 h1 l1 S1 L1 => ⟨e1, m1, Φ1, G, S1, L1, h1, ok.mono l1⟩, ok.rt, ok.ex⟩⟩
theorem gb_one {a : SD} {s : Stmt} (ha : GS X W s a) : GB X W [s] a := pss_one ha
theorem gs_pass : GS X W (.Pass pos) sSkip := ps_pass.imp fun D σ H ⟨e, m, Φ, G, S, L, h, ok⟩ => ok.nx _ _ _ _ _ h (Phi.le.refl _) S L
theorem gs_doc {x : Str} {j : Nat} {pos' : Pos} : GS X W (.Expr (.Constant (.str x) j pos) pos') sSkip := ps_doc.imp fun D σ H ⟨e, m, Φ, G, S, L, h, ok⟩ => ok.nx _ _ _ _ _ h (Phi.le.refl _) S L
theorem gs_drop {a : RD} {e : Expr} (ha : GE X W e a) (hs : swapsWith e none pos.line X.env = pure false) : GS X W (.Expr e pos) (sDrop a) :=
  (ps_expr ha hs).imp fun D σ H ⟨e, m, Φ, G, S, L, h, ok⟩ => ⟨e, m, Φ, _, _, S, L, h, fun x m1 Φ1 H1 v h1 l1 S1 r1 => ok.nx _ _ _ _ _ h1 l1 S1 (L.mono l1), fun x m1 Φ1 H1 c d h1 l1 S1 r1 => ok.ex _ _ _ _ _ _ _ _ h1 l1 S1 (L.mono l1) r1⟩
theorem ls_asg {a : RD} {g : GD} {D : Ends} {σ : L2.St} {H : Hp} {K : PySem.W.Frag} {mg : Str → Option Value} (h : LS K mg (sAsg a g) W D σ H) : tAsg (LE K mg a W) (LG K mg vs g) D σ H := by
  obtain ⟨e, m, Φ, G, S, L, h, ok⟩ := h
  exact ⟨e, m, Φ, _, _, S, L, h, fun x m1 Φ1 H1 v h1 l1 S1 r1 => ⟨x, e, m1, Φ1, _, S1, L.mono l1, r1, h1, fun e2 m2 Φ2 σ2 H2 h2 l2 S2 L2 w => ok.nx _ _ _ _ _ h2 (l1.trans l2) S2 L2⟩, fun x m1 Φ1 H1 c d h1 l1 S1 r1 => ok.ex _ _ _ _ _ _ _ _ h1 l1 S1 (L.mono l1) r1⟩
theorem gs_asg {a : RD} {g : GD} {tg e : Expr} (ha : GE X W e a) (hg : GG X vs tg g) (hs : swapsWithSole [tg] e pos.line X.env = pure false) (hw : swappedStores [tg] e X.env = pure none) (h1 : (assignEach [tg] X.env).map (·.2) = [assign tg X.env]) :
    GS X W (.Assign [tg] e pos) (sAsg a g) := (ps_asg ha hg hs hw h1).imp fun D σ H h => ls_asg h
/-- name = [..], swapped -/
theorem gs_setLc {j : Nat} {y : Str} {py cpos : Pos} {elt tg iter : Expr} {ifs : List Expr} {scope : Scope} {own : List (Str × Nat)} {i : RI} {g : GD} {t : RT} {a : RD} (hc : X.calm = true) (hN : X.N.Nodup) (hy : X.N[j]? = some y) (hyl : X.env.scope.names.lookup y = some .local)
    (hsw : swapsWith (.ListComp elt [⟨tg, iter, ifs, 0⟩] scope cpos) (some (.Name y py)) pos.line X.env = pure true) (hi : GI X W tg iter i) (ok : BlkOk X.N X.env.scope scope own) (hg : InBlk X scope fun Y => GG Y (own.map (·.2)) tg g) (ht : InBlk X scope fun Y => GTs Y WN ifs t)
    (he : InBlk X scope fun Y => GE Y WN elt a) (hs : ∀ x, foldedSetIterable iter X.env x = pure x) : GS X W (.Assign [.Name y py] (.ListComp elt [⟨tg, iter, ifs, 0⟩] scope cpos) pos) (sAsg (rComp i g t a (own.map (·.2))) (gName j)) :=
  (ps_setLc (g := LG X.K X.mg (List.map (fun x : Str × Nat => x.2) own) g) (tt := LT X.K X.mg t WN) (te := LE X.K X.mg a WN) hc hN hy hyl hsw hi ok (fun s H C cl fp => hg s H C cl fp) (fun s H C cl fp => ht s H C cl fp) (fun s H C cl fp => he s H C cl fp) hs).imp fun D σ H ⟨e, m, Φ, G, S, L, h, k⟩ => show tLc _ _ _ _ _ σ H (fun v H1 => D.nx (σ.set j (some v)) H1) from le_comp (W := W) σ H _ ⟨e, m, Φ, _, _, S, L, h, fun x m1 Φ1 H1 v h1 l1 S1 r1 => k.nx _ _ _ _ _ h1 l1 S1 ((L.mono l1).put j r1), fun x m1 Φ1 H1 c d h1 l1 S1 r1 => k.ex _ _ _ _ _ _ _ _ h1 l1 S1 (L.mono l1) r1⟩
end
end
end PL

/-! PyE: operators, built-ins, cells. -/
namespace PL
open PySem PySem.Spec PyProof.Rows L2
theorem textLine_le {n : Nat} (h : n ≤ textLine) : n ≤ sizeLine := Nat.le_trans h (by decide)
theorem line5 {n : Nat} (h : n ≤ 100000) : n ≤ sizeLine := Nat.le_trans h (by decide)

/-! ### data, as they are read -/
section
variable {K : PySem.W.Frag} {mg : Str → Option Value} {Φ : Phi} {m : Mem} {H : Hp}
theorem py_all {f : D → Option PyData} (hf : ∀ d v p, Rep K mg Φ d v → f d = some p → Dp K H v p) : ∀ (xs : List D) (vs : List V) (ps : List PyData), Reps K mg Φ xs vs → allO f xs = some ps → DpAll K H vs ps
  | [], _, ps, .nil, h => by cases h; exact .nil
  | x :: xs, _, ps, .cons r rs, h => by
    unfold allO at h
    split at h
    · rename_i a b h1 h2
      cases h
      exact .cons (hf _ _ _ r h1) (py_all hf xs _ _ rs h2)
    · cases h
theorem Sim.py (S : Sim K mg Φ m H) : ∀ (k : Nat) (d : D) (v : V) (p : PyData), Rep K mg Φ d v → d.pyN m k = some p → Dp K H v p
  | k, .non, _, p, .non, h => by cases k <;> (cases h; exact .non)
  | k, .bl b, _, p, .bl _, h => by cases k <;> (cases h; exact .bl b)
  | k, .int i, _, p, .int _, h => by cases k <;> (cases h; exact .int i)
  | k, .str s, _, p, .str _, h => by cases k <;> (cases h; exact .str s)
  | 0, .tup xs, _, p, .tup _ _, h => by cases h
  | 0, .lst xs, _, p, .lst _ _, h => by cases h
  | 0, .old xs, _, p, .old _ _, h => by cases h
  | 0, .cell n, _, p, .cell _, h => by cases h
  | 0, .ins _ _, _, p, _, h => by cases h
  | k + 1, .ins _ _, _, p, _, h => by cases h
  | k + 1, .tup xs, _, p, .tup q rs, h => by
    obtain ⟨ps, h1, rfl⟩ := Option.map_eq_some_iff.mp (show (allO (D.pyN m k) xs).map PyData.tuple = some p from h)
    exact .tup (S.seqT q) (py_all (fun d v p => S.py k d v p) xs _ ps rs h1)
  | k + 1, .lst xs, _, p, .lst q rs, h => by
    obtain ⟨ps, h1, rfl⟩ := Option.map_eq_some_iff.mp (show (allO (D.pyN m k) xs).map PyData.list = some p from h)
    exact .lst (.inl (.inl (S.sub _ _ q))) (py_all (fun d v p => S.py k d v p) xs _ ps rs h1)
  | k + 1, .old xs, _, p, .old q rs, h => by
    obtain ⟨ps, h1, rfl⟩ := Option.map_eq_some_iff.mp (show (allO (D.pyN m k) xs).map PyData.list = some p from h)
    exact .lst (S.seqL q) (py_all (fun d v p => S.py k d v p) xs _ ps rs h1)
  | k + 1, .cell n, _, p, .cell hp, h => by
    have h : (match m[n]? with
      | some (.lst xs) => (allO (D.pyN m k) xs).map PyData.list
      | _ => none) = some p := h
    split at h
    · rename_i xs q
      obtain ⟨ps, h1, rfl⟩ := Option.map_eq_some_iff.mp h
      obtain ⟨vs, k1, k2⟩ := S.at_ n _ _ q hp
      exact .lst (.inl (.inl k1)) (py_all (fun d v p => S.py k d v p) xs _ ps k2 h1)
    · cases h
mutual
def plainP : PyData → Bool
  | .list xs | .tuple xs => plainPs xs
  | .dict _ => false
  | _ => true
def plainPs : List PyData → Bool
  | [] => true
  | x :: xs => plainP x && plainPs xs
end
theorem py_allP {f : D → Option PyData} {k : Nat} (hf : ∀ d p, f d = some p → plainP p = true ∧ p.depth ≤ k) : ∀ (xs : List D) (ps : List PyData), allO f xs = some ps → plainPs ps = true ∧ PyData.depthAll ps ≤ k
  | [], ps, h => by cases h; exact ⟨by simp [plainPs], by simp [PyData.depthAll]⟩
  | x :: xs, ps, h => by
    unfold allO at h
    split at h
    · rename_i a b h1 h2
      cases h
      obtain ⟨p1, p2⟩ := hf _ _ h1
      obtain ⟨q1, q2⟩ := py_allP hf xs b h2
      refine ⟨by simp [plainPs, p1, q1], ?_⟩
      simp only [PyData.depthAll]
      exact Nat.max_le.mpr ⟨p2, q2⟩
    · cases h
theorem pyN_plain {m : Mem} : ∀ (k : Nat) (d : D) (p : PyData), d.pyN m k = some p → plainP p = true ∧ p.depth ≤ k
  | k, .non, p, h => by cases k <;> (cases h; exact ⟨by simp [plainP], by simp [PyData.depth]⟩)
  | k, .bl b, p, h => by cases k <;> (cases h; exact ⟨by simp [plainP], by simp [PyData.depth]⟩)
  | k, .int i, p, h => by cases k <;> (cases h; exact ⟨by simp [plainP], by simp [PyData.depth]⟩)
  | k, .str s, p, h => by cases k <;> (cases h; exact ⟨by simp [plainP], by simp [PyData.depth]⟩)
  | 0, .tup xs, p, h => by cases h
  | 0, .lst xs, p, h => by cases h
  | 0, .old xs, p, h => by cases h
  | 0, .cell n, p, h => by cases h
  | 0, .ins _ _, p, h => by cases h
  | k + 1, .ins _ _, p, h => by cases h
  | k + 1, .tup xs, p, h => by
    obtain ⟨ps, h1, rfl⟩ := Option.map_eq_some_iff.mp (show (allO (D.pyN m k) xs).map PyData.tuple = some p from h)
    obtain ⟨a, b⟩ := py_allP (fun d p => pyN_plain k d p) xs ps h1
    exact ⟨by simpa [plainP] using a, by simp only [PyData.depth]; omega⟩
  | k + 1, .lst xs, p, h => by
    obtain ⟨ps, h1, rfl⟩ := Option.map_eq_some_iff.mp (show (allO (D.pyN m k) xs).map PyData.list = some p from h)
    obtain ⟨a, b⟩ := py_allP (fun d p => pyN_plain k d p) xs ps h1
    exact ⟨by simpa [plainP] using a, by simp only [PyData.depth]; omega⟩
  | k + 1, .old xs, p, h => by
    obtain ⟨ps, h1, rfl⟩ := Option.map_eq_some_iff.mp (show (allO (D.pyN m k) xs).map PyData.list = some p from h)
    obtain ⟨a, b⟩ := py_allP (fun d p => pyN_plain k d p) xs ps h1
    exact ⟨by simpa [plainP] using a, by simp only [PyData.depth]; omega⟩
  | k + 1, .cell n, p, h => by
    have h : (match m[n]? with
      | some (.lst xs) => (allO (D.pyN m k) xs).map PyData.list
      | _ => none) = some p := h
    split at h
    · rename_i xs q
      obtain ⟨ps, h1, rfl⟩ := Option.map_eq_some_iff.mp h
      obtain ⟨a, b⟩ := py_allP (fun d p => pyN_plain k d p) xs ps h1
      exact ⟨by simpa [plainP] using a, by simp only [PyData.depth]; omega⟩
    · cases h
mutual
theorem plain_noD : ∀ p : PyData, plainP p = true → p.hasDict = false
  | .none, _ => by simp [PyData.hasDict]
  | .bool _, _ => by simp [PyData.hasDict]
  | .int _, _ => by simp [PyData.hasDict]
  | .str _, _ => by simp [PyData.hasDict]
  | .list xs, h => by
    have b := plain_noDs xs (by simpa [plainP] using h)
    simpa [PyData.hasDict] using b
  | .tuple xs, h => by
    have b := plain_noDs xs (by simpa [plainP] using h)
    simpa [PyData.hasDict] using b
  | .dict _, h => by simp [plainP] at h
theorem plain_noDs : ∀ ps : List PyData, plainPs ps = true → PyData.hasDictAll ps = false
  | [], _ => by simp [PyData.hasDictAll]
  | p :: ps, h => by
    have h' : plainP p = true ∧ plainPs ps = true := by simpa [plainPs] using h
    have b := plain_noD p h'.1
    have d := plain_noDs ps h'.2
    simp [PyData.hasDictAll, b, d]
end
theorem py_shaped {d : D} {p : PyData} (h : d.py m = some p) (hc : p.canLay0 = true) : SeqAt.shaped p = true := by
  obtain ⟨a, b⟩ := pyN_plain 20 d p h
  unfold SeqAt.shaped
  rw [hc, Bool.true_and]
  exact decide_eq_true (by omega)
end

section
variable {X : Cx} {W : WX}
/-! ### numbers, texts -/
theorem ok_sub : Op2Ok X oSub (rI0 fun i j => .int (i - j)) := fun Φ m H x y v u K Q S r1 r2 h hK => by
  cases r1 <;> try exact False.elim h
  cases r2 <;> try exact False.elim h
  exact ⟨_, _, rfl, rfl, hK _ _ _ _ h (Phi.le.refl _) S (.int _)⟩
theorem ok_cmp {o : Op2} {p : Int → Int → Bool} (ho : ∀ m i j K, o m (.int i) (.int j) K → K (.bl (p i j))) (hn : ∀ m x y K, o m x y K → ∃ i j, x = .int i ∧ y = .int j) : Op2Ok X o (rI0 fun i j => .bl (p i j)) := fun Φ m H x y v u K Q S r1 r2 h hK => by
  obtain ⟨i, j, rfl, rfl⟩ := hn _ _ _ _ h
  cases r1; cases r2
  exact ⟨_, _, rfl, rfl, hK _ _ _ _ (ho _ _ _ _ h) (Phi.le.refl _) S (.bl _)⟩
theorem two_ints {o : Op2} {f : Mem → Int → Int → (D → Prop) → Prop} (e : o = fun m x y K => match x, y with
  | .int i, .int j => f m i j K
  | _, _ => False) : ∀ m x y K, o m x y K → ∃ i j, x = .int i ∧ y = .int j := by
  subst e
  intro m x y K h
  cases x <;> cases y <;> first | exact ⟨_, _, rfl, rfl⟩ | exact False.elim h
theorem ok_lt : Op2Ok X oLt (rI0 fun i j => .bl (decide (i < j))) := ok_cmp (fun _ _ _ _ h => h) (two_ints (f := fun m i j K => K (.bl (decide (i < j)))) rfl)
theorem ok_le : Op2Ok X oLe (rI0 fun i j => .bl (decide (i ≤ j))) := ok_cmp (fun _ _ _ _ h => h) (two_ints (f := fun m i j K => K (.bl (decide (i ≤ j)))) rfl)
theorem ok_gt : Op2Ok X oGt (rI0 fun i j => .bl (decide (j < i))) := ok_cmp (fun _ _ _ _ h => h) (two_ints (f := fun m i j K => K (.bl (decide (j < i)))) rfl)
theorem ok_ge : Op2Ok X oGe (rI0 fun i j => .bl (decide (j ≤ i))) := ok_cmp (fun _ _ _ _ h => h) (two_ints (f := fun m i j K => K (.bl (decide (j ≤ i)))) rfl)
theorem ok_neg : Op1Ok X oNeg (rU fun i => .int (-i)) := fun Φ m H x v K Q S r1 h hK => by
  cases r1 <;> try exact False.elim h
  exact ⟨_, rfl, hK _ _ _ _ h (Phi.le.refl _) S (.int _)⟩
def rMulX : R2 := fun x y H Q => rI CMul (fun i j => .int (i * j)) x y H Q ∨ rI CMulW (fun i j => .int (i * j)) x y H Q
theorem op_mulX : OpR X (binaryOp .Mult) rMulX := OpR.or op_mul op_mulW
theorem ok_mul : Op2Ok X oMul rMulX := fun Φ m H x y v u K Q S r1 r2 h hK => by
  cases r1 <;> try exact False.elim h
  cases r2 <;> try exact False.elim h
  rcases h.1 with c | c
  · exact .inl ⟨_, _, rfl, rfl, c, hK _ _ _ _ h.2 (Phi.le.refl _) S (.int _)⟩
  · exact .inr ⟨_, _, rfl, rfl, c, hK _ _ _ _ h.2 (Phi.le.refl _) S (.int _)⟩
def rDivX : R2 := fun x y H Q => rI CDivN (fun i j => .int (i.fdiv j)) x y H Q ∨ rI CDivW (fun i j => .int (i / j)) x y H Q
theorem op_divX : OpR X (binaryOp .FloorDiv) rDivX := OpR.or op_fdivN op_fdivW
theorem ok_div : Op2Ok X oDiv rDivX := fun Φ m H x y v u K Q S r1 r2 h hK => by
  cases r1 <;> try exact False.elim h
  cases r2 <;> try exact False.elim h
  rename_i i j
  rcases h.1 with c | c
  · exact .inl ⟨_, _, rfl, rfl, c, hK _ _ _ _ h.2 (Phi.le.refl _) S (.int _)⟩
  · refine .inr ⟨_, _, rfl, rfl, c, ?_⟩
    have h2 : K (.int (i.fdiv j)) := h.2
    rw [Int.fdiv_eq_ediv_of_nonneg _ (Int.le_of_lt c.1)] at h2
    exact hK _ _ _ _ h2 (Phi.le.refl _) S (.int _)
theorem ok_mod : Op2Ok X oMod (rI (fun _ j => j ≠ 0) fun i j => .int (i.fmod j)) := fun Φ m H x y v u K Q S r1 r2 h hK => by
  cases r1 <;> try exact False.elim h
  cases r2 <;> try exact False.elim h
  exact ⟨_, _, rfl, rfl, h.1, hK _ _ _ _ h.2 (Phi.le.refl _) S (.int _)⟩
theorem ok_pow : Op2Ok X oPow (rI CPow fun i j => .int (i ^ j.toNat)) := fun Φ m H x y v u K Q S r1 r2 h hK => by
  cases r1 <;> try exact False.elim h
  cases r2 <;> try exact False.elim h
  exact ⟨_, _, rfl, rfl, h.1, hK _ _ _ _ h.2 (Phi.le.refl _) S (.int _)⟩
def rAddS : R2 := fun x y H Q => ∃ i j, x = .str i ∧ y = .str j ∧ i.length + j.length ≤ sizeLine ∧ Q (.str (i ++ j)) H
def rAddX (K : PySem.W.Frag) : R2 := fun x y H Q => rI0 (fun i j => .int (i + j)) x y H Q ∨ (rAddS x y H Q ∨ rCatA K x y H Q)
theorem op_addX : OpR X (binaryOp .Add) (rAddX X.K) := OpR.or op_add (OpR.or op_add_str op_catA)
theorem ok_add : Op2Ok X oAdd (rAddX X.K) := fun Φ m H x y v u K Q S r1 r2 h hK => by
  cases r1 with
  | int i => cases r2 with
    | int j => exact .inl ⟨_, _, rfl, rfl, hK _ _ _ _ h (Phi.le.refl _) S (.int _)⟩
    | _ => exact False.elim h
  | str a => cases r2 with
    | str b => exact .inr (.inl ⟨_, _, rfl, rfl, textLine_le h.1, hK _ _ _ _ h.2 (Phi.le.refl _) S (.str _)⟩)
    | _ => exact False.elim h
  | tup q1 s1 => cases r2 with
    | tup q2 s2 =>
      refine .inr (.inr ⟨_, _, _, _, rfl, rfl, S.seqT q1, S.seqT q2, ?_, fun e => ?_, fun _ e => ?_, fun _ _ p hp => ?_⟩)
      · rw [← s1.length, ← s2.length]; exact line5 h.1
      · subst e
        cases s1
        exact hK _ _ _ _ h.2 (Phi.le.refl _) S (.tup q2 s2)
      · subst e
        cases s2
        have h2 := h.2
        rw [List.append_nil] at h2
        exact hK _ _ _ _ h2 (Phi.le.refl _) S (.tup q1 s1)
      · obtain ⟨l, S'⟩ := S.newF (o := .tup _) hp
        exact hK _ _ _ _ h.2 l S' (.tup (.inl (.inl upd_same)) ((s1.append s2).mono l))
    | _ => exact False.elim h
  | _ => exact False.elim h

/-! ### == -/
def rEqX (K : PySem.W.Frag) : R2 := fun x y H Q => rEq x y H Q ∨ rEqD K x y H Q
theorem op_eqX (hu : X.A.units + 64 < cLine) : OpR X (compareOp .Eq) (rEqX X.K) := OpR.or op_eq (op_eqD hu)
def rNeX (K : PySem.W.Frag) : R2 := fun x y H Q => rNe x y H Q ∨ rNeD K x y H Q
theorem op_neX (hu : X.A.units + 64 < cLine) : OpR X (compareOp .NotEq) (rNeX X.K) := OpR.or op_ne (op_neD hu)
theorem eqK_cases {m : Mem} {x y : D} {K : Bool → Prop} (h : eqK m x y K) : (∃ i j, x = .int i ∧ y = .int j ∧ K (decide (i = j))) ∨ (∃ i j, x = .str i ∧ y = .str j ∧ K (decide (i = j))) ∨ (∃ i j, x = .bl i ∧ y = .bl j ∧ K (decide (i = j))) ∨
    ∃ p q, x.py m = some p ∧ y.py m = some q ∧ p.canLay0 = true ∧ q.canLay0 = true ∧ K (PyData.eqv p q) := by
  unfold eqK at h
  split at h
  · exact .inl ⟨_, _, rfl, rfl, h⟩
  · exact .inr (.inl ⟨_, _, rfl, rfl, h⟩)
  · exact .inr (.inr (.inl ⟨_, _, rfl, rfl, h⟩))
  · exact .inr (.inr (.inr h))
theorem decV_int {i j : Int} : decide (V.int i = V.int j) = decide (i = j) := by
  by_cases h : i = j
  · subst h; simp
  · rw [decide_eq_false h, decide_eq_false fun e => h (V.int.inj e)]
theorem decV_str {i j : Str} : decide (V.str i = V.str j) = decide (i = j) := by
  by_cases h : i = j
  · subst h; simp
  · rw [decide_eq_false h, decide_eq_false fun e => h (V.str.inj e)]
theorem decV_bl {i j : Bool} : decide (V.bl i = V.bl j) = decide (i = j) := by
  by_cases h : i = j
  · subst h; simp
  · rw [decide_eq_false h, decide_eq_false fun e => h (V.bl.inj e)]
theorem ok_eq : Op2Ok X oEq (rEqX X.K) := fun Φ m H x y v u K Q S r1 r2 h hK => by
  rcases eqK_cases h with ⟨i, j, rfl, rfl, h⟩ | ⟨i, j, rfl, rfl, h⟩ | ⟨i, j, rfl, rfl, h⟩ | ⟨p, q, h1, h2, c1, c2, h⟩
  · cases r1; cases r2
    exact .inl ⟨rfl, by rw [decV_int]; exact hK _ _ _ _ h (Phi.le.refl _) S (.bl _)⟩
  · cases r1; cases r2
    exact .inl ⟨rfl, by rw [decV_str]; exact hK _ _ _ _ h (Phi.le.refl _) S (.bl _)⟩
  · cases r1; cases r2
    exact .inl ⟨rfl, by rw [decV_bl]; exact hK _ _ _ _ h (Phi.le.refl _) S (.bl _)⟩
  · exact .inr ⟨p, q, S.py 20 _ _ _ r1 h1, S.py 20 _ _ _ r2 h2, py_shaped h1 c1, py_shaped h2 c2, hK _ _ _ _ h (Phi.le.refl _) S (.bl _)⟩
theorem ok_ne : Op2Ok X oNe (rNeX X.K) := fun Φ m H x y v u K Q S r1 r2 h hK => by
  rcases eqK_cases h with ⟨i, j, rfl, rfl, h⟩ | ⟨i, j, rfl, rfl, h⟩ | ⟨i, j, rfl, rfl, h⟩ | ⟨p, q, h1, h2, c1, c2, h⟩
  · cases r1; cases r2
    exact .inl ⟨rfl, by rw [decV_int]; exact hK _ _ _ _ h (Phi.le.refl _) S (.bl _)⟩
  · cases r1; cases r2
    exact .inl ⟨rfl, by rw [decV_str]; exact hK _ _ _ _ h (Phi.le.refl _) S (.bl _)⟩
  · cases r1; cases r2
    exact .inl ⟨rfl, by rw [decV_bl]; exact hK _ _ _ _ h (Phi.le.refl _) S (.bl _)⟩
  · exact .inr ⟨p, q, S.py 20 _ _ _ r1 h1, S.py 20 _ _ _ r2 h2, py_shaped h1 c1, py_shaped h2 c2, hK _ _ _ _ h (Phi.le.refl _) S (.bl _)⟩
theorem rep_non {K : PySem.W.Frag} {mg : Str → Option Value} {Φ : Phi} {x : D} {v : V} (r : Rep K mg Φ x v) : decide (v = V.non) = (match x with
  | .non => true
  | _ => false) := by cases r <;> simp
theorem ok_isN : Op2Ok X oIsN (fun x y H Q => y = .non ∧ Q (.bl (decide (x = .non))) H) := fun Φ m H x y v u K Q S r1 r2 h hK => by
  cases r2 <;> try exact False.elim h
  refine ⟨rfl, ?_⟩
  rw [rep_non r1]
  cases r1 <;> exact hK _ _ _ _ h (Phi.le.refl _) S (.bl _)
theorem ok_notN : Op2Ok X oNotN (fun x y H Q => y = .non ∧ Q (.bl (!decide (x = .non))) H) := fun Φ m H x y v u K Q S r1 r2 h hK => by
  cases r2 <;> try exact False.elim h
  refine ⟨rfl, ?_⟩
  rw [rep_non r1]
  cases r1 <;> exact hK _ _ _ _ h (Phi.le.refl _) S (.bl _)

/-! ### items, slices -/
theorem atI_get {xs : List D} {vs : List V} {K : PySem.W.Frag} {mg : Str → Option Value} {Φ : Phi} {i : Int} {x : D} (r : Reps K mg Φ xs vs) (h : atI xs i = some x) : ∃ u, atI vs i = some u ∧ Rep K mg Φ x u := by
  unfold atI at h ⊢
  rw [← r.length]
  cases q : ixN xs.length i with
  | none => rw [q] at h; cases h
  | some j =>
    rw [q] at h
    exact r.get (show xs[j]? = some x from h)
def rIxX (K : PySem.W.Frag) : R2 := fun x y H Q => rIxL K x y H Q ∨ (rIxT K x y H Q ∨ rIxS x y H Q)
theorem ix_X : IxR X (rIxX X.K) := IxR.or ix_list (IxR.or ix_tup ix_str)
theorem oIx_cases {m : Mem} {x y : D} {K : D → Prop} (h : oIx m x y K) : (∃ z i c, x = .str z ∧ y = .int i ∧ z.length ≤ textLine ∧ atI z.cps.toList i = some c ∧ K (.str ⟨#[c]⟩)) ∨ ∃ xs i v, x.seq m = some xs ∧ y = .int i ∧ atI xs i = some v ∧ K v := by
  unfold oIx at h
  split at h
  · obtain ⟨i, c, h⟩ := h
    exact .inl ⟨_, i, c, rfl, h⟩
  · exact .inr h
theorem ok_ix : Op2Ok X oIx (rIxX X.K) := fun Φ m H x y v u K Q S r1 r2 h hK => by
  rcases oIx_cases h with ⟨z, i, c, rfl, rfl, h1, h2, h3⟩ | ⟨xs, i, w, h1, rfl, h2, h3⟩
  · cases r1; cases r2
    exact .inr (.inr ⟨_, _, _, rfl, rfl, textLine_le h1, h2, hK _ _ _ _ h3 (Phi.le.refl _) S (.str _)⟩)
  · cases r2
    obtain ⟨a, vs, rfl, rs, q⟩ := S.seqAt r1 h1
    obtain ⟨u, g1, g2⟩ := atI_get rs h2
    have fin := hK _ _ _ _ h3 (Phi.le.refl _) S g2
    rcases q with ⟨q, _⟩ | ⟨q, _⟩
    · exact .inl ⟨_, _, _, _, rfl, rfl, q, g1, fin⟩
    · exact .inr (.inl ⟨_, _, _, _, rfl, rfl, q, g1, fin⟩)
theorem ge_ix {a b : RD} {ea eb : Expr} {pos : Pos} (ha : GE X W ea a) (hb : GE X W eb b) (hs : PlainIx eb) : GE X W (.Subscript ea eb pos) (rOp2 oIx a b) := (pe_ix ix_X ha hb hs).imp (le_op2 ok_ix)
abbrev LO (K : PySem.W.Frag) (mg : Str → Option Value) (r : RO) (W : WX) : TO := fun σ H Q => ∃ (e : Lo) (m : Mem) (Φ : Phi) (K' : Option Int → Mem → Prop) (E' : EK), Sim K mg Φ m H ∧ LoR K mg Φ e σ ∧ r e m K' E' ∧
  (∀ d m' Φ' H', K' d m' → Φ.le Φ' → Sim K mg Φ' m' H' → Q d H') ∧ (∀ x m' Φ' H' cls dd, E' x m' → Φ.le Φ' → Sim K mg Φ' m' H' → RepX K mg Φ' x cls dd → W cls dd σ H')
abbrev GO (X : Cx) (W : WX) (e : Option Expr) (r : RO) : Prop := PO X e (LO X.K X.mg r W)
theorem _root_.L2.PO.imp {X : Cx} {e : Option Expr} {t t' : TO} (h : PO X e t) (hi : ∀ σ H Q, t' σ H Q → t σ H Q) : PO X e t' := ⟨fun pins s σ H Q I hq => h.run pins s σ H Q I (hi _ _ _ hq)⟩
theorem go_none : GO X W none roNone := po_none.imp fun σ H Q ⟨e, m, Φ, K, E, S, R, h, hK, hE⟩ => hK _ _ _ _ h (Phi.le.refl _) S
theorem go_some {a : RD} {ea : Expr} (ha : GE X W ea a) : GO X W (some ea) (roSome a) := (po_some ha).imp fun σ H Q ⟨e, m, Φ, K, E, S, R, h, hK, hE⟩ => by
  refine ⟨e, m, Φ, _, E, S, R, h, fun x m1 Φ1 H1 v h1 l1 S1 r1 => ?_, hE⟩
  cases r1 with
  | int i => exact ⟨_, rfl, hK _ _ _ _ h1 l1 S1⟩
  | _ => exact False.elim h1
def rSlX3 (K : PySem.W.Frag) : V → Option Int → Option Int → Hp → VK → Prop := fun x lo hi H Q => rSlL K x lo hi H Q ∨ (rSlA K x lo hi H Q ∨ rSlS x lo hi H Q)
theorem sl_X : SlR X (rSlX3 X.K) := SlR.or sl_list (SlR.or sl_tupA sl_str)
theorem cutD_eq (xs : List V) (lo hi : Option Int) : cutV xs lo hi = cutD xs lo hi := rfl
theorem Rep0.cut {K : PySem.W.Frag} {mg : Str → Option Value} {Φ : Phi} {xs : List D} {vs : List V} (r : Reps K mg Φ xs vs) (lo hi : Option Int) : Reps K mg Φ (cutD xs lo hi) (cutV vs lo hi) := by
  unfold cutD cutV
  rw [← r.length]
  exact (r.drop _).take _
theorem le_slice3 {a : RD} {lo hi : RO} {K : PySem.W.Frag} {mg : Str → Option Value} {f : D → Option Int → Option Int → DK → Mem → Prop} {r : V → Option Int → Option Int → Hp → VK → Prop}
    (ok : ∀ (Φ : Phi) (m : Mem) (H : Hp) (x : D) (v : V) (l u : Option Int) (K' : DK) (Q : VK), Sim K mg Φ m H → Rep K mg Φ x v → f x l u K' m → (∀ d m' Φ' H' v, K' d m' → Φ.le Φ' → Sim K mg Φ' m' H' → Rep K mg Φ' d v → Q v H') → r v l u H Q)
    (σ : L2.St) (H : Hp) (Q : VK) (h : LE K mg (fun e m K E => a e m (fun x m => lo e m (fun l m => hi e m (fun u m => f x l u K m) E) E) E) W σ H Q) : tSl r (LE K mg a W) (LO K mg lo W) (LO K mg hi W) σ H Q := by
  obtain ⟨e, m, Φ, K', E, S, R, h, hK, hE⟩ := h
  refine ⟨e, m, Φ, _, E, S, R, h, fun x m1 Φ1 H1 v h1 l1 S1 r1 => ?_, hE⟩
  refine ⟨e, m1, Φ1, _, E, S1, R.mono l1, h1, fun l m2 Φ2 H2 h2 l2 S2 => ?_, fun x m' Φ' H' c d z l => hE x m' Φ' H' c d z (l1.trans l)⟩
  refine ⟨e, m2, Φ2, _, E, S2, R.mono (l1.trans l2), h2, fun u m3 Φ3 H3 h3 l3 S3 => ?_, fun x m' Φ' H' c d z l => hE x m' Φ' H' c d z ((l1.trans l2).trans l)⟩
  exact ok Φ3 m3 H3 x v l u K' Q S3 (r1.mono (l2.trans l3)) h3 fun d m' Φ' H' v hz l4 S4 r4 => hK d m' Φ' H' v hz (((l1.trans l2).trans l3).trans l4) S4 r4
theorem ge_slice {a : RD} {lo hi : RO} {ea : Expr} {el eh : Option Expr} {p2 pos : Pos} (ha : GE X W ea a) (hl : GO X W el lo) (hh : GO X W eh hi) : GE X W (.Subscript ea (.Slice el eh none p2) pos) (rSlice a lo hi) :=
  (pe_slice sl_X ha hl hh).imp (le_slice3 (f := fun x l u K m => match x with
    | .tup xs => K (.tup (cutD xs l u)) m
    | .str z => z.length ≤ textLine ∧ K (.str (L2.cutS z l u)) m
    | x => ∃ xs, x.items m = some xs ∧ K (.lst (cutD xs l u)) m) fun Φ m H x v l u K' Q S r h hK => by
      split at h
      · cases r with
        | tup q rs =>
          refine .inr (.inl ⟨_, _, rfl, S.seqT q, fun hw => ?_, fun _ p hp => ?_⟩)
          · have e : cutD ‹List D› l u = ‹List D› := by
              unfold cutD
              rw [rs.length, hw.1, hw.2, List.drop_zero, Nat.sub_zero, ← rs.length, List.take_length]
            rw [e] at h
            exact hK _ _ _ _ _ h (Phi.le.refl _) S (.tup q rs)
          · obtain ⟨l', S'⟩ := S.newF (o := .tup (cutV _ l u)) hp
            exact hK _ _ _ _ _ h l' S' (.tup (.inl (.inl upd_same)) ((Rep0.cut rs l u).mono l'))
      · cases r
        exact .inr (.inr ⟨_, rfl, textLine_le h.1, hK _ _ _ _ _ h.2 (Phi.le.refl _) S (.str _)⟩)
      · obtain ⟨xs, hx, h⟩ := h
        obtain ⟨b, vs, rfl, rs, q⟩ := S.seqAt r (D.seq_items hx)
        rcases q with ⟨q, _⟩ | ⟨_, e⟩
        · refine .inl ⟨b, vs, rfl, q, fun p hp => ?_⟩
          obtain ⟨l', S'⟩ := S.newF (o := .lst (cutV vs l u)) hp
          exact hK _ _ _ _ _ h l' S' (.lst upd_same ((Rep0.cut rs l u).mono l'))
        · subst e; cases hx)
theorem ge_sliceN {a : RD} {lo hi : RO} {ea : Expr} {el eh : Option Expr} {p2 pos : Pos} (ha : GE X W ea a) (hl : GO X W el lo) (hh : GO X W eh hi) : GE X W (.Subscript ea (.Slice el eh none p2) pos) (rSliceN a lo hi) :=
  (pe_slice sl_X ha hl hh).imp (le_slice3 (f := fun x l u K m => ∃ xs, x.items m = some xs ∧ K (.cell m.length) (m ++ [.lst (cutD xs l u)])) fun Φ m H x v l u K' Q S r h hK => by
      obtain ⟨xs, hx, h⟩ := h
      obtain ⟨b, vs, rfl, rs, q⟩ := S.seqAt r (D.seq_items hx)
      rcases q with ⟨q, _⟩ | ⟨_, e⟩
      · refine .inl ⟨b, vs, rfl, q, fun p hp => ?_⟩
        obtain ⟨l', S'⟩ := S.newC (o := .lst (cutV vs l u)) (x := .lst (cutD xs l u)) hp ⟨_, upd_same, (Rep0.cut rs l u).mono (Phi.le.snoc Φ p)⟩
        exact hK _ _ _ _ _ h l' S' (.cell (S.cellAt p))
      · subst e; cases hx)
end
end PL

/-! PyF: built-ins, cells changed, the other statements. -/
namespace PL
open PySem PySem.Spec PyProof.Rows L2
section
variable {X : Cx} {W : WX}
/-! ### built-ins by name -/
theorem reps1 {K : PySem.W.Frag} {mg : Str → Option Value} {Φ : Phi} {x : D} {vs : List V} (r : Reps K mg Φ [x] vs) : ∃ v, vs = [v] ∧ Rep K mg Φ x v := by
  cases r with
  | cons r rr => cases rr; exact ⟨_, rfl, r⟩
theorem reps2 {K : PySem.W.Frag} {mg : Str → Option Value} {Φ : Phi} {x y : D} {vs : List V} (r : Reps K mg Φ [x, y] vs) : ∃ v u, vs = [v, u] ∧ Rep K mg Φ x v ∧ Rep K mg Φ y u := by
  cases r with
  | cons r rr => cases rr with
    | cons r' rr => cases rr; exact ⟨_, _, rfl, r, r'⟩
theorem ge_callB {o : OpN} {r : List V → Hp → VK → Prop} {a : RA} {id : String} {x : Str} {p pos : Pos} {e : Expr} {es : List Expr} (ok : OpNOk X o r) (hc : CallR X (.builtin id) r) (hg : Gl X x) (hm : X.mg x = none) (hv : bootBuiltins x = some (.builtin id)) (ha : GA X W (e :: es) a)
    (hn : x ≠ "__name__") (hdb : (x == ("__debug__" : Str)) = false) (he : starEach (e :: es) X.env = (false, eval e X.env) :: starEach es X.env) (hpl : (backTo pos (starEach es X.env)).any (·.1) = false) : GE X W (.Call (.Name x p) (e :: es) [] pos) (rOpN o a) :=
  (pe_callB hc hg hm hv ha hn hdb he hpl).imp (le_opN ok)
theorem ge_callTy {o : OpN} {r : List V → Hp → VK → Prop} {a : RA} {T : String} {x : Str} {p pos : Pos} {e : Expr} {es : List Expr} (ok : OpNOk X o r) (hc : CallR X (.type T) r) (hg : Gl X x) (hm : X.mg x = none) (hv : bootBuiltins x = some (.type T)) (ha : GA X W (e :: es) a)
    (hn : x ≠ "__name__") (hdb : (x == ("__debug__" : Str)) = false) (he : starEach (e :: es) X.env = (false, eval e X.env) :: starEach es X.env) (hpl : (backTo pos (starEach es X.env)).any (·.1) = false) : GE X W (.Call (.Name x p) (e :: es) [] pos) (rOpN o a) :=
  (pe_callTy hc hg hm hv ha hn hdb he hpl).imp (le_opN ok)
theorem ge_callF {o : OpF} {r : List V → Hp → VK → Prop} {a : RA} {T : String} {x : Str} {p pos : Pos} {e : Expr} {es : List Expr} (ok : OpFOk X o r) (hc : CallR X (.type T) r) (hg : Gl X x) (hm : X.mg x = none) (hv : bootBuiltins x = some (.type T)) (ha : GA X W (e :: es) a)
    (hn : x ≠ "__name__") (hdb : (x == ("__debug__" : Str)) = false) (he : starEach (e :: es) X.env = (false, eval e X.env) :: starEach es X.env) (hpl : (backTo pos (starEach es X.env)).any (·.1) = false) : GE X W (.Call (.Name x p) (e :: es) [] pos) (rF o a) :=
  (pe_callTy hc hg hm hv ha hn hdb he hpl).imp (le_F ok)
theorem ge_callFN {o : OpF} {r : List V → Hp → VK → Prop} {a : RA} {T : String} {x : Str} {p pos : Pos} {e : Expr} {es : List Expr} (ok : OpFOk X o r) (hc : CallR X (.type T) r) (hg : Gl X x) (hm : X.mg x = none) (hv : bootBuiltins x = some (.type T)) (ha : GA X W (e :: es) a)
    (hn : x ≠ "__name__") (hdb : (x == ("__debug__" : Str)) = false) (he : starEach (e :: es) X.env = (false, eval e X.env) :: starEach es X.env) (hpl : (backTo pos (starEach es X.env)).any (·.1) = false) : GE X W (.Call (.Name x p) (e :: es) [] pos) (rFN o a) :=
  (pe_callTy hc hg hm hv ha hn hdb he hpl).imp (le_FN ok)
theorem CallR.either {f : Value} {r r' : List V → Hp → VK → Prop} (h : CallR X f r) (h' : CallR X f r') : CallR X f (fun xs H Q => r xs H Q ∨ r' xs H Q) := fun pins s σ H xs us Q I rv q => q.elim (h pins s σ H xs us Q I rv) (h' pins s σ H xs us Q I rv)

theorem ok_len : OpNOk X oLen (fun xs H Q => ∃ x n, xs = [x] ∧ LenV X.K x H n ∧ Q (.int n) H) := fun Φ m H xs vs K Q S r h hK => by
  obtain ⟨x, rfl, h⟩ := h
  obtain ⟨v, rfl, r1⟩ := reps1 r
  split at h
  · rename_i z
    cases r1
    exact ⟨.str z, z.length, rfl, ⟨textLine_le h.1, rfl⟩, hK _ _ _ _ h.2 (Phi.le.refl _) S (.int _)⟩
  · obtain ⟨ys, h1, h⟩ := h
    obtain ⟨a, ws, rfl, rs, q⟩ := S.seqAt r1 h1
    refine ⟨_, ys.length, rfl, ?_, hK _ _ _ _ h (Phi.le.refl _) S (.int _)⟩
    rcases q with ⟨q, _⟩ | ⟨q, _⟩
    · exact .inl ⟨ws, q, rs.length⟩
    · exact .inr ⟨ws, q, rs.length⟩
theorem ok_abs : OpNOk X oAbs (fun xs H Q => ∃ i, xs = [.int i] ∧ Q (.int (if i < 0 then -i else i)) H) := fun Φ m H xs vs K Q S r h hK => by
  obtain ⟨x, rfl, h⟩ := h
  obtain ⟨v, rfl, r1⟩ := reps1 r
  cases r1
  exact ⟨_, rfl, hK _ _ _ _ h (Phi.le.refl _) S (.int _)⟩
theorem ok_max2 : OpNOk X oMax2 (fun xs H Q => ∃ i j, xs = [.int i, .int j] ∧ Q (.int (if j > i then j else i)) H) := fun Φ m H xs vs K Q S r h hK => by
  obtain ⟨x, y, rfl, h⟩ := h
  obtain ⟨v, u, rfl, r1, r2⟩ := reps2 r
  cases r1; cases r2
  exact ⟨_, _, rfl, hK _ _ _ _ h (Phi.le.refl _) S (.int _)⟩
theorem ok_min2 : OpNOk X oMin2 (fun xs H Q => ∃ i j, xs = [.int i, .int j] ∧ Q (.int (if j < i then j else i)) H) := fun Φ m H xs vs K Q S r h hK => by
  obtain ⟨x, y, rfl, h⟩ := h
  obtain ⟨v, u, rfl, r1, r2⟩ := reps2 r
  cases r1; cases r2
  exact ⟨_, _, rfl, hK _ _ _ _ h (Phi.le.refl _) S (.int _)⟩
theorem intsD_reps {K : PySem.W.Frag} {mg : Str → Option Value} {Φ : Phi} : ∀ {ys : List D} {ns : List Int} {vs : List V}, intsD ys = some ns → Reps K mg Φ ys vs → vs = ns.map V.int
  | [], _, _, h, .nil => by cases h; rfl
  | .int i :: r, ns, _, h, .cons (.int _) rs => by
    obtain ⟨ms, h1, rfl⟩ := Option.map_eq_some_iff.mp (show (intsD r).map (i :: ·) = some ns from h)
    rw [intsD_reps h1 rs]; rfl
theorem blsD_reps {K : PySem.W.Frag} {mg : Str → Option Value} {Φ : Phi} : ∀ {ys : List D} {ns : List Bool} {vs : List V}, blsD ys = some ns → Reps K mg Φ ys vs → vs = ns.map V.bl
  | [], _, _, h, .nil => by cases h; rfl
  | .bl i :: r, ns, _, h, .cons (.bl _) rs => by
    obtain ⟨ms, h1, rfl⟩ := Option.map_eq_some_iff.mp (show (blsD r).map (i :: ·) = some ns from h)
    rw [blsD_reps h1 rs]; rfl
theorem Sim.itemsAt {K : PySem.W.Frag} {mg : Str → Option Value} {Φ : Phi} {m : Mem} {H : Hp} (S : Sim K mg Φ m H) {x : D} {v : V} {xs : List D} (r : Rep K mg Φ x v) (h : x.items m = some xs) : ∃ a vs, v = .ref a ∧ Reps K mg Φ xs vs ∧ SqL K H a vs := by
  obtain ⟨a, vs, e, rs, q⟩ := S.seqAt r (D.seq_items h)
  rcases q with ⟨q, _⟩ | ⟨_, e'⟩
  · exact ⟨a, vs, e, rs, q⟩
  · subst e'; cases h
theorem ok_sum : OpNOk X oSum (rSum X.K) := fun Φ m H xs vs K Q S r h hK => by
  obtain ⟨x, ys, ns, rfl, h1, h2, h⟩ := h
  obtain ⟨v, rfl, r1⟩ := reps1 r
  obtain ⟨a, ws, rfl, rs, q⟩ := S.itemsAt r1 h1
  rw [intsD_reps h2 rs] at q
  exact ⟨a, ns, rfl, q, hK _ _ _ _ h (Phi.le.refl _) S (.int _)⟩
theorem ok_all : OpNOk X oAll (rAll X.K) := fun Φ m H xs vs K Q S r h hK => by
  obtain ⟨x, ys, ns, rfl, h1, h2, h⟩ := h
  obtain ⟨v, rfl, r1⟩ := reps1 r
  obtain ⟨a, ws, rfl, rs, q⟩ := S.itemsAt r1 h1
  rw [blsD_reps h2 rs] at q
  exact ⟨a, ns, rfl, q, hK _ _ _ _ h (Phi.le.refl _) S (.bl _)⟩
theorem ok_any : OpNOk X oAny (rAny X.K) := fun Φ m H xs vs K Q S r h hK => by
  obtain ⟨x, ys, ns, rfl, h1, h2, h⟩ := h
  obtain ⟨v, rfl, r1⟩ := reps1 r
  obtain ⟨a, ws, rfl, rs, q⟩ := S.itemsAt r1 h1
  rw [blsD_reps h2 rs] at q
  exact ⟨a, ns, rfl, q, hK _ _ _ _ h (Phi.le.refl _) S (.bl _)⟩
theorem ok_int : OpNOk X oInt (fun xs H Q => (∃ i, xs = [.int i] ∧ Q (.int i) H) ∨ ∃ k, xs = [.bl k] ∧ Q (.int (if k then 1 else 0)) H) := fun Φ m H xs vs K Q S r h hK => by
  obtain ⟨x, rfl, h⟩ := h
  obtain ⟨v, rfl, r1⟩ := reps1 r
  split at h
  · cases r1
    exact .inl ⟨_, rfl, hK _ _ _ _ h (Phi.le.refl _) S (.int _)⟩
  · cases r1
    exact .inr ⟨_, rfl, hK _ _ _ _ h (Phi.le.refl _) S (.int _)⟩
  · exact False.elim h
theorem ok_tuple : OpNOk X oTuple (fun xs H Q => ∃ p ys, xs = [.ref p] ∧ ((SqL X.K H p ys ∧ ∀ l, H l = none → Q (.ref l) (upd H l (.tup ys))) ∨ (SqT X.K H p ys ∧ Q (.ref p) H))) := fun Φ m H xs vs K Q S r h hK => by
  obtain ⟨x, ys, rfl, h1, h⟩ := h
  obtain ⟨v, rfl, r1⟩ := reps1 r
  obtain ⟨a, ws, rfl, rs, q⟩ := S.seqAt r1 h1
  rcases q with ⟨q, _⟩ | ⟨q, e⟩
  · refine ⟨a, ws, rfl, .inl ⟨q, fun l hl => ?_⟩⟩
    obtain ⟨l', S'⟩ := S.newF (o := .tup ws) hl
    exact hK _ _ _ _ h l' S' (.tup (.inl (.inl upd_same)) (rs.mono l'))
  · refine ⟨a, ws, rfl, .inr ⟨q, ?_⟩⟩
    subst e
    exact hK _ _ _ _ h (Phi.le.refl _) S r1
theorem ok_list : OpFOk X oList (fun xs H Q => ∃ p ys, xs = [.ref p] ∧ (SqL X.K H p ys ∨ SqT X.K H p ys) ∧ ∀ l, H l = none → Q (.ref l) (upd H l (.lst ys))) := fun Φ m H xs vs K Q S r h hK => by
  obtain ⟨x, ys, rfl, h1, h⟩ := h
  obtain ⟨v, rfl, r1⟩ := reps1 r
  obtain ⟨a, ws, rfl, rs, q⟩ := S.seqAt r1 h1
  refine ⟨a, ws, rfl, ?_, fun l hl => hK _ _ _ _ _ h (Phi.le.refl _) S rs hl⟩
  rcases q with ⟨q, _⟩ | ⟨q, _⟩
  · exact .inl q
  · exact .inr q

/-! ### repr -/
def rReprX (K : PySem.W.Frag) : List V → Hp → VK → Prop := fun xs H Q => ∃ x p, xs = [x] ∧ Dp K H x p ∧ plainP p = true ∧ p.depth ≤ 20 ∧ p.showable = true ∧ p.shown.length ≤ textLine ∧ Q (.str p.shown) H
theorem call_reprX (hu : X.A.units + 64 < cLine) (hg : X.A.guards = some []) : CallR X (.builtin "repr") (rReprX X.K) := by
  intro pins s σ H xs us Q I r h
  obtain ⟨x, p, rfl, hd, hp, hdp, hs, hz, q⟩ := h
  obtain ⟨u, rfl, ru⟩ := vals1 r
  have fin : ∀ (tk : Tok) (t : Nat), EP X pins σ Q (.str p.shown tk) { s with toks := t } := fun tk t => ⟨.str p.shown, H, I.tok _, ⟨tk, rfl⟩, q⟩
  have ref : ∀ a, u = .ref a → wpAny (model X.prog X.w) X.A (call (.builtin "repr") [u]) (EP X pins σ Q) X.xe s := fun a e => by
    obtain ⟨as, rd⟩ := Dp.reads I p x u hd ru
    subst e
    exact repr_of_reads' rd hs (PyData.noDict_hsm (plain_noD p hp)) hg (by omega) (fun _ _ e => e) (fun h' u tk kp => ⟨.str p.shown, H, I.kept kp, ⟨u, rfl⟩, q⟩) (textLine_le hz)
  cases hd with
  | non => cases ru; exact P.repr_of_none (by have := fin s.toks (s.toks + 1); simpa only [PyData.shown] using this)
  | bl b => cases ru; exact P.repr_of_bool (by have := fin s.toks (s.toks + 1); simpa only [PyData.shown] using this)
  | int i =>
    obtain ⟨t, rfl⟩ := ru
    exact P.repr_of_int (by simpa [PyData.showable] using hs) (by have := fin s.toks (s.toks + 1); simpa only [PyData.shown] using this)
  | str z =>
    obtain ⟨t, rfl⟩ := ru
    exact P.repr_of_str (by have := fin s.toks (s.toks + 1); simpa only [PyData.shown] using this) (by have := textLine_le hz; simpa only [PyData.shown] using this)
  | lst _ _ => exact ref _ ru
  | tup _ _ => exact ref _ ru
theorem ok_repr : OpNOk X oRepr (rReprX X.K) := fun Φ m H xs vs K Q S r h hK => by
  obtain ⟨x, p, rfl, h1, h2, h3, h⟩ := h
  obtain ⟨v, rfl, r1⟩ := reps1 r
  obtain ⟨a, b⟩ := pyN_plain 20 x p h1
  exact ⟨v, p, rfl, S.py 20 _ _ _ r1 h1, a, b, h2, h3, hK _ _ _ _ h (Phi.le.refl _) S (.str _)⟩

/-! ### new lists out of lists -/
theorem Sim.items0At {K : PySem.W.Frag} {mg : Str → Option Value} {Φ : Phi} {m : Mem} {H : Hp} (S : Sim K mg Φ m H) {x : D} {v : V} {xs : List D} (r : Rep K mg Φ x v) (h : x.items0 m = some xs) : ∃ a vs, v = .ref a ∧ Reps K mg Φ xs vs ∧ H a = some (.lst vs) := by
  cases r with
  | lst hq rs =>
    have h' := Option.some.inj h
    subst h'
    exact ⟨_, _, rfl, rs, S.sub _ _ hq⟩
  | @cell n p hp =>
    unfold D.items0 at h
    dsimp only at h
    split at h
    · rename_i ys q
      cases h
      obtain ⟨vs, k1, k2⟩ := S.at_ n _ p q hp
      exact ⟨p, vs, rfl, k2, k1⟩
    · cases h
  | tup _ _ => cases h
  | old _ _ => cases h
  | non => cases h
  | bl _ => cases h
  | int _ => cases h
  | str _ => cases h
  | ins _ _ _ => cases h
theorem le_F2 {o : OpF} {r : R2} {a b : RD} (ok : OpFOk X o (fun xs H Q => ∃ x y, xs = [x, y] ∧ r x y H Q)) (σ : L2.St) (H : Hp) (Q : VK) (h : LE X.K X.mg (rF o (raCons a (raCons b raNil))) W σ H Q) : tOp r (LE X.K X.mg a W) (LE X.K X.mg b W) σ H Q := by
  obtain ⟨e, m, Φ, K, E, S, R, h, hK, hE⟩ := h
  refine ⟨e, m, Φ, _, E, S, R, h, fun x m1 Φ1 H1 v h1 l1 S1 r1 => ?_, hE⟩
  refine ⟨e, m1, Φ1, _, E, S1, R.mono l1, h1, fun y m2 Φ2 H2 u h2 l2 S2 r2 => ?_, fun x m' Φ' H' c d z l => hE x m' Φ' H' c d z (l1.trans l)⟩
  obtain ⟨_, _, e, q⟩ := ok Φ2 m2 H2 [x, y] [v, u] _ Q S2 (.cons (r1.mono l2) (.cons r2 .nil)) h2 fun ys Φ' H' ws p hz l3 S3 r3 hp => by
    obtain ⟨l4, S4⟩ := S3.newF (o := .lst ws) hp
    exact hK _ m2 _ _ _ hz (((l1.trans l2).trans l3).trans l4) S4 (.lst upd_same (r3.mono l4))
  cases e
  exact q
theorem le_F2N {o : OpF} {r : R2} {a b : RD} (ok : OpFOk X o (fun xs H Q => ∃ x y, xs = [x, y] ∧ r x y H Q)) (σ : L2.St) (H : Hp) (Q : VK) (h : LE X.K X.mg (rFN o (raCons a (raCons b raNil))) W σ H Q) : tOp r (LE X.K X.mg a W) (LE X.K X.mg b W) σ H Q := by
  obtain ⟨e, m, Φ, K, E, S, R, h, hK, hE⟩ := h
  refine ⟨e, m, Φ, _, E, S, R, h, fun x m1 Φ1 H1 v h1 l1 S1 r1 => ?_, hE⟩
  refine ⟨e, m1, Φ1, _, E, S1, R.mono l1, h1, fun y m2 Φ2 H2 u h2 l2 S2 r2 => ?_, fun x m' Φ' H' c d z l => hE x m' Φ' H' c d z (l1.trans l)⟩
  obtain ⟨_, _, e, q⟩ := ok Φ2 m2 H2 [x, y] [v, u] _ Q S2 (.cons (r1.mono l2) (.cons r2 .nil)) h2 fun ys Φ' H' ws p hz l3 S3 r3 hp => by
    obtain ⟨l4, S4⟩ := S3.newC (o := .lst ws) (x := .lst ys) hp ⟨ws, upd_same, r3.mono (Phi.le.snoc Φ' p)⟩
    exact hK _ _ _ _ _ hz (((l1.trans l2).trans l3).trans l4) S4 (.cell (S3.cellAt p))
  cases e
  exact q
theorem ok_cat : OpFOk X oCat (fun xs H Q => ∃ x y, xs = [x, y] ∧ rCat x y H Q) := fun Φ m H xs vs K Q S r h hK => by
  obtain ⟨x, y, a, b, rfl, h1, h2, hz, h⟩ := h
  obtain ⟨v, u, rfl, r1, r2⟩ := reps2 r
  obtain ⟨p, vs, rfl, rs, g⟩ := S.items0At r1 h1
  obtain ⟨q, us, rfl, rs', g'⟩ := S.items0At r2 h2
  exact ⟨_, _, rfl, p, q, vs, us, rfl, rfl, g, g', by rw [← rs.length, ← rs'.length]; exact line5 hz, fun l hl => hK _ _ _ _ _ h (Phi.le.refl _) S (rs.append rs') hl⟩
theorem Reps0.flat {K : PySem.W.Frag} {mg : Str → Option Value} {Φ : Phi} {xs : List D} {vs : List V} (r : Reps K mg Φ xs vs) : ∀ n, Reps K mg Φ (List.replicate n xs).flatten (List.replicate n vs).flatten
  | 0 => .nil
  | n + 1 => by
    rw [List.replicate_succ, List.replicate_succ, List.flatten_cons, List.flatten_cons]
    exact Reps0.append r (Reps0.flat r n)
theorem ok_rep : OpFOk X oRep (fun xs H Q => ∃ x y, xs = [x, y] ∧ rRep x y H Q) := fun Φ m H xs vs K Q S r h hK => by
  obtain ⟨x, a, n, rfl, h1, hb, hz, h⟩ := h
  obtain ⟨v, u, rfl, r1, r2⟩ := reps2 r
  cases r2
  obtain ⟨p, vs, rfl, rs, g⟩ := S.items0At r1 h1
  refine ⟨_, _, rfl, p, n, vs, rfl, rfl, g, by omega, by omega, ?_, fun l hl => hK _ _ _ _ _ h (Phi.le.refl _) S (Reps0.flat rs _) hl⟩
  rw [← rs.length]; exact line5 hz
theorem le_F1 {o : OpF} {r : V → Hp → VK → Prop} {a : RD} (ok : OpFOk X o (fun xs H Q => ∃ x, xs = [x] ∧ r x H Q)) (σ : L2.St) (H : Hp) (Q : VK) (h : LE X.K X.mg (rF o (raCons a raNil)) W σ H Q) : LE X.K X.mg a W σ H fun x H1 => r x H1 Q := by
  obtain ⟨e, m, Φ, K, E, S, R, h, hK, hE⟩ := h
  refine ⟨e, m, Φ, _, E, S, R, h, fun x m1 Φ1 H1 v h1 l1 S1 r1 => ?_, hE⟩
  obtain ⟨_, e, q⟩ := ok Φ1 m1 H1 [x] [v] _ Q S1 (.cons r1 .nil) h1 fun ys Φ' H' ws p hz l3 S3 r3 hp => by
    obtain ⟨l4, S4⟩ := S3.newF (o := .lst ws) hp
    exact hK _ m1 _ _ _ hz ((l1.trans l3).trans l4) S4 (.lst upd_same (r3.mono l4))
  cases e
  exact q
theorem le_F1N {o : OpF} {r : V → Hp → VK → Prop} {a : RD} (ok : OpFOk X o (fun xs H Q => ∃ x, xs = [x] ∧ r x H Q)) (σ : L2.St) (H : Hp) (Q : VK) (h : LE X.K X.mg (rFN o (raCons a raNil)) W σ H Q) : LE X.K X.mg a W σ H fun x H1 => r x H1 Q := by
  obtain ⟨e, m, Φ, K, E, S, R, h, hK, hE⟩ := h
  refine ⟨e, m, Φ, _, E, S, R, h, fun x m1 Φ1 H1 v h1 l1 S1 r1 => ?_, hE⟩
  obtain ⟨_, e, q⟩ := ok Φ1 m1 H1 [x] [v] _ Q S1 (.cons r1 .nil) h1 fun ys Φ' H' ws p hz l3 S3 r3 hp => by
    obtain ⟨l4, S4⟩ := S3.newC (o := .lst ws) (x := .lst ys) hp ⟨ws, upd_same, r3.mono (Phi.le.snoc Φ' p)⟩
    exact hK _ _ _ _ _ hz ((l1.trans l3).trans l4) S4 (.cell (S3.cellAt p))
  cases e
  exact q
theorem ok_rev : OpFOk X oRev (fun vs H Q => ∃ x, vs = [x] ∧ ∃ a xs, x = .ref a ∧ SqL X.K H a xs ∧ ∀ p, H p = none → Q (.ref p) (upd H p (.lst xs.reverse))) := fun Φ m H xs vs K Q S r h hK => by
  obtain ⟨x, ys, rfl, h1, h⟩ := h
  obtain ⟨v, rfl, r1⟩ := reps1 r
  obtain ⟨a, ws, rfl, rs, q⟩ := S.itemsAt r1 h1
  exact ⟨_, rfl, a, ws, rfl, q, fun p hp => hK _ _ _ _ _ h (Phi.le.refl _) S rs.reverse hp⟩
theorem ge_rev {a : RD} {e : Expr} {k : Nat} {p1 p2 p3 pos : Pos} (ha : GE X W e a) : GE X W (.Subscript e (.Slice none none (some (.UnaryOp .USub (.Constant (.int 1) k p1) p2)) p3) pos) (rF oRev (raCons a raNil)) := (pe_revL ha).imp (le_F1 ok_rev)
theorem ge_revN {a : RD} {e : Expr} {k : Nat} {p1 p2 p3 pos : Pos} (ha : GE X W e a) : GE X W (.Subscript e (.Slice none none (some (.UnaryOp .USub (.Constant (.int 1) k p1) p2)) p3) pos) (rFN oRev (raCons a raNil)) := (pe_revL ha).imp (le_F1N ok_rev)
theorem ge_cat {a b : RD} {ea eb : Expr} {pos : Pos} (ha : GE X W ea a) (hb : GE X W eb b) : GE X W (.BinOp ea .Add eb pos) (rF oCat (raCons a (raCons b raNil))) := (pe_op op_cat ha hb).imp (le_F2 ok_cat)
theorem ge_catN {a b : RD} {ea eb : Expr} {pos : Pos} (ha : GE X W ea a) (hb : GE X W eb b) : GE X W (.BinOp ea .Add eb pos) (rFN oCat (raCons a (raCons b raNil))) := (pe_op op_cat ha hb).imp (le_F2N ok_cat)
theorem ge_rep {a b : RD} {ea eb : Expr} {pos : Pos} (ha : GE X W ea a) (hb : GE X W eb b) : GE X W (.BinOp ea .Mult eb pos) (rF oRep (raCons a (raCons b raNil))) := (pe_op op_rep ha hb).imp (le_F2 ok_rep)
theorem ge_repN {a b : RD} {ea eb : Expr} {pos : Pos} (ha : GE X W ea a) (hb : GE X W eb b) : GE X W (.BinOp ea .Mult eb pos) (rFN oRep (raCons a (raCons b raNil))) := (pe_op op_rep ha hb).imp (le_F2N ok_rep)
end
end PL

/-! PyG: statements, methods, dicts. -/
namespace PL
open PySem PySem.Spec PyProof.Rows L2
section
variable {X : Cx} {W : WX} {pos : Pos}
/-! ### statements -/
theorem gs_ret {a : RD} {e : Expr} (ha : GE X W e a) : GS X W (.Return (some e) pos) (sRet a) := (ps_ret ha).imp fun D σ H ⟨e, m, Φ, G, S, L, h, ok⟩ =>
  ⟨e, m, Φ, _, _, S, L, h, fun x m1 Φ1 H1 v h1 l1 S1 r1 => ok.rt _ _ _ _ _ h1 l1 S1 r1, fun x m1 Φ1 H1 c d h1 l1 S1 r1 => ok.ex _ _ _ _ _ _ _ _ h1 l1 S1 (L.mono l1) r1⟩
theorem gs_retN : GS X W (.Return none pos) sRetN := ps_retN.imp fun D σ H ⟨e, m, Φ, G, S, L, h, ok⟩ => ok.rt _ _ _ _ _ h (Phi.le.refl _) S .non
theorem gs_never {s : Stmt} : GS X W s sNever := ps_never.imp fun D σ H ⟨e, m, Φ, G, S, L, h, ok⟩ => h
theorem gs_if {c : RT} {a b : SD} {ec : Expr} {sa sb : List Stmt} (hc : GT X W ec c) (ha : GB X W sa a) (hb : GB X W sb b) : GS X W (.If ec sa sb pos) (sIf c a b) := (ps_if hc ha hb).imp fun D σ H ⟨e, m, Φ, G, S, L, h, ok⟩ => by
  refine ⟨e, m, Φ, _, _, S, L, h, fun k m1 Φ1 H1 h1 l1 S1 => ?_, fun x m1 Φ1 H1 c d h1 l1 S1 r1 => ok.ex _ _ _ _ _ _ _ _ h1 l1 S1 (L.mono l1) r1⟩
  cases k with
  | true =>
    refine iteT ?_
    rw [if_pos rfl] at h1
    exact ⟨e, m1, Φ1, G, S1, L.mono l1, h1, ok.mono l1⟩
  | false =>
    refine iteF ?_
    rw [if_neg Bool.false_ne_true] at h1
    exact ⟨e, m1, Φ1, G, S1, L.mono l1, h1, ok.mono l1⟩
theorem gs_aug {i : Nat} {x : Str} {e : Expr} {a : RD} {o : Op2} {r : R2} {op : Operator} {pos' : Pos} (hN : X.N.Nodup) (hi : X.N[i]? = some x) (hx : Loc X.env.scope x) (ha : GE X W e a) (ho : OpR X (inplaceOp op) r) (ok : Op2Ok X o r) (hf : X.fn x = true ∨ X.env.scope.names.lookup x = some .local) :
    GS X W (.AugAssign (.Name x pos') op e pos) (sAug i o a) := (ps_aug hN hi hx ha ho hf).imp fun D σ H ⟨e, m, Φ, G, S, L, h, k⟩ => by
  unfold sAug at h
  cases q : e.at i with
  | none => rw [q] at h; exact False.elim h
  | some d =>
    rw [q] at h
    obtain ⟨v, h1, h2⟩ := L.at_ i d q
    refine ⟨v, h1, e, m, Φ, _, _, S, L, h, fun y m1 Φ1 H1 u g1 l1 S1 r1 => ?_, fun x m1 Φ1 H1 c d h1 l1 S1 r1 => k.ex _ _ _ _ _ _ _ _ h1 l1 S1 (L.mono l1) r1⟩
    exact ok Φ1 m1 H1 d y v u _ _ S1 (h2.mono l1) r1 g1 fun z Φ' H' w hz l2 S2 r2 => k.nx _ _ _ _ _ hz (l1.trans l2) S2 ((L.mono (l1.trans l2)).put i r2)
theorem gs_par {i j : Nat} {x y : Str} {ea eb : Expr} {a b : RD} {px py pt : Pos} {kt k2 : Nat} {pt2 : Pos} (hc : X.calm = true) (hN : X.N.Nodup) (hi : X.N[i]? = some x) (hj : X.N[j]? = some y) (hij : i ≠ j) (hx : X.env.scope.names.lookup x = some .local) (hy : X.env.scope.names.lookup y = some .local)
    (ha : GE X W ea a) (hb : GE X W eb b) (s1 : starEach [ea, eb] X.env = (false, eval ea X.env) :: starEach [eb] X.env) (s2 : starEach [eb] X.env = (false, eval eb X.env) :: starEach [] X.env) (hw : swappedStores [.Tuple [.Name x px, .Name y py] kt pt] (.Tuple [ea, eb] k2 pt2) X.env = pure (some [x, y])) :
    GS X W (.Assign [.Tuple [.Name x px, .Name y py] kt pt] (.Tuple [ea, eb] k2 pt2) pos) (sPar i j a b) := by
  refine (ps_par hc hN hi hj hij hx hy (ga_cons ha (ga_cons hb ga_nil s2) s1) hw).imp fun D σ H ⟨e, m, Φ, G, S, L, h, ok⟩ => ?_
  refine ⟨e, m, Φ, fun xs m => match xs with
    | [x, y] => G.nx ((e.put i x).put j y) m
    | _ => False, fun x m => G.ex x e m, S, L, h, fun xs m1 Φ1 H1 vs h1 l1 S1 r1 _ => ?_, fun x m1 Φ1 H1 c d h1 l1 S1 r1 => ok.ex _ _ _ _ _ _ _ _ h1 l1 S1 (L.mono l1) r1⟩
  dsimp only at h1
  split at h1
  · obtain ⟨v, u, rfl, q1, q2⟩ := reps2 r1
    exact ⟨v, u, rfl, ok.nx _ _ _ _ _ h1 l1 S1 (((L.mono l1).put i q1).put j q2)⟩
  · exact False.elim h1
theorem gs_while {c : RT} {b : SD} {ec : Expr} {sb : List Stmt} (hp : PassesOwn (model X.prog X.w) X.A X.env X.xe) (hc : GT X W ec c) (hb : GB X W sb b) : GS X W (.While ec sb [] pos) (sWhile c b) := (ps_while hp hc hb).imp fun D σ H ⟨e, m, Φ, G, S, L, ⟨n, h⟩, ok⟩ => by
  refine ⟨fun n σ H => ∃ e m Ψ, Φ.le Ψ ∧ Sim X.K X.mg Ψ m H ∧ LoR X.K X.mg Ψ e σ ∧ whileN c b n e m G, ⟨n, e, m, Φ, Phi.le.refl _, S, L, h⟩, ?_⟩
  rintro n σ H ⟨e, m, Ψ, l, S, L, h⟩
  cases n with
  | zero => exact False.elim h
  | succ n =>
    refine ⟨e, m, Ψ, _, _, S, L, h, fun k m1 Φ1 H1 h1 l1 S1 => ?_, fun x m1 Φ1 H1 c d h1 l1 S1 r1 => ok.ex _ _ _ _ _ _ _ _ h1 (l.trans l1) S1 (L.mono l1) r1⟩
    cases k with
    | true =>
      refine iteT ⟨_, fun σ' H' z => ⟨n, Nat.lt_succ_self n, z⟩, ?_⟩
      rw [if_pos rfl] at h1
      exact ⟨e, m1, Φ1, _, S1, L.mono l1, h1, ⟨fun e2 m2 Φ2 H2 σ2 h2 l2 S2 L2 => ⟨e2, m2, Φ2, (l.trans l1).trans l2, S2, L2, h2⟩, (ok.mono (l.trans l1)).rt, (ok.mono (l.trans l1)).ex⟩⟩
    | false =>
      refine iteF ?_
      rw [if_neg Bool.false_ne_true] at h1
      exact ok.nx _ _ _ _ _ h1 (l.trans l1) S1 (L.mono l1)
theorem gs_for {i : RI} {g : GD} {b : SD} {tg iter : Expr} {sb : List Stmt} {vs : List Nat} (hp : PassesOwn (model X.prog X.w) X.A X.env X.xe) (hc : X.calm = true) (hi : GI X W tg iter i) (hg : GG X vs tg g) (hb : GB X W sb b) (hs : ∀ x, foldedSetIterable iter X.env x = pure x) :
    GS X W (.For tg iter sb [] pos) (sFor i g b) := (ps_for hp hc hi hg hb hs).imp fun D σ H ⟨e, m, Φ, G, S, L, h, ok⟩ => by
  refine ⟨e, m, Φ, _, _, S, L, h, fun chk xs m1 Φ1 H1 J h1 l1 S1 it => ?_, fun x m1 Φ1 H1 c d h1 l1 S1 r1 => ok.ex _ _ _ _ _ _ _ _ h1 l1 S1 (L.mono l1) r1⟩
  refine ⟨fun k n σ H => k + n = xs.length ∧ ∃ e m Ψ, Φ1.le Ψ ∧ Sim X.K X.mg Ψ m H ∧ LoR X.K X.mg Ψ e σ ∧ forL chk g b (xs.drop k) e m G, ⟨xs.length, by omega, e, m1, Φ1, Phi.le.refl _, S1, L.mono l1, h1⟩, ?_⟩
  rintro k n σ H ⟨hk, e, m, Ψ, l, S, L, h⟩
  have itk := it k m Ψ H l.to1 S
  cases n with
  | zero =>
    rw [List.drop_eq_nil_of_le (by omega)] at h
    obtain ⟨hc, h⟩ := h
    exact .inl ⟨(itk hc).1 (by omega), ok.nx _ _ _ _ _ h (l1.trans l) S L⟩
  | succ n =>
    have hi : k < xs.length := by omega
    rw [List.drop_eq_getElem_cons hi] at h
    obtain ⟨hc, h⟩ := h
    obtain ⟨go, yl⟩ := (itk hc).2 _ (List.getElem?_eq_getElem hi)
    refine .inr ⟨go, _, fun σ' H' z => ⟨n, Nat.lt_succ_self n, z⟩, fun v H' y => ?_⟩
    obtain ⟨Φ2, l2, S2, r2⟩ := yl v H' y
    refine ⟨_, e, m, Φ2, _, S2, L.mono l2, r2, h, fun e3 m3 Φ3 σ3 H3 h3 l3 S3 L3 _ => ?_⟩
    have l03 := ((l1.trans l).trans l2).trans l3
    exact ⟨e3, m3, Φ3, _, S3, L3, h3, ⟨fun e4 m4 Φ4 H4 σ4 h4 l4 S4 L4 => ⟨by omega, e4, m4, Φ4, ((l.trans l2).trans l3).trans l4, S4, L4, h4⟩, (ok.mono l03).rt, (ok.mono l03).ex⟩⟩

/-! ### methods of lists -/
def OpMOk (X : Cx) (T : String) (ty : Mem → D → Prop) (o : OpM) (r : V → List V → Hp → VK → Prop) : Prop :=
  (∀ (Φ : Phi) (m : Mem) (H : Hp) (x : D) (v : V), Sim X.K X.mg Φ m H → Rep X.K X.mg Φ x v → ty m x → tyV X.K T v H) ∧
  ∀ (Φ : Phi) (m : Mem) (H : Hp) (x : D) (v : V) (xs : List D) (vs : List V) (K : DK) (Q : VK), Sim X.K X.mg Φ m H → Rep X.K X.mg Φ x v → Reps X.K X.mg Φ xs vs → o m x xs K →
    (∀ z m' Φ' H' w, K z m' → Φ.le Φ' → Sim X.K X.mg Φ' m' H' → Rep X.K X.mg Φ' z w → Q w H') → r v vs H Q
theorem ge_mtd {T id : String} {name : Str} {ty : Mem → D → Prop} {o : OpM} {r : V → List V → Hp → VK → Prop} {a : RD} {as : RA} {eo e : Expr} {es : List Expr} {apos cpos : Pos} (ok : OpMOk X T ty o r) (pa : PlainAttrs T) (slot : Slot T name id) (hty : typeOf (.builtin id) = pure (.type "method_descriptor")) (hm : MtR X id r)
    (ho : GE X W eo a) (ha : GA X W (e :: es) as) (hbase : attributeBase eo name X.env (eval eo X.env) = eval eo X.env)
    (hfew : ((backTo cpos (starEach (e :: es) X.env)).all (fun x => !x.1) && (backToKw cpos (keywordEach [] X.env)).all (fun x => x.1.isSome) && decide ((e :: es).length + ([] : List Keyword).length + (if ([] : List Keyword).isEmpty then 0 else 1) < 30)) = true)
    (hline : (apos.endLine == cpos.line) = true) (hs : starEach (e :: es) X.env = (false, eval e X.env) :: starEach es X.env) (hplain : (backTo cpos (starEach es X.env)).any (·.1) = false) : GE X W (.Call (.Attribute eo name apos) (e :: es) [] cpos) (rMtd ty o a as) :=
  (pe_bm pa slot hty hm ho ha hbase hfew hline hs hplain).imp fun σ H Q ⟨e, m, Φ, K, E, S, R, h, hK, hE⟩ => by
    refine ⟨e, m, Φ, _, E, S, R, h, fun x m1 Φ1 H1 v h1 l1 S1 r1 => ⟨ok.1 Φ1 m1 H1 x v S1 r1 h1.1, ?_⟩, hE⟩
    refine ⟨e, m1, Φ1, _, E, S1, R.mono l1, h1.2, fun ys m2 Φ2 H2 us h2 l2 S2 r2 _ => ?_, fun x m' Φ' H' c d z l => hE x m' Φ' H' c d z (l1.trans l)⟩
    exact ok.2 Φ2 m2 H2 x v ys us K Q S2 (r1.mono l2) r2 h2 fun z m' Φ' H' w hz l3 S3 r3 => hK z m' Φ' H' w hz ((l1.trans l2).trans l3) S3 r3
theorem ge_mtd0 {T id : String} {name : Str} {ty : Mem → D → Prop} {o : OpM} {r : V → List V → Hp → VK → Prop} {a : RD} {eo : Expr} {apos cpos : Pos} (ok : OpMOk X T ty o r) (pa : PlainAttrs T) (slot : Slot T name id) (hty : typeOf (.builtin id) = pure (.type "method_descriptor")) (hm : MtR X id r)
    (ho : GE X W eo a) (hbase : attributeBase eo name X.env (eval eo X.env) = eval eo X.env) (hline : (apos.endLine == cpos.line) = true) : GE X W (.Call (.Attribute eo name apos) [] [] cpos) (rMtd ty o a raNil) :=
  (pe_bm0 pa slot hty hm ho hbase hline).imp fun σ H Q ⟨e, m, Φ, K, E, S, R, h, hK, hE⟩ => by
    refine ⟨e, m, Φ, _, E, S, R, h, fun x m1 Φ1 H1 v h1 l1 S1 r1 => ⟨ok.1 Φ1 m1 H1 x v S1 r1 h1.1, ?_⟩, hE⟩
    exact ok.2 Φ1 m1 H1 x v [] [] K Q S1 r1 .nil h1.2 fun z m' Φ' H' w hz l3 S3 r3 => hK z m' Φ' H' w hz (l1.trans l3) S3 r3
theorem ty_list (Φ : Phi) (m : Mem) (H : Hp) (x : D) (v : V) (S : Sim X.K X.mg Φ m H) (r : Rep X.K X.mg Φ x v) (h : tyL m x) : tyV X.K "list" v H := by
  obtain ⟨xs, h⟩ := h
  obtain ⟨a, vs, rfl, _, q⟩ := S.itemsAt r h
  exact .inl ⟨rfl, vs, q⟩
/-- a list cell changes -/
theorem Sim.setL {K : PySem.W.Frag} {mg : Str → Option Value} {Φ : Phi} {m : Mem} {H : Hp} (S : Sim K mg Φ m H) {n : Nat} {a : Addr} {c : Cell} {ys : List D} {ws : List V} (hn : m[n]? = some c) (hp : Φ.c[n]? = some a) (r : Reps K mg Φ ys ws) : Sim K mg Φ (m.set n (.lst ys)) (upd H a (.lst ws)) :=
  S.set (List.getElem?_eq_some_iff.mp hn).1 hp ⟨ws, upd_same, r⟩
theorem ok_append : OpMOk X "list" tyL oAppend rAppend := ⟨ty_list, fun Φ m H x v xs vs K Q S r rs h hK => by
  obtain ⟨n, ys, y, rfl, rfl, h1, h2, h⟩ := h
  cases r with
  | cell hp =>
    obtain ⟨u, rfl, r1⟩ := reps1 rs
    obtain ⟨ws, k1, k2⟩ := S.at_ n _ _ h1 hp
    exact ⟨_, ws, u, rfl, rfl, k1, by rw [← k2.length]; exact Nat.lt_of_lt_of_le h2 (by decide), hK _ _ _ _ _ h (Phi.le.refl _) (S.setL h1 hp (k2.append (.cons r1 .nil))) .non⟩⟩
theorem ok_pop : OpMOk X "list" tyL oPop L2.rPop := ⟨ty_list, fun Φ m H x v xs vs K Q S r rs h hK => by
  obtain ⟨n, ys, y, rfl, rfl, h1, h2, h⟩ := h
  cases r with
  | cell hp =>
    cases rs
    obtain ⟨ws, k1, k2⟩ := S.at_ n _ _ h1 hp
    obtain ⟨u, g1, g2⟩ := k2.get h2
    exact ⟨_, ws, u, rfl, rfl, k1, by rw [← k2.length]; exact g1, hK _ _ _ _ _ h (Phi.le.refl _) (S.setL h1 hp k2.dropLast) g2⟩⟩
theorem gs_setItem {o i a : RD} {eo ei ea : Expr} {pos' : Pos} (ho : GE X W eo o) (hi : GE X W ei i) (ha : GE X W ea a)
    (hA : ∀ v, assign (.Subscript eo ei pos') X.env v = (do
      let ov ← holding [v] (eval eo X.env)
      let iv ← holding [v, ov] (eval ei X.env)
      standAt pos'
      holding [v, ov, iv] (setItem ov iv v)
      release [v, ov, iv] []))
    (hs : swapsWithSole [.Subscript eo ei pos'] ea pos.line X.env = pure false) (hw : swappedStores [.Subscript eo ei pos'] ea X.env = pure none) (h1 : (assignEach [.Subscript eo ei pos'] X.env).map (·.2) = [assign (.Subscript eo ei pos') X.env]) :
    GS X W (.Assign [.Subscript eo ei pos'] ea pos) (sSetItem o i a) := (ps_asg ha (pg_sub ho hi set_list hA) hs hw h1).imp fun D σ H ⟨e, m, Φ, G, S, L, h, ok⟩ => by
  have kx : ∀ {Ψ : Phi}, Φ.le Ψ → ∀ x m' Φ' H' cls dd, G.ex x e m' → Ψ.le Φ' → Sim X.K X.mg Φ' m' H' → RepX X.K X.mg Φ' x cls dd → W cls dd σ H' := fun l x m1 Φ1 H1 c d h1 l1 S1 r1 => ok.ex _ _ _ _ _ _ _ _ h1 (l.trans l1) S1 (L.mono (l.trans l1)) r1
  refine ⟨e, m, Φ, _, _, S, L, h, fun d m1 Φ1 H1 v h1 l1 S1 r1 => ?_, kx (Phi.le.refl _)⟩
  refine ⟨e, m1, Φ1, _, _, S1, L.mono l1, h1, fun x m2 Φ2 H2 u h2 l2 S2 r2 => ?_, kx l1⟩
  refine ⟨e, m2, Φ2, _, _, S2, L.mono (l1.trans l2), h2, fun y m3 Φ3 H3 w h3 l3 S3 r3 => ?_, kx (l1.trans l2)⟩
  obtain ⟨n, xs, k, j, rfl, rfl, g1, g2, h⟩ := h3
  cases r3
  have r2' := r2.mono l3
  cases r2' with
  | cell hp =>
    obtain ⟨ws, k1, k2⟩ := S3.at_ n _ _ g1 hp
    have l13 := (l1.trans l2).trans l3
    exact ⟨_, ws, k, j, rfl, rfl, k1, by rw [← k2.length]; exact g2, ok.nx _ _ _ _ _ h l13 (S3.setL g1 hp (k2.set j (r1.mono (l2.trans l3)))) (L.mono l13)⟩

/-! ### dicts -/
section
variable {K : PySem.W.Frag} {mg : Str → Option Value} {Φ : Phi} {m : Mem} {H : Hp}
theorem key_rep {d : D} {v : V} {k : Key} (r : Rep K mg Φ d v) (h : d.key = some k) : v = kV k := by
  cases r <;> first | (cases h; rfl) | cases h
theorem keys_rep : ∀ {ds : List D} {vs : List V} {ks : List Key}, Reps K mg Φ ds vs → keysD ds = some ks → vs = ks.map kV
  | [], _, _, .nil, h => by cases h; rfl
  | d :: ds, _, ks, .cons r rs, h => by
    unfold keysD at h
    split at h
    · rename_i a b h1 h2
      cases h
      rw [key_rep r h1, keys_rep rs h2]; rfl
    · cases h
variable {κ : Type} [DecidableEq κ]
theorem valD_rep : ∀ {kvs : List (κ × D)} {kws : List (κ × V)} (k : κ), RepK K mg Φ kvs kws → (∀ d, valD kvs k = some d → ∃ v, valV kws k = some v ∧ Rep K mg Φ d v) ∧ (valD kvs k = none → valV kws k = none)
  | [], _, k, .nil => ⟨fun d h => (by simp [valD] at h), fun _ => rfl⟩
  | p :: r, q :: s, k, .cons z t => by
    have ih := valD_rep k t
    unfold valD valV
    rw [List.find?_cons, List.find?_cons, ← z.1]
    by_cases e : p.1 = k
    · rw [decide_eq_true e]
      exact ⟨fun d h => ⟨q.2, rfl, by cases h; exact z.2⟩, fun h => by cases h⟩
    · rw [decide_eq_false e]
      exact ih
theorem any_rep {κ' : Type} : ∀ {kvs : List (κ × D)} {kws : List (κ × V)} (k : κ), RepK K mg Φ kvs kws → (kvs.any fun kv => decide (kv.1 = k)) = (kws.any fun kv => decide (kv.1 = k))
  | [], _, k, .nil => rfl
  | p :: r, q :: s, k, .cons z t => by rw [List.any_cons, List.any_cons, z.1, any_rep (κ' := κ') k t]
theorem map_rep {d : D} {v : V} (r0 : Rep K mg Φ d v) : ∀ {kvs : List (κ × D)} {kws : List (κ × V)} (k : κ), RepK K mg Φ kvs kws → RepK K mg Φ (kvs.map fun kv => if kv.1 = k then (kv.1, d) else kv) (kws.map fun kv => if kv.1 = k then (kv.1, v) else kv)
  | [], _, k, .nil => .nil
  | p :: r, q :: s, k, .cons z t => by
    refine .cons ?_ (map_rep r0 k t)
    dsimp only
    rw [← z.1]
    by_cases e : p.1 = k
    · rw [if_pos e, if_pos e]; exact ⟨rfl, r0⟩
    · rw [if_neg e, if_neg e]; exact z
theorem app_rep : ∀ {a : List (κ × D)} {b : List (κ × V)} {c : List (κ × D)} {d : List (κ × V)}, RepK K mg Φ a b → RepK K mg Φ c d → RepK K mg Φ (a ++ c) (b ++ d)
  | _, _, _, _, .nil, s => s
  | _, _, _, _, .cons z t, s => .cons z (app_rep t s)
theorem putD_rep {d : D} {v : V} (r0 : Rep K mg Φ d v) {kvs : List (κ × D)} {kws : List (κ × V)} (k : κ) (r : RepK K mg Φ kvs kws) : RepK K mg Φ (putD kvs k d) (putK kws k v) := by
  unfold putD putK
  rw [any_rep (κ' := κ) k r]
  split
  · exact map_rep r0 k r
  · exact app_rep r (.cons ⟨rfl, r0⟩ .nil)
theorem repK_length : ∀ {kvs : List (κ × D)} {kws : List (κ × V)}, RepK K mg Φ kvs kws → kvs.length = kws.length
  | _, _, .nil => rfl
  | _, _, .cons _ t => congrArg Nat.succ (repK_length t)
end
theorem Sim.getD {K : PySem.W.Frag} {mg : Str → Option Value} {Φ : Phi} {m : Mem} {H : Hp} (S : Sim K mg Φ m H) {x y : D} {v u : V} {r : Option D} (rx : Rep K mg Φ x v) (ry : Rep K mg Φ y u) (h : PL.getD m x y r) :
    ∃ a o, v = .ref a ∧ DGet H a u o ∧ o.isSome = r.isSome ∧ ∀ d, r = some d → ∃ w, o = some w ∧ Rep K mg Φ d w := by
  obtain ⟨n, kvs, k, rfl, h1, h2, rfl⟩ := h
  cases rx with
  | cell hp =>
    obtain ⟨kws, k1, k2⟩ := S.at_ n _ _ h1 hp
    obtain ⟨z1, z2⟩ := valD_rep k k2
    rw [key_rep ry h2]
    refine ⟨_, _, rfl, DGet.k k1, ?_, fun d hd => ?_⟩
    · cases q : valD kvs k with
      | none => rw [z2 q]; rfl
      | some d => obtain ⟨w, e, _⟩ := z1 d q; rw [e]; rfl
    · obtain ⟨w, e, r⟩ := z1 d hd
      exact ⟨w, e, r⟩
theorem Sim.setD {K : PySem.W.Frag} {mg : Str → Option Value} {Φ : Phi} {m m' : Mem} {H : Hp} (S : Sim K mg Φ m H) {x y d : D} {v u w : V} (rx : Rep K mg Φ x v) (ry : Rep K mg Φ y u) (rd : Rep K mg Φ d w) (h : PL.setD m x y d m') :
    ∃ a H', v = .ref a ∧ DPut H a u w H' ∧ Sim K mg Φ m' H' := by
  obtain ⟨n, kvs, k, rfl, h1, h2, hz, rfl⟩ := h
  cases rx with
  | cell hp =>
    obtain ⟨kws, k1, k2⟩ := S.at_ n _ _ h1 hp
    rw [key_rep ry h2]
    exact ⟨_, _, rfl, DPut.k k1 (by rw [← repK_length k2]; exact Nat.lt_of_lt_of_le hz (by decide)), S.set (List.getElem?_eq_some_iff.mp h1).1 hp ⟨_, upd_same, putD_rep rd k k2⟩⟩
variable {ea eb ev : Expr} {a b v : RD}
theorem ge_dict : GE X W (.Dict [] [] pos) rDict := pe_dnewK.imp fun σ H Q ⟨e, m, Φ, K, E, S, R, h, hK, hE⟩ p hp => by
  obtain ⟨l, S'⟩ := S.newC (o := .dK []) (x := .dk []) hp ⟨[], upd_same, .nil⟩
  exact hK _ _ _ _ _ h l S' (.cell (S.cellAt p))
theorem ge_dget (hu : X.A.units + 1 < cLine) (ha : GE X W ea a) (hb : GE X W eb b) (hs : NoSl eb) : GE X W (.Subscript ea eb pos) (rDGet a b) := (pe_dget hu ha hb hs).imp fun σ H Q ⟨e, m, Φ, K, E, S, R, h, hK, hE⟩ => by
  refine ⟨e, m, Φ, _, E, S, R, h, fun x m1 Φ1 H1 v h1 l1 S1 r1 => ?_, hE⟩
  refine ⟨e, m1, Φ1, _, E, S1, R.mono l1, h1, fun y m2 Φ2 H2 u h2 l2 S2 r2 => ?_, fun x m' Φ' H' c d z l => hE x m' Φ' H' c d z (l1.trans l)⟩
  obtain ⟨d, g, h2⟩ := h2
  obtain ⟨p, o, rfl, g1, g2, g3⟩ := S2.getD (r1.mono l2) r2 g
  obtain ⟨w, rfl, g4⟩ := g3 d rfl
  exact ⟨p, w, rfl, g1, hK _ _ _ _ _ h2 (l1.trans l2) S2 g4⟩
theorem le_din {f : Bool → Bool} (σ : L2.St) (H : Hp) (Q : VK) (h : LE X.K X.mg (fun e m K E => b e m (fun y m => a e m (fun x m => ∃ r, PL.getD m x y r ∧ K (.bl (f r.isSome)) m) E) E) W σ H Q) :
    LE X.K X.mg b W σ H fun y H1 => LE X.K X.mg a W σ H1 fun x H2 => ∃ p o, x = .ref p ∧ DGet H2 p y o ∧ Q (.bl (f o.isSome)) H2 := by
  obtain ⟨e, m, Φ, K, E, S, R, h, hK, hE⟩ := h
  refine ⟨e, m, Φ, _, E, S, R, h, fun y m1 Φ1 H1 u h1 l1 S1 r1 => ?_, hE⟩
  refine ⟨e, m1, Φ1, _, E, S1, R.mono l1, h1, fun x m2 Φ2 H2 v h2 l2 S2 r2 => ?_, fun x m' Φ' H' c d z l => hE x m' Φ' H' c d z (l1.trans l)⟩
  obtain ⟨r, g, h2⟩ := h2
  obtain ⟨p, o, rfl, g1, g2, g3⟩ := S2.getD r2 (r1.mono l2) g
  exact ⟨p, o, rfl, g1, hK _ _ _ _ _ (by rw [g2]; exact h2) (l1.trans l2) S2 (.bl _)⟩
theorem ge_din (hu : X.A.units + 1 < cLine) (hb : GE X W eb b) (ha : GE X W ea a) (hm : behindInMarks .In ea = false) : GE X W (.Compare eb [.In] [ea] pos) (rDIn b a) := (pe_cmp (pc_din hu hb ha) hm).imp fun σ H Q h => le_din (f := id) σ H Q h
theorem ge_dnotin (hu : X.A.units + 1 < cLine) (hb : GE X W eb b) (ha : GE X W ea a) (hm : behindInMarks .NotIn ea = false) : GE X W (.Compare eb [.NotIn] [ea] pos) (rDNotIn b a) := (pe_cmp (pc_dnotin hu hb ha) hm).imp fun σ H Q h => le_din (f := fun k => !k) σ H Q h
theorem lt_B {t : TE} {r : RD} (hi : ∀ σ H Q, LE X.K X.mg r W σ H Q → t σ H Q) (σ : L2.St) (H : Hp) (Q : Bool → Hp → Prop) (h : LT X.K X.mg (rtB r) W σ H Q) : tB t σ H Q := by
  obtain ⟨e, m, Φ, K, E, S, R, h, hK, hE⟩ := h
  refine hi σ H _ ⟨e, m, Φ, _, E, S, R, h, fun x m1 Φ1 H1 v h1 l1 S1 r1 => ?_, hE⟩
  cases r1 with
  | bl b => exact ⟨b, rfl, hK b m1 Φ1 H1 h1 l1 S1⟩
  | _ => exact False.elim h1
theorem gt_din (hu : X.A.units + 1 < cLine) (hb : GE X W eb b) (ha : GE X W ea a) (hm : behindInMarks .In ea = false) : GT X W (.Compare eb [.In] [ea] pos) (rtB (rDIn b a)) := (pt_cmp (pc_din hu hb ha) hm).imp (lt_B fun σ H Q h => le_din (f := id) σ H Q h)
theorem gt_dnotin (hu : X.A.units + 1 < cLine) (hb : GE X W eb b) (ha : GE X W ea a) (hm : behindInMarks .NotIn ea = false) : GT X W (.Compare eb [.NotIn] [ea] pos) (rtB (rDNotIn b a)) := (pt_cmp (pc_dnotin hu hb ha) hm).imp (lt_B fun σ H Q h => le_din (f := fun k => !k) σ H Q h)
theorem gs_dput {pos' : Pos} (hu : X.A.units + 1 < cLine) (ha : GE X W ea a) (hb : GE X W eb b) (hv : GE X W ev v) (hs : swapsWith ev (some (.Subscript ea eb pos')) pos.line X.env = pure false) : GS X W (.Assign [.Subscript ea eb pos'] ev pos) (sDPut a b v) := (ps_dput hu ha hb hv hs).imp fun D σ H ⟨e, m, Φ, G, S, L, h, ok⟩ => by
  have kx : ∀ {Ψ : Phi}, Φ.le Ψ → ∀ x m' Φ' H' cls dd, G.ex x e m' → Ψ.le Φ' → Sim X.K X.mg Φ' m' H' → RepX X.K X.mg Φ' x cls dd → W cls dd σ H' := fun l x m1 Φ1 H1 c d h1 l1 S1 r1 => ok.ex _ _ _ _ _ _ _ _ h1 (l.trans l1) S1 (L.mono (l.trans l1)) r1
  refine ⟨e, m, Φ, _, _, S, L, h, fun d m1 Φ1 H1 w h1 l1 S1 r1 => ?_, kx (Phi.le.refl _)⟩
  refine ⟨e, m1, Φ1, _, _, S1, L.mono l1, h1, fun x m2 Φ2 H2 u h2 l2 S2 r2 => ?_, kx l1⟩
  refine ⟨e, m2, Φ2, _, _, S2, L.mono (l1.trans l2), h2, fun y m3 Φ3 H3 z h3 l3 S3 r3 => ?_, kx (l1.trans l2)⟩
  obtain ⟨m', g, h⟩ := h3
  obtain ⟨p, H', rfl, g1, S'⟩ := S3.setD (r2.mono l3) r3 (r1.mono (l2.trans l3)) g
  have l13 := (l1.trans l2).trans l3
  exact ⟨p, H', rfl, g1, ok.nx _ _ _ _ _ h l13 S' (L.mono l13)⟩
end
end PL

/-! PyH: calls of defs, and a def by its body. -/
namespace PL
open PySem PySem.Spec PyProof.Rows L2
/-! ### leaving -/
section
variable {K : PySem.W.Frag} {mg : Str → Option Value} {Φ Ψ : Phi} {m m1 m2 : Mem} {H : Hp}
/-- what is known for good, behind the end -/
def lastF (Φ Ψ : Phi) (H : Hp) : Hp := fun a => if a ∈ Ψ.c.drop Φ.c.length then H a else Ψ.F a
theorem lastF_grows (S : Sim K mg Ψ m1 H) : grows Ψ.F (lastF Φ Ψ H) := fun a o e => by
  unfold lastF
  rw [if_neg]
  · exact e
  · intro h
    rw [(S.out a (List.mem_of_mem_drop h)).1] at e; cases e
theorem frz_all {α β γ : Type} {f : α → Option β} {P : α → γ → Prop} {Q : β → γ → Prop} (hf : ∀ a b v, P a v → f a = some b → Q b v) : ∀ (xs : List α) (ys : List β) (vs : List γ), Paired P xs vs → allO f xs = some ys → Paired Q ys vs
  | [], _, _, .nil, h => by cases h; exact .nil
  | x :: xs, _, _, .cons r rs, h => by
    unfold allO at h
    split at h
    · rename_i a b h1 h2
      cases h
      exact .cons (hf _ _ _ r h1) (frz_all hf xs _ _ rs h2)
    · cases h
theorem reps_pair {F : Hp} {cs : List Addr} : ∀ {xs : List D} {vs : List V}, Reps0 K mg F cs xs vs → Paired (Rep0 K mg F cs) xs vs
  | _, _, .nil => .nil
  | _, _, .cons r rs => .cons r (reps_pair rs)
theorem pair_reps {F : Hp} {cs : List Addr} : ∀ {xs : List D} {vs : List V}, Paired (Rep0 K mg F cs) xs vs → Reps0 K mg F cs xs vs
  | _, _, .nil => .nil
  | _, _, .cons r rs => .cons r (pair_reps rs)
theorem repf_pair {F : Hp} {cs : List Addr} : ∀ {xs : List (Str × D)} {vs : List (Str × V)}, RepF0 K mg F cs xs vs → Paired (fun p q => p.1 = q.1 ∧ Rep0 K mg F cs p.2 q.2) xs vs
  | _, _, .nil => .nil
  | _, _, .cons r rs => .cons ⟨rfl, r⟩ (repf_pair rs)
theorem pair_repf {F : Hp} {cs : List Addr} : ∀ {xs : List (Str × D)} {vs : List (Str × V)}, Paired (fun p q => p.1 = q.1 ∧ Rep0 K mg F cs p.2 q.2) xs vs → RepF0 K mg F cs xs vs
  | [], [], .nil => .nil
  | (x, d) :: _, (y, v) :: _, .cons ⟨e, r⟩ rs => by
    have e : x = y := e
    subst e
    exact .cons r (pair_repf rs)
theorem snd_frz {κ : Type} {f : D → Option D} {P Q : D → V → Prop} (hf : ∀ a b v, P a v → f a = some b → Q b v) (p : κ × D) (q : κ × D) (v : κ × V) (h : p.1 = v.1 ∧ P p.2 v.2) (e : (f p.2).map (fun d => (p.1, d)) = some q) : q.1 = v.1 ∧ Q q.2 v.2 := by
  obtain ⟨d, h1, rfl⟩ := Option.map_eq_some_iff.mp e
  exact ⟨h.1, hf _ _ _ h.2 h1⟩
theorem Sim.frz (S : Sim K mg Ψ m1 H) (hc : Φ.c <+: Ψ.c) : ∀ (k : Nat) (d d' : D) (v : V), Rep K mg Ψ d v → d.frz m1 Φ.c.length k = some d' → Rep0 K mg (lastF Φ Ψ H) Φ.c d' v
  | k, .non, d', _, .non, h => by cases k <;> (cases h; exact .non)
  | k, .bl b, d', _, .bl _, h => by cases k <;> (cases h; exact .bl b)
  | k, .int i, d', _, .int _, h => by cases k <;> (cases h; exact .int i)
  | k, .str s, d', _, .str _, h => by cases k <;> (cases h; exact .str s)
  | 0, .tup xs, d', _, .tup _ _, h => by cases h
  | 0, .lst xs, d', _, .lst _ _, h => by cases h
  | 0, .old xs, d', _, .old _ _, h => by cases h
  | 0, .ins _ _, d', _, .ins _ _ _, h => by cases h
  | 0, .cell n, d', _, .cell _, h => by cases h
  | k + 1, .tup xs, d', _, .tup q rs, h => by
    obtain ⟨ys, h1, rfl⟩ := Option.map_eq_some_iff.mp (show (allO (D.frz m1 Φ.c.length k) xs).map D.tup = some d' from h)
    exact .tup (sqt_grows (lastF_grows S) q) (pair_reps (frz_all (S.frz hc k) xs ys _ (reps_pair rs) h1))
  | k + 1, .lst xs, d', _, .lst q rs, h => by
    obtain ⟨ys, h1, rfl⟩ := Option.map_eq_some_iff.mp (show (allO (D.frz m1 Φ.c.length k) xs).map D.lst = some d' from h)
    exact .lst (lastF_grows S _ _ q) (pair_reps (frz_all (S.frz hc k) xs ys _ (reps_pair rs) h1))
  | k + 1, .old xs, d', _, .old q rs, h => by
    obtain ⟨ys, h1, rfl⟩ := Option.map_eq_some_iff.mp (show (allO (D.frz m1 Φ.c.length k) xs).map D.old = some d' from h)
    exact .old (sql_grows (lastF_grows S) q) (pair_reps (frz_all (S.frz hc k) xs ys _ (reps_pair rs) h1))
  | k + 1, .ins c fs, d', _, .ins g q rs, h => by
    obtain ⟨ys, h1, rfl⟩ := Option.map_eq_some_iff.mp (show (allO (fun p => (D.frz m1 Φ.c.length k p.2).map fun d => (p.1, d)) fs).map (D.ins c) = some d' from h)
    exact .ins g (lastF_grows S _ _ q) (pair_repf (frz_all (snd_frz (S.frz hc k)) fs ys _ (repf_pair rs) h1))
  | k + 1, .cell n, d', _, .cell hp, h => by
    unfold D.frz at h
    by_cases hn : n < Φ.c.length
    · rw [if_pos hn] at h
      cases h
      obtain ⟨t, e⟩ := hc
      rw [← e, List.getElem?_append_left hn] at hp
      exact .cell hp
    · rw [if_neg hn] at h
      obtain ⟨hl, e⟩ := List.getElem?_eq_some_iff.mp hp
      have inD : ∀ a, Ψ.c[n]? = some a → lastF Φ Ψ H a = H a := fun a ha => by
        unfold lastF
        rw [if_pos]
        refine List.mem_of_getElem? (i := n - Φ.c.length) ?_
        rw [List.getElem?_drop, show Φ.c.length + (n - Φ.c.length) = n by omega]
        exact ha
      split at h
      · rename_i xs q
        obtain ⟨ys, h1, rfl⟩ := Option.map_eq_some_iff.mp h
        obtain ⟨vs, k1, k2⟩ := S.at_ n _ _ q hp
        exact .lst ((inD _ hp).trans k1) (pair_reps (frz_all (S.frz hc k) xs ys _ (reps_pair k2) h1))
      · rename_i c fs q
        obtain ⟨ys, h1, rfl⟩ := Option.map_eq_some_iff.mp h
        obtain ⟨C, dx, fvs, g, k1, k2⟩ := S.at_ n _ _ q hp
        exact .ins g ((inD _ hp).trans k1) (pair_repf (frz_all (snd_frz (S.frz hc k)) fs ys _ (repf_pair k2) h1))
      · cases h
mutual
/-- what had only such cells as stood ahead -/
theorem Rep0.back {F0 F1 : Hp} {c0 c1 : List Addr} (hc : c0 <+: c1) : ∀ {d : D} {v0 v : V}, Rep0 K mg F0 c0 d v0 → Rep0 K mg F1 c1 d v → Rep0 K mg F1 c0 d v
  | _, _, _, .non, .non => .non
  | _, _, _, .bl _, .bl b => .bl b
  | _, _, _, .int _, .int i => .int i
  | _, _, _, .str _, .str x => .str x
  | _, _, _, .tup _ r, .tup h s => .tup h (Reps0.back hc r s)
  | _, _, _, .lst _ r, .lst h s => .lst h (Reps0.back hc r s)
  | _, _, _, .old _ r, .old h s => .old h (Reps0.back hc r s)
  | _, _, _, .ins _ _ r, .ins g h s => .ins g h (RepF0.back hc r s)
  | .cell n, _, _, .cell h0, .cell h => by
    obtain ⟨t, e⟩ := hc
    rw [← e, List.getElem?_append_left (List.getElem?_eq_some_iff.mp h0).1] at h
    exact .cell h
theorem Reps0.back {F0 F1 : Hp} {c0 c1 : List Addr} (hc : c0 <+: c1) : ∀ {d : List D} {v0 v : List V}, Reps0 K mg F0 c0 d v0 → Reps0 K mg F1 c1 d v → Reps0 K mg F1 c0 d v
  | _, _, _, .nil, .nil => .nil
  | _, _, _, .cons h r, .cons h' s => .cons (Rep0.back hc h h') (Reps0.back hc r s)
theorem RepF0.back {F0 F1 : Hp} {c0 c1 : List Addr} (hc : c0 <+: c1) : ∀ {d : List (Str × D)} {v0 v : List (Str × V)}, RepF0 K mg F0 c0 d v0 → RepF0 K mg F1 c1 d v → RepF0 K mg F1 c0 d v
  | _, _, _, .nil, .nil => .nil
  | _, _, _, .cons h r, .cons h' s => .cons (Rep0.back hc h h') (RepF0.back hc r s)
end
theorem pairK_back {κ : Type} {F0 F1 : Hp} {c0 c1 : List Addr} (hc : c0 <+: c1) : ∀ {a : List (κ × D)} {b0 b : List (κ × V)}, Paired (fun p q => p.1 = q.1 ∧ Rep0 K mg F0 c0 p.2 q.2) a b0 → Paired (fun p q => p.1 = q.1 ∧ Rep0 K mg F1 c1 p.2 q.2) a b → Paired (fun p q => p.1 = q.1 ∧ Rep0 K mg F1 c0 p.2 q.2) a b
  | _, _, _, .nil, .nil => .nil
  | _, _, _, .cons h r, .cons h' s => .cons ⟨h'.1, Rep0.back hc h.2 h'.2⟩ (pairK_back hc r s)
theorem Cell.back {F0 F1 : Hp} {c0 c1 : List Addr} {g0 g1 g2 : Hp} {H0 H1 : Hp} {a b : Addr} (hc : c0 <+: c1) : ∀ {x : Cell}, CellR K mg ⟨F0, c0, g0⟩ H0 a x → CellR K mg ⟨F1, c1, g1⟩ H1 b x → CellR K mg ⟨F1, c0, g2⟩ H1 b x
  | .lst _, ⟨_, _, r⟩, ⟨vs, h, s⟩ => ⟨vs, h, Reps0.back hc r s⟩
  | .dk _, ⟨_, _, r⟩, ⟨vs, h, s⟩ => ⟨vs, h, pairK_back hc r s⟩
  | .dt _, ⟨_, _, r⟩, ⟨vs, h, s⟩ => ⟨vs, h, pairK_back hc r s⟩
  | .ins _ _, ⟨_, _, _, _, _, r⟩, ⟨C, dx, vs, g, h, s⟩ => ⟨C, dx, vs, g, h, RepF0.back hc r s⟩
  | .dead, _, _ => trivial
theorem Sim.frzC (S : Sim K mg Ψ m1 H) (hc : Φ.c <+: Ψ.c) {a : Addr} {c c' : Cell} (r : CellR K mg Ψ H a c) (h : c.frz m1 Φ.c.length = some c') : CellR K mg ⟨lastF Φ Ψ H, Φ.c, Φ.g⟩ H a c' := by
  unfold Cell.frz at h
  split at h
  · obtain ⟨ys, h1, rfl⟩ := Option.map_eq_some_iff.mp h
    obtain ⟨vs, k1, k2⟩ := r
    exact ⟨vs, k1, pair_reps (frz_all (S.frz hc 20) _ ys _ (reps_pair k2) h1)⟩
  · obtain ⟨ys, h1, rfl⟩ := Option.map_eq_some_iff.mp h
    obtain ⟨vs, k1, k2⟩ := r
    exact ⟨vs, k1, frz_all (snd_frz (S.frz hc 20)) _ ys _ k2 h1⟩
  · obtain ⟨ys, h1, rfl⟩ := Option.map_eq_some_iff.mp h
    obtain ⟨vs, k1, k2⟩ := r
    exact ⟨vs, k1, frz_all (snd_frz (S.frz hc 20)) _ ys _ k2 h1⟩
  · obtain ⟨ys, h1, rfl⟩ := Option.map_eq_some_iff.mp h
    obtain ⟨C, dx, fvs, g, k1, k2⟩ := r
    exact ⟨C, dx, fvs, g, k1, pair_repf (frz_all (snd_frz (S.frz hc 20)) _ ys _ (repf_pair k2) h1)⟩
  · cases h; trivial
theorem Sim.leave {H0 : Hp} (S0 : Sim K mg Φ m H0) (S : Sim K mg Ψ m1 H) (l : Φ.le Ψ) (lv : Leave m m1 m2) : Φ.le ⟨lastF Φ Ψ H, Φ.c, Φ.g⟩ ∧ Sim K mg ⟨lastF Φ Ψ H, Φ.c, Φ.g⟩ m2 H := by
  have g0 := lastF_grows (Φ := Φ) S
  have le : Φ.le ⟨lastF Φ Ψ H, Φ.c, Φ.g⟩ := ⟨l.f.trans g0, List.prefix_refl _, rfl⟩
  have notD : ∀ a ∈ Φ.c, a ∉ Ψ.c.drop Φ.c.length := fun a ha hd => by
    obtain ⟨t, e⟩ := l.c
    have nd := S.nd
    rw [← e] at nd hd
    rw [List.drop_left] at hd
    exact (List.nodup_append.mp nd).2.2 a ha a hd rfl
  have memb : ∀ a ∈ Φ.c, a ∈ Ψ.c := fun a ha => by
    obtain ⟨t, e⟩ := l.c
    rw [← e]; exact List.mem_append_left _ ha
  refine ⟨le, fun a o e => ?_, S0.len.trans lv.len.symm, S0.nd, fun a ha => ?_, fun a u q => ?_, fun n x a hx ha => ?_⟩
  · have e : lastF Φ Ψ H a = some o := e
    unfold lastF at e
    split at e
    · exact e
    · exact S.sub a o e
  · obtain ⟨q1, q2⟩ := S.out a (memb a ha)
    refine ⟨?_, q2⟩
    show lastF Φ Ψ H a = none
    unfold lastF
    rw [if_neg (notD a ha)]; exact q1
  · have q : Φ.g a = some u := q
    rw [l.g] at q
    obtain ⟨k1, k2, k3⟩ := S.gd a u q
    refine ⟨k1, ?_, fun h => k3 (memb a h)⟩
    show lastF Φ Ψ H a = none
    unfold lastF
    rw [if_neg fun h => k3 (List.mem_of_mem_drop h)]; exact k2
  · have hn : n < m.length := by
      have := (List.getElem?_eq_some_iff.mp hx).1
      rw [lv.len] at this; exact this
    have ha' : Ψ.c[n]? = some a := l.at ha
    have lc : Φ.c.length = m.length := S0.len
    rcases lv.at_ n hn with ⟨e1, e2⟩ | ⟨c, c', e1, e2, e3⟩
    · rw [e2] at hx
      have r := S.at_ n x a (e1.trans hx) ha'
      have r0 := S0.at_ n x a hx ha
      exact CellR.mono1 (Φ := ⟨Ψ.F, Φ.c, Φ.g⟩) (Φ' := ⟨lastF Φ Ψ H, Φ.c, Φ.g⟩) ⟨g0, List.prefix_refl _⟩ rfl (Cell.back (g0 := Φ.g) (g1 := Ψ.g) l.c r0 r)
    · rw [e3] at hx
      cases hx
      exact S.frzC l.c (S.at_ n c a e1 ha') (by rw [lc]; exact e2)

end
/-! ### a def's promise -/
/-- a contract over data, as a promise over the heap -/
def spOf (K : PySem.W.Frag) (mg : Str → Option Value) (c : FnC) : Sp := fun vs H Q E => ∃ (ds : List D) (m : Mem) (Φ : Phi) (K' : DK) (E' : EK), Sim K mg Φ m H ∧ Reps K mg Φ ds vs ∧ c ds m K' E' ∧
  (∀ d m' Φ' H' v, K' d m' → Φ.le Φ' → Sim K mg Φ' m' H' → Rep K mg Φ' d v → Q v H') ∧ (∀ x m' Φ' H' cls dd, E' x m' → Φ.le Φ' → Sim K mg Φ' m' H' → RepX K mg Φ' x cls dd → E cls dd H')
/-- the def at f keeps the contract c, where nothing is being shown -/
structure FnG (P : Program) (w : World) (K : PySem.W.Frag) (mg : Str → Option Value) (base : Heap) (k : Nat) (f : Addr) (fd : FuncData) (ps : List Str) (c : FnC) : Prop where
  len : ∀ ds m K' E', c ds m K' E' → ds.length = ps.length
  run : ∀ (A : Around) (outer : List Env) (s : Shared) (H : Hp) (args : Args) (us : List Value) (vs : List V) (Q : VK) (E : XK), Room k A → A.guards = some [] → Env0 P w K mg base A outer s H → BindsTo s fd args (ps.zip us) → Vals vs us → spOf K mg c vs H Q E →
    codeAny (model P w) A (.call (.ref f) args) (CR (CX P w) outer P w H s Q E) s
theorem FnG.mono {P : Program} {w : World} {K : PySem.W.Frag} {mg : Str → Option Value} {base : Heap} {j k : Nat} {f : Addr} {fd : FuncData} {ps : List Str} {c : FnC} (F : FnG P w K mg base j f fd ps c) (h : j ≤ k) : FnG P w K mg base k f fd ps c :=
  ⟨F.len, fun A outer s H args us vs Q E hr hg => F.run A outer s H args us vs Q E (hr.mono h) hg⟩
section
variable {X : Cx} {W : WX} {k : Nat} {f : Addr} {fd : FuncData} {ps : List Str} {c : FnC}
theorem run_fnG {pins : List (Addr × Obj)} {σ : L2.St} {H : Hp} {s : Shared} {Q : VK} {us bs : List Value} {kw : List (Str × Value)} {vs : List V} {E : XK} (F : FnG X.prog X.w X.K X.mg X.base k f fd ps c) (hr : Room k X.A) (hg : X.A.guards = some []) (hb : BindsTo s fd ⟨us, kw⟩ (ps.zip bs)) (hx : PassesAt (CX X.prog X.w) X σ E)
    (I : Inv X pins σ H s) (r : Vals vs bs) (h : spOf X.K X.mg c vs H Q E) : wpAny (model X.prog X.w) X.A (call (.ref f) us kw) (EP X pins σ Q) X.xe s := by
  refine wpAny_call (codeAny_mono (F.run X.A X.stack s H ⟨us, kw⟩ bs vs Q E hr hg I.env0 hb r h) ?_)
  intro r s' hq
  rcases r with e | (v | _ | _ | _)
  · exact hx pins H s e s' I hq
  all_goals first | exact I.after hq | exact False.elim hq

/-- the values that the sources tell -/
inductive SrcR (K : PySem.W.Frag) (mg : Str → Option Value) (us ws : List Value) : List Src → List Value → Prop
  | nil : SrcR K mg us ws [] []
  | p {i : Nat} {b : Value} {ss : List Src} {bs : List Value} : us[i]? = some b → SrcR K mg us ws ss bs → SrcR K mg us ws (.p i :: ss) (b :: bs)
  | k {i : Nat} {b : Value} {ss : List Src} {bs : List Value} : ws[i]? = some b → SrcR K mg us ws ss bs → SrcR K mg us ws (.k i :: ss) (b :: bs)
  | d {d : D} {v : V} {b : Value} {ss : List Src} {bs : List Value} : (∀ F cs, Rep0 K mg F cs d v) → RelV v b → SrcR K mg us ws ss bs → SrcR K mg us ws (.d d :: ss) (b :: bs)
theorem src_reps {K : PySem.W.Frag} {mg : Str → Option Value} {Φ : Phi} {us ws : List Value} {ds ks : List D} {dv kv : List V} (r1 : Reps K mg Φ ds dv) (v1 : Vals dv us) (r2 : Reps K mg Φ ks kv) (v2 : Vals kv ws) : ∀ {ss : List Src} {bs : List Value} {xs : List D}, SrcR K mg us ws ss bs → srcs ds ks ss = some xs → ∃ vs, Reps K mg Φ xs vs ∧ Vals vs bs
  | _, _, xs, .nil, h => by cases h; exact ⟨[], .nil, .nil⟩
  | _, _, xs, .p g t, h => by
    unfold srcs at h
    split at h
    · rename_i a b h1 h2
      cases h
      obtain ⟨vs, q1, q2⟩ := src_reps r1 v1 r2 v2 t h2
      obtain ⟨v, e1, e2⟩ := r1.get (show ds[_]? = some a from h1)
      obtain ⟨u, e3, e4⟩ := v1.get e1
      rw [g] at e3; cases e3
      exact ⟨v :: vs, .cons e2 q1, .cons e4 q2⟩
    · cases h
  | _, _, xs, .k g t, h => by
    unfold srcs at h
    split at h
    · rename_i a b h1 h2
      cases h
      obtain ⟨vs, q1, q2⟩ := src_reps r1 v1 r2 v2 t h2
      obtain ⟨v, e1, e2⟩ := r2.get (show ks[_]? = some a from h1)
      obtain ⟨u, e3, e4⟩ := v2.get e1
      rw [g] at e3; cases e3
      exact ⟨v :: vs, .cons e2 q1, .cons e4 q2⟩
    · cases h
  | _, _, xs, .d g g2 t, h => by
    unfold srcs at h
    split at h
    · rename_i a b h1 h2
      cases h
      obtain ⟨vs, q1, q2⟩ := src_reps r1 v1 r2 v2 t h2
      cases h1
      exact ⟨_ :: vs, .cons (g _ _) q1, .cons g2 q2⟩
    · cases h
/-- how a call of n positional values and keywords ks is bound -/
def Bnd (K : PySem.W.Frag) (mg : Str → Option Value) (fd : FuncData) (ps : List Str) (n : Nat) (ks : List Str) (ss : List Src) : Prop := ∀ (s : Shared) (us ws : List Value), K.In s.heap → us.length = n → ws.length = ks.length → ∃ bs, BindsTo s fd ⟨us, ks.zip ws⟩ (ps.zip bs) ∧ SrcR K mg us ws ss bs
theorem srcs_length {ds ks : List D} : ∀ {ss : List Src} {xs : List D}, srcs ds ks ss = some xs → xs.length = ss.length
  | [], _, h => by cases h; rfl
  | s :: ss, xs, h => by
    unfold srcs at h
    split at h
    · rename_i a b h1 h2
      cases h
      exact congrArg Nat.succ (srcs_length h2)
    · cases h
theorem call_bnd {n : Nat} {ks : List Str} {ss : List Src} {pins : List (Addr × Obj)} {σ : L2.St} {H : Hp} {s : Shared} {Q : VK} {us ws : List Value} {m : Mem} {Φ : Phi} {ds zs : List D} {dv zv : List V} {K' : DK} {E' : EK} (F : FnG X.prog X.w X.K X.mg X.base k f fd ps c) (hr : Room k X.A) (hg : X.A.guards = some []) (hb : Bnd X.K X.mg fd ps n ks ss) (tk : Takes X W)
    (I : Inv X pins σ H s) (S : Sim X.K X.mg Φ m H) (r1 : Reps X.K X.mg Φ ds dv) (v1 : Vals dv us) (r2 : Reps X.K X.mg Φ zs zv) (v2 : Vals zv ws) (l1 : ds.length = n) (l2 : zs.length = ks.length) {xs : List D} (hs : srcs ds zs ss = some xs) (h : c xs m K' E')
    (hK : ∀ d m' Φ' H' v, K' d m' → Φ.le Φ' → Sim X.K X.mg Φ' m' H' → Rep X.K X.mg Φ' d v → Q v H') (hE : ∀ x m' Φ' H' cls dd, E' x m' → Φ.le Φ' → Sim X.K X.mg Φ' m' H' → RepX X.K X.mg Φ' x cls dd → W cls dd σ H') :
    wpAny (model X.prog X.w) X.A (call (.ref f) us (ks.zip ws)) (EP X pins σ Q) X.xe s := by
  obtain ⟨bs, b1, b2⟩ := hb s us ws I.kIn ((v1.length.symm.trans r1.length.symm).trans l1) ((v2.length.symm.trans r2.length.symm).trans l2)
  obtain ⟨vs, q1, q2⟩ := src_reps r1 v1 r2 v2 b2 hs
  exact run_fnG F hr hg b1 (passAt tk σ) I q2 ⟨xs, m, Φ, K', E', S, q1, h, hK, hE⟩
end
end PL

/-! PyI: from the text to its reading. -/
namespace PL
open PySem PySem.Spec PyProof.Rows L2

/-! ### calls of defs -/
section
variable {X : Cx} {W : WX}
abbrev GK (X : Cx) (W : WX) (e : List Keyword) (r : RA) : Prop := PK X e (LA X.K X.mg e.length r W)
theorem gk_nil : GK X W [] raNil := pk_nil.imp fun σ H Q ⟨e, m, Φ, K, E, S, R, h, hK, hE⟩ => hK _ _ _ _ _ h (Phi.le.refl _) S .nil rfl
theorem gk_cons {nm : Option Str} {e : Expr} {kpos : Pos} {kws : List Keyword} {a : RD} {r : RA} (ha : GE X W e a) (hr : GK X W kws r) : GK X W (⟨nm, e, kpos⟩ :: kws) (raCons a r) :=
  (pk_cons ha hr).imp fun σ H Q ⟨e, m, Φ, K, E, S, R, h, hK, hE⟩ => by
    refine ⟨e, m, Φ, _, E, S, R, h, fun x m1 Φ1 H1 v h1 l1 S1 r1 => ?_, hE⟩
    refine ⟨e, m1, Φ1, _, E, S1, R.mono l1, h1, fun y m2 Φ2 H2 u h2 l2 S2 r2 n2 => ?_, fun x m' Φ' H' c d z l => hE x m' Φ' H' c d z (l1.trans l)⟩
    exact hK _ _ _ _ _ h2 (l1.trans l2) S2 (.cons (r1.mono l2) r2) (congrArg Nat.succ n2)
def noStar : Expr → Bool
  | .Starred _ _ => false
  | _ => true
theorem starEach_cons {e : Expr} {es : List Expr} {env : PySem.Env} (h : noStar e = true) : starEach (e :: es) env = (false, eval e env) :: starEach es env := by
  cases e <;> first | rfl | cases h
theorem plain_args {pos : Pos} {env : PySem.Env} : ∀ {es : List Expr}, es.all noStar = true → (backTo pos (starEach es env)).any (·.1) = false
  | [], _ => rfl
  | e :: es, h => by
    rw [List.all_cons, Bool.and_eq_true] at h
    rw [starEach_cons h.1]
    show (false || (backTo pos (starEach es env)).any (·.1)) = false
    rw [plain_args h.2]; rfl
def kwNames : List Keyword → Option (List Str)
  | [] => some []
  | ⟨some n, _, _⟩ :: r => (kwNames r).map (n :: ·)
  | _ => none
theorem kw_facts {pos : Pos} {env : PySem.Env} : ∀ {kws : List Keyword} {ns : List Str}, kwNames kws = some ns → (backToKw pos (keywordEach kws env)).all (·.1.isSome) = true ∧ (backToKw pos (keywordEach kws env)).filterMap (·.1) = ns ∧ (backToKw pos (keywordEach kws env)).any (·.1.isNone) = false ∧ ns.length = kws.length
  | [], _, h => by cases h; exact ⟨rfl, rfl, rfl, rfl⟩
  | ⟨some n, v, p⟩ :: r, ns, h => by
    obtain ⟨ms, h1, rfl⟩ := Option.map_eq_some_iff.mp (show (kwNames r).map (n :: ·) = some ns from h)
    obtain ⟨a, b, c, d⟩ := kw_facts (pos := pos) (env := env) h1
    refine ⟨?_, ?_, ?_, by rw [List.length_cons, List.length_cons, d]⟩
    · show (true && (backToKw pos (keywordEach r env)).all (·.1.isSome)) = true
      rw [a]; rfl
    · show n :: (backToKw pos (keywordEach r env)).filterMap (·.1) = n :: ms
      rw [b]
    · show (false || (backToKw pos (keywordEach r env)).any (·.1.isNone)) = false
      rw [c]; rfl
  | ⟨none, v, p⟩ :: r, ns, h => by cases h
theorem ge_callK {x : Str} {p pos : Pos} {es : List Expr} {kws : List Keyword} {ns : List Str} {a r : RA} {k : Nat} {f : Addr} {fd : FuncData} {ps : List Str} {c : FnC} {ss : List Src} (F : FnG X.prog X.w X.K X.mg X.base k f fd ps c) (hr : Room k X.A) (hgu : X.A.guards = some []) (hg : Gl X x) (hm : X.mg x = some (.ref f)) (hk : PySem.W.keepIn X.K (.ref f) = true)
    (hb : Bnd X.K X.mg fd ps es.length ns ss) (tk : Takes X W) (ha : GA X W es a) (ha0 : es = [] → a = raNil) (hkw : GK X W kws r) (hns : kwNames kws = some ns) (hst : es.all noStar = true) (hdb : (x == ("__debug__" : Str)) = false) : GE X W (.Call (.Name x p) es kws pos) (rCallK c ss a r) := by
  refine ⟨fun pins s σ H Q I h => ?_⟩
  obtain ⟨e, m, Φ, K, E, S, R, h, hK, hE⟩ := h
  obtain ⟨f1, f2, f3, f4⟩ := kw_facts (pos := pos) (env := X.env) hns
  refine wpAny_Call_Name_kw (ld_glob I hg hm ?_ hdb)
  have args : LA X.K X.mg es.length a W σ H fun vs H1 => LA X.K X.mg kws.length r W σ H1 fun zs H2 => ∃ m2 Φ2 ds ks xs, Φ.le Φ2 ∧ Sim X.K X.mg Φ2 m2 H2 ∧ Reps X.K X.mg Φ2 ds vs ∧ Reps X.K X.mg Φ2 ks zs ∧ ds.length = es.length ∧ ks.length = kws.length ∧ srcs ds ks ss = some xs ∧ c xs m2 K E := by
    refine ⟨e, m, Φ, _, E, S, R, h, fun xs m1 Φ1 H1 v h1 l1 S1 r1 n1 => ?_, hE⟩
    refine ⟨e, m1, Φ1, _, E, S1, R.mono l1, h1, fun ys m2 Φ2 H2 u h2 l2 S2 r2 n2 => ?_, fun x m' Φ' H' c d z l => hE x m' Φ' H' c d z (l1.trans l)⟩
    obtain ⟨vs, q, h2⟩ := h2
    exact ⟨m2, Φ2, xs, ys, vs, l1.trans l2, S2, r1.mono l2, r2, n1, n2, q, h2⟩
  have fin : ∀ {s2 : Shared} {vs zs : List V} {us ws : List Value} {H2 : Hp}, Inv X pins σ H2 s2 → Vals vs us → Vals zs ws → (∃ m2 Φ2 ds ks xs, Φ.le Φ2 ∧ Sim X.K X.mg Φ2 m2 H2 ∧ Reps X.K X.mg Φ2 ds vs ∧ Reps X.K X.mg Φ2 ks zs ∧ ds.length = es.length ∧ ks.length = kws.length ∧ srcs ds ks ss = some xs ∧ c xs m2 K E) →
      wpAny (model X.prog X.w) X.A (call (.ref f) us (ns.zip ws)) (EP X pins σ Q) X.xe s2 := fun I2 v1 v2 ⟨m2, Φ2, ds, ks, xs, l, S2, r1, r2, n1, n2, q, h⟩ =>
    call_bnd F hr hgu hb tk I2 S2 r1 v1 r2 v2 n1 (n2.trans f4.symm) q h (fun d m' Φ' H' v z l' => hK d m' Φ' H' v z (l.trans l')) (fun x m' Φ' H' c d z l' => hE x m' Φ' H' c d z (l.trans l'))
  cases es with
  | cons ea es =>
    have he := starEach_cons (es := es) (env := X.env) (by rw [List.all_cons, Bool.and_eq_true] at hst; exact hst.1)
    refine PySem.W.callWith_KW (h₀ := X.base) I.ok.mod.kin hk f1 (thn (ha.run pos pins s σ H _ I args) fun us s1 ⟨vs, H1, I1, v1, q1⟩ => ?_) (by rw [plain_args hst, f3]; rfl) he
    refine thn (hkw.run pos pins s1 σ H1 _ I1 q1) fun ws s2 ⟨zs, H2, I2, v2, q2⟩ => ⟨I2.kIn, ?_⟩
    rw [f2]
    exact fin I2 v1 v2 q2
  | nil =>
    refine PySem.W.callWith_KW0 (h₀ := X.base) I.ok.mod.kin hk f1 ?_ (by rw [f3]; rfl)
    obtain rfl := ha0 rfl
    have q1 : LA X.K X.mg kws.length r W σ H fun zs H2 => ∃ m2 Φ2 ds ks xs, Φ.le Φ2 ∧ Sim X.K X.mg Φ2 m2 H2 ∧ Reps X.K X.mg Φ2 ds [] ∧ Reps X.K X.mg Φ2 ks zs ∧ ds.length = ([] : List Expr).length ∧ ks.length = kws.length ∧ srcs ds ks ss = some xs ∧ c xs m2 K E := by
      refine ⟨e, m, Φ, _, E, S, R, h, fun ys m2 Φ2 H2 u h2 l2 S2 r2 n2 => ?_, hE⟩
      obtain ⟨vs, q, h2⟩ := h2
      exact ⟨m2, Φ2, [], ys, vs, l2, S2, .nil, r2, rfl, n2, q, h2⟩
    refine thn (hkw.run pos pins s σ H _ I q1) fun ws s2 ⟨zs, H2, I2, v2, q2⟩ => ⟨I2.kIn, ?_⟩
    rw [f2]
    exact fin (us := []) I2 .nil v2 q2
/-- the sources of a call that gives every parameter in order -/
def isId : Nat → List Src → Bool
  | _, [] => true
  | n, .p i :: r => i == n && isId (n + 1) r
  | _, _ => false
theorem isId_ok {ds : List D} : ∀ {ss : List Src} {n : Nat}, isId n ss = true → n + ss.length = ds.length → srcs ds [] ss = some (ds.drop n)
  | [], n, _, hl => by
    rw [List.drop_eq_nil_of_le (by simpa using Nat.le_of_eq hl.symm)]; rfl
  | .p i :: r, n, h, hl => by
    have h' : (i == n && isId (n + 1) r) = true := h
    rw [Bool.and_eq_true, beq_iff_eq] at h'
    obtain ⟨rfl, h2⟩ := h'
    have hn : i < ds.length := by rw [List.length_cons] at hl; omega
    have ih := isId_ok (ds := ds) h2 (by rw [List.length_cons] at hl; omega)
    unfold srcs
    rw [ih, show (Src.p i).get ds [] = some ds[i] from List.getElem?_eq_getElem hn]
    rw [List.drop_eq_getElem_cons hn]
  | .k _ :: _, _, h, _ => by cases h
  | .d _ :: _, _, h, _ => by cases h
theorem ge_call {x : Str} {p pos : Pos} {es : List Expr} {a : RA} {k : Nat} {f : Addr} {fd : FuncData} {ps : List Str} {c : FnC} {ss : List Src} (F : FnG X.prog X.w X.K X.mg X.base k f fd ps c) (hr : Room k X.A) (hgu : X.A.guards = some []) (hg : Gl X x) (hm : X.mg x = some (.ref f)) (hk : PySem.W.keepIn X.K (.ref f) = true)
    (hb : Bnd X.K X.mg fd ps es.length [] ss) (hid : isId 0 ss = true) (hsl : ss.length = es.length) (tk : Takes X W) (ha : GA X W es a) (ha0 : es = [] → a = raNil) (hst : es.all noStar = true) (hdb : (x == ("__debug__" : Str)) = false) : GE X W (.Call (.Name x p) es [] pos) (rCall c a) := by
  refine ⟨fun pins s σ H Q I h => ?_⟩
  obtain ⟨e, m, Φ, K, E, S, R, h, hK, hE⟩ := h
  refine wpAny_Call_Name_kw (ld_glob I hg hm ?_ hdb)
  have fin : ∀ {s2 : Shared} {vs : List V} {us : List Value} {H2 : Hp}, Inv X pins σ H2 s2 → Vals vs us → (∃ m2 Φ2 ds, Φ.le Φ2 ∧ Sim X.K X.mg Φ2 m2 H2 ∧ Reps X.K X.mg Φ2 ds vs ∧ ds.length = es.length ∧ c ds m2 K E) →
      wpAny (model X.prog X.w) X.A (call (.ref f) us) (EP X pins σ Q) X.xe s2 := fun I2 v1 ⟨m2, Φ2, ds, l, S2, r1, n1, h⟩ => by
    have := call_bnd (ws := []) (zv := []) (zs := []) F hr hgu hb tk I2 S2 r1 v1 .nil .nil n1 rfl (isId_ok hid (by rw [Nat.zero_add, hsl, n1])) (by rw [List.drop_zero]; exact h) (fun d m' Φ' H' v z l' => hK d m' Φ' H' v z (l.trans l')) (fun x m' Φ' H' c d z l' => hE x m' Φ' H' c d z (l.trans l'))
    exact this
  cases es with
  | cons ea es =>
    have he := starEach_cons (es := es) (env := X.env) (by rw [List.all_cons, Bool.and_eq_true] at hst; exact hst.1)
    have args : LA X.K X.mg (ea :: es).length a W σ H fun vs H2 => ∃ m2 Φ2 ds, Φ.le Φ2 ∧ Sim X.K X.mg Φ2 m2 H2 ∧ Reps X.K X.mg Φ2 ds vs ∧ ds.length = (ea :: es).length ∧ c ds m2 K E :=
      ⟨e, m, Φ, _, E, S, R, h, fun xs m1 Φ1 H1 v h1 l1 S1 r1 n1 => ⟨m1, Φ1, xs, l1, S1, r1, n1, h1⟩, hE⟩
    refine PySem.W.callWith_K (h₀ := X.base) I.ok.mod.kin hk (thn (ha.run pos pins s σ H _ I args) fun us s1 ⟨vs, H1, I1, v1, q1⟩ => ⟨I1.kIn, ?_⟩) he (plain_args (by rw [List.all_cons, Bool.and_eq_true] at hst; exact hst.2))
    exact fin I1 v1 q1
  | nil =>
    obtain rfl := ha0 rfl
    exact PySem.W.callWith_K0 I.kIn hk (fin (us := []) I .nil ⟨m, Φ, [], Phi.le.refl _, S, .nil, rfl, h⟩)
end
end PL

/-! PyJ: the text's reading, by a program; that it is one. -/
namespace PL
open PySem PySem.Spec PyProof.Rows L2

/-- a def that may be called: its parameters, its contract, how calls are bound -/
structure FE where
  ps : List Str
  ct : FnC
  shapes : List (Nat × List Str × List Src)
structure Tab where
  fns : List (Str × FE)
  consts : List (Str × D)
  free : List Str
structure Cn where
  tab : Tab
  sc : Scope
  N : List Str
  fn : Str → Bool
  orc : List ((Nat × Nat × Nat) × Nat)
structure FOk (P : Program) (w : World) (K : PySem.W.Frag) (mg : Str → Option Value) (base : Heap) (k : Nat) (x : Str) (E : FE) : Prop where
  ex : ∃ f fd, mg x = some (.ref f) ∧ PySem.W.keepIn K (.ref f) = true ∧ FnG P w K mg base k f fd E.ps E.ct ∧ ∀ sh ∈ E.shapes, Bnd K mg fd E.ps sh.1 sh.2.1 sh.2.2
structure TabOk (P : Program) (w : World) (K : PySem.W.Frag) (mg : Str → Option Value) (base : Heap) (k : Nat) (t : Tab) : Prop where
  fns : ∀ x E, (x, E) ∈ t.fns → FOk P w K mg base k x E
  consts : ∀ x d, (x, d) ∈ t.consts → ∃ u v, mg x = some u ∧ RelV v u ∧ ∀ F cs, Rep0 K mg F cs d v
  free : ∀ x ∈ t.free, mg x = none
structure Good (k : Nat) (cx : Cn) (X : Cx) (W : WX) : Prop where
  sc : X.env.scope = cx.sc
  kind : cx.sc.kind = .function
  N : X.N = cx.N
  fn : X.fn = cx.fn
  nd : X.N.Nodup
  calm : X.calm = true
  room : Room k X.A
  gu : X.A.guards = some []
  tk : Takes X W
  own : PassesOwn (model X.prog X.w) X.A X.env X.xe
  tab : TabOk X.prog X.w X.K X.mg X.base k cx.tab
def look {α : Type} : List (Str × α) → Str → Option α
  | [], _ => none
  | (y, a) :: r, x => if x = y then some a else look r x
theorem look_mem {α : Type} : ∀ {l : List (Str × α)} {x : Str} {a : α}, look l x = some a → (x, a) ∈ l
  | (y, b) :: r, x, a, h => by
    unfold look at h
    split at h
    · rename_i e
      cases h; subst e; exact List.mem_cons_self
    · exact List.mem_cons_of_mem _ (look_mem h)
def slotOf : List Str → Str → Option Nat
  | [], _ => none
  | y :: r, x => if x = y then some 0 else (slotOf r x).map (· + 1)
theorem slotOf_get : ∀ {l : List Str} {x : Str} {i : Nat}, slotOf l x = some i → l[i]? = some x
  | y :: r, x, i, h => by
    unfold slotOf at h
    split at h
    · rename_i e
      cases h; subst e; rfl
    · obtain ⟨j, h1, rfl⟩ := Option.map_eq_some_iff.mp h
      simpa using slotOf_get h1
def guardO {α : Type} (b : Bool) (r : Option α) : Option α := if b = true then r else none
theorem guardO_some {α : Type} {b : Bool} {r : Option α} {x : α} (h : guardO b r = some x) : b = true ∧ r = some x := by
  unfold guardO at h
  split at h
  · exact ⟨by assumption, h⟩
  · cases h
def visB (sc : Scope) (x : Str) : Bool := match sc.names.lookup x with
  | some .local | some .cell | some .free => true
  | _ => false
theorem visB_ok {sc : Scope} {x : Str} (h : visB sc x = true) : Vis sc x := by
  unfold visB at h
  unfold Vis
  split at h
  · exact .inl (by assumption)
  · exact .inr (.inl (by assumption))
  · exact .inr (.inr (by assumption))
  · cases h
def locB (cx : Cn) (x : Str) : Bool := match cx.sc.names.lookup x with
  | some .local => true
  | some .cell => cx.fn x
  | _ => false
def glB (sc : Scope) (x : Str) : Bool := match sc.names.lookup x with
  | some .globalImplicit => true
  | _ => false
def plainName (x : Str) : Bool := !(x == ("__debug__" : Str)) && !(x == ("__classdict__" : Str)) && !(x == ("__name__" : Str))
def kindAt (cx : Cn) (p : Pos) : Nat := (cx.orc.lookup (p.line, p.col, p.endCol)).getD 0
section
variable {k : Nat} {cx : Cn} {X : Cx} {W : WX}
theorem Good.vis (G : Good k cx X W) {x : Str} (h : visB cx.sc x = true) : Vis X.env.scope x := by rw [G.sc]; exact visB_ok h
theorem Good.loc (G : Good k cx X W) {x : Str} (h : locB cx x = true) : Loc X.env.scope x ∧ (X.fn x = true ∨ X.env.scope.names.lookup x = some .local) := by
  unfold locB at h
  rw [G.sc, G.fn]
  split at h
  · exact ⟨.inl (by assumption), .inr (by assumption)⟩
  · exact ⟨.inr (by assumption), .inl h⟩
  · cases h
theorem Good.gl (G : Good k cx X W) {x : Str} (h : glB cx.sc x = true) : Gl X x := by
  unfold glB at h
  show X.env.scope.names.lookup x = _
  rw [G.sc]
  split at h
  · assumption
  · cases h
theorem Good.slot (G : Good k cx X W) {x : Str} {i : Nat} (h : slotOf cx.N x = some i) : X.N[i]? = some x := by rw [G.N]; exact slotOf_get h
theorem plainName_ok {x : Str} (h : plainName x = true) : (x == ("__debug__" : Str)) = false ∧ (x == ("__classdict__" : Str)) = false ∧ x ≠ "__name__" := by
  unfold plainName at h
  simp only [Bool.and_eq_true, Bool.not_eq_true'] at h
  exact ⟨h.1.1, h.1.2, fun e => by subst e; simp at h⟩
theorem Good.u64 (G : Good k cx X W) : X.A.units + 64 < cLine := G.room.units
theorem Good.u1 (G : Good k cx X W) : X.A.units + 1 < cLine := by have := G.room.units; omega
/-- a comprehension's block -/
def Cn.blk (cx : Cn) (scope : Scope) : Cn := { cx with sc := relS scope cx.sc, fn := fun x => scope.names.lookup x == some .cell }
theorem Good.blk (G : Good k cx X W) {scope : Scope} (hk : scope.kind = .function) : InBlk X scope fun Y => Good k (cx.blk scope) Y WN := fun s H C cl fp => {
  sc := by
    show (compEnvC scope cl C X.env).scope = relS scope cx.sc
    rw [← G.sc]; rfl
  kind := hk
  N := G.N
  fn := rfl
  nd := G.nd
  calm := G.calm
  room := G.room
  gu := G.gu
  tk := fun u s' ⟨_, _, _, _, _, _, _, _, _, _, _, _, _, _, _, _, h⟩ => h.elim
  own := PassesOwn.never
  tab := G.tab }

/-! ### what the text must look like -/
def notSlice : Expr → Bool
  | .Slice _ _ _ _ => false
  | _ => true
theorem plainIx {e : Expr} (h : notSlice e = true) : PlainIx e := fun o i => by cases e <;> first | rfl | cases h
theorem noSl {e : Expr} (h : notSlice e = true) : NoSl e := fun o i => by cases e <;> first | rfl | cases h
def notComp : Expr → Bool
  | .ListComp .. | .SetComp .. | .DictComp .. => false
  | _ => true
theorem swaps_plain {e : Expr} {t : Option Expr} {l : Nat} {env : PySem.Env} (h : notComp e = true) : swapsWith e t l env = pure false := by cases e <;> first | rfl | cases h
theorem swapsSole_plain {e tg : Expr} {l : Nat} {env : PySem.Env} (h : notComp e = true) : swapsWithSole [tg] e l env = pure false := swaps_plain h
def notSet : Expr → Bool
  | .Set .. => false
  | _ => true
theorem folded_plain {e : Expr} {env : PySem.Env} (h : notSet e = true) : ∀ x, foldedSetIterable e env x = pure x := fun x => by cases e <;> first | rfl | cases h
theorem marks_plain {e : Expr} {op : CmpOp} (h : notSet e = true) : behindInMarks op e = false := by cases e <;> first | rfl | cases h
def plainTest : Expr → Bool
  | .UnaryOp .Not _ _ => false
  | .BoolOp .. => false
  | .IfExp .. => false
  | .Compare .. => false
  | _ => true
theorem isTrue_any {e : Expr} {env : PySem.Env} (h : plainTest e = true) : ∀ whole, isTrue e env whole = (do let v ← whole; standAt e.pos; holding [v] (truthy v)) := fun w => by
  cases e with
  | UnaryOp op a p => cases op <;> first | rfl | cases h
  | _ => first | rfl | cases h
def notSuper : Expr → Bool
  | .Call .. => false
  | _ => true
theorem base_plain {o : Expr} {m : Str} {env : PySem.Env} (h : notSuper o = true) : attributeBase o m env (eval o env) = eval o env := by cases o <;> first | rfl | cases h
theorem few_plain {es : List Expr} {pos : Pos} {env : PySem.Env} (h : es.all noStar = true) (hl : es.length < 29) :
    ((backTo pos (starEach es env)).all (fun x => !x.1) && (backToKw pos (keywordEach [] env)).all (fun x => x.1.isSome) && decide (es.length + ([] : List Keyword).length + (if ([] : List Keyword).isEmpty then 0 else 1) < 30)) = true := by
  have h1 : (backTo pos (starEach es env)).all (fun x => !x.1) = true := by
    have := plain_args (pos := pos) (env := env) h
    rw [List.all_eq_not_any_not]
    simpa using this
  rw [h1]
  simp [keywordEach, backToKw]
  omega
def notTup : Expr → Bool
  | .Tuple .. | .List .. | .Starred .. => false
  | _ => true
theorem assign_one {tg : Expr} {env : PySem.Env} (h : noStar tg = true) : (assignEach [tg] env).map (·.2) = [assign tg env] := by cases tg <;> first | rfl | cases h
theorem assign_cons {t : Expr} {ts : List Expr} {env : PySem.Env} (h : noStar t = true) : assignEach (t :: ts) env = (false, assign t env) :: assignEach ts env := by cases t <;> first | rfl | cases h
theorem assign_len {env : PySem.Env} : ∀ {ts : List Expr}, ts.all noStar = true → (assignEach ts env).length = ts.length ∧ (assignEach ts env).findIdx? (·.1) = none
  | [], _ => ⟨rfl, rfl⟩
  | t :: ts, h => by
    rw [List.all_cons, Bool.and_eq_true] at h
    obtain ⟨a, b⟩ := assign_len (env := env) h.2
    rw [assign_cons h.1]
    refine ⟨congrArg Nat.succ a, ?_⟩
    rw [List.findIdx?_cons]
    simp [b]
theorem stores_plain {tg e : Expr} {env : PySem.Env} (h : notTup tg = true) : swappedStores [tg] e env = pure none := by cases tg <;> first | rfl | cases h
def notTupE : Expr → Bool
  | .Tuple .. => false
  | _ => true
theorem stores_plainE {tg e : Expr} {env : PySem.Env} (h : notTupE e = true) : swappedStores [tg] e env = pure none := by
  cases e <;> first | (cases h; done) | (cases tg <;> rfl)
/-- a, b = x, y: stored from the right -/
def swapB (sc : Scope) (x y : Str) (px py : Pos) (a b : Expr) : Bool :=
  (sc.names.lookup x == some .local) && (sc.names.lookup y == some .local) && (py.line == px.line) && !decide (x = y) && noStar a && noStar b && !([a, b].all (foldedForSure 8)) && !([a, b].all (constantsAlone 8))
theorem swapB_ok {env : PySem.Env} {x y : Str} {px py pt p2 : Pos} {kt k2 : Nat} {a b : Expr} (hk : env.scope.kind = .function) (h : swapB env.scope x y px py a b = true) : swappedStores [.Tuple [.Name x px, .Name y py] kt pt] (.Tuple [a, b] k2 p2) env = pure (some [x, y]) := by
  unfold swapB at h
  simp only [Bool.and_eq_true, Bool.not_eq_true', beq_iff_eq, decide_eq_false_iff_not] at h
  obtain ⟨⟨⟨⟨⟨⟨⟨h1, h2⟩, h3⟩, h4⟩, h5⟩, h6⟩, h7⟩, h8⟩ := h
  have hb : env.blockKind = .function := by unfold Env.blockKind; rw [hk]; rfl
  have k1 : env.kindOf x = some .local := h1
  have k2 : env.kindOf y = some .local := h2
  have ns : ∀ l : List Expr, l.all noStar = true → (l.any fun | .Starred .. => true | _ => false) = false := fun l => by
    induction l with
    | nil => intro _; rfl
    | cons e l ih =>
      intro h
      rw [List.all_cons, Bool.and_eq_true] at h
      rw [List.any_cons, ih h.2, Bool.or_false]
      have h1 := h.1
      clear h ih
      cases e <;> first | rfl | cases h1
  have ns := ns [a, b] (by rw [List.all_cons, List.all_cons, h5, h6]; rfl)
  unfold swappedStores
  simp only [ns, hb, h7, h8]
  have ed : ([x, y].eraseDups).length = 2 := by
    have e1 : (y == x) = false := beq_eq_false_iff_ne.mpr fun e => h4 e.symm
    simp [List.eraseDups_cons, List.filter, e1]
  have c1 : (env.blockKind != ScopeKind.function) = false := by rw [hb]; rfl
  simp only [ns, c1, h7, h8, List.filterMap_cons, List.filterMap_nil, List.head?_cons, Option.map_some, Option.getD_some, Expr.pos, k1, k2, h3, beq_self_eq_true, Bool.and_true, if_true, ed]
  simp
  intro h
  rw [List.any_cons, List.any_cons, List.any_nil, Bool.or_false, Bool.or_eq_false_iff] at ns
  rcases h with h | h
  · exact absurd (h.symm.trans ns.1) (by decide)
  · exact absurd (h.symm.trans ns.2) (by decide)
end
end PL

/-! PyR: more readings: x in xs of data; a op b op c; a = b = e. -/
namespace PL
open PySem PySem.Spec PyProof.Rows L2
def inK (m : Mem) (x y : D) (K : Bool → Prop) : Prop := ∃ p ds, x.py m = some p ∧ (y.py m = some (.list ds) ∨ y.py m = some (.tuple ds)) ∧ p.canLay0 = true ∧ PyData.canLayAll0 ds = true ∧ K (ds.any fun z => PyData.eqv z p)
def oIn : Op2 := fun m x y K => inK m x y fun b => K (.bl b)
def oNotIn : Op2 := fun m x y K => inK m x y fun b => K (.bl (!b))
def rChain (o o' : Op2) (a b c : RD) : RD := fun e m K E => a e m (fun x m => b e m (fun y m => o m x y fun z => match z with
  | .bl k => if k = true then c e m (fun w m => o' m y w fun z => K z m) E else K (.bl false) m
  | _ => False) E) E
def sAsg2 (a : RD) (g1 g2 : GD) : SD := fun e m K => a e m (fun d m => g1 d e m fun e m => g2 d e m K.nx) (fun x m => K.ex x e m)
section
variable {X : Cx} {W : WX}
def rInT (K : PySem.W.Frag) (neg : Bool) : R2 := fun x y H Q => ∃ d ds, Dp K H x d ∧ Dp K H y (.tuple ds) ∧ SeqAt.shaped d = true ∧ SeqAt.shaped (.tuple ds) = true ∧ Q (.bl (if neg = true then !(ds.any fun z => PyData.eqv z d) else ds.any fun z => PyData.eqv z d)) H
theorem op_inT (hu : X.A.units + 65 < cLine) : OpR X (compareOp .In) (rInT X.K false) := fun pins s σ H x y v u Q I rx ry ⟨d, ds, hd, he, sd, se, q⟩ => by
  obtain ⟨as, r1⟩ := Dp.reads I d x v hd rx
  obtain ⟨bs, r2⟩ := Dp.reads I (.tuple ds) y u he ry
  exact SeqAt.in_tuple_reads r2 r1 (SeqAt.canLay_of_shaped se) (SeqAt.canLay_of_shaped sd) (room_in_shaped sd hu) ⟨.bl _, H, I, rfl, q⟩
theorem op_notInT (hu : X.A.units + 65 < cLine) : OpR X (compareOp .NotIn) (rInT X.K true) := fun pins s σ H x y v u Q I rx ry ⟨d, ds, hd, he, sd, se, q⟩ => by
  obtain ⟨as, r1⟩ := Dp.reads I d x v hd rx
  obtain ⟨bs, r2⟩ := Dp.reads I (.tuple ds) y u he ry
  exact SeqAt.notIn_tuple_reads r2 r1 (SeqAt.canLay_of_shaped se) (SeqAt.canLay_of_shaped sd) (room_in_shaped sd hu) ⟨.bl _, H, I, rfl, q⟩
def rInX (K : PySem.W.Frag) : R2 := fun x y H Q => rInD K x y H Q ∨ rInT K false x y H Q
def rNotInX (K : PySem.W.Frag) : R2 := fun x y H Q => rNotInD K x y H Q ∨ rInT K true x y H Q
theorem op_inX (hu : X.A.units + 65 < cLine) : OpR X (compareOp .In) (rInX X.K) := OpR.or (op_inD hu) (op_inT hu)
theorem op_notInX (hu : X.A.units + 65 < cLine) : OpR X (compareOp .NotIn) (rNotInX X.K) := OpR.or (op_notInD hu) (op_notInT hu)
theorem lay_seq {ds : List PyData} (h : PyData.canLayAll0 ds = true) : (PyData.list ds).canLay0 = true ∧ (PyData.tuple ds).canLay0 = true := ⟨by simp only [PyData.canLay0]; exact h, by simp only [PyData.canLay0]; exact h⟩
theorem ok_in : Op2Ok X oIn (rInX X.K) := fun Φ m H x y v u K Q S r1 r2 ⟨p, ds, h1, h2, h3, h4, h5⟩ hK => by
  have q := hK _ _ _ _ h5 (Phi.le.refl _) S (.bl _)
  rcases h2 with h2 | h2
  · exact .inl ⟨p, ds, S.py 20 _ _ _ r1 h1, S.py 20 _ _ _ r2 h2, py_shaped h1 h3, py_shaped h2 (lay_seq h4).1, q⟩
  · exact .inr ⟨p, ds, S.py 20 _ _ _ r1 h1, S.py 20 _ _ _ r2 h2, py_shaped h1 h3, py_shaped h2 (lay_seq h4).2, q⟩
theorem ok_notIn : Op2Ok X oNotIn (rNotInX X.K) := fun Φ m H x y v u K Q S r1 r2 ⟨p, ds, h1, h2, h3, h4, h5⟩ hK => by
  have q := hK _ _ _ _ h5 (Phi.le.refl _) S (.bl _)
  rcases h2 with h2 | h2
  · exact .inl ⟨p, ds, S.py 20 _ _ _ r1 h1, S.py 20 _ _ _ r2 h2, py_shaped h1 h3, py_shaped h2 (lay_seq h4).1, q⟩
  · exact .inr ⟨p, ds, S.py 20 _ _ _ r1 h1, S.py 20 _ _ _ r2 h2, py_shaped h1 h3, py_shaped h2 (lay_seq h4).2, q⟩
theorem le_chain {o o' : Op2} {r r' : R2} {a b c : RD} (ok : Op2Ok X o r) (ok' : Op2Ok X o' r') (σ : L2.St) (H : Hp) (Q : VK) (h : LE X.K X.mg (rChain o o' a b c) W σ H Q) : tChain r r' (LE X.K X.mg a W) (LE X.K X.mg b W) (LE X.K X.mg c W) σ H Q := by
  obtain ⟨e, m, Φ, K, E, S, L, h, hK, hE⟩ := h
  refine ⟨e, m, Φ, _, E, S, L, h, fun x m1 Φ1 H1 v h1 l1 S1 r1 => ?_, hE⟩
  refine ⟨e, m1, Φ1, _, E, S1, L.mono l1, h1, fun y m2 Φ2 H2 u h2 l2 S2 r2 => ?_, fun x m' Φ' H' c d z l => hE x m' Φ' H' c d z (l1.trans l)⟩
  refine ok Φ2 m2 H2 x y v u _ _ S2 (r1.mono l2) r2 h2 fun z Φ3 H3 w h3 l3 S3 r3 => ?_
  have l13 := (l1.trans l2).trans l3
  cases z <;> try exact False.elim h3
  rename_i k
  cases r3
  refine ⟨k, rfl, ?_⟩
  cases k with
  | false =>
    rw [if_neg Bool.false_ne_true]
    exact hK _ _ _ _ _ (show K (.bl false) m2 from h3) l13 S3 (.bl _)
  | true =>
    rw [if_pos rfl]
    exact ⟨e, m2, Φ3, _, E, S3, L.mono l13, h3, fun w m4 Φ4 H4 t h4 l4 S4 r4 => ok' Φ4 m4 H4 y w u t _ _ S4 ((r2.mono l3).mono l4) r4 h4 fun z Φ5 H5 q h5 l5 S5 r5 => hK z m4 Φ5 H5 q h5 ((l13.trans l4).trans l5) S5 r5, fun x m' Φ' H' c d z l => hE x m' Φ' H' c d z (l13.trans l)⟩
theorem last_plain {op op' : CmpOp} {b c : Expr} (h : notSet c = true) : lastMarks [op, op'] [b, c] = false := by
  cases c <;> first | rfl | cases h
theorem ge_chain {o o' : Op2} {r r' : R2} {a b c : RD} {op op' : CmpOp} {ea eb ec : Expr} {pos : Pos} (ho : OpR X (compareOp op) r) (ho' : OpR X (compareOp op') r') (ok : Op2Ok X o r) (ok' : Op2Ok X o' r') (ha : GE X W ea a) (hb : GE X W eb b) (hc : GE X W ec c) (hs : notSet ec = true) : GE X W (.Compare ea [op, op'] [eb, ec] pos) (rChain o o' a b c) :=
  (pe_chain ho ho' ha hb hc (last_plain hs)).imp (le_chain ok ok')
theorem gt_chain {o o' : Op2} {r r' : R2} {a b c : RD} {op op' : CmpOp} {ea eb ec : Expr} {pos : Pos} (ho : OpR X (compareOp op) r) (ho' : OpR X (compareOp op') r') (ok : Op2Ok X o r) (ok' : Op2Ok X o' r') (ha : GE X W ea a) (hb : GE X W eb b) (hc : GE X W ec c) (hs : notSet ec = true) : GT X W (.Compare ea [op, op'] [eb, ec] pos) (rtB (rChain o o' a b c)) :=
  (pt_chain ho ho' ha hb hc (last_plain hs)).imp (lt_B (le_chain ok ok'))
theorem gs_asg2 {pos : Pos} {a : RD} {g1 g2 : GD} {t1 t2 e : Expr} {v1 v2 : List Nat} (ha : GE X W e a) (h1 : GG X v1 t1 g1) (h2 : GG X v2 t2 g2) (hh : (assignEach [t1, t2] X.env).map (·.2) = [assign t1 X.env, assign t2 X.env]) (hw : swappedStores [t1, t2] e X.env = pure none) : GS X W (.Assign [t1, t2] e pos) (sAsg2 a g1 g2) :=
  (ps_asg2 ha h1 h2 hh hw).imp fun D σ H ⟨e, m, Φ, G, S, L, h, ok⟩ =>
    ⟨e, m, Φ, _, _, S, L, h, fun x m1 Φ1 H1 v h1 l1 S1 r1 => ⟨x, e, m1, Φ1, _, S1, L.mono l1, r1, h1, fun e2 m2 Φ2 σ2 H2 h2 l2 S2 L2 w => ⟨x, e2, m2, Φ2, _, S2, L2, r1.mono l2, h2, fun e3 m3 Φ3 σ3 H3 h3 l3 S3 L3 w3 => ok.nx _ _ _ _ _ h3 ((l1.trans l2).trans l3) S3 L3⟩⟩, fun x m1 Φ1 H1 c d h1 l1 S1 r1 => ok.ex _ _ _ _ _ _ _ _ h1 l1 S1 (L.mono l1) r1⟩
theorem stores_two {x y : Str} {p q : Pos} {e : Expr} {env : PySem.Env} : swappedStores [.Name x p, .Name y q] e env = pure none := rfl
end
end PL

/-! PyK: the program that reads the text. -/
namespace PL
open PySem PySem.Spec PyProof.Rows L2
structure CP where
  e : Cn → Expr → Option RD
  t : Cn → Expr → Option RT
def compAs (f : Expr → Option RD) : List Expr → Option RA
  | [] => some raNil
  | e :: es => guardO (noStar e) ((f e).bind fun a => (compAs f es).map (raCons a))
def compKs (f : Expr → Option RD) : List Keyword → Option RA
  | [] => some raNil
  | kw :: r => (f kw.value).bind fun a => (compKs f r).map (raCons a)
def compGs (f : Expr → Option GD) : List Expr → Option GDs
  | [] => some gsNil
  | e :: es => guardO (noStar e) ((f e).bind fun g => (compGs f es).map (gsCons g))
def compG : Nat → Cn → List Nat → Expr → Option GD
  | 0, _, _, _ => none
  | n + 1, cx, vs, e => match e with
    | .Name x _ => (slotOf cx.N x).bind fun i => guardO (locB cx x && decide (i ∈ vs)) (some (gName i))
    | .Tuple es _ _ => (compGs (compG n cx vs) es).map (gTup es.length)
    | _ => none
def compW (op : BoolOp) (f : Expr → Option RT) : List Expr → Option RT
  | [] => none
  | e :: es => match es with
    | [] => f e
    | _ => (f e).bind fun a => (compW op f es).map (match op with | .And => rtAnd a | .Or => rtOr a)
def compV (op : BoolOp) (f : Expr → Option RD) : List Expr → Option RD
  | [] => none
  | e :: es => match es with
    | [] => f e
    | _ => (f e).bind fun a => (compV op f es).map (match op with | .And => rAnd a | .Or => rOr a)
def compO (f : Expr → Option RD) : Option Expr → Option RO
  | none => some roNone
  | some e => (f e).map roSome
def isFree (cx : Cn) (x : Str) : Bool := glB cx.sc x && cx.tab.free.contains x && plainName x
def compI (f : Expr → Option RD) (cx : Cn) (e : Expr) : Option RI := match e with
  | .Call (.Name x _) [a] [] _ => if x = "range" then guardO (isFree cx "range" && noStar a) ((f a).map riRange1) else (f e).map riSeq
  | .Call (.Name x _) [a, b] [] _ => if x = "range" then guardO (isFree cx "range" && noStar a && noStar b) ((f a).bind fun ra => (f b).map (riRange2 ra)) else (f e).map riSeq
  | e => guardO (notSet e) ((f e).map riSeq)
def ownOf (N : List Str) : Expr → Option (List (Str × Nat))
  | .Name x _ => (slotOf N x).map fun i => [(x, i)]
  | .Tuple es _ _ => allO (fun e => match e with
    | .Name x _ => (slotOf N x).map fun i => (x, i)
    | _ => none) es
  | _ => none
structure Lc where
  i : RI
  g : GD
  t : RT
  a : RD
  vs : List Nat
def compLc (c : CP) (cx : Cn) (elt : Expr) (gens : List Comprehension) (scope : Scope) : Option Lc := match gens with
  | [⟨tg, iter, ifs, as⟩] => (ownOf cx.N tg).bind fun (own : List (Str × Nat)) =>
    guardO (decide (as = 0) && blkC cx.N cx.sc scope own && notSet iter) ((compI (c.e cx) cx iter).bind fun i => (compG 5 (cx.blk scope) (List.map (fun p : Str × Nat => p.2) own) tg).bind fun g =>
      (match ifs with
      | [] => some rtYes
      | [q] => c.t (cx.blk scope) q
      | _ => none).bind fun t => (c.e (cx.blk scope) elt).map fun a => ⟨i, g, t, a, List.map (fun p : Str × Nat => p.2) own⟩)
  | _ => none
def Lc.rd (l : Lc) : RD := rComp l.i l.g l.t l.a l.vs
def Lc.rdN (l : Lc) : RD := rCompN l.i l.g l.t l.a l.vs
def binO : Operator → Nat → RD → RD → Option RD
  | .Add, 0, a, b => some (rOp2 oAdd a b)
  | .Add, 1, a, b => some (rF oCat (raCons a (raCons b raNil)))
  | .Add, 2, a, b => some (rFN oCat (raCons a (raCons b raNil)))
  | .Sub, 0, a, b => some (rOp2 oSub a b)
  | .Mult, 0, a, b => some (rOp2 oMul a b)
  | .Mult, 1, a, b => some (rF oRep (raCons a (raCons b raNil)))
  | .Mult, 2, a, b => some (rFN oRep (raCons a (raCons b raNil)))
  | .FloorDiv, 0, a, b => some (rOp2 oDiv a b)
  | .Mod, 0, a, b => some (rOp2 oMod a b)
  | .Pow, 0, a, b => some (rOp2 oPow a b)
  | _, _, _, _ => none
def cmpO : CmpOp → Nat → RD → RD → Option RD
  | .Lt, 0, a, b => some (rOp2 oLt a b)
  | .LtE, 0, a, b => some (rOp2 oLe a b)
  | .Gt, 0, a, b => some (rOp2 oGt a b)
  | .GtE, 0, a, b => some (rOp2 oGe a b)
  | .Eq, 0, a, b => some (rOp2 oEq a b)
  | .NotEq, 0, a, b => some (rOp2 oNe a b)
  | .Is, 0, a, b => some (rOp2 oIsN a b)
  | .IsNot, 0, a, b => some (rOp2 oNotN a b)
  | .In, 0, a, b => some (rOp2 oIn a b)
  | .NotIn, 0, a, b => some (rOp2 oNotIn a b)
  | .In, 1, a, b => some (rDIn a b)
  | .NotIn, 1, a, b => some (rDNotIn a b)
  | _, _, _, _ => none
def cmp2 : CmpOp → Option Op2
  | .Lt => some oLt
  | .LtE => some oLe
  | .Gt => some oGt
  | .GtE => some oGe
  | .Eq => some oEq
  | .NotEq => some oNe
  | _ => none
inductive BI where
  | len | abs | max2 | min2 | sum | all | any | int | tuple | list | repr
def BI.of (x : Str) (n : Nat) : Option BI :=
  if x = "len" ∧ n = 1 then some .len else if x = "abs" ∧ n = 1 then some .abs else if x = "max" ∧ n = 2 then some .max2 else if x = "min" ∧ n = 2 then some .min2 else if x = "sum" ∧ n = 1 then some .sum else
  if x = "all" ∧ n = 1 then some .all else if x = "any" ∧ n = 1 then some .any else if x = "int" ∧ n = 1 then some .int else if x = "tuple" ∧ n = 1 then some .tuple else if x = "list" ∧ n = 1 then some .list else if x = "repr" ∧ n = 1 then some .repr else none
def BI.name : BI → Str
  | .len => "len" | .abs => "abs" | .max2 => "max" | .min2 => "min" | .sum => "sum" | .all => "all" | .any => "any" | .int => "int" | .tuple => "tuple" | .list => "list" | .repr => "repr"
def BI.rd (k : Nat) (a : RA) : BI → RD
  | .len => rOpN oLen a | .abs => rOpN oAbs a | .max2 => rOpN oMax2 a | .min2 => rOpN oMin2 a | .sum => rOpN oSum a | .all => rOpN oAll a | .any => rOpN oAny a | .int => rOpN oInt a | .tuple => rOpN oTuple a
  | .list => if k = 1 then rFN oList a else rF oList a
  | .repr => rOpN oRepr a
def findSh : List (Nat × List Str × List Src) → Nat → List Str → Option (List Src)
  | [], _, _ => none
  | s :: r, n, ks => if s.1 = n ∧ s.2.1 = ks then some s.2.2 else findSh r n ks
def compCall (f : Expr → Option RD) (cx : Cn) (x : Str) (es : List Expr) (kws : List Keyword) (pos : Pos) : Option RD := guardO (glB cx.sc x && plainName x && es.all noStar) ((compAs f es).bind fun a => match look cx.tab.fns x with
  | some E => (kwNames kws).bind fun ns => (findSh E.shapes es.length ns).bind fun ss => if kws.isEmpty && isId 0 ss && ss.length == es.length then some (rCall E.ct a) else (compKs f kws).map fun k => rCallK E.ct ss a k
  | none => (BI.of x es.length).bind fun b => guardO (cx.tab.free.contains x && kws.isEmpty) (some (b.rd (kindAt cx pos) a)))
def comp : Nat → CP
  | 0 => ⟨fun _ _ => none, fun _ _ => none⟩
  | n + 1 => ⟨fun cx e => match e with
    | .Name x _ => (match slotOf cx.N x with
      | some i => guardO (visB cx.sc x && plainName x) (some (rVar i))
      | none => (look cx.tab.consts x).bind fun d => guardO (glB cx.sc x && plainName x) (some (rC d)))
    | .Constant (.int i) _ _ => some (rC (.int i))
    | .Constant (.bool i) _ _ => some (rC (.bl i))
    | .Constant (.str i) _ _ => some (rC (.str i))
    | .Constant .none _ _ => some (rC .non)
    | .BinOp a op b pos => ((comp n).e cx a).bind fun ra => ((comp n).e cx b).bind fun rb => binO op (kindAt cx pos) ra rb
    | .UnaryOp .USub a _ => ((comp n).e cx a).map (rOp1 oNeg)
    | .UnaryOp .Not a _ => ((comp n).e cx a).map rNot
    | .Compare a [op] [b] pos => guardO (notSet b) (((comp n).e cx a).bind fun ra => ((comp n).e cx b).bind fun rb => cmpO op (kindAt cx pos) ra rb)
    | .Compare a [op, op'] [b, c] _ => guardO (notSet c) (((comp n).e cx a).bind fun ra => ((comp n).e cx b).bind fun rb => ((comp n).e cx c).bind fun rc => (cmp2 op).bind fun o => (cmp2 op').map fun o' => rChain o o' ra rb rc)
    | .BoolOp op es _ => compV op ((comp n).e cx) es
    | .IfExp c a b _ => ((comp n).t cx c).bind fun rc => ((comp n).e cx a).bind fun ra => ((comp n).e cx b).map (rIf rc ra)
    | .Tuple es _ _ => guardO (decide (es.length ≤ 1000)) ((compAs ((comp n).e cx) es).map rTup)
    | .List es pos => guardO (decide (es.length ≤ 1000)) ((compAs ((comp n).e cx) es).map (if kindAt cx pos = 1 then rLstN else rLst))
    | .Dict [] [] _ => some rDict
    | .Subscript a (.Slice none none (some (.UnaryOp .USub (.Constant (.int 1) _ _) _)) _) pos => ((comp n).e cx a).map fun r => if kindAt cx pos = 1 then rFN oRev (raCons r raNil) else rF oRev (raCons r raNil)
    | .Subscript a (.Slice lo hi none _) pos => ((comp n).e cx a).bind fun r => (compO ((comp n).e cx) lo).bind fun l => (compO ((comp n).e cx) hi).map (if kindAt cx pos = 1 then rSliceN r l else rSlice r l)
    | .Subscript a b pos => guardO (notSlice b) (((comp n).e cx a).bind fun ra => ((comp n).e cx b).map (if kindAt cx pos = 1 then rDGet ra else rOp2 oIx ra))
    | .Call (.Name x _) es kws pos => compCall ((comp n).e cx) cx x es kws pos
    | .Call (.Attribute o m ap) es [] cp => guardO (notSuper o && es.all noStar && decide (es.length < 29) && (ap.endLine == cp.line)) (((comp n).e cx o).bind fun a => if m = "append" ∧ es.length = 1 then (compAs ((comp n).e cx) es).map (rMtd tyL oAppend a) else if m = "pop" ∧ es.length = 0 then some (rMtd tyL oPop a raNil) else none)
    | .ListComp elt gens scope pos => (compLc (comp n) cx elt gens scope).map (if kindAt cx pos = 1 then Lc.rdN else Lc.rd)
    | _ => none,
   fun cx e => match e with
    | .UnaryOp .Not a _ => ((comp n).t cx a).map rtNot
    | .BoolOp op es _ => compW op ((comp n).t cx) es
    | .Compare a [op] [b] pos => guardO (notSet b) (((comp n).e cx a).bind fun ra => ((comp n).e cx b).bind fun rb => (cmpO op (kindAt cx pos) ra rb).map rtB)
    | .Compare a [op, op'] [b, c] _ => guardO (notSet c) (((comp n).e cx a).bind fun ra => ((comp n).e cx b).bind fun rb => ((comp n).e cx c).bind fun rc => (cmp2 op).bind fun o => (cmp2 op').map fun o' => rtB (rChain o o' ra rb rc))
    | e => guardO (plainTest e) (((comp n).e cx e).map rtB)⟩
/-! ### statements -/
def compB (f : Stmt → Option SD) : List Stmt → Option SD
  | [] => some sSkip
  | s :: r => match r with
    | [] => f s
    | _ => (f s).bind fun a => (compB f r).map (sSeq a)
def swapLc (sc : Scope) (y : Str) (py : Pos) (scope : Scope) (pos : Pos) : Bool := (sc.names.lookup y == some .local) && (py.line == pos.line) && !(scope.names.any fun (n, k) => n == y && (k == .local || k == .cell))
def oAddA : Op2 := fun _ x y K => match x, y with
  | .int i, .int j => K (.int (i + j))
  | .str a, .str b => a.length + b.length ≤ textLine ∧ K (.str (a ++ b))
  | _, _ => False
def oMulA : Op2 := fun _ x y K => match x, y with
  | .int i, .int j => L2.CMul i j ∧ K (.int (i * j))
  | _, _ => False
def oDivA : Op2 := fun _ x y K => match x, y with
  | .int i, .int j => L2.CDivW i j ∧ K (.int (i / j))
  | _, _ => False
def augO : Operator → Option Op2
  | .Add => some oAddA
  | .Sub => some oSub
  | .Mult => some oMulA
  | .FloorDiv => some oDivA
  | _ => none
def compS (E : Nat) : Nat → Cn → Stmt → Option SD
  | 0, _, _ => none
  | n + 1, cx, st => match st with
    | .Expr (.Constant (.str _) _ _) _ => some sSkip
    | .Expr e _ => guardO (notComp e) (((comp E).e cx e).map sDrop)
    | .Pass _ => some sSkip
    | .Return (some e) _ => ((comp E).e cx e).map sRet
    | .Return none _ => some sRetN
    | .If t a b _ => ((comp E).t cx t).bind fun rt => (compB (compS E n cx) a).bind fun ra => (compB (compS E n cx) b).map (sIf rt ra)
    | .While t b [] _ => ((comp E).t cx t).bind fun rt => (compB (compS E n cx) b).map (sWhile rt)
    | .For tg it b [] _ => guardO (notSet it) ((compI ((comp E).e cx) cx it).bind fun i => (compG 5 cx (List.range cx.N.length) tg).bind fun g => (compB (compS E n cx) b).map (sFor i g))
    | .Assign [.Name y py] (.ListComp elt gens scope cpos) pos => (slotOf cx.N y).bind fun j => guardO (locB cx y) ((compLc (comp E) cx elt gens scope).map fun l => sAsg (if kindAt cx cpos = 1 then l.rdN else l.rd) (gName j))
    | .Assign [.Name y _] e _ => guardO (notComp e) ((slotOf cx.N y).bind fun j => guardO (locB cx y) (((comp E).e cx e).map fun a => sAsg a (gName j)))
    | .Assign [.Tuple [.Name x px, .Name y py] _ _] (.Tuple [a, b] _ _) _ => (slotOf cx.N x).bind fun i => (slotOf cx.N y).bind fun j => guardO (swapB cx.sc x y px py a b) (((comp E).e cx a).bind fun ra => ((comp E).e cx b).map (sPar i j ra))
    | .Assign [.Tuple es _ _] e _ => guardO (notComp e && notTupE e && es.all noStar) ((compGs (compG 5 cx (List.range cx.N.length)) es).bind fun gs => ((comp E).e cx e).map fun a => sAsg a (gTup es.length gs))
    | .Assign [.Name x _, .Name y _] e _ => (slotOf cx.N x).bind fun i => (slotOf cx.N y).bind fun j => guardO (locB cx x && locB cx y) (((comp E).e cx e).map fun a => sAsg2 a (gName i) (gName j))
    | .Assign [.Subscript o i p] e _ => guardO (notComp e && notSlice i) (((comp E).e cx o).bind fun ro => ((comp E).e cx i).bind fun ri => ((comp E).e cx e).map fun a => if kindAt cx p = 1 then sDPut ro ri a else sSetItem ro ri a)
    | .AugAssign (.Name x _) op e _ => (slotOf cx.N x).bind fun i => guardO (locB cx x) ((augO op).bind fun o => ((comp E).e cx e).map (sAug i o))
    | .Raise _ _ _ => some sNever
    | _ => none
end PL
namespace PL
open PySem PySem.Spec PyProof.Rows L2
theorem bindO {α β : Type} {o : Option α} {f : α → Option β} {b : β} (h : o.bind f = some b) : ∃ a, o = some a ∧ f a = some b := Option.bind_eq_some_iff.mp h
theorem mapO {α β : Type} {o : Option α} {f : α → β} {b : β} (h : o.map f = some b) : ∃ a, o = some a ∧ f a = b := Option.map_eq_some_iff.mp h
section
variable {k : Nat} {cx : Cn} {X : Cx} {W : WX} {f : Expr → Option RD}
theorem compAs_ok (hf : ∀ e r, f e = some r → GE X W e r) : ∀ {es : List Expr} {a : RA}, compAs f es = some a → GA X W es a ∧ es.all noStar = true ∧ (es = [] → a = raNil)
  | [], a, h => by cases h; exact ⟨ga_nil, rfl, fun _ => rfl⟩
  | e :: es, a, h => by
    obtain ⟨h1, h⟩ := guardO_some h
    obtain ⟨r, h2, h⟩ := bindO h
    obtain ⟨s, h3, rfl⟩ := mapO h
    obtain ⟨g1, g2, _⟩ := compAs_ok hf h3
    exact ⟨ga_cons (hf _ _ h2) g1 (starEach_cons h1), by rw [List.all_cons, h1, g2]; rfl, fun z => nomatch z⟩
theorem compKs_ok (hf : ∀ e r, f e = some r → GE X W e r) : ∀ {es : List Keyword} {a : RA}, compKs f es = some a → GK X W es a
  | [], a, h => by cases h; exact gk_nil
  | ⟨nm, e, p⟩ :: es, a, h => by
    obtain ⟨r, h2, h⟩ := bindO h
    obtain ⟨s, h3, rfl⟩ := mapO h
    exact gk_cons (hf _ _ h2) (compKs_ok hf h3)
theorem compGs_ok {vs : List Nat} {f : Expr → Option GD} (hf : ∀ e r, f e = some r → GG X vs e r) : ∀ {es : List Expr} {a : GDs}, compGs f es = some a → GGs X vs es a ∧ es.all noStar = true
  | [], a, h => by cases h; exact ⟨ggs_nil, rfl⟩
  | e :: es, a, h => by
    obtain ⟨h1, h⟩ := guardO_some h
    obtain ⟨r, h2, h⟩ := bindO h
    obtain ⟨s, h3, rfl⟩ := mapO h
    obtain ⟨g1, g2⟩ := compGs_ok hf h3
    exact ⟨ggs_cons (hf _ _ h2) g1 (by rw [assign_cons h1]; rfl), by rw [List.all_cons, h1, g2]; rfl⟩
theorem compG_ok (G : Good k cx X W) {vs : List Nat} : ∀ (n : Nat) (e : Expr) (g : GD), compG n cx vs e = some g → GG X vs e g
  | 0, _, _, h => by cases h
  | n + 1, e, g, h => by
    unfold compG at h
    split at h
    · obtain ⟨i, h1, h⟩ := bindO h
      obtain ⟨h2, h⟩ := guardO_some h
      cases h
      rw [Bool.and_eq_true, decide_eq_true_eq] at h2
      obtain ⟨l1, l2⟩ := G.loc h2.1
      exact gg_name G.nd (G.slot h1) l1 l2 h2.2
    · rename_i es _ _
      obtain ⟨gs, h1, rfl⟩ := mapO h
      obtain ⟨g1, g2⟩ := compGs_ok (compG_ok G n) h1
      obtain ⟨a, b⟩ := assign_len (env := X.env) g2
      exact gg_tup G.calm g1 a b
    · cases h
theorem compW_ok {op : BoolOp} {f : Expr → Option RT} (hf : ∀ e r, f e = some r → GT X W e r) (pos : Pos) : ∀ (es : List Expr) (r : RT), compW op f es = some r → GW X W (.BoolOp op es pos) r
  | [], _, h => by cases h
  | [e], r, h => by
    have h : f e = some r := h
    cases op with
    | And => exact gw_and1 (hf _ _ h)
    | Or => exact gw_or1 (hf _ _ h)
  | e :: e2 :: es, r, h => by
    obtain ⟨a, h1, h⟩ := bindO (show ((f e).bind fun a => (compW op f (e2 :: es)).map (match op with | .And => rtAnd a | .Or => rtOr a)) = some r from h)
    obtain ⟨b, h2, rfl⟩ := mapO h
    have ih := compW_ok hf pos (e2 :: es) b h2
    cases op with
    | And => exact gw_and (hf _ _ h1) ih
    | Or => exact gw_or (hf _ _ h1) ih
theorem compV_ok {op : BoolOp} (hf : ∀ e r, f e = some r → GE X W e r) (pos : Pos) : ∀ (es : List Expr) (r : RD), compV op f es = some r → GE X W (.BoolOp op es pos) r
  | [], _, h => by cases h
  | [e], r, h => by
    have h : f e = some r := h
    exact ge_one (hf _ _ h)
  | e :: e2 :: es, r, h => by
    obtain ⟨a, h1, h⟩ := bindO (show ((f e).bind fun a => (compV op f (e2 :: es)).map (match op with | .And => rAnd a | .Or => rOr a)) = some r from h)
    obtain ⟨b, h2, rfl⟩ := mapO h
    have ih := compV_ok hf pos (e2 :: es) b h2
    cases op with
    | And => exact ge_and (hf _ _ h1) ih
    | Or => exact ge_or (hf _ _ h1) ih
theorem compO_ok (hf : ∀ e r, f e = some r → GE X W e r) : ∀ (e : Option Expr) (r : RO), compO f e = some r → GO X W e r
  | none, r, h => by cases h; exact go_none
  | some e, r, h => by
    obtain ⟨a, h1, rfl⟩ := mapO h
    exact go_some (hf _ _ h1)
theorem isFree_ok (G : Good k cx X W) {x : Str} (h : isFree cx x = true) : Gl X x ∧ X.mg x = none ∧ (x == ("__debug__" : Str)) = false ∧ x ≠ "__name__" := by
  unfold isFree at h
  rw [Bool.and_eq_true, Bool.and_eq_true] at h
  obtain ⟨a, _, b⟩ := plainName_ok h.2
  exact ⟨G.gl h.1.1, G.tab.free x (List.contains_iff_mem.mp h.1.2), a, b⟩
theorem compI_ok (G : Good k cx X W) (hf : ∀ e r, f e = some r → GE X W e r) (tg e : Expr) (r : RI) (h : compI f cx e = some r) : GI X W tg e r := by
  unfold compI at h
  split at h
  · split at h
    · rename_i e1
      obtain ⟨h1, h⟩ := guardO_some h
      obtain ⟨a, h2, rfl⟩ := mapO h
      rw [Bool.and_eq_true] at h1
      obtain ⟨g1, g2, _⟩ := isFree_ok G h1.1
      subst e1
      exact gi_range1 g1 g2 (ga_cons (hf _ _ h2) ga_nil (starEach_cons h1.2)) (starEach_cons h1.2)
    · obtain ⟨a, h2, rfl⟩ := mapO h
      exact gi_seq (hf _ _ h2)
  · split at h
    · rename_i e1
      obtain ⟨h1, h⟩ := guardO_some h
      obtain ⟨a, h2, h⟩ := bindO h
      obtain ⟨b, h3, rfl⟩ := mapO h
      rw [Bool.and_eq_true, Bool.and_eq_true] at h1
      obtain ⟨g1, g2, _⟩ := isFree_ok G h1.1.1
      subst e1
      exact gi_range2 g1 g2 (ga_cons (hf _ _ h2) (ga_cons (hf _ _ h3) ga_nil (starEach_cons h1.2)) (starEach_cons h1.1.2)) (by rw [starEach_cons h1.1.2, starEach_cons h1.2]; rfl) (starEach_cons h1.2)
    · obtain ⟨a, h2, rfl⟩ := mapO h
      exact gi_seq (hf _ _ h2)
  · obtain ⟨h1, h⟩ := guardO_some h
    obtain ⟨a, h2, rfl⟩ := mapO h
    exact gi_seq (hf _ _ h2)
theorem binO_ok {op : Operator} {n : Nat} {ea eb : Expr} {a b r : RD} {pos : Pos} (ha : GE X W ea a) (hb : GE X W eb b) (h : binO op n a b = some r) : GE X W (.BinOp ea op eb pos) r := by
  unfold binO at h
  split at h <;> cases h
  · exact ge_bin op_addX ok_add ha hb
  · exact ge_cat ha hb
  · exact ge_catN ha hb
  · exact ge_bin op_sub ok_sub ha hb
  · exact ge_bin op_mulX ok_mul ha hb
  · exact ge_rep ha hb
  · exact ge_repN ha hb
  · exact ge_bin op_divX ok_div ha hb
  · exact ge_bin op_modN ok_mod ha hb
  · exact ge_bin op_pow ok_pow ha hb
theorem Good.u65 (G : Good k cx X W) : X.A.units + 65 < cLine := by have := G.room.units; have := G.room.un; omega
theorem cmp2_ok (G : Good k cx X W) {op : CmpOp} {o : Op2} (h : cmp2 op = some o) : ∃ r, OpR X (compareOp op) r ∧ Op2Ok X o r := by
  unfold cmp2 at h
  split at h <;> cases h
  · exact ⟨_, op_lt, ok_lt⟩
  · exact ⟨_, op_le, ok_le⟩
  · exact ⟨_, op_gt, ok_gt⟩
  · exact ⟨_, op_ge, ok_ge⟩
  · exact ⟨_, op_eqX G.u64, ok_eq⟩
  · exact ⟨_, op_neX G.u64, ok_ne⟩
theorem cmpO_ok (G : Good k cx X W) {op : CmpOp} {n : Nat} {ea eb : Expr} {a b r : RD} {pos : Pos} (hs : notSet eb = true) (ha : GE X W ea a) (hb : GE X W eb b) (h : cmpO op n a b = some r) : GE X W (.Compare ea [op] [eb] pos) r ∧ GT X W (.Compare ea [op] [eb] pos) (rtB r) := by
  have two : ∀ {o : Op2} {rr : R2}, OpR X (compareOp op) rr → Op2Ok X o rr → GE X W (.Compare ea [op] [eb] pos) (rOp2 o a b) ∧ GT X W (.Compare ea [op] [eb] pos) (rtB (rOp2 o a b)) := fun ho ok => ⟨ge_cmp ho ok (marks_plain hs) ha hb, gt_cmp ho ok (marks_plain hs) ha hb⟩
  unfold cmpO at h
  split at h <;> cases h
  · exact two op_lt ok_lt
  · exact two op_le ok_le
  · exact two op_gt ok_gt
  · exact two op_ge ok_ge
  · exact two (op_eqX G.u64) ok_eq
  · exact two (op_neX G.u64) ok_ne
  · exact two op_isN ok_isN
  · exact two op_notN ok_notN
  · exact two (op_inX G.u65) ok_in
  · exact two (op_notInX G.u65) ok_notIn
  · exact ⟨ge_din G.u1 ha hb (marks_plain hs), gt_din G.u1 ha hb (marks_plain hs)⟩
  · exact ⟨ge_dnotin G.u1 ha hb (marks_plain hs), gt_dnotin G.u1 ha hb (marks_plain hs)⟩
end
end PL

/-! PyL: the program's readings are readings. -/
namespace PL
open PySem PySem.Spec PyProof.Rows L2
section
variable {k : Nat} {cx : Cn} {X : Cx} {W : WX} {f : Expr → Option RD}
def BI.ar : BI → Nat
  | .max2 | .min2 => 2
  | _ => 1
theorem BI.of_name {x : Str} {n : Nat} {b : BI} (h : BI.of x n = some b) : x = b.name ∧ n = b.ar := by
  unfold BI.of at h
  repeat' split at h
  all_goals first
    | (cases h; rename_i q; exact q)
    | (cases h; done)
theorem bi_ok (G : Good k cx X W) {b : BI} {a : RA} {e : Expr} {es : List Expr} {p pos : Pos} (j : Nat) (hg : Gl X b.name) (hm : X.mg b.name = none) (ha : GA X W (e :: es) a) (hst : (e :: es).all noStar = true) : GE X W (.Call (.Name b.name p) (e :: es) [] pos) (b.rd j a) := by
  rw [List.all_cons, Bool.and_eq_true] at hst
  have h1 := starEach_cons (es := es) (env := X.env) hst.1
  have h2 := plain_args (pos := pos) (env := X.env) hst.2
  cases b with
  | len => exact ge_callB ok_len call_len hg hm (by decide +kernel) ha (by decide +kernel) (by decide +kernel) h1 h2
  | abs => exact ge_callB ok_abs call_abs hg hm (by decide +kernel) ha (by decide +kernel) (by decide +kernel) h1 h2
  | max2 => exact ge_callB ok_max2 (call_max2 G.calm) hg hm (by decide +kernel) ha (by decide +kernel) (by decide +kernel) h1 h2
  | min2 => exact ge_callB ok_min2 (call_min2 G.calm) hg hm (by decide +kernel) ha (by decide +kernel) (by decide +kernel) h1 h2
  | sum => exact ge_callB ok_sum (cr_sum G.calm) hg hm (by decide +kernel) ha (by decide +kernel) (by decide +kernel) h1 h2
  | all => exact ge_callB ok_all (cr_all G.calm) hg hm (by decide +kernel) ha (by decide +kernel) (by decide +kernel) h1 h2
  | any => exact ge_callB ok_any (cr_any G.calm) hg hm (by decide +kernel) ha (by decide +kernel) (by decide +kernel) h1 h2
  | repr => exact ge_callB ok_repr (call_reprX G.u64 G.gu) hg hm (by decide +kernel) ha (by decide +kernel) (by decide +kernel) h1 h2
  | int => exact ge_callTy ok_int call_int1 hg hm (by decide +kernel) ha (by decide +kernel) (by decide +kernel) h1 h2
  | tuple => exact ge_callTy ok_tuple call_tuple_of hg hm (by decide +kernel) ha (by decide +kernel) (by decide +kernel) h1 h2
  | list =>
    show GE X W _ (if j = 1 then rFN oList a else rF oList a)
    split
    · exact ge_callFN ok_list call_list_of hg hm (by decide +kernel) ha (by decide +kernel) (by decide +kernel) h1 h2
    · exact ge_callF ok_list call_list_of hg hm (by decide +kernel) ha (by decide +kernel) (by decide +kernel) h1 h2
theorem findSh_ok : ∀ {l : List (Nat × List Str × List Src)} {n : Nat} {ks : List Str} {ss : List Src}, findSh l n ks = some ss → ∃ sh ∈ l, sh.1 = n ∧ sh.2.1 = ks ∧ sh.2.2 = ss
  | s :: r, n, ks, ss, h => by
    unfold findSh at h
    split at h
    · rename_i q
      cases h
      exact ⟨s, List.mem_cons_self, q.1, q.2, rfl⟩
    · obtain ⟨sh, a, b⟩ := findSh_ok h
      exact ⟨sh, List.mem_cons_of_mem _ a, b⟩
theorem compCall_ok (G : Good k cx X W) (hf : ∀ e r, f e = some r → GE X W e r) {x : Str} {p : Pos} {es : List Expr} {kws : List Keyword} {pos : Pos} {r : RD} (h : compCall f cx x es kws pos = some r) : GE X W (.Call (.Name x p) es kws pos) r := by
  unfold compCall at h
  obtain ⟨h1, h⟩ := guardO_some h
  rw [Bool.and_eq_true, Bool.and_eq_true] at h1
  obtain ⟨⟨c1, c2⟩, c3⟩ := h1
  obtain ⟨a, h2, h⟩ := bindO h
  obtain ⟨ga, gst, g0⟩ := compAs_ok hf h2
  obtain ⟨d1, d2, d3⟩ := plainName_ok c2
  split at h
  · rename_i E hl
    obtain ⟨ns, h3, h⟩ := bindO h
    obtain ⟨ss, h4, h⟩ := bindO h
    obtain ⟨⟨n', ks', ss'⟩, m1, q1, q2, q3⟩ := findSh_ok h4
    cases q1; cases q2; cases q3
    obtain ⟨fa, fd, e1, e2, F, e3⟩ := (G.tab.fns x E (look_mem hl)).ex
    have hb := e3 _ m1
    split at h
    · rename_i q
      cases h
      rw [Bool.and_eq_true, Bool.and_eq_true, beq_iff_eq] at q
      obtain ⟨⟨q1, q2⟩, q3⟩ := q
      have : kws = [] := List.isEmpty_iff.mp q1
      subst this
      cases h3
      exact ge_call F G.room G.gu (G.gl c1) e1 e2 hb q2 q3 G.tk ga g0 gst d1
    · obtain ⟨kk, h5, rfl⟩ := mapO h
      exact ge_callK F G.room G.gu (G.gl c1) e1 e2 hb G.tk ga g0 (compKs_ok hf h5) h3 gst d1
  · obtain ⟨b, h3, h⟩ := bindO h
    obtain ⟨h4, h⟩ := guardO_some h
    cases h
    rw [Bool.and_eq_true] at h4
    have : kws = [] := List.isEmpty_iff.mp h4.2
    subst this
    obtain ⟨n1, n2⟩ := BI.of_name h3
    subst n1
    cases es with
    | nil => exact absurd n2.symm (by cases b <;> exact Nat.succ_ne_zero _)
    | cons e es => exact bi_ok G _ (G.gl c1) (G.tab.free _ (List.contains_iff_mem.mp h4.1)) ga c3
/-- what compLc found -/
structure LcOk (X : Cx) (W : WX) (gens : List Comprehension) (elt : Expr) (scope : Scope) (l : Lc) (tg iter : Expr) (ifs : List Expr) (own : List (Str × Nat)) : Prop where
  e : gens = [⟨tg, iter, ifs, 0⟩]
  vs : l.vs = own.map (·.2)
  i : GI X W tg iter l.i
  ok : BlkOk X.N X.env.scope scope own
  g : InBlk X scope fun Y => GG Y (own.map (·.2)) tg l.g
  t : InBlk X scope fun Y => GTs Y WN ifs l.t
  a : InBlk X scope fun Y => GE Y WN elt l.a
  s : ∀ x, foldedSetIterable iter X.env x = pure x
theorem compLc_ok (G : Good k cx X W) {c : CP} (hc : ∀ {cx : Cn} {X : Cx} {W : WX}, Good k cx X W → (∀ e r, c.e cx e = some r → GE X W e r) ∧ (∀ e r, c.t cx e = some r → GT X W e r)) {elt : Expr} {gens : List Comprehension} {scope : Scope} {l : Lc} (h : compLc c cx elt gens scope = some l) : ∃ tg iter ifs own, LcOk X W gens elt scope l tg iter ifs own := by
  unfold compLc at h
  split at h
  · rename_i tg iter ifs as
    obtain ⟨own, h1, h⟩ := bindO h
    obtain ⟨h2, h⟩ := guardO_some h
    rw [Bool.and_eq_true, Bool.and_eq_true, decide_eq_true_eq] at h2
    obtain ⟨⟨h2z, h3⟩, h4⟩ := h2
    obtain ⟨i, h5, h⟩ := bindO h
    obtain ⟨g, h6, h⟩ := bindO h
    obtain ⟨t, h7, h⟩ := bindO h
    obtain ⟨a, h8, rfl⟩ := mapO h
    subst h2z
    have bk : BlkOk X.N X.env.scope scope own := by rw [G.N, G.sc]; exact blkOk_by h3
    have hk : scope.kind = .function := bk.kind
    refine ⟨tg, iter, ifs, own, ⟨rfl, rfl, compI_ok G (hc G).1 tg iter i h5, bk, fun s H C cl fp => compG_ok (G.blk hk s H C cl fp) 5 tg g h6, fun s H C cl fp => ?_, fun s H C cl fp => (hc (G.blk hk s H C cl fp)).1 _ _ h8, folded_plain h4⟩⟩
    have gt := (hc (G.blk hk s H C cl fp)).2
    split at h7
    · cases h7; exact gts_nil
    · exact gts_one (gt _ _ h7)
    · cases h7
  · cases h
theorem comp_ok : ∀ (n : Nat) {cx : Cn} {X : Cx} {W : WX}, Good k cx X W → (∀ e r, (comp n).e cx e = some r → GE X W e r) ∧ (∀ e r, (comp n).t cx e = some r → GT X W e r)
  | 0, _, _, _, _ => ⟨fun _ _ h => (by cases h), fun _ _ h => (by cases h)⟩
  | n + 1, cx, X, W, G => by
    have ih := comp_ok n G
    have ie := ih.1
    have it := ih.2
    refine ⟨fun e r h => ?_, fun e r h => ?_⟩
    · unfold comp at h
      dsimp only at h
      split at h
      · split at h
        · obtain ⟨h1, h⟩ := guardO_some h
          cases h
          rename_i hs
          rw [Bool.and_eq_true] at h1
          obtain ⟨d1, d2, _⟩ := plainName_ok h1.2
          exact ge_var (G.slot hs) (G.vis h1.1) d1 d2
        · obtain ⟨d, h1, h⟩ := bindO h
          obtain ⟨h2, h⟩ := guardO_some h
          cases h
          rw [Bool.and_eq_true] at h2
          obtain ⟨d1, d2, d3⟩ := plainName_ok h2.2
          obtain ⟨u, v, e1, e2, e3⟩ := G.tab.consts _ _ (look_mem h1)
          exact ge_c (pe_glob (G.gl h2.1) e1 e2 d1) fun Φ m H S => e3 _ _
      · cases h; exact ge_c pe_int fun Φ m H S => .int _
      · cases h; exact ge_c pe_bl fun Φ m H S => .bl _
      · cases h; exact ge_c pe_str fun Φ m H S => .str _
      · cases h; exact ge_c pe_non fun Φ m H S => .non
      · obtain ⟨ra, h1, h⟩ := bindO h
        obtain ⟨rb, h2, h⟩ := bindO h
        exact binO_ok (ie _ _ h1) (ie _ _ h2) h
      · obtain ⟨ra, h1, rfl⟩ := mapO h
        exact ge_un un_neg ok_neg (ie _ _ h1)
      · obtain ⟨ra, h1, rfl⟩ := mapO h
        exact ge_not (ie _ _ h1)
      · obtain ⟨h0, h⟩ := guardO_some h
        obtain ⟨ra, h1, h⟩ := bindO h
        obtain ⟨rb, h2, h⟩ := bindO h
        exact (cmpO_ok G h0 (ie _ _ h1) (ie _ _ h2) h).1
      · obtain ⟨h0, h⟩ := guardO_some h
        obtain ⟨ra, h1, h⟩ := bindO h
        obtain ⟨rb, h2, h⟩ := bindO h
        obtain ⟨rc, h3, h⟩ := bindO h
        obtain ⟨o, h4, h⟩ := bindO h
        obtain ⟨o', h5, rfl⟩ := mapO h
        obtain ⟨_, q1, q2⟩ := cmp2_ok G h4
        obtain ⟨_, q3, q4⟩ := cmp2_ok G h5
        exact ge_chain q1 q3 q2 q4 (ie _ _ h1) (ie _ _ h2) (ie _ _ h3) h0
      · exact compV_ok ie _ _ _ h
      · obtain ⟨rc, h1, h⟩ := bindO h
        obtain ⟨ra, h2, h⟩ := bindO h
        obtain ⟨rb, h3, rfl⟩ := mapO h
        exact ge_if (it _ _ h1) (ie _ _ h2) (ie _ _ h3)
      · obtain ⟨h0, h⟩ := guardO_some h
        obtain ⟨ra, h1, rfl⟩ := mapO h
        exact ge_tup (of_decide_eq_true h0) (compAs_ok ie h1).1
      · obtain ⟨h0, h⟩ := guardO_some h
        obtain ⟨ra, h1, rfl⟩ := mapO h
        split
        · exact ge_lstN (of_decide_eq_true h0) (compAs_ok ie h1).1
        · exact ge_lst (of_decide_eq_true h0) (compAs_ok ie h1).1
      · cases h; exact ge_dict
      · obtain ⟨ra, h1, rfl⟩ := mapO h
        split
        · exact ge_revN (ie _ _ h1)
        · exact ge_rev (ie _ _ h1)
      · obtain ⟨ra, h1, h⟩ := bindO h
        obtain ⟨rl, h2, h⟩ := bindO h
        obtain ⟨rh, h3, rfl⟩ := mapO h
        split
        · exact ge_sliceN (ie _ _ h1) (compO_ok ie _ _ h2) (compO_ok ie _ _ h3)
        · exact ge_slice (ie _ _ h1) (compO_ok ie _ _ h2) (compO_ok ie _ _ h3)
      · obtain ⟨h0, h⟩ := guardO_some h
        obtain ⟨ra, h1, h⟩ := bindO h
        obtain ⟨rb, h2, rfl⟩ := mapO h
        split
        · exact ge_dget G.u1 (ie _ _ h1) (ie _ _ h2) (noSl h0)
        · exact ge_ix (ie _ _ h1) (ie _ _ h2) (plainIx h0)
      · exact compCall_ok G ie h
      · rename_i o m ap es cp
        obtain ⟨h0, h⟩ := guardO_some h
        obtain ⟨ra, h1, h⟩ := bindO h
        rw [Bool.and_eq_true, Bool.and_eq_true, Bool.and_eq_true, decide_eq_true_eq] at h0
        obtain ⟨⟨⟨k1, k2⟩, k3⟩, k4⟩ := h0
        split at h
        · rename_i q
          have hl := q.2
          obtain ⟨rs, h2, h3⟩ := mapO h
          clear h
          subst h3
          rw [q.1]
          cases es with
          | nil => cases hl
          | cons e es =>
            have k2' := k2
            rw [List.all_cons, Bool.and_eq_true] at k2'
            exact ge_mtd ok_append PySem.F.plainAttrs_list F.slot_list_append F.type_list_append mt_append (ie _ _ h1) (compAs_ok ie h2).1 (base_plain k1) (few_plain k2 k3) k4 (starEach_cons k2'.1) (plain_args k2'.2)
        · split at h
          · rename_i q
            have hl := q.2
            rw [q.1]
            cases h
            cases es with
            | cons e es => cases hl
            | nil => exact ge_mtd0 ok_pop PySem.F.plainAttrs_list F.slot_list_pop F.type_list_pop mt_pop (ie _ _ h1) (base_plain k1) k4
          · cases h
      · obtain ⟨l, h1, rfl⟩ := mapO h
        obtain ⟨tg, iter, ifs, own, q⟩ := compLc_ok G (fun G' => comp_ok n G') h1
        obtain ⟨rfl, ev, a1, a2, a3, a4, a5, a6⟩ := q
        obtain ⟨li, lg, lt, la, lv⟩ := l
        cases ev
        split
        · exact ge_compN G.calm G.nd a1 a2 a3 a4 a5 a6
        · exact ge_comp G.calm G.nd a1 a2 a3 a4 a5 a6
      · cases h
    · unfold comp at h
      dsimp only at h
      split at h
      · obtain ⟨ra, h1, rfl⟩ := mapO h
        exact gt_not (it _ _ h1)
      · exact PW.pt (compW_ok it _ _ _ h)
      · obtain ⟨h0, h⟩ := guardO_some h
        obtain ⟨ra, h1, h⟩ := bindO h
        obtain ⟨rb, h2, h⟩ := bindO h
        obtain ⟨rc, h3, rfl⟩ := mapO h
        exact (cmpO_ok G h0 (ie _ _ h1) (ie _ _ h2) h3).2
      · obtain ⟨h0, h⟩ := guardO_some h
        obtain ⟨ra, h1, h⟩ := bindO h
        obtain ⟨rb, h2, h⟩ := bindO h
        obtain ⟨rc, h3, h⟩ := bindO h
        obtain ⟨o, h4, h⟩ := bindO h
        obtain ⟨o', h5, rfl⟩ := mapO h
        obtain ⟨_, q1, q2⟩ := cmp2_ok G h4
        obtain ⟨_, q3, q4⟩ := cmp2_ok G h5
        exact gt_chain q1 q3 q2 q4 (ie _ _ h1) (ie _ _ h2) (ie _ _ h3) h0
      · obtain ⟨h0, h⟩ := guardO_some h
        obtain ⟨ra, h1, rfl⟩ := mapO h
        exact gt_val (ie _ _ h1) (isTrue_any h0)
end
end PL

/-! PyM: statements. -/
namespace PL
open PySem PySem.Spec PyProof.Rows L2
section
variable {k : Nat} {cx : Cn} {X : Cx} {W : WX}
def iAdd : R2 := fun x y H Q => rI0 (fun i j => .int (i + j)) x y H Q ∨ ∃ i j, x = .str i ∧ y = .str j ∧ i.length + j.length ≤ sizeLine ∧ Q (.str (i ++ j)) H
theorem op_iaddA : OpR X (inplaceOp .Add) iAdd := OpR.or iop_add iop_add_str
theorem ok_addA : Op2Ok X oAddA iAdd := fun Φ m H x y v u K Q S r1 r2 h hK => by
  cases r1 <;> try exact False.elim h
  all_goals cases r2 <;> try exact False.elim h
  · exact .inl ⟨_, _, rfl, rfl, hK _ _ _ _ h (Phi.le.refl _) S (.int _)⟩
  · exact .inr ⟨_, _, rfl, rfl, textLine_le h.1, hK _ _ _ _ h.2 (Phi.le.refl _) S (.str _)⟩
theorem ok_mulA : Op2Ok X oMulA (rI CMul fun i j => .int (i * j)) := fun Φ m H x y v u K Q S r1 r2 h hK => by
  cases r1 <;> try exact False.elim h
  cases r2 <;> try exact False.elim h
  exact ⟨_, _, rfl, rfl, h.1, hK _ _ _ _ h.2 (Phi.le.refl _) S (.int _)⟩
theorem ok_divA : Op2Ok X oDivA (rI CDivW fun i j => .int (i / j)) := fun Φ m H x y v u K Q S r1 r2 h hK => by
  cases r1 <;> try exact False.elim h
  cases r2 <;> try exact False.elim h
  exact ⟨_, _, rfl, rfl, h.1, hK _ _ _ _ h.2 (Phi.le.refl _) S (.int _)⟩
theorem assign_ix {eo ei : Expr} {p : Pos} {env : PySem.Env} (h : notSlice ei = true) : ∀ v, assign (.Subscript eo ei p) env v = (do
      let ov ← holding [v] (eval eo env)
      let iv ← holding [v, ov] (eval ei env)
      standAt p
      holding [v, ov, iv] (setItem ov iv v)
      release [v, ov, iv] []) := fun v => by cases ei <;> first | rfl | cases h
theorem augO_ok {op : Operator} {o : Op2} (h : augO op = some o) : ∃ r, OpR X (inplaceOp op) r ∧ Op2Ok X o r := by
  unfold augO at h
  split at h <;> cases h
  · exact ⟨_, op_iaddA, ok_addA⟩
  · exact ⟨_, iop_sub, ok_sub⟩
  · exact ⟨_, iop_mul, ok_mulA⟩
  · exact ⟨_, iop_fdivW, ok_divA⟩
theorem swapLc_eq {env : PySem.Env} {y : Str} {py cpos : Pos} {elt : Expr} {gens : List Comprehension} {scope : Scope} {l : Nat} (hk : env.scope.kind = .function) : swapsWith (.ListComp elt gens scope cpos) (some (.Name y py)) l env = pure (swapLc env.scope y py scope cpos) := by
  have hb : env.blockKind = .function := by unfold Env.blockKind; rw [hk]; rfl
  show pure (env.blockKind == .function && env.kindOf y == some .local && py.line == cpos.line && _) = _
  rw [hb]
  rfl
theorem gs_setLcN {pos : Pos} {j : Nat} {y : Str} {py cpos : Pos} {elt tg iter : Expr} {ifs : List Expr} {scope : Scope} {own : List (Str × Nat)} {i : RI} {g : GD} {t : RT} {a : RD} (hc : X.calm = true) (hN : X.N.Nodup) (hy : X.N[j]? = some y) (hyl : X.env.scope.names.lookup y = some .local)
    (hsw : swapsWith (.ListComp elt [⟨tg, iter, ifs, 0⟩] scope cpos) (some (.Name y py)) pos.line X.env = pure true) (hi : GI X W tg iter i) (ok : BlkOk X.N X.env.scope scope own) (hg : InBlk X scope fun Y => GG Y (own.map (·.2)) tg g) (ht : InBlk X scope fun Y => GTs Y WN ifs t)
    (he : InBlk X scope fun Y => GE Y WN elt a) (hs : ∀ x, foldedSetIterable iter X.env x = pure x) : GS X W (.Assign [.Name y py] (.ListComp elt [⟨tg, iter, ifs, 0⟩] scope cpos) pos) (sAsg (rCompN i g t a (own.map (·.2))) (gName j)) :=
  (ps_setLc (g := LG X.K X.mg (List.map (fun x : Str × Nat => x.2) own) g) (tt := LT X.K X.mg t WN) (te := LE X.K X.mg a WN) hc hN hy hyl hsw hi ok (fun s H C cl fp => hg s H C cl fp) (fun s H C cl fp => ht s H C cl fp) (fun s H C cl fp => he s H C cl fp) hs).imp fun D σ H ⟨e, m, Φ, G, S, L, h, k⟩ => show tLc _ _ _ _ _ σ H (fun v H1 => D.nx (σ.set j (some v)) H1) from le_compN (W := W) σ H _ ⟨e, m, Φ, _, _, S, L, h, fun x m1 Φ1 H1 v h1 l1 S1 r1 => k.nx _ _ _ _ _ h1 l1 S1 ((L.mono l1).put j r1), fun x m1 Φ1 H1 c d h1 l1 S1 r1 => k.ex _ _ _ _ _ _ _ _ h1 l1 S1 (L.mono l1) r1⟩
theorem compB_ok {f : Stmt → Option SD} (hf : ∀ s r, f s = some r → GS X W s r) : ∀ (ss : List Stmt) (r : SD), compB f ss = some r → GB X W ss r
  | [], _, h => by cases h; exact gb_nil
  | [s], r, h => gb_one (hf _ _ h)
  | s :: s2 :: ss, r, h => by
    obtain ⟨a, h1, h⟩ := bindO (show ((f s).bind fun a => (compB f (s2 :: ss)).map (sSeq a)) = some r from h)
    obtain ⟨b, h2, rfl⟩ := mapO h
    exact gb_cons (hf _ _ h1) (compB_ok hf (s2 :: ss) b h2)
theorem compS_ok (E : Nat) : ∀ (n : Nat) (G : Good k cx X W) (s : Stmt) (r : SD), compS E n cx s = some r → GS X W s r
  | 0, _, _, _, h => by cases h
  | n + 1, G, s, r, h => by
    obtain ⟨ie, it⟩ := comp_ok E G
    have ih := compS_ok E n G
    unfold compS at h
    split at h
    · cases h; exact gs_doc
    · obtain ⟨h0, h⟩ := guardO_some h
      obtain ⟨a, h1, rfl⟩ := mapO h
      exact gs_drop (ie _ _ h1) (swaps_plain h0)
    · cases h; exact gs_pass
    · obtain ⟨a, h1, rfl⟩ := mapO h
      exact gs_ret (ie _ _ h1)
    · cases h; exact gs_retN
    · obtain ⟨t, h1, h⟩ := bindO h
      obtain ⟨a, h2, h⟩ := bindO h
      obtain ⟨b, h3, rfl⟩ := mapO h
      exact gs_if (it _ _ h1) (compB_ok ih _ _ h2) (compB_ok ih _ _ h3)
    · obtain ⟨t, h1, h⟩ := bindO h
      obtain ⟨a, h2, rfl⟩ := mapO h
      exact gs_while G.own (it _ _ h1) (compB_ok ih _ _ h2)
    · obtain ⟨h0, h⟩ := guardO_some h
      obtain ⟨i, h1, h⟩ := bindO h
      obtain ⟨g, h2, h⟩ := bindO h
      obtain ⟨a, h3, rfl⟩ := mapO h
      exact gs_for G.own G.calm (compI_ok G ie _ _ _ h1) (compG_ok G 5 _ _ h2) (compB_ok ih _ _ h3) (folded_plain h0)
    · rename_i y py elt gens scope cpos pos
      obtain ⟨j, h1, h⟩ := bindO h
      obtain ⟨h2, h⟩ := guardO_some h
      obtain ⟨l, h3, h4⟩ := mapO h
      clear h
      subst h4
      obtain ⟨l1, l2⟩ := G.loc h2
      obtain ⟨tg, iter, ifs, own, q⟩ := compLc_ok G (fun G' => comp_ok E G') h3
      obtain ⟨qe, ev, a1, a2, a3, a4, a5, a6⟩ := q
      subst qe
      obtain ⟨li, lg, lt, la, lv⟩ := l
      cases ev
      have hsw := swapLc_eq (env := X.env) (y := y) (py := py) (cpos := cpos) (elt := elt) (gens := [⟨tg, iter, ifs, 0⟩]) (scope := scope) (l := pos.line) (by rw [G.sc]; exact G.kind)
      cases hq : swapLc X.env.scope y py scope cpos with
      | true =>
        rw [hq] at hsw
        have hyl : X.env.scope.names.lookup y = some .local := by
          unfold swapLc at hq
          rw [Bool.and_eq_true, Bool.and_eq_true, beq_iff_eq] at hq
          exact hq.1.1
        split
        · exact gs_setLcN G.calm G.nd (G.slot h1) hyl hsw a1 a2 a3 a4 a5 a6
        · exact gs_setLc G.calm G.nd (G.slot h1) hyl hsw a1 a2 a3 a4 a5 a6
      | false =>
        rw [hq] at hsw
        have gn : GG X [j] (.Name y py) (gName j) := gg_name G.nd (G.slot h1) l1 l2 (List.mem_singleton.mpr rfl)
        split
        · exact gs_asg (ge_compN G.calm G.nd a1 a2 a3 a4 a5 a6) gn hsw rfl rfl
        · exact gs_asg (ge_comp G.calm G.nd a1 a2 a3 a4 a5 a6) gn hsw rfl rfl
    · obtain ⟨h0, h⟩ := guardO_some h
      obtain ⟨j, h1, h⟩ := bindO h
      obtain ⟨h2, h⟩ := guardO_some h
      obtain ⟨a, h3, rfl⟩ := mapO h
      obtain ⟨l1, l2⟩ := G.loc h2
      exact gs_asg (ie _ _ h3) (gg_name (vs := [j]) G.nd (G.slot h1) l1 l2 (List.mem_singleton.mpr rfl)) (swapsSole_plain h0) (stores_plain rfl) rfl
    · rename_i x px y py _ _ ea eb _ _ _
      obtain ⟨i, h1, h⟩ := bindO h
      obtain ⟨j, h2, h⟩ := bindO h
      obtain ⟨h3, h⟩ := guardO_some h
      obtain ⟨a, h4, h⟩ := bindO h
      obtain ⟨b, h5, rfl⟩ := mapO h
      have h3' := h3
      unfold swapB at h3'
      simp only [Bool.and_eq_true, Bool.not_eq_true', beq_iff_eq, decide_eq_false_iff_not] at h3'
      obtain ⟨⟨⟨⟨⟨⟨⟨k1, k2⟩, k3⟩, k4⟩, k5⟩, k6⟩, k7⟩, k8⟩ := h3'
      have hij : i ≠ j := fun e => by
        subst e
        exact k4 (Option.some.inj ((slotOf_get h1).symm.trans (slotOf_get h2)))
      rw [← G.sc] at k1 k2 h3
      exact gs_par G.calm G.nd (G.slot h1) (G.slot h2) hij k1 k2 (ie _ _ h4) (ie _ _ h5) (starEach_cons k5) (starEach_cons k6) (swapB_ok (by rw [G.sc]; exact G.kind) h3)
    · obtain ⟨h0, h⟩ := guardO_some h
      rw [Bool.and_eq_true, Bool.and_eq_true] at h0
      obtain ⟨⟨k1, k2⟩, k3⟩ := h0
      obtain ⟨gs, h1, h⟩ := bindO h
      obtain ⟨a, h2, rfl⟩ := mapO h
      obtain ⟨g1, g2⟩ := compGs_ok (compG_ok G 5) h1
      obtain ⟨z1, z2⟩ := assign_len (env := X.env) g2
      exact gs_asg (ie _ _ h2) (gg_tup G.calm g1 z1 z2) (swapsSole_plain k1) (stores_plainE k2) rfl
    · obtain ⟨i, h1, h⟩ := bindO h
      obtain ⟨j, h2, h⟩ := bindO h
      obtain ⟨h3, h⟩ := guardO_some h
      obtain ⟨a, h4, rfl⟩ := mapO h
      rw [Bool.and_eq_true] at h3
      obtain ⟨l1, l2⟩ := G.loc h3.1
      obtain ⟨l3, l4⟩ := G.loc h3.2
      exact gs_asg2 (ie _ _ h4) (gg_name (vs := [i]) G.nd (G.slot h1) l1 l2 (List.mem_singleton.mpr rfl)) (gg_name (vs := [j]) G.nd (G.slot h2) l3 l4 (List.mem_singleton.mpr rfl)) rfl stores_two
    · rename_i o i p e pos
      obtain ⟨h0, h⟩ := guardO_some h
      rw [Bool.and_eq_true] at h0
      obtain ⟨k1, k2⟩ := h0
      obtain ⟨ro, h1, h⟩ := bindO h
      obtain ⟨ri, h2, h⟩ := bindO h
      obtain ⟨ra, h3, rfl⟩ := mapO h
      split
      · exact gs_dput G.u1 (ie _ _ h1) (ie _ _ h2) (ie _ _ h3) (swaps_plain k1)
      · exact gs_setItem (ie _ _ h1) (ie _ _ h2) (ie _ _ h3) (assign_ix k2) (swapsSole_plain k1) (stores_plain rfl) rfl
    · obtain ⟨i, h1, h⟩ := bindO h
      obtain ⟨h2, h⟩ := guardO_some h
      obtain ⟨o, h3, h⟩ := bindO h
      obtain ⟨a, h4, rfl⟩ := mapO h
      obtain ⟨l1, l2⟩ := G.loc h2
      obtain ⟨r, q1, q2⟩ := augO_ok h3
      exact gs_aug G.nd (G.slot h1) l1 (ie _ _ h4) q1 q2 l2
    · cases h; exact gs_never
    · cases h
end
end PL

/-! PyN: a def keeps its contract; a law's end. -/
namespace PL
open PySem PySem.Spec PyProof.Rows L2
theorem Lo.at_get : ∀ {e : Lo} {i : Nat} {d : D}, e.at i = some d → e[i]? = some (some d)
  | x :: r, 0, d, h => by
    have h : x = some d := h
    rw [h]; rfl
  | x :: r, i + 1, d, h => by simpa using Lo.at_get (e := r) (i := i) h
section
variable {P : Program} {w : World} {K : PySem.W.Frag} {mg : Str → Option Value} {base : Heap}
theorem LoR.ofArgs {Φ : Phi} {ds : List D} {vs : List V} {N : List Str} (r : Reps K mg Φ ds vs) : LoR K mg Φ (Lo.start N.length ds) (L2.start N vs) := by
  have hl := r.length
  refine ⟨?_, fun i d h => ?_⟩
  · unfold Lo.start L2.start
    rw [List.length_append, List.length_append, List.length_map, List.length_map, List.length_replicate, List.length_replicate, hl]
  · have h := Lo.at_get h
    unfold Lo.start at h
    by_cases hi : i < ds.length
    · rw [List.getElem?_append_left (by rw [List.length_map]; exact hi), List.getElem?_map] at h
      cases q : ds[i]? with
      | none => rw [q] at h; cases h
      | some d' =>
        rw [q] at h
        cases h
        obtain ⟨u, h1, h2⟩ := r.get q
        refine ⟨u, ?_, h2⟩
        unfold L2.start
        rw [List.getElem?_append_left (by rw [List.length_map, ← hl]; exact hi), List.getElem?_map, h1]
        rfl
    · rw [List.getElem?_append_right (by rw [List.length_map]; omega), List.getElem?_replicate] at h
      split at h <;> cases h
/-- where a def is left: the cells made since are let go -/
theorem out_to {Φ Ψ : Phi} {m m1 : Mem} {H0 H : Hp} {d : D} {v : V} {K' : DK} {R : Prop} (S0 : Sim K mg Φ m H0) (S : Sim K mg Ψ m1 H) (l : Φ.le Ψ) (r : Rep K mg Ψ d v) (h : outK m K' d m1)
    (hK : ∀ d' m' Φ', K' d' m' → Φ.le Φ' → Sim K mg Φ' m' H → Rep K mg Φ' d' v → R) : R := by
  rcases h with h | ⟨d', m2, h1, h2, h3⟩
  · exact hK _ _ _ h l S r
  · obtain ⟨l2, S2⟩ := S0.leave S l h2
    rw [← S0.len] at h1
    exact hK _ _ _ h3 l2 S2 (S.frz l.c 20 _ _ _ r h1)
theorem outX_to {Φ Ψ : Phi} {m m1 : Mem} {H0 H : Hp} {x : Xc} {cls : Value} {dd : Option Addr} {E' : EK} {R : Prop} (S0 : Sim K mg Φ m H0) (S : Sim K mg Ψ m1 H) (l : Φ.le Ψ) (r : RepX K mg Ψ x cls dd) (h : outE m E' x m1)
    (hE : ∀ x' m' Φ', E' x' m' → Φ.le Φ' → Sim K mg Φ' m' H → RepX K mg Φ' x' cls dd → R) : R := by
  rcases h with h | ⟨fs, m2, h1, h2, h3⟩
  · exact hE _ _ _ h l S r
  · obtain ⟨l2, S2⟩ := S0.leave S l h2
    rw [← S0.len] at h1
    refine hE _ _ _ h3 l2 S2 ⟨r.1, ?_⟩
    rcases r.2 with ⟨e1, e2⟩ | ⟨dx, fvs, e1, e2, e3⟩
    · rw [e1] at h1
      cases h1
      exact .inl ⟨rfl, e2⟩
    · exact .inr ⟨dx, fvs, e1, lastF_grows S _ _ e2, pair_repf (frz_all (snd_frz (S.frz l.c 20)) _ fs _ (repf_pair e3) h1)⟩
/-- a def keeps its contract, by its body -/
theorem fnG_of {k E n : Nat} {f : Addr} {name qual : Str} {params : Arguments} {body : List Stmt} {scope : Scope} {dV kV doc pm cdv ct oc : Value} {an od : Option Addr} {osl : Array (Option Value)} {N ps : List Str} {c : FnC} {B : SD} {tab : Tab} {orc : List ((Nat × Nat × Nat) × Nat)}
    (lk : K.lookup f = some ⟨oc, od, .func (PySem.W.fnOf name qual params body scope dV kV doc pm an cdv ct), osl⟩) (hcd : PySem.W.codeIn K cdv qual = true) (S : FnScope N ps scope) (len : ∀ ds m K' E', c ds m K' E' → ds.length = ps.length)
    (T : TabOk P w K mg base k tab) (hB : compB (compS E n ⟨tab, scope, N, fun _ => true, orc⟩) body = some B) (R : Runs N.length B c) : FnG P w K mg base (k + 1) f (PySem.W.fnOf name qual params body scope dV kV doc pm an cdv ct) ps c := by
  refine ⟨len, fun A outer s H args us vs Q X hroom hgu en bnd rv sp => ?_⟩
  obtain ⟨ds, m, Φ, K', E', S0, r0, hc, hK, hE⟩ := sp
  have hlv : vs.length = ps.length := r0.length.symm.trans (len _ _ _ _ hc)
  have inH : K.In s.heap := en.mod.kin.keeps fun b o q => (en.bs b o q).1
  have noL : s.heap.NoLimit := en.mod.nolimit.keeps fun b o q => (en.bs b o q).1
  have par : ∀ y ∈ ps.zip us, scope.names.lookup y.1 = some .local ∨ (scope.names.lookup y.1 = some .cell ∧ ((cellsFrom (s.heap.objs.size + 1) scope.names []).lookup y.1).isSome = true) := by
    rintro ⟨nm, u⟩ hy
    exact (S.par nm (List.of_mem_zip hy).1).imp id fun q => ⟨q, PySem.W.cellsFrom_some _ _ _ (.inl q)⟩
  refine codeAny_call_function hroom.depth (inH _ _ lk) rfl S.co S.gen rfl (PySem.W.codeRec_of inH hcd) (bnd _ _ _ _ (wpAny_newFunctionEnv_cells S.kind par fun env he s1 x => ?_))
  subst he
  refine ⟨noL.keeps x.toInCall.keep, codeAny_func ?_⟩
  have I := inv_start (CX := CX P w) (E := X) S hroom.hd en hlv rv x
  have G : Good k ⟨tab, scope, N, fun _ => true, orc⟩ (cxOf (CX P w) P w K mg base N qual scope f cdv A outer s H X) (fun cls d _ H => X cls d H) :=
    { sc := rfl, kind := S.kind, N := rfl, fn := rfl, nd := S.nd, calm := rfl, room := hroom.deeper _, gu := hgu, tk := takes_of rfl rfl rfl rfl, own := passes_of rfl, tab := T }
  have rd := (compB_ok (fun st r h => compS_ok E n G st r h) body B hB).run [] s1 (start N vs) H ({ nx := fun _ H' => Q .non H', rt := Q } : Ends) I
    ⟨_, m, Φ, _, S0, LoR.ofArgs r0, R ds m K' E' hc,
      { nx := fun e m1 Φ1 H1 σ1 h l S1 L1 => out_to S0 S1 l .non h fun d' m' Φ' a b c r => hK _ _ _ _ _ a b c r
        rt := fun d m1 Φ1 H1 v h l S1 r1 => out_to S0 S1 l r1 h fun d' m' Φ' a b c r => hK _ _ _ _ _ a b c r
        ex := fun x e m1 Φ1 H1 σ1 cls dd h l S1 L1 r1 => outX_to S0 S1 l r1 h fun d' m' Φ' a b c r => hE _ _ _ _ _ _ a b c r }⟩
  have done : ∀ {σ' : L2.St} {H' : Hp} {v : V} {u : Value} {t : Shared}, Inv (cxOf (CX P w) P w K mg base N qual scope f cdv A outer s H X) [] σ' H' t → RelV v u → Q v H' → CE outer P w H s Q u t := fun J a b => ⟨_, _, J.os, J.bare, J.base, J.hok, a, b⟩
  refine wpAny_mono rd (fun fl t ht => ?_) fun _ _ ht => ht
  match fl, ht with
  | .ret u, ⟨v, σ', H', J, a, b⟩ => exact done J a b
  | .next, ⟨σ', H', J, b⟩ => exact done (v := V.non) (u := Value.none) J rfl b
  | .brk, ⟨_, _, _, b⟩ => exact False.elim b
  | .cont, ⟨_, _, _, b⟩ => exact False.elim b
theorem _root_.L2.FunD.okG {k E n : Nat} {f : Addr} {fd : FuncData} {x qual : Str} {params : Arguments} {body : List Stmt} {scope : Scope} {dvs : List V} {kws : List (Str × V)} {N ps : List Str} {c : FnC} {B : SD} {tab : Tab} (F : FunD K x qual params body scope dvs kws f fd) (orc : List ((Nat × Nat × Nat) × Nat))
    (S : FnScope N ps scope) (len : ∀ ds m K' E', c ds m K' E' → ds.length = ps.length) (T : TabOk P w K mg base k tab) (hB : compB (compS E n ⟨tab, scope, N, fun _ => true, orc⟩) body = some B) (R : Runs N.length B c) : FnG P w K mg base (k + 1) f fd ps c := by
  obtain ⟨oc, od, dV, kV, doc, pm, an, cdv, ct, osl, rfl, lk, hcd, _, _⟩ := F.ex
  exact fnG_of lk hcd S len T hB R
end
/-! ### the law's end -/
/-- what is asked of the law's contract: the script is a foreign list of ints -/
def LawC (c : FnC) (n : Nat) : Prop := ∀ ns : List Int, ns.length ≤ n → c [.old (ns.map D.int)] [] (fun d _ => d = .bl true) (fun _ _ => False)
theorem reps_ints {K : PySem.W.Frag} {mg : Str → Option Value} {F : Hp} {cs : List Addr} : ∀ ns : List Int, Reps0 K mg F cs (ns.map D.int) (ns.map V.int)
  | [] => .nil
  | n :: ns => .cons (.int n) (reps_ints ns)
theorem sp_law {K : PySem.W.Frag} {mg : Str → Option Value} {c : FnC} {n : Nat} (hc : LawC c n) {a : Addr} {ns : List Int} (hn : ns.length ≤ n) {H : Hp} (hS : SqL K H a (ns.map V.int)) : spOf K mg c [.ref a] H (fun v _ => v = .bl true) fun _ _ _ => False :=
  ⟨_, [], ⟨H, [], fun _ => none⟩, _, _, ⟨fun _ _ q => q, rfl, List.nodup_nil, fun _ q => (nomatch q), fun _ _ q => (nomatch q), fun _ _ _ q => (nomatch q)⟩, .cons (.old hS (reps_ints ns)) .nil, hc ns hn,
    fun d _ _ _ v q _ _ r => by
      have q : d = .bl true := q
      subst q; cases r; rfl, fun _ _ _ _ _ _ q => (nomatch q)⟩
theorem callG {P : Program} {w : World} {K : PySem.W.Frag} {mg mb : Str → Option Value} {k : Nat} {fa sa : Addr} {fd : FuncData} {x : Str} {c : FnC} {t : Shared} {vs : List Value} {ns : List Int} (inH : K.In t.heap) (g1 : t.heap.Ns mainGlobals mg) (g2 : t.heap.Ns builtinsNs mb) (g3 : ∀ x : Str, x ≠ "__name__" → mb x = bootBuiltins x)
    (g4 : t.heap.NoLimit) (g5 : t.gens = #[]) (obj : t.heap.get? sa = some { cls := .type "list", data := .seq vs.toArray }) (hv : IntsAre vs ns) (lim : ns.length ≤ sizeLine) (room : Room k callerA) (F : ∀ base : Heap, K.In base → base.Ns mainGlobals mg → FnG P w K mg base k fa fd [x] c)
    (bnd : ∀ (s : Shared) (u : Value), BindsTo s fd ⟨[u], []⟩ [(x, u)]) (sp : ∀ H : Hp, SqL K H sa (ns.map V.int) → spOf K mg c [.ref sa] H (fun v _ => v = .bl true) fun _ _ _ => False) :
    codeAny (model P w) callerA (.call (.ref fa) ⟨[.ref sa], []⟩) (fun r s' => r = .ok (.ret (.bool true)) ∧ OldK t.heap s'.heap ∧ s'.os = t.os ∧ AllBare s'.gens) t := by
  have rv := vals_ints hv
  have main : ∀ H : Hp, (∀ b u, H b = some u → b = sa ∧ ∃ o xs, u = .frz o (.lst xs)) → SqL K H sa (ns.map V.int) → HOk P w H t.heap → (∀ b u, H b = some u → K.lookup b = none) →
      codeAny (model P w) callerA (.call (.ref fa) ⟨[.ref sa], []⟩) (fun r s' => r = .ok (.ret (.bool true)) ∧ OldK t.heap s'.heap ∧ s'.os = t.os ∧ AllBare s'.gens) t := by
    intro H only hS hok out
    have free : ∀ {b : Addr} {o : Obj}, t.heap.get? b = some o → (∀ its n, o.data ≠ .seq its n) → H b = none := fun {b o} e nd => by
      cases q : H b with
      | none => rfl
      | some u =>
        obtain rfl := (only b u q).1
        rw [obj] at e
        cases e
        exact absurd rfl (nd _ _)
    have toH : ∀ {b : Addr} {m : Str → Option Value}, t.heap.Ns b m → (hidT t.heap H).Ns b m := by
      rintro b m ⟨o, es, ep, e, dd, q⟩
      exact ⟨o, es, ep, hidT_get e (free e fun its n z => by rw [dd] at z; cases z), dd, q⟩
    have inB : K.In (hidT t.heap H) := fun b o e => hidT_get (inH b o e) (by
      cases q : H b with
      | none => rfl
      | some u => have z := out b u q; rw [e] at z; cases z)
    have en : Env0 P w K mg (hidT t.heap H) callerA [] t H := by
      obtain ⟨mc, q1, q2⟩ := g4
      exact ⟨rfl, ⟨inB, toH g1, ⟨mb, toH g2, g3⟩, ⟨mc, toH q1, q2⟩⟩, fun b o e => of_hidT e, Nat.le_of_eq (hidT_size _ _), trivial, (fun b z => nomatch (show b ∈ ([] : List Addr) from z)), hok, .of_eq g5⟩
    refine codeAny_mono ((F _ inB (toH g1)).run callerA [] t H ⟨[.ref sa], []⟩ [.ref sa] [.ref sa] _ _ room rfl en (bnd t (.ref sa)) (.cons rfl .nil) (sp H hS)) fun r s' h => ?_
    match r, h with
    | .error e, ⟨_, _, _, _, _, _, _, _, _, _, _, _, z⟩ => exact False.elim z
    | .ok .next, h => exact False.elim h
    | .ok .brk, h => exact False.elim h
    | .ok .cont, h => exact False.elim h
    | .ok (.ret u), ⟨v, H', os, bare, un, hok', rr, q⟩ =>
      have q : v = .bl true := q
      subst q
      obtain rfl : u = Value.bool true := rr
      refine ⟨rfl, OldK.of_keep fun b o e => ?_, os, bare⟩
      cases q : H b with
      | none => exact un.keep b o e q (fun z => nomatch (show b ∈ ([] : List Addr) from z)) (by simp)
      | some z =>
        obtain ⟨_, ob, xs, rfl⟩ := only b z q
        have := (hok b _ q).1
        rw [e] at this
        cases this
        exact (hok' b _ (un.frzs b _ _ q)).1
  have lv : vs.length ≤ sizeLine := by rw [hv.length]; exact lim
  cases hk : K.lookup sa with
  | some o =>
    have e := inH sa o hk
    rw [obj] at e
    cases e
    exact main (fun _ => none) (fun b u q => (nomatch q)) (.inr ⟨_, vs.toArray, _, hk, rfl, rfl, rfl, by rw [List.size_toArray]; exact lv, by simpa using rv⟩) (fun b u q => (nomatch q)) fun b u q => nomatch q
  | none =>
    have hit : ∀ {b : Addr} {u : HO}, (if b = sa then some (HO.frz { cls := .type "list", data := .seq vs.toArray } (.lst (ns.map V.int))) else none) = some u → b = sa ∧ u = HO.frz { cls := .type "list", data := .seq vs.toArray } (.lst (ns.map V.int)) := fun {b u} q => by
      split at q
      · cases q; exact ⟨by assumption, rfl⟩
      · cases q
    refine main (fun b => if b = sa then some (.frz { cls := .type "list", data := .seq vs.toArray } (.lst (ns.map V.int))) else none) (fun b u q => ⟨(hit q).1, _, _, (hit q).2⟩) (.inl (.inr ⟨_, if_pos rfl⟩)) (fun b u q => ?_) fun b u q => by rw [(hit q).1]; exact hk
    obtain ⟨rfl, rfl⟩ := hit q
    exact ⟨obj, by rw [List.length_map]; exact lim, vs, _, rv, obj⟩
theorem walkG {l : PySem.W.OpenLaw} {n k : Nat} {q : Program} {loose : List Str} {XP : (Str → Option Value) → Heap → Prop} {YP : World → Heap → Prop} {d : DefRec} {x : Str} (hn : l.most = some n) (hn2 : n ≤ sizeLine) (hdf : d.params.defaults = []) (hr : Room k callerA)
    (F : ∀ (w : World) (mg : Str → Option Value) (fa : Addr) (h : Heap), YP w h → h.Ns mainGlobals mg → mg d.name = some (.ref fa) →
      ∃ (K : PySem.W.Frag) (fd : FuncData) (c : FnC), K.In h ∧ (∀ (s : Shared) (u : Value), BindsTo s fd ⟨[u], []⟩ [(x, u)]) ∧ LawC c n ∧ ∀ base : Heap, K.In base → base.Ns mainGlobals mg → FnG l.prog w K mg base k fa fd [x] c) :
    PySem.W.WalkO q loose XP YP l.row.toRowW d [] (fun f vs => PySem.call f vs) := by
  refine Att.attach_call hn hdf fun w _ t mg mb fa _ _ _ _ sa vs ns G Y _ _ _ hmg hobj hints hlen hg => ?_
  obtain ⟨K, fd, c, inH, bnd, lc, hF⟩ := F w mg fa _ Y G.T.g hmg
  exact callG inH G.T.g G.T.b G.T.builtins G.T.nolimit hg hobj hints (Nat.le_trans hlen hn2) hr hF bnd fun H hS => sp_law lc hlen hS
end PL

/-! PyO: stepping through readings. -/
namespace PL
open PySem
section
variable {e : Lo} {m : Mem} {E : EK} {K : DK} {nx : Lo → Mem → Prop} {rt : DK} {ex : Xc → Lo → Mem → Prop}
def onBl (x : D) (K : Bool → Mem → Prop) (m : Mem) : Prop := match x with
  | .bl b => K b m
  | _ => False
theorem onBl_i {b : Bool} {K : Bool → Mem → Prop} (h : K b m) : onBl (.bl b) K m := h
theorem seq_i {a b : SD} (h : a e m ⟨fun e m => b e m ⟨nx, rt, ex⟩, rt, ex⟩) : sSeq a b e m ⟨nx, rt, ex⟩ := h
theorem skip_i (h : nx e m) : sSkip e m ⟨nx, rt, ex⟩ := h
theorem drop_i {a : RD} (h : a e m (fun _ m => nx e m) (fun x m => ex x e m)) : sDrop a e m ⟨nx, rt, ex⟩ := h
theorem asg_i {a : RD} {g : GD} (h : a e m (fun d m => g d e m nx) (fun x m => ex x e m)) : sAsg a g e m ⟨nx, rt, ex⟩ := h
theorem par_i {i j : Nat} {a b : RD} (h : a e m (fun x m => b e m (fun y m => nx ((e.put i x).put j y) m) (fun x m => ex x e m)) (fun x m => ex x e m)) : sPar i j a b e m ⟨nx, rt, ex⟩ := h
theorem aug_i {i : Nat} {x : D} {o : Op2} {a : RD} (hx : e.at i = some x) (h : a e m (fun y m => o m x y fun z => nx (e.put i z) m) (fun x m => ex x e m)) : sAug i o a e m ⟨nx, rt, ex⟩ := by
  unfold sAug; rw [hx]; exact h
theorem ret_i {a : RD} (h : a e m rt (fun x m => ex x e m)) : sRet a e m ⟨nx, rt, ex⟩ := h
theorem retN_i (h : rt .non m) : sRetN e m ⟨nx, rt, ex⟩ := h
theorem sif_i {c : RT} {a b : SD} (h : c e m (fun k m => if k = true then a e m ⟨nx, rt, ex⟩ else b e m ⟨nx, rt, ex⟩) (fun x m => ex x e m)) : sIf c a b e m ⟨nx, rt, ex⟩ := h
theorem for_i {i : RI} {g : GD} {b : SD} (h : i e m (fun chk xs m => forL chk g b xs e m ⟨nx, rt, ex⟩) (fun x m => ex x e m)) : sFor i g b e m ⟨nx, rt, ex⟩ := h
theorem setItem_i {o i a : RD} (h : a e m (fun d m => o e m (fun x m => i e m (fun y m => ∃ n xs k j, x = .cell n ∧ y = .int k ∧ m[n]? = some (.lst xs) ∧ L2.ixN xs.length k = some j ∧ nx e (m.set n (.lst (xs.set j d)))) (fun x m => ex x e m)) (fun x m => ex x e m)) (fun x m => ex x e m)) : sSetItem o i a e m ⟨nx, rt, ex⟩ := h
theorem dput_i {o i a : RD} (h : a e m (fun d m => o e m (fun x m => i e m (fun y m => ∃ m', setD m x y d m' ∧ nx e m') (fun x m => ex x e m)) (fun x m => ex x e m)) (fun x m => ex x e m)) : sDPut o i a e m ⟨nx, rt, ex⟩ := h
theorem gname_i {i : Nat} {d : D} {K : Lo → Mem → Prop} (h : K (e.put i d) m) : gName i d e m K := h
theorem gtup_i {n : Nat} {r : GDs} {xs : List D} {K : Lo → Mem → Prop} (h1 : xs.length = n) (h : r xs e m K) : gTup n r (.tup xs) e m K := ⟨h1, h⟩
theorem gcons_i {g : GD} {r : GDs} {d : D} {ds : List D} {K : Lo → Mem → Prop} (h : g d e m fun e m => r ds e m K) : gsCons g r (d :: ds) e m K := h
theorem gnil_i {K : Lo → Mem → Prop} (h : K e m) : gsNil [] e m K := h
theorem var_i {i : Nat} {d : D} (hx : e.at i = some d) (h : K d m) : rVar i e m K E := by
  unfold rVar; rw [hx]; exact h
theorem c_i {d : D} (h : K d m) : rC d e m K E := h
theorem op1_i {o : Op1} {a : RD} (h : a e m (fun x m => o m x fun z => K z m) E) : rOp1 o a e m K E := h
theorem op2_i {o : Op2} {a b : RD} (h : a e m (fun x m => b e m (fun y m => o m x y fun z => K z m) E) E) : rOp2 o a b e m K E := h
theorem nil_i {K : List D → Mem → Prop} (h : K [] m) : raNil e m K E := h
theorem cons_i {a : RD} {r : RA} {K : List D → Mem → Prop} (h : a e m (fun x m => r e m (fun xs m => K (x :: xs) m) E) E) : raCons a r e m K E := h
theorem opN_i {o : OpN} {a : RA} (h : a e m (fun xs m => o m xs fun z => K z m) E) : rOpN o a e m K E := h
theorem tup_i {a : RA} (h : a e m (fun xs m => K (.tup xs) m) E) : rTup a e m K E := h
theorem lst_i {a : RA} (h : a e m (fun xs m => K (.lst xs) m) E) : rLst a e m K E := h
theorem lstN_i {a : RA} (h : a e m (fun xs m => K (.cell m.length) (m ++ [.lst xs])) E) : rLstN a e m K E := h
theorem f_i {o : OpF} {a : RA} (h : a e m (fun xs m => o m xs fun ys => K (.lst ys) m) E) : rF o a e m K E := h
theorem fN_i {o : OpF} {a : RA} (h : a e m (fun xs m => o m xs fun ys => K (.cell m.length) (m ++ [.lst ys])) E) : rFN o a e m K E := h
theorem dict_i (h : K (.cell m.length) (m ++ [.dk []])) : rDict e m K E := h
theorem rif_i {c : RT} {a b : RD} (h : c e m (fun k m => if k = true then a e m K E else b e m K E) E) : rIf c a b e m K E := h
theorem call_i {c : FnC} {a : RA} (h : a e m (fun xs m => c xs m K E) E) : rCall c a e m K E := h
theorem callK_i {c : FnC} {ss : List Src} {a k : RA} (h : a e m (fun xs m => k e m (fun ks m => ∃ vs, srcs xs ks ss = some vs ∧ c vs m K E) E) E) : rCallK c ss a k e m K E := h
theorem tB_i {a : RD} {K : Bool → Mem → Prop} (h : a e m (fun x m => onBl x K m) E) : rtB a e m K E := h
theorem tNot_i {a : RT} {K : Bool → Mem → Prop} (h : a e m (fun k m => K (!k) m) E) : rtNot a e m K E := h
theorem tAnd_i {a b : RT} {K : Bool → Mem → Prop} (h : a e m (fun k m => if k = true then b e m K E else K false m) E) : rtAnd a b e m K E := h
theorem tOr_i {a b : RT} {K : Bool → Mem → Prop} (h : a e m (fun k m => if k = true then K true m else b e m K E) E) : rtOr a b e m K E := h
theorem tYes_i {K : Bool → Mem → Prop} (h : K true m) : rtYes e m K E := h
theorem and_i {a b : RD} (h : a e m (fun x m => onBl x (fun c m => if c = true then b e m K E else K (.bl false) m) m) E) : rAnd a b e m K E := h
theorem or_i {a b : RD} (h : a e m (fun x m => onBl x (fun c m => if c = true then K (.bl true) m else b e m K E) m) E) : rOr a b e m K E := h
theorem not_i {a : RD} (h : a e m (fun x m => onBl x (fun c m => K (.bl (!c)) m) m) E) : rNot a e m K E := h
def onB3 (z : D) (A : Mem → Prop) (K : DK) (m : Mem) : Prop := match z with
  | .bl k => if k = true then A m else K (.bl false) m
  | _ => False
theorem onB3_i {k : Bool} {A : Mem → Prop} (h : if k = true then A m else K (.bl false) m) : onB3 (.bl k) A K m := h
theorem chain_i {o o' : Op2} {a b c : RD} (h : a e m (fun x m => b e m (fun y m => o m x y fun z => onB3 z (fun m => c e m (fun w m => o' m y w fun z => K z m) E) K m) E) E) : rChain o o' a b c e m K E := h
theorem asg2_i {a : RD} {g1 g2 : GD} (h : a e m (fun d m => g1 d e m fun e m => g2 d e m nx) (fun x m => ex x e m)) : sAsg2 a g1 g2 e m ⟨nx, rt, ex⟩ := h
theorem iseq_i {a : RD} {K : (Mem → Prop) → List D → Mem → Prop} (h : a e m (fun x m => ∃ xs, x.seq m = some xs ∧ K (fun m => x.seq m = some xs) xs m) E) : riSeq a e m K E := h
def onR1 (x : D) (K : (Mem → Prop) → List D → Mem → Prop) (m : Mem) : Prop := match x with
  | .int j => (-wide62 ≤ j ∧ j < wide62) ∧ K (fun _ => True) (upto 0 j.toNat) m
  | _ => False
def onR2 (x y : D) (K : (Mem → Prop) → List D → Mem → Prop) (m : Mem) : Prop := match x, y with
  | .int i, .int j => (-wide62 ≤ i ∧ i < wide62 ∧ -wide62 ≤ j ∧ j < wide62) ∧ K (fun _ => True) (upto i (j - i).toNat) m
  | _, _ => False
theorem onR1_i {j : Int} {K : (Mem → Prop) → List D → Mem → Prop} (h1 : -wide62 ≤ j ∧ j < wide62) (h : K (fun _ => True) (upto 0 j.toNat) m) : onR1 (.int j) K m := ⟨h1, h⟩
theorem onR2_i {i j : Int} {K : (Mem → Prop) → List D → Mem → Prop} (h1 : -wide62 ≤ i ∧ i < wide62 ∧ -wide62 ≤ j ∧ j < wide62) (h : K (fun _ => True) (upto i (j - i).toNat) m) : onR2 (.int i) (.int j) K m := ⟨h1, h⟩
theorem range1_i {a : RD} {K : (Mem → Prop) → List D → Mem → Prop} (h : a e m (fun x m => onR1 x K m) E) : riRange1 a e m K E := h
theorem range2_i {a b : RD} {K : (Mem → Prop) → List D → Mem → Prop} (h : a e m (fun x m => b e m (fun y m => onR2 x y K m) E) E) : riRange2 a b e m K E := h
theorem rcomp_i {i : RI} {g : GD} {t : RT} {a : RD} {vs : List Nat} (h : i e m (fun chk xs m => compL chk g t a vs xs [] e m (fun ys m => K (.lst ys) m) fun _ _ => False) E) : rComp i g t a vs e m K E := h
theorem rcompN_i {i : RI} {g : GD} {t : RT} {a : RD} {vs : List Nat} (h : i e m (fun chk xs m => compL chk g t a vs xs [] e m (fun ys m => K (.cell m.length) (m ++ [.lst ys])) fun _ _ => False) E) : rCompN i g t a vs e m K E := h
theorem mtd_i {ty : Mem → D → Prop} {o : OpM} {a : RD} {as : RA} (h : a e m (fun x m => ty m x ∧ as e m (fun xs m => o m x xs K) E) E) : rMtd ty o a as e m K E := h
theorem dget_i {a b : RD} (h : a e m (fun x m => b e m (fun y m => ∃ v, getD m x y (some v) ∧ K v m) E) E) : rDGet a b e m K E := h
theorem din_i {a b : RD} (h : b e m (fun y m => a e m (fun x m => ∃ r, getD m x y r ∧ K (.bl r.isSome) m) E) E) : rDIn b a e m K E := h
theorem dnotin_i {a b : RD} (h : b e m (fun y m => a e m (fun x m => ∃ r, getD m x y r ∧ K (.bl (!r.isSome)) m) E) E) : rDNotIn b a e m K E := h
def onO (x : D) (K : Option Int → Mem → Prop) (m : Mem) : Prop := match x with
  | .int i => K (some i) m
  | _ => False
theorem onO_i {i : Int} {K : Option Int → Mem → Prop} (h : K (some i) m) : onO (.int i) K m := h
theorem oNone_i {K : Option Int → Mem → Prop} (h : K none m) : roNone e m K E := h
theorem oSome_i {a : RD} {K : Option Int → Mem → Prop} (h : a e m (fun x m => onO x K m) E) : roSome a e m K E := h
def onSl (x : D) (l u : Option Int) (K : DK) (m : Mem) : Prop := match x with
  | .tup xs => K (.tup (cutD xs l u)) m
  | .str z => z.length ≤ textLine ∧ K (.str (L2.cutS z l u)) m
  | x => ∃ xs, x.items m = some xs ∧ K (.lst (cutD xs l u)) m
theorem onSl_tup {xs : List D} {l u : Option Int} (h : K (.tup (cutD xs l u)) m) : onSl (.tup xs) l u K m := h
theorem onSl_str {z : Str} {l u : Option Int} (h1 : z.length ≤ textLine) (h : K (.str (L2.cutS z l u)) m) : onSl (.str z) l u K m := ⟨h1, h⟩
theorem onSl_old {xs : List D} {l u : Option Int} (h : K (.lst (cutD xs l u)) m) : onSl (.old xs) l u K m := ⟨xs, rfl, h⟩
theorem onSl_lst {xs : List D} {l u : Option Int} (h : K (.lst (cutD xs l u)) m) : onSl (.lst xs) l u K m := ⟨xs, rfl, h⟩
theorem onSl_cell {n : Nat} {xs : List D} {l u : Option Int} (h1 : (D.cell n).items m = some xs) (h : K (.lst (cutD xs l u)) m) : onSl (.cell n) l u K m := ⟨xs, h1, h⟩
theorem slice_i {a : RD} {lo hi : RO} (h : a e m (fun x m => lo e m (fun l m => hi e m (fun u m => onSl x l u K m) E) E) E) : rSlice a lo hi e m K E := h
theorem sliceN_i {a : RD} {lo hi : RO} (h : a e m (fun x m => lo e m (fun l m => hi e m (fun u m => ∃ xs, x.items m = some xs ∧ K (.cell m.length) (m ++ [.lst (cutD xs l u)])) E) E) E) : rSliceN a lo hi e m K E := h
section
variable {i j : Int} {K : D → Prop}
theorem add_i (h : K (.int (i + j))) : oAdd m (.int i) (.int j) K := h
theorem addA_i (h : K (.int (i + j))) : oAddA m (.int i) (.int j) K := h
theorem sub_i (h : K (.int (i - j))) : oSub m (.int i) (.int j) K := h
theorem mul_i (h1 : MulOk i j) (h : K (.int (i * j))) : oMul m (.int i) (.int j) K := ⟨h1, h⟩
theorem div_i (h1 : DivOk i j) (h : K (.int (i.fdiv j))) : oDiv m (.int i) (.int j) K := ⟨h1, h⟩
theorem mod_i (h1 : j ≠ 0) (h : K (.int (i.fmod j))) : oMod m (.int i) (.int j) K := ⟨h1, h⟩
theorem pow_i (h1 : 0 ≤ j ∧ j ≤ 1000000 ∧ i.natAbs < 2 ^ 64) (h : K (.int (i ^ j.toNat))) : oPow m (.int i) (.int j) K := ⟨h1, h⟩
theorem neg_i (h : K (.int (-i))) : oNeg m (.int i) K := h
theorem lt_i (h : K (.bl (decide (i < j)))) : oLt m (.int i) (.int j) K := h
theorem le_i (h : K (.bl (decide (i ≤ j)))) : oLe m (.int i) (.int j) K := h
theorem gt_i (h : K (.bl (decide (j < i)))) : oGt m (.int i) (.int j) K := h
theorem ge_i (h : K (.bl (decide (j ≤ i)))) : oGe m (.int i) (.int j) K := h
theorem eq_i (h : K (.bl (decide (i = j)))) : oEq m (.int i) (.int j) K := h
theorem ne_i (h : K (.bl (!decide (i = j)))) : oNe m (.int i) (.int j) K := h
theorem eqS_i {i j : Str} (h : K (.bl (decide (i = j)))) : oEq m (.str i) (.str j) K := h
theorem neS_i {i j : Str} (h : K (.bl (!decide (i = j)))) : oNe m (.str i) (.str j) K := h
theorem eqB_i {i j : Bool} (h : K (.bl (decide (i = j)))) : oEq m (.bl i) (.bl j) K := h
theorem abs_i (h : K (.int (if i < 0 then -i else i))) : oAbs m [.int i] K := ⟨_, rfl, h⟩
theorem max2_i (h : K (.int (if j > i then j else i))) : oMax2 m [.int i, .int j] K := ⟨_, _, rfl, h⟩
theorem min2_i (h : K (.int (if j < i then j else i))) : oMin2 m [.int i, .int j] K := ⟨_, _, rfl, h⟩
theorem ix_i {x : D} {xs : List D} {v : D} (h1 : x.seq m = some xs) (h2 : L2.atI xs i = some v) (h : K v) : oIx m x (.int i) K := by
  cases x <;> first | exact ⟨xs, i, v, h1, rfl, h2, h⟩ | cases h1
theorem isN_i (h : K (.bl true)) : oIsN m .non .non K := h
theorem isNI_i (h : K (.bl false)) : oIsN m (.int i) .non K := h
theorem isNT_i {xs : List D} (h : K (.bl false)) : oIsN m (.tup xs) .non K := h
theorem isNS_i {xs : Str} (h : K (.bl false)) : oIsN m (.str xs) .non K := h
theorem len_i {x : D} {ys : List D} (h1 : x.seq m = some ys) (h : K (.int ys.length)) : oLen m [x] K := ⟨x, rfl, by cases x <;> first | exact ⟨ys, h1, h⟩ | cases h1⟩
theorem repr_i {x : D} {p : PyData} (h1 : x.py m = some p) (h2 : p.showable = true) (h3 : p.shown.length ≤ textLine) (h : K (.str p.shown)) : oRepr m [x] K := ⟨x, p, rfl, h1, h2, h3, h⟩
end
theorem ite_i {p : Prop} [Decidable p] {A B : Prop} (h1 : p → A) (h2 : ¬p → B) : if decide p = true then A else B := by
  by_cases q : p
  · rw [if_pos (decide_eq_true q)]; exact h1 q
  · rw [if_neg (by simp [q])]; exact h2 q
theorem iteN_i {p : Prop} [Decidable p] {A B : Prop} (h1 : ¬p → A) (h2 : p → B) : if (!decide p) = true then A else B := by
  by_cases q : p
  · rw [if_neg (by simp [q])]; exact h2 q
  · rw [if_pos (by simp [q])]; exact h1 q
theorem iteB_i {b : Bool} {A B : Prop} (h1 : b = true → A) (h2 : b = false → B) : if b = true then A else B := by
  cases b
  · rw [if_neg (by simp)]; exact h2 rfl
  · rw [if_pos rfl]; exact h1 rfl
theorem for_nil {chk : Mem → Prop} {g : GD} {b : SD} (h1 : chk m) (h : nx e m) : forL chk g b [] e m ⟨nx, rt, ex⟩ := ⟨h1, h⟩
/-- a loop by what stays true -/
theorem for_inv {chk : Mem → Prop} {g : GD} {b : SD} (I : Nat → Lo → Mem → Prop) {xs : List D} (hchk : ∀ i e m, i ≤ xs.length → I i e m → chk m)
    (hstep : ∀ i x e m (N : Lo → Mem → Prop), xs[i]? = some x → I i e m → (∀ e m, I (i + 1) e m → N e m) → g x e m fun e m => b e m ⟨N, rt, ex⟩) (h0 : I 0 e m) (hend : ∀ e m, I xs.length e m → nx e m) : forL chk g b xs e m ⟨nx, rt, ex⟩ := by
  have key : ∀ (ys : List D) (i : Nat) (e : Lo) (m : Mem), xs.drop i = ys → i ≤ xs.length → I i e m → forL chk g b ys e m ⟨nx, rt, ex⟩ := by
    intro ys
    induction ys with
    | nil =>
      intro i e m hd hi hI
      have : xs.length ≤ i := by simpa using hd
      obtain rfl : i = xs.length := by omega
      exact ⟨hchk _ e m hi hI, hend _ _ hI⟩
    | cons y ys ih =>
      intro i e m hd hi hI
      have hx : xs[i]? = some y := by
        have := congrArg (·[0]?) hd
        simpa using this
      have hlt : i < xs.length := (List.getElem?_eq_some_iff.mp hx).1
      have hd' : xs.drop (i + 1) = ys := by
        have := congrArg List.tail hd
        simpa [List.tail_drop] using this
      exact ⟨hchk i e m hi hI, hstep i y e m _ hx hI fun e2 m2 h2 => ih (i + 1) e2 m2 hd' hlt h2⟩
  exact key xs 0 e m (by simp) (Nat.zero_le _) h0
theorem comp_inv {chk : Mem → Prop} {g : GD} {t : RT} {a : RD} {vs : List Nat} (I : Nat → List D → Mem → Prop) {xs : List D} {K : List D → Mem → Prop} {E : EK} (hchk : ∀ i acc m, i ≤ xs.length → I i acc m → chk m)
    (hstep : ∀ i x acc m (N : List D → Mem → Prop), xs[i]? = some x → I i acc m → (∀ acc m, I (i + 1) acc m → N acc m) → g x (e.wipe vs) m fun e' m => t e' m (fun b m => if b = true then a e' m (fun y m => acc.length < 100000 ∧ N (acc ++ [y]) m) E else N acc m) E)
    (h0 : I 0 [] m) (hend : ∀ acc m, I xs.length acc m → K acc m) : compL chk g t a vs xs [] e m K E := by
  have key : ∀ (ys : List D) (i : Nat) (acc : List D) (m : Mem), xs.drop i = ys → i ≤ xs.length → I i acc m → compL chk g t a vs ys acc e m K E := by
    intro ys
    induction ys with
    | nil =>
      intro i e m hd hi hI
      have : xs.length ≤ i := by simpa using hd
      obtain rfl : i = xs.length := by omega
      exact ⟨hchk _ e m hi hI, hend _ _ hI⟩
    | cons y ys ih =>
      intro i acc m hd hi hI
      have hx : xs[i]? = some y := by
        have := congrArg (·[0]?) hd
        simpa using this
      have hlt : i < xs.length := (List.getElem?_eq_some_iff.mp hx).1
      have hd' : xs.drop (i + 1) = ys := by
        have := congrArg List.tail hd
        simpa [List.tail_drop] using this
      exact ⟨hchk i acc m hi hI, hstep i y acc m _ hx hI fun e2 m2 h2 => ih (i + 1) e2 m2 hd' hlt h2⟩
  exact key xs 0 [] m (by simp) (Nat.zero_le _) h0
theorem while_inv {c : RT} {b : SD} (I : Nat → Lo → Mem → Prop) (n : Nat) (hstep : ∀ n e m (N : Lo → Mem → Prop), I n e m → (∀ n' e m, n' < n → I n' e m → N e m) → c e m (fun k m => if k = true then b e m ⟨N, rt, ex⟩ else nx e m) (fun x m => ex x e m)) (h0 : I n e m) : sWhile c b e m ⟨nx, rt, ex⟩ := by
  have key : ∀ (f n : Nat) (e : Lo) (m : Mem), n < f → I n e m → whileN c b f e m ⟨nx, rt, ex⟩ := by
    intro f
    induction f with
    | zero => intro n e m h; exact absurd h (Nat.not_lt_zero _)
    | succ f ih =>
      intro n e m h hI
      exact hstep n e m (fun e m => whileN c b f e m ⟨nx, rt, ex⟩) hI fun n' e' m' h1 h2 => ih n' e' m' (by omega) h2
  exact ⟨n + 1, key (n + 1) n e m (by omega) h0⟩
end
end PL

/-! PyP: binding; texts' lengths; small laws of data. -/
namespace PL
open PySem PySem.Spec PyProof.Rows L2
section
variable {K : PySem.W.Frag} {mg : Str → Option Value} {x qual : Str} {params : Arguments} {body : List Stmt} {scope : Scope} {dvs : List V} {kws : List (Str × V)} {f : Addr} {fd : FuncData} {ps : List Str} {n : Nat} {ks : List Str} {ss : List Src}
theorem bnd0 (F : FunD K x qual params body scope [] kws f fd)
    (h : ∀ (kV doc pm : Value) (an : Option Addr) (cdv ct : Value) (us ws : List Value), us.length = n → ws.length = ks.length → ∃ bs, bindArgs (PySem.W.fnOf x qual params body scope .none kV doc pm an cdv ct) ⟨us, ks.zip ws⟩ = pure (ps.zip bs) ∧ SrcR K mg us ws ss bs) : Bnd K mg fd ps n ks ss := by
  obtain ⟨oc, od, dV, kV, doc, pm, an, cdv, ct, osl, rfl, lk, hcd, hD, hK⟩ := F.ex
  intro s us ws X h1 h2
  rcases hD with ⟨_, rfl⟩ | ⟨e, _⟩
  · obtain ⟨bs, e1, e2⟩ := h kV doc pm an cdv ct us ws h1 h2
    exact ⟨bs, .of_eq e1, e2⟩
  · exact absurd rfl e
theorem bnd1 (F : FunD K x qual params body scope [] kws f fd) (ms : List (Str × V)) (hk : kws ≠ []) (hm : ∀ q ∈ ms, q ∈ kws)
    (h : ∀ (D : Addr) (doc pm : Value) (an : Option Addr) (cdv ct : Value) (us ws mv : List Value), us.length = n → ws.length = ks.length → Vals (ms.map (·.2)) mv →
      ∃ bs, KwChain D ((ms.map (·.1)).zip mv) (bindArgs (PySem.W.fnOf x qual params body scope .none (.ref D) doc pm an cdv ct) ⟨us, ks.zip ws⟩) (ps.zip bs) ∧ SrcR K mg us ws ss bs) : Bnd K mg fd ps n ks ss := by
  obtain ⟨oc, od, dV, kV, doc, pm, an, cdv, ct, osl, rfl, lk, hcd, hD, hK⟩ := F.ex
  intro s us ws X h1 h2
  rcases hD with ⟨_, rfl⟩ | ⟨e, _⟩
  · rcases hK with e | ⟨D, rfl, hq⟩
    · exact absurd e hk
    · obtain ⟨mv, hl, rk, hks⟩ := kwd_vals (ms := ms) fun q hq' => hq q (hm q hq')
      obtain ⟨bs, e1, e2⟩ := h D doc pm an cdv ct us ws mv h1 h2 rk
      exact ⟨bs, BindsTo.of_looks fun M => KwChain.looks X hks e1, e2⟩
  · exact absurd rfl e
theorem bnd2 (F : FunD K x qual params body scope dvs kws f fd) (hd : dvs ≠ [])
    (h : ∀ (T : Addr) (kV doc pm : Value) (an : Option Addr) (cdv ct : Value) (us ws its : List Value), us.length = n → ws.length = ks.length → Vals dvs its →
      ∃ bs k, bindArgs (PySem.W.fnOf x qual params body scope (.ref T) kV doc pm an cdv ct) ⟨us, ks.zip ws⟩ = seqItems? (.ref T) >>= k ∧ k (some its.toArray) = pure (ps.zip bs) ∧ SrcR K mg us ws ss bs) : Bnd K mg fd ps n ks ss := by
  obtain ⟨oc, od, dV, kV, doc, pm, an, cdv, ct, osl, rfl, lk, hcd, hD, hK⟩ := F.ex
  intro s us ws X h1 h2
  rcases hD with ⟨e, _⟩ | ⟨_, T, o, its, m, rfl, lT, oT, rT⟩
  · exact absurd e hd
  · obtain ⟨bs, k, e1, e2, e3⟩ := h T kV doc pm an cdv ct us ws its h1 h2 rT
    refine ⟨bs, BindsTo.of_looks fun M => ?_, e3⟩
    rw [e1]
    exact looks_items X lT oT (.of_pure e2)
end
/-! ### how long a text is -/
def cost : PyData → Nat
  | .none => 4
  | .bool _ => 5
  | .int _ => 1921
  | .str _ => 0
  | .list xs => 2 + costs xs
  | .tuple xs => 3 + costs xs
  | .dict _ => 0
where costs : List PyData → Nat
  | [] => 0
  | x :: xs => cost x + 2 + costs xs
def noTxt : PyData → Bool
  | .none | .bool _ | .int _ => true
  | .str _ | .dict _ => false
  | .list xs | .tuple xs => noTxts xs
where noTxts : List PyData → Bool
  | [] => true
  | x :: xs => noTxt x && noTxts xs
theorem textFrom_le : ∀ (ts : List Str) (k : Nat) (acc : Str), (textFrom k acc ts).length ≤ acc.length + (ts.map fun t => t.length + 2).sum
  | [], k, acc => by show acc.length ≤ _; simp
  | t :: r, k, acc => by
    have ih := textFrom_le r (k + 1) (acc ++ (if k > 0 then ", " else "" : String) ++ t)
    have e : (acc ++ (if k > 0 then ", " else "" : String) ++ t).length ≤ acc.length + 2 + t.length := by
      rw [strLen_append, strLen_append]
      split
      · show acc.length + 2 + t.length ≤ _; omega
      · show acc.length + 0 + t.length ≤ _; omega
    show (textFrom (k + 1) (acc ++ (if k > 0 then ", " else "" : String) ++ t) r).length ≤ _
    rw [List.map_cons, List.sum_cons]
    omega
theorem join_le (ts : List Str) : (Str.join ", " ts).length ≤ (ts.map fun t => t.length + 2).sum := by
  cases ts with
  | nil => exact Nat.zero_le _
  | cons t r =>
    have h := join_length_add (t :: r) (by simp)
    have e : ∀ l : List Str, piled l = (l.map fun t => t.length + 2).sum := fun l => by
      induction l with
      | nil => rfl
      | cons a l ih => simp [piled] at ih ⊢; try omega
    rw [e] at h; omega
theorem shown_len : ∀ (p : PyData), noTxt p = true → p.showable = true → p.shown.length ≤ cost p
  | .none, _, _ => by decide
  | .bool b, _, _ => by cases b <;> decide
  | .int i, _, h => by
    have h : decide (i.natAbs.log2 < 1920) = true := by unfold PyData.showable at h; exact h
    have := int_text_len_1921 (of_decide_eq_true h)
    unfold PyData.shown cost
    exact this
  | .str _, h, _ => by unfold noTxt at h; cases h
  | .dict _, h, _ => by unfold noTxt at h; cases h
  | .list xs, h, h2 => by
    unfold noTxt at h
    unfold PyData.showable at h2
    have := shown_lens xs h h2
    unfold PyData.shown cost
    show (textFrom 0 "[" (PyData.shownAll xs) ++ "]").length ≤ _
    rw [strLen_append]
    have h3 := textFrom_le (PyData.shownAll xs) 0 "["
    have e1 : (("[" : String) : Str).length = 1 := rfl
    have e2 : (("]" : String) : Str).length = 1 := rfl
    omega
  | .tuple xs, h, h2 => by
    unfold noTxt at h
    unfold PyData.showable at h2
    have := shown_lens xs h h2
    unfold PyData.shown cost
    show (("(" : Str) ++ Str.join ", " (PyData.shownAll xs) ++ (if (PyData.shownAll xs).length == 1 then ",)" else ")" : String)).length ≤ _
    rw [strLen_append, strLen_append]
    have h3 := join_le (PyData.shownAll xs)
    have e1 : (("(" : String) : Str).length = 1 := rfl
    split
    · have e2 : ((",)" : String) : Str).length = 2 := rfl
      omega
    · have e2 : ((")" : String) : Str).length = 1 := rfl
      omega
where shown_lens : ∀ (xs : List PyData), noTxt.noTxts xs = true → PyData.showableAll xs = true → ((PyData.shownAll xs).map fun t => t.length + 2).sum ≤ cost.costs xs
  | [], _, _ => by unfold PyData.shownAll; simp
  | x :: xs, h, h2 => by
    unfold noTxt.noTxts at h
    unfold PyData.showableAll at h2
    rw [Bool.and_eq_true] at h h2
    have a := shown_len x h.1 h2.1
    have b := shown_lens xs h.2 h2.2
    unfold PyData.shownAll cost.costs
    rw [List.map_cons, List.sum_cons]
    omega
theorem repr_of {m : Mem} {x : D} {p : PyData} {K : D → Prop} (h1 : x.py m = some p) (h2 : noTxt p = true) (h3 : p.showable = true) (h4 : cost p ≤ textLine) (h : K (.str p.shown)) : oRepr m [x] K := ⟨x, p, rfl, h1, h3, Nat.le_trans (shown_len p h2 h3) h4, h⟩
theorem list_i {m : Mem} {x : D} {ys : List D} {K : List D → Prop} (h1 : x.seq m = some ys) (h : K ys) : oList m [x] K := ⟨x, ys, rfl, h1, h⟩
theorem rev_i {m : Mem} {x : D} {ys : List D} {K : List D → Prop} (h1 : x.items m = some ys) (h : K ys.reverse) : oRev m [x] K := ⟨x, ys, rfl, h1, h⟩
theorem tuple_i {m : Mem} {x : D} {ys : List D} {K : D → Prop} (h1 : x.seq m = some ys) (h : K (.tup ys)) : oTuple m [x] K := ⟨x, ys, rfl, h1, h⟩
theorem sum_i {m : Mem} {x : D} {ys : List D} {ns : List Int} {K : D → Prop} (h1 : x.items m = some ys) (h2 : intsD ys = some ns) (h : K (.int ns.sum)) : oSum m [x] K := ⟨x, ys, ns, rfl, h1, h2, h⟩
theorem seqE_i {m : Mem} {x : D} {ys : List D} {P : List D → Prop} (h1 : x.seq m = some ys) (h : P ys) : ∃ xs, x.seq m = some xs ∧ P xs := ⟨ys, h1, h⟩
theorem srcE_i {xs ks ys : List D} {ss : List Src} {P : List D → Prop} (h1 : srcs xs ks ss = some ys) (h : P ys) : ∃ vs, srcs xs ks ss = some vs ∧ P vs := ⟨ys, h1, h⟩
theorem cut63 (ns : List Int) : cutD (ns.map D.int) none (some 63) = (ns.take 63).map D.int := by
  have : HT.sIx (ns.map D.int).length (ns.map D.int).length (some 63) = min 63 ns.length := by
    rw [List.length_map]; exact HT.sIx_nat _ _ 63
  unfold cutD
  rw [this, HT.sIx_none, List.drop_zero, Nat.sub_zero, List.map_take]
  rcases Nat.le_total 63 ns.length with h | h
  · rw [Nat.min_eq_left h]
  · rw [Nat.min_eq_right h, List.take_of_length_le (by simp), List.take_of_length_le (by simpa using h)]
/-! ### data of ints -/
theorem allO_map {α β γ : Type} {f : β → Option γ} {g : α → β} {h : α → γ} : ∀ l : List α, (∀ x ∈ l, f (g x) = some (h x)) → allO f (l.map g) = some (l.map h)
  | [], _ => rfl
  | x :: l, hh => by
    show (match f (g x), allO f (l.map g) with
      | some a, some b => some (a :: b)
      | _, _ => none) = _
    rw [hh x List.mem_cons_self, allO_map l fun y hy => hh y (List.mem_cons_of_mem _ hy)]
    rfl
theorem allO_id {α : Type} {f : α → Option α} : ∀ l : List α, (∀ x ∈ l, f x = some x) → allO f l = some l
  | [], _ => rfl
  | x :: l, hh => by
    show (match f x, allO f l with
      | some a, some b => some (a :: b)
      | _, _ => none) = _
    rw [hh x List.mem_cons_self, allO_id l fun y hy => hh y (List.mem_cons_of_mem _ hy)]
theorem intsD_map : ∀ l : List Int, intsD (l.map D.int) = some l
  | [] => rfl
  | x :: l => by show (intsD (l.map D.int)).map (x :: ·) = _; rw [intsD_map l]; rfl
theorem lay_ints : ∀ l : List Int, PyData.canLayAll0 (l.map PyData.int) = true
  | [] => by simp [PyData.canLayAll0]
  | x :: l => by rw [List.map_cons]; simp [PyData.canLayAll0, PyData.canLay0, lay_ints l]
theorem py_ints (m : Mem) (k : Nat) (l : List Int) : allO (D.pyN m (k + 1)) (l.map D.int) = some (l.map PyData.int) := allO_map l fun _ _ => rfl
theorem seq_cell {m : Mem} {n : Nat} {xs : List D} (h : m[n]? = some (.lst xs)) : (D.cell n).seq m = some xs := by
  show (match m[n]? with
    | some (.lst xs) => some xs
    | _ => none) = _
  rw [h]
theorem items_cell {m : Mem} {n : Nat} {xs : List D} (h : m[n]? = some (.lst xs)) : (D.cell n).items m = some xs := seq_cell h
theorem py_cell_ints {m : Mem} {n : Nat} {l : List Int} (h : m[n]? = some (.lst (l.map D.int))) : (D.cell n).py m = some (.list (l.map PyData.int)) := by
  show (match m[n]? with
    | some (.lst xs) => (allO (D.pyN m 19) xs).map PyData.list
    | _ => none) = _
  rw [h]
  show (allO (D.pyN m 19) (l.map D.int)).map PyData.list = _
  rw [py_ints m 18 l]; rfl
theorem set_same {m : Mem} {n : Nat} {c : Cell} (h : n < m.length) : (m.set n c)[n]? = some c := List.getElem?_set_self h
theorem set_other {m : Mem} {n i : Nat} {c : Cell} (h : n ≠ i) : (m.set n c)[i]? = m[i]? := List.getElem?_set_ne h
theorem get_lt {m : Mem} {n : Nat} {c : Cell} (h : m[n]? = some c) : n < m.length := (List.getElem?_eq_some_iff.mp h).1
/-! ### the deck -/
/-- the deck is the cell n; its rows are in the cell j -/
def Deck (m : Mem) (n j : Nat) : Prop := n ≠ j ∧ ∃ (l : List Int) (s t : Int), l.length ≤ 63 ∧ m[j]? = some (.lst (l.map D.int)) ∧ m[n]? = some (.lst [.cell j, .int s, .int t])
structure SameBut (m m' : Mem) (n j : Nat) : Prop where
  len : m'.length = m.length
  at_ : ∀ i, i ≠ n → i ≠ j → m'[i]? = m[i]?
theorem SameBut.refl (m : Mem) (n j : Nat) : SameBut m m n j := ⟨rfl, fun _ _ _ => rfl⟩
theorem SameBut.trans {a b c : Mem} {n j : Nat} (x : SameBut a b n j) (y : SameBut b c n j) : SameBut a c n j := ⟨y.len.trans x.len, fun i h1 h2 => (y.at_ i h1 h2).trans (x.at_ i h1 h2)⟩
def c_draw : FnC := fun ds m K _ => ∃ (n j : Nat) (most : Int), ds = [.cell n, .int most] ∧ Deck m n j ∧ 1 ≤ most ∧ most < 2 ^ 62 ∧ ∀ (v : Int) (m' : Mem), 0 ≤ v → v < most → Deck m' n j → SameBut m m' n j → K (.int v) m'
def c_deck : FnC := fun ds m K _ => ∃ ns : List Int, ds = [.old (ns.map D.int)] ∧ m = [] ∧ ∀ (l : List Int) (s : Int), l.length ≤ 63 → K (.cell 1) [.lst (l.map D.int), .lst [.cell 0, .int s, .int 0]]
/-- .. of a frozen list xs -/
def c_pick : FnC := fun ds m K _ => ∃ (n j : Nat) (xs : List D), ds = [.cell n, .lst xs] ∧ Deck m n j ∧ 1 ≤ xs.length ∧ xs.length < 100000 ∧ ∀ (x : D) (m' : Mem), x ∈ xs → Deck m' n j → SameBut m m' n j → K x m'
theorem divw {i j : Int} (h0 : 1 ≤ j) (h1 : j < 2 ^ 62) : DivOk i j := .inr ⟨by omega, by
  have h : j.natAbs < 2 ^ 62 := by omega
  have : j.natAbs.log2 < 62 := (Nat.log2_lt (by omega)).mpr h
  omega⟩
theorem mulw {i j : Int} (h1 : -(2 ^ 64) < i) (h2 : i < 2 ^ 64) : MulOk i j := .inl (.inl ⟨h1, h2⟩)
theorem mulr {i j : Int} (h1 : -(2 ^ 64) < j) (h2 : j < 2 ^ 64) : MulOk i j := .inl (.inr ⟨h1, h2⟩)
theorem fmod_range (i : Int) {j : Int} (h : 0 < j) : 0 ≤ i.fmod j ∧ i.fmod j < j := ⟨Int.fmod_nonneg_of_pos i h, Int.fmod_lt_of_pos i h⟩
theorem atI_nat {α : Type} {xs : List α} {i : Int} {x : α} (h0 : 0 ≤ i) (h : xs[i.toNat]? = some x) : L2.atI xs i = some x := by
  have hl := (List.getElem?_eq_some_iff.mp h).1
  unfold L2.atI L2.ixN
  rw [if_pos h0, if_pos (by omega)]
  exact h
theorem outK_same {m m1 : Mem} {K : DK} {d : D} (h : K d m1) : outK m K d m1 := .inl h
/-- what has no cell -/
def D.flat : D → Bool
  | .non | .bl _ | .int _ | .str _ => true
  | .tup xs => flats xs
  | _ => false
where flats : List D → Bool
  | [] => true
  | .non :: r | .bl _ :: r | .int _ :: r | .str _ :: r => flats r
  | _ :: _ => false
theorem flat_frz1 {m : Mem} {n0 k : Nat} : ∀ xs : List D, D.flat.flats xs = true → allO (D.frz m n0 (k + 1)) xs = some xs
  | [], _ => rfl
  | .non :: r, h => by
    have := flat_frz1 (m := m) (n0 := n0) (k := k) r (by simpa [D.flat.flats] using h)
    simp [allO, D.frz, this]
  | .bl _ :: r, h => by
    have := flat_frz1 (m := m) (n0 := n0) (k := k) r (by simpa [D.flat.flats] using h)
    simp [allO, D.frz, this]
  | .int _ :: r, h => by
    have := flat_frz1 (m := m) (n0 := n0) (k := k) r (by simpa [D.flat.flats] using h)
    simp [allO, D.frz, this]
  | .str _ :: r, h => by
    have := flat_frz1 (m := m) (n0 := n0) (k := k) r (by simpa [D.flat.flats] using h)
    simp [allO, D.frz, this]
theorem flat_frz {m : Mem} {n0 k : Nat} {d : D} (h : d.flat = true) : d.frz m n0 (k + 2) = some d := by
  cases d with
  | tup xs =>
    show (allO (D.frz m n0 (k + 1)) xs).map D.tup = _
    rw [flat_frz1 xs h]; rfl
  | non => rfl
  | bl _ => rfl
  | int _ => rfl
  | str _ => rfl
  | _ => cases h
theorem leave_app (m e : Mem) : Leave m (m ++ e) m := ⟨rfl, fun i hi => .inl ⟨List.getElem?_append_left hi, rfl⟩⟩
/-- cells made since, behind the old ones: they go -/
theorem outK_drop {m m1 : Mem} {K : DK} {d : D} (h1 : m1.length ≥ m.length) (h2 : ∀ i, i < m.length → m1[i]? = m[i]?) (hd : d.flat = true) (h : K d m) : outK m K d m1 := .inr ⟨d, m, flat_frz (k := 18) hd, ⟨rfl, fun i hi => .inl ⟨h2 i hi, rfl⟩⟩, h⟩
end PL

/-! PyQ: tables, put together. -/
namespace PL
open PySem PySem.Spec PyProof.Rows L2
section
variable {P : Program} {w : World} {K : PySem.W.Frag} {mg : Str → Option Value} {base : Heap} {k : Nat}
def Fns (P : Program) (w : World) (K : PySem.W.Frag) (mg : Str → Option Value) (base : Heap) (k : Nat) (l : List (Str × FE)) : Prop := ∀ x E, (x, E) ∈ l → FOk P w K mg base k x E
theorem fns_nil : Fns P w K mg base k [] := fun _ _ h => nomatch h
theorem fns_cons {x : Str} {E : FE} {l : List (Str × FE)} (h : FOk P w K mg base k x E) (t : Fns P w K mg base k l) : Fns P w K mg base k ((x, E) :: l) := fun y F hm => by
  rcases List.mem_cons.mp hm with e | hm
  · cases e; exact h
  · exact t y F hm
def Cns (K : PySem.W.Frag) (mg : Str → Option Value) (l : List (Str × D)) : Prop := ∀ x d, (x, d) ∈ l → ∃ u v, mg x = some u ∧ RelV v u ∧ ∀ F cs, Rep0 K mg F cs d v
theorem cns_nil : Cns K mg [] := fun _ _ h => nomatch h
theorem cns_cons {x : Str} {d : D} {l : List (Str × D)} (h : ∃ u v, mg x = some u ∧ RelV v u ∧ ∀ F cs, Rep0 K mg F cs d v) (t : Cns K mg l) : Cns K mg ((x, d) :: l) := fun y F hm => by
  rcases List.mem_cons.mp hm with e | hm
  · cases e; exact h
  · exact t y F hm
def Fre (mg : Str → Option Value) (l : List Str) : Prop := ∀ x ∈ l, mg x = none
theorem fre_nil : Fre mg [] := fun _ h => nomatch h
theorem fre_cons {x : Str} {l : List Str} (h : mg x = none) (t : Fre mg l) : Fre mg (x :: l) := fun y hm => by
  rcases List.mem_cons.mp hm with e | hm
  · cases e; exact h
  · exact t y hm
def Shs (K : PySem.W.Frag) (mg : Str → Option Value) (fd : FuncData) (ps : List Str) (l : List (Nat × List Str × List Src)) : Prop := ∀ sh ∈ l, Bnd K mg fd ps sh.1 sh.2.1 sh.2.2
theorem shs_nil {fd : FuncData} {ps : List Str} : Shs K mg fd ps [] := fun _ h => nomatch h
theorem shs_cons {fd : FuncData} {ps : List Str} {n : Nat} {ks : List Str} {ss : List Src} {l : List (Nat × List Str × List Src)} (h : Bnd K mg fd ps n ks ss) (t : Shs K mg fd ps l) : Shs K mg fd ps ((n, ks, ss) :: l) := fun y hm => by
  rcases List.mem_cons.mp hm with e | hm
  · cases e; exact h
  · exact t y hm
theorem fok {x : Str} {f : Addr} {fd : FuncData} {ps : List Str} {c : FnC} {sh : List (Nat × List Str × List Src)} (g : mg x = some (.ref f)) (kp : PySem.W.keepIn K (.ref f) = true) (F : FnG P w K mg base k f fd ps c) (s : Shs K mg fd ps sh) : FOk P w K mg base k x ⟨ps, c, sh⟩ := ⟨⟨f, fd, g, kp, F, s⟩⟩
theorem FOk.mono {x : Str} {E : FE} {j : Nat} (h : FOk P w K mg base j x E) (l : j ≤ k) : FOk P w K mg base k x E := by
  obtain ⟨f, fd, a, b, c, d⟩ := h.ex
  exact ⟨⟨f, fd, a, b, c.mono l, d⟩⟩
theorem tabOk {t : Tab} (a : Fns P w K mg base k t.fns) (b : Cns K mg t.consts) (c : Fre mg t.free) : TabOk P w K mg base k t := ⟨a, b, c⟩
theorem cn_int {x : Str} {i : Int} (h : ∃ t, mg x = some (.int i t)) : ∃ u v, mg x = some u ∧ RelV v u ∧ ∀ F cs, Rep0 K mg F cs (.int i) v := by
  obtain ⟨t, e⟩ := h
  exact ⟨_, .int i, e, ⟨t, rfl⟩, fun _ _ => .int _⟩
theorem cn_str {x : Str} {i : Str} (h : ∃ t, mg x = some (.str i t)) : ∃ u v, mg x = some u ∧ RelV v u ∧ ∀ F cs, Rep0 K mg F cs (.str i) v := by
  obtain ⟨t, e⟩ := h
  exact ⟨_, .str i, e, ⟨t, rfl⟩, fun _ _ => .str _⟩
theorem cn_tup {x : Str} {dvs : List He.Dv} {ds : List D} (g : mg x = some (.ref (He.ga K x))) (h : He.tupB K x dvs = true) (r : ∀ F cs, Reps0 K mg F cs ds (dvs.map (He.Dv.v K))) : ∃ u v, mg x = some u ∧ RelV v u ∧ ∀ F cs, Rep0 K mg F cs (.tup ds) v :=
  ⟨_, .ref (He.ga K x), g, rfl, fun F cs => .tup (He.tupB_ok h F) (r F cs)⟩
theorem FnG.none {f : Addr} {fd : FuncData} {ps : List Str} {c : FnC} (h : ∀ ds m K' E', ¬ c ds m K' E') : FnG P w K mg base k f fd ps c := ⟨fun ds m K' E' z => absurd z (h _ _ _ _), fun _ _ _ _ _ _ _ _ _ _ _ _ _ _ ⟨_, _, _, _, _, _, _, z, _⟩ => absurd z (h _ _ _ _)⟩
end
end PL

namespace K03
open PySem PySem.Spec PyProof.Rows L2 PL
abbrev pr : Program := PySem.Challenge.pw_polyways_k03_bars_of_rests
def top (i : Nat) : Stmt := pr.main.body.getD i (.Pass ⟨0, 0, 0, 0⟩)
abbrev N__law_deck : List Str := ["_law_script", "_law_cell"]
abbrev ps__law_deck : List Str := ["_law_script"]
abbrev st__law_deck : Stmt := top 9
theorem sc__law_deck : FnScope N__law_deck ps__law_deck (defScope st__law_deck) := ⟨rfl, rfl, rfl, by decide +kernel, rfl, by decide +kernel, by decide +kernel⟩
def E__law_deck (c : FnC) : FE := ⟨ps__law_deck, c, [(1, [], [.p 0])]⟩
abbrev N__law_draw : List Str := ["_law_deck_here", "_law_most", "_law_cell", "_law_number"]
abbrev ps__law_draw : List Str := ["_law_deck_here", "_law_most"]
abbrev st__law_draw : Stmt := top 10
theorem sc__law_draw : FnScope N__law_draw ps__law_draw (defScope st__law_draw) := ⟨rfl, rfl, rfl, by decide +kernel, rfl, by decide +kernel, by decide +kernel⟩
def E__law_draw (c : FnC) : FE := ⟨ps__law_draw, c, [(2, [], [.p 0, .p 1])]⟩
abbrev N__law_pick : List Str := ["_law_deck_here", "_law_some"]
abbrev ps__law_pick : List Str := ["_law_deck_here", "_law_some"]
abbrev st__law_pick : Stmt := top 11
theorem sc__law_pick : FnScope N__law_pick ps__law_pick (defScope st__law_pick) := ⟨rfl, rfl, rfl, by decide +kernel, rfl, by decide +kernel, by decide +kernel⟩
def E__law_pick (c : FnC) : FE := ⟨ps__law_pick, c, [(2, [], [.p 0, .p 1])]⟩
abbrev N__law_m : List Str := ["_law_deck_here", "_law_way", "_law_primes", "_law_one", "_law_other", "_law_great", "_law_some"]
abbrev ps__law_m : List Str := ["_law_deck_here"]
abbrev st__law_m : Stmt := top 13
theorem sc__law_m : FnScope N__law_m ps__law_m (defScope st__law_m) := ⟨rfl, rfl, rfl, by decide +kernel, rfl, by decide +kernel, by decide +kernel⟩
def E__law_m (c : FnC) : FE := ⟨ps__law_m, c, [(1, [], [.p 0])]⟩
abbrev N__law_least : List Str := ["_law_m_here", "_law_at"]
abbrev ps__law_least : List Str := ["_law_m_here"]
abbrev st__law_least : Stmt := top 12
theorem sc__law_least : FnScope N__law_least ps__law_least (defScope st__law_least) := ⟨rfl, rfl, rfl, by decide +kernel, rfl, by decide +kernel, by decide +kernel⟩
def E__law_least (c : FnC) : FE := ⟨ps__law_least, c, [(1, [], [.p 0])]⟩
abbrev N_rests : List Str := ["m"]
abbrev ps_rests : List Str := ["m"]
abbrev st_rests : Stmt := top 3
theorem sc_rests : FnScope N_rests ps_rests (defScope st_rests) := ⟨rfl, rfl, rfl, by decide +kernel, rfl, by decide +kernel, by decide +kernel⟩
def E_rests (c : FnC) : FE := ⟨ps_rests, c, [(1, [], [.p 0])]⟩
abbrev N_bar_of : List Str := ["ring", "prime"]
abbrev ps_bar_of : List Str := ["ring"]
abbrev st_bar_of : Stmt := top 7
theorem sc_bar_of : FnScope N_bar_of ps_bar_of (defScope st_bar_of) := ⟨rfl, rfl, rfl, by decide +kernel, rfl, by decide +kernel, by decide +kernel⟩
def E_bar_of (c : FnC) : FE := ⟨ps_bar_of, c, [(1, [], [.p 0]), (0, ["ring"], [.k 0])]⟩
abbrev N_divisor_of : List Str := ["one", "other"]
abbrev ps_divisor_of : List Str := ["one", "other"]
abbrev st_divisor_of : Stmt := top 4
theorem sc_divisor_of : FnScope N_divisor_of ps_divisor_of (defScope st_divisor_of) := ⟨rfl, rfl, rfl, by decide +kernel, rfl, by decide +kernel, by decide +kernel⟩
def E_divisor_of (c : FnC) : FE := ⟨ps_divisor_of, c, [(2, [], [.p 0, .p 1])]⟩
abbrev N_in_lowest : List Str := ["top", "bottom", "by"]
abbrev ps_in_lowest : List Str := ["top", "bottom"]
abbrev st_in_lowest : Stmt := top 5
theorem sc_in_lowest : FnScope N_in_lowest ps_in_lowest (defScope st_in_lowest) := ⟨rfl, rfl, rfl, by decide +kernel, rfl, by decide +kernel, by decide +kernel⟩
def E_in_lowest (c : FnC) : FE := ⟨ps_in_lowest, c, [(2, [], [.p 0, .p 1])]⟩
abbrev N_multiplied : List Str := ["ring", "one", "other"]
abbrev ps_multiplied : List Str := ["ring", "one", "other"]
abbrev st_multiplied : Stmt := top 6
theorem sc_multiplied : FnScope N_multiplied ps_multiplied (defScope st_multiplied) := ⟨rfl, rfl, rfl, by decide +kernel, rfl, by decide +kernel, by decide +kernel⟩
def E_multiplied (c : FnC) : FE := ⟨ps_multiplied, c, [(3, [], [.p 0, .p 1, .p 2])]⟩
abbrev N__law_is_gone : List Str := ["_law_m_here", "_law_a", "_law_b"]
abbrev ps__law_is_gone : List Str := ["_law_m_here", "_law_a"]
abbrev st__law_is_gone : Stmt := top 15
theorem sc__law_is_gone : FnScope N__law_is_gone ps__law_is_gone (defScope st__law_is_gone) := ⟨rfl, rfl, rfl, by decide +kernel, rfl, by decide +kernel, by decide +kernel⟩
def E__law_is_gone (c : FnC) : FE := ⟨ps__law_is_gone, c, [(2, [], [.p 0, .p 1])]⟩
abbrev N__law_right : List Str := ["_law_m_here", "_law_least_here", "_law_due", "_law_ring_here", "_law_some", "_law_a"]
abbrev ps__law_right : List Str := ["_law_m_here"]
abbrev st__law_right : Stmt := top 14
theorem sc__law_right : FnScope N__law_right ps__law_right (defScope st__law_right) := ⟨rfl, rfl, rfl, by decide +kernel, rfl, by decide +kernel, by decide +kernel⟩
def E__law_right (c : FnC) : FE := ⟨ps__law_right, c, [(1, [], [.p 0])]⟩
abbrev N_law : List Str := ["_law_script", "_law_deck_here", "_law_kept", "_law_turn", "_law_m_here"]
abbrev ps_law : List Str := ["_law_script"]
abbrev st_law : Stmt := top 16
theorem sc_law : FnScope N_law ps_law (defScope st_law) := ⟨rfl, rfl, rfl, by decide +kernel, rfl, by decide +kernel, by decide +kernel⟩
def E_law (c : FnC) : FE := ⟨ps_law, c, []⟩
def B__law_deck : SD :=
  (sRet (rLstN (raCons (rFN oRev (raCons (rF oList (raCons (rSlice (rVar 0) roNone (roSome (rC (.int 63)))) raNil)) raNil)) (raCons (rOp2 oAdd (rOpN oSum (raCons (rComp (riSeq (rSlice (rVar 0) roNone (roSome (rC (.int 63))))) (gName 1) rtYes (rOp2 oMod (rVar 1) (rC (.int 1000003))) [1]) raNil)) (rOp2 oMul (rC (.int 7919)) (rOpN oLen (raCons (rSlice (rVar 0) roNone (roSome (rC (.int 63)))) raNil)))) (raCons (rC (.int 0)) raNil)))))
def T__law_deck : Tab := ⟨[], [], ["len", "list", "sum"]⟩
def orc__law_deck : List ((Nat × Nat × Nat) × Nat) := [((32, 11, 137), 1), ((32, 12, 40), 1)]
theorem hB__law_deck : compB (compS 30 30 ⟨T__law_deck, defScope st__law_deck, N__law_deck, fun _ => true, orc__law_deck⟩) (defBody st__law_deck) = some (B__law_deck) := by kernel_rfl
def B__law_draw : SD :=
  (sSeq (sSetItem (rVar 0) (rC (.int 2)) (rOp2 oAdd (rOp2 oIx (rVar 0) (rC (.int 2))) (rC (.int 1))))
    (sSeq (sAsg (rOp2 oIx (rVar 0) (rC (.int 1))) (gName 2))
    (sSeq (sIf (rtB (rOp2 oNe (rOp2 oIx (rVar 0) (rC (.int 0))) (rLst raNil))) (sSeq (sAsg (rMtd tyL oPop (rOp2 oIx (rVar 0) (rC (.int 0))) raNil) (gName 2))
    (sIf (rtB (rOp2 oGe (rVar 2) (rOp2 oPow (rC (.int 10)) (rC (.int 18))))) (sSeq (sDrop (rMtd tyL oAppend (rOp2 oIx (rVar 0) (rC (.int 0))) (raCons (rOp2 oDiv (rVar 2) (rVar 1)) raNil)))
    (sRet (rOp2 oMod (rVar 2) (rVar 1)))) sSkip)) sSkip)
    (sSeq (sAsg (rOp2 oMod (rOp2 oMul (rOp2 oAdd (rOp2 oAdd (rOp2 oMod (rVar 2) (rC (.int 2147483629))) (rOp2 oMul (rC (.int 65537)) (rOp2 oIx (rVar 0) (rC (.int 2))))) (rC (.int 7))) (rC (.int 48271))) (rC (.int 2147483647))) (gName 3))
    (sSeq (sAsg (rOp2 oMod (rOp2 oAdd (rOp2 oAdd (rOp2 oMul (rVar 3) (rVar 3)) (rOp2 oMul (rC (.int 69621)) (rOp2 oIx (rVar 0) (rC (.int 2))))) (rC (.int 19))) (rC (.int 2147483587))) (gName 3))
    (sRet (rOp2 oMod (rOp2 oDiv (rOp2 oMod (rOp2 oAdd (rOp2 oMul (rVar 3) (rVar 3)) (rC (.int 39373))) (rC (.int 2147483563))) (rC (.int 64))) (rVar 1))))))))
def T__law_draw : Tab := ⟨[], [], []⟩
def orc__law_draw : List ((Nat × Nat × Nat) × Nat) := []
theorem hB__law_draw : compB (compS 30 30 ⟨T__law_draw, defScope st__law_draw, N__law_draw, fun _ => true, orc__law_draw⟩) (defBody st__law_draw) = some (B__law_draw) := by kernel_rfl
def B__law_pick (c__law_draw : FnC) : SD :=
  (sRet (rOp2 oIx (rVar 1) (rCall c__law_draw (raCons (rVar 0) (raCons (rOpN oLen (raCons (rVar 1) raNil)) raNil)))))
def T__law_pick (c__law_draw : FnC) : Tab := ⟨[("_law_draw", E__law_draw c__law_draw)], [], ["len"]⟩
def orc__law_pick : List ((Nat × Nat × Nat) × Nat) := []
theorem hB__law_pick (c__law_draw : FnC) : compB (compS 30 30 ⟨T__law_pick c__law_draw, defScope st__law_pick, N__law_pick, fun _ => true, orc__law_pick⟩) (defBody st__law_pick) = some (B__law_pick c__law_draw) := by kernel_rfl
def B__law_m (c__law_draw : FnC) (c__law_pick : FnC) : SD :=
  (sSeq (sAsg (rCall c__law_draw (raCons (rVar 0) (raCons (rC (.int 8)) raNil))) (gName 1))
    (sSeq (sAsg (rLst (raCons (rC (.int 2)) (raCons (rC (.int 3)) (raCons (rC (.int 5)) (raCons (rC (.int 7)) (raCons (rC (.int 11)) (raCons (rC (.int 13)) (raCons (rC (.int 31)) (raCons (rC (.int 97)) (raCons (rC (.int 101)) (raCons (rC (.int 499)) (raCons (rC (.int 503)) (raCons (rC (.int 887)) (raCons (rC (.int 907)) (raCons (rC (.int 953)) (raCons (rC (.int 967)) (raCons (rC (.int 971)) (raCons (rC (.int 977)) (raCons (rC (.int 983)) (raCons (rC (.int 991)) (raCons (rC (.int 997)) raNil))))))))))))))))))))) (gName 2))
    (sSeq (sPar 3 4 (rCall c__law_pick (raCons (rVar 0) (raCons (rVar 2) raNil))) (rCall c__law_pick (raCons (rVar 0) (raCons (rVar 2) raNil))))
    (sSeq (sAsg (rCall c__law_pick (raCons (rVar 0) (raCons (rLst (raCons (rC (.int 999983)) (raCons (rC (.int 999979)) (raCons (rC (.int 499979)) (raCons (rC (.int 333323)) (raCons (rC (.int 10007)) (raCons (rC (.int 1009)) (raCons (rC (.int 65537)) (raCons (rC (.int 7919)) raNil))))))))) raNil))) (gName 5))
    (sSeq (sAsg (rLstN (raCons (rOp2 oMul (rVar 3) (rVar 3)) (raCons (rOp2 oMul (rVar 3) (rVar 4)) (raCons (rVar 5) (raCons (rIf (rtB (rOp2 oLt (rVar 5) (rC (.int 500000)))) (rOp2 oMul (rVar 5) (rC (.int 2))) (rVar 5)) raNil))))) (gName 6))
    (sSeq (sDrop (rMtd tyL oAppend (rVar 6) (raCons (rOp2 oIx (rLst (raCons (rC (.int 2)) (raCons (rC (.int 4)) (raCons (rC (.int 8)) (raCons (rC (.int 64)) (raCons (rC (.int 1024)) (raCons (rC (.int 65536)) (raCons (rC (.int 262144)) (raCons (rC (.int 524288)) raNil))))))))) (rCall c__law_draw (raCons (rVar 0) (raCons (rC (.int 8)) raNil)))) raNil)))
    (sRet (rOp2 oIx (rF oCat (raCons (rVar 6) (raCons (rLst (raCons (rOp2 oAdd (rC (.int 2)) (rCall c__law_draw (raCons (rVar 0) (raCons (rOp2 oSub (rOp2 oPow (rC (.int 10)) (rC (.int 6))) (rC (.int 1))) raNil)))) (raCons (rOp2 oPow (rC (.int 10)) (rC (.int 6))) (raCons (rOp2 oAdd (rC (.int 2)) (rCall c__law_draw (raCons (rVar 0) (raCons (rC (.int 40)) raNil)))) raNil)))) raNil))) (rVar 1)))))))))
def T__law_m (c__law_draw : FnC) (c__law_pick : FnC) : Tab := ⟨[("_law_draw", E__law_draw c__law_draw), ("_law_pick", E__law_pick c__law_pick)], [], []⟩
def orc__law_m : List ((Nat × Nat × Nat) × Nat) := [((58, 16, 127), 1), ((60, 12, 112), 1)]
theorem hB__law_m (c__law_draw : FnC) (c__law_pick : FnC) : compB (compS 30 30 ⟨T__law_m c__law_draw c__law_pick, defScope st__law_m, N__law_m, fun _ => true, orc__law_m⟩) (defBody st__law_m) = some (B__law_m c__law_draw c__law_pick) := by kernel_rfl
def B__law_least : SD :=
  (sSeq (sAsg (rC (.int 2)) (gName 1))
    (sSeq (sWhile (rtB (rOp2 oLe (rOp2 oMul (rVar 1) (rVar 1)) (rVar 0))) (sSeq (sIf (rtB (rOp2 oEq (rOp2 oMod (rVar 0) (rVar 1)) (rC (.int 0)))) (sRet (rVar 1)) sSkip)
    (sAsg (rOp2 oAdd (rVar 1) (rC (.int 1))) (gName 1))))
    (sRet (rVar 0))))
def T__law_least : Tab := ⟨[], [], []⟩
def orc__law_least : List ((Nat × Nat × Nat) × Nat) := []
theorem hB__law_least : compB (compS 30 30 ⟨T__law_least, defScope st__law_least, N__law_least, fun _ => true, orc__law_least⟩) (defBody st__law_least) = some (B__law_least) := by kernel_rfl
def B_rests : SD :=
  (sRet (rTup (raCons (rC (.str "rests")) (raCons (rVar 0) raNil))))
def T_rests : Tab := ⟨[], [], []⟩
def orc_rests : List ((Nat × Nat × Nat) × Nat) := []
theorem hB_rests : compB (compS 30 30 ⟨T_rests, defScope st_rests, N_rests, fun _ => true, orc_rests⟩) (defBody st_rests) = some (B_rests) := by kernel_rfl
def B_bar_of : SD :=
  (sSeq (sIf (rtB (rOp2 oIn (rVar 0) (rTup (raCons (rC (.tup [(.str "whole")])) (raCons (rC (.tup [(.str "parts")])) raNil))))) (sRet (rC .non)) sSkip)
    (sSeq (sAsg (rC (.int 2)) (gName 1))
    (sSeq (sWhile (rtB (rOp2 oLe (rOp2 oMul (rVar 1) (rVar 1)) (rOp2 oIx (rVar 0) (rC (.int 1))))) (sSeq (sIf (rtB (rOp2 oEq (rOp2 oMod (rOp2 oIx (rVar 0) (rC (.int 1))) (rVar 1)) (rC (.int 0)))) (sRet (rVar 1)) sSkip)
    (sAug 1 oAddA (rC (.int 1)))))
    (sRet (rC .non)))))
def T_bar_of : Tab := ⟨[], [("PARTS", (.tup [(.str "parts")])), ("WHOLE", (.tup [(.str "whole")]))], []⟩
def orc_bar_of : List ((Nat × Nat × Nat) × Nat) := []
theorem hB_bar_of : compB (compS 30 30 ⟨T_bar_of, defScope st_bar_of, N_bar_of, fun _ => true, orc_bar_of⟩) (defBody st_bar_of) = some (B_bar_of) := by kernel_rfl
def B_divisor_of : SD :=
  (sSeq (sWhile (rtB (rOp2 oNe (rVar 1) (rC (.int 0)))) (sPar 0 1 (rVar 1) (rOp2 oMod (rVar 0) (rVar 1))))
    (sRet (rOpN oAbs (raCons (rVar 0) raNil))))
def T_divisor_of : Tab := ⟨[], [], ["abs"]⟩
def orc_divisor_of : List ((Nat × Nat × Nat) × Nat) := []
theorem hB_divisor_of : compB (compS 30 30 ⟨T_divisor_of, defScope st_divisor_of, N_divisor_of, fun _ => true, orc_divisor_of⟩) (defBody st_divisor_of) = some (B_divisor_of) := by kernel_rfl
def B_in_lowest (c_divisor_of : FnC) : SD :=
  (sSeq (sAsg (rCall c_divisor_of (raCons (rVar 0) (raCons (rVar 1) raNil))) (gName 2))
    (sSeq (sIf (rtB (rOp2 oLt (rVar 1) (rC (.int 0)))) (sAsg (rOp1 oNeg (rVar 2)) (gName 2)) sSkip)
    (sRet (rTup (raCons (rOp2 oDiv (rVar 0) (rVar 2)) (raCons (rOp2 oDiv (rVar 1) (rVar 2)) raNil))))))
def T_in_lowest (c_divisor_of : FnC) : Tab := ⟨[("divisor_of", E_divisor_of c_divisor_of)], [], []⟩
def orc_in_lowest : List ((Nat × Nat × Nat) × Nat) := []
theorem hB_in_lowest (c_divisor_of : FnC) : compB (compS 30 30 ⟨T_in_lowest c_divisor_of, defScope st_in_lowest, N_in_lowest, fun _ => true, orc_in_lowest⟩) (defBody st_in_lowest) = some (B_in_lowest c_divisor_of) := by kernel_rfl
def B_multiplied (c_in_lowest : FnC) : SD :=
  (sSeq (sIf (rtB (rOp2 oEq (rVar 0) (rC (.tup [(.str "whole")])))) (sRet (rOp2 oMul (rVar 1) (rVar 2))) sSkip)
    (sSeq (sIf (rtB (rOp2 oEq (rVar 0) (rC (.tup [(.str "parts")])))) (sRet (rCall c_in_lowest (raCons (rOp2 oMul (rOp2 oIx (rVar 1) (rC (.int 0))) (rOp2 oIx (rVar 2) (rC (.int 0)))) (raCons (rOp2 oMul (rOp2 oIx (rVar 1) (rC (.int 1))) (rOp2 oIx (rVar 2) (rC (.int 1)))) raNil)))) sSkip)
    (sRet (rOp2 oMod (rOp2 oMul (rVar 1) (rVar 2)) (rOp2 oIx (rVar 0) (rC (.int 1)))))))
def T_multiplied (c_in_lowest : FnC) : Tab := ⟨[("in_lowest", E_in_lowest c_in_lowest)], [("WHOLE", (.tup [(.str "whole")])), ("PARTS", (.tup [(.str "parts")]))], []⟩
def orc_multiplied : List ((Nat × Nat × Nat) × Nat) := []
theorem hB_multiplied (c_in_lowest : FnC) : compB (compS 30 30 ⟨T_multiplied c_in_lowest, defScope st_multiplied, N_multiplied, fun _ => true, orc_multiplied⟩) (defBody st_multiplied) = some (B_multiplied c_in_lowest) := by kernel_rfl
def B__law_is_gone (c_multiplied : FnC) (c_rests : FnC) : SD :=
  (sRet (rOp2 oNe (rComp (riSeq (rLst (raCons (rC (.int 1)) (raCons (rOp2 oMod (rC (.int 2)) (rVar 0)) (raCons (rOp2 oMod (rC (.int 3)) (rVar 0)) (raCons (rOp2 oSub (rVar 0) (rC (.int 1))) (raCons (rOp2 oDiv (rVar 0) (rC (.int 2))) raNil))))))) (gName 2) (rtAnd (rtB (rOp2 oNe (rVar 2) (rC (.int 0)))) (rtB (rOp2 oEq (rCall c_multiplied (raCons (rCall c_rests (raCons (rVar 0) raNil)) (raCons (rOp2 oMod (rVar 1) (rVar 0)) (raCons (rVar 2) raNil)))) (rC (.int 0))))) (rC (.int 1)) [2]) (rLst raNil)))
def T__law_is_gone (c_multiplied : FnC) (c_rests : FnC) : Tab := ⟨[("multiplied", E_multiplied c_multiplied), ("rests", E_rests c_rests)], [], []⟩
def orc__law_is_gone : List ((Nat × Nat × Nat) × Nat) := []
theorem hB__law_is_gone (c_multiplied : FnC) (c_rests : FnC) : compB (compS 30 30 ⟨T__law_is_gone c_multiplied c_rests, defScope st__law_is_gone, N__law_is_gone, fun _ => true, orc__law_is_gone⟩) (defBody st__law_is_gone) = some (B__law_is_gone c_multiplied c_rests) := by kernel_rfl
def B__law_right (c__law_least : FnC) (c_rests : FnC) (c_bar_of : FnC) (c__law_is_gone : FnC) (c_multiplied : FnC) : SD :=
  (sSeq (sAsg (rCall c__law_least (raCons (rVar 0) raNil)) (gName 1))
    (sSeq (sAsg (rIf (rtB (rOp2 oEq (rVar 1) (rVar 0))) (rC .non) (rVar 1)) (gName 2))
    (sSeq (sAsg (rCall c_rests (raCons (rVar 0) raNil)) (gName 3))
    (sSeq (sIf (rtB (rOp2 oNe (rOpN oRepr (raCons (rLst (raCons (rCall c_bar_of (raCons (rVar 3) raNil)) (raCons (rCallK c_bar_of [.k 0] raNil (raCons (rVar 3) raNil)) raNil))) raNil)) (rOpN oRepr (raCons (rLst (raCons (rVar 2) (raCons (rVar 2) raNil))) raNil)))) (sRet (rC (.bl false))) sSkip)
    (sSeq (sIf (rtB (rOp2 oIsN (rVar 2) (rC .non))) (sSeq (sAsg (rLst (raCons (rC (.int 1)) (raCons (rOp2 oSub (rVar 0) (rC (.int 1))) (raCons (rOp2 oAdd (rOp2 oDiv (rVar 0) (rC (.int 2))) (rOp2 oMod (rVar 0) (rC (.int 2)))) (raCons (rOp2 oAdd (rOp2 oDiv (rVar 0) (rC (.int 3))) (rC (.int 1))) raNil))))) (gName 4))
    (sRet (rOp2 oEq (rComp (riSeq (rVar 4)) (gName 5) (rtAnd (rtB (rOp2 oNe (rOp2 oMod (rVar 5) (rVar 0)) (rC (.int 0)))) (rtB (rCall c__law_is_gone (raCons (rVar 0) (raCons (rVar 5) raNil))))) (rC (.int 1)) [5]) (rLst raNil)))) sSkip)
    (sRet (rAnd (rOp2 oEq (rCall c_multiplied (raCons (rVar 3) (raCons (rVar 2) (raCons (rOp2 oDiv (rVar 0) (rVar 2)) raNil)))) (rC (.int 0))) (rAnd (rChain oLt oLt (rC (.int 0)) (rVar 2) (rVar 0)) (rAnd (rOp2 oEq (rOp2 oMod (rVar 0) (rVar 2)) (rC (.int 0))) (rOp2 oEq (rCall c__law_least (raCons (rVar 2) raNil)) (rVar 2)))))))))))
def T__law_right (c__law_least : FnC) (c_rests : FnC) (c_bar_of : FnC) (c__law_is_gone : FnC) (c_multiplied : FnC) : Tab := ⟨[("_law_least", E__law_least c__law_least), ("rests", E_rests c_rests), ("bar_of", E_bar_of c_bar_of), ("_law_is_gone", E__law_is_gone c__law_is_gone), ("multiplied", E_multiplied c_multiplied)], [], ["repr"]⟩
def orc__law_right : List ((Nat × Nat × Nat) × Nat) := []
theorem hB__law_right (c__law_least : FnC) (c_rests : FnC) (c_bar_of : FnC) (c__law_is_gone : FnC) (c_multiplied : FnC) : compB (compS 30 30 ⟨T__law_right c__law_least c_rests c_bar_of c__law_is_gone c_multiplied, defScope st__law_right, N__law_right, fun _ => true, orc__law_right⟩) (defBody st__law_right) = some (B__law_right c__law_least c_rests c_bar_of c__law_is_gone c_multiplied) := by kernel_rfl
def B_law (c__law_deck : FnC) (c__law_m : FnC) (c__law_right : FnC) (c_bar_of : FnC) : SD :=
  (sSeq (sAsg (rCall c__law_deck (raCons (rVar 0) raNil)) (gName 1))
    (sSeq (sAsg (rLstN raNil) (gName 2))
    (sSeq (sFor (riRange1 (rC (.int 30))) (gName 3) (sSeq (sAsg (rCall c__law_m (raCons (rVar 1) raNil)) (gName 4))
    (sSeq (sIf (rtNot (rtB (rCall c__law_right (raCons (rVar 4) raNil)))) (sRet (rC (.bl false))) sSkip)
    (sDrop (rMtd tyL oAppend (rVar 2) (raCons (rVar 4) raNil))))))
    (sSeq (sIf (rtB (rOp2 oNe (rComp (riSeq (rVar 2)) (gName 4) (rtNot (rtB (rCall c__law_right (raCons (rVar 4) raNil)))) (rVar 4) [4]) (rLst raNil))) (sRet (rC (.bl false))) sSkip)
    (sRet (rAnd (rOp2 oIsN (rCall c_bar_of (raCons (rTup (raCons (rC (.str "whole")) raNil)) raNil)) (rC .non)) (rAnd (rOp2 oIsN (rCall c_bar_of (raCons (rTup (raCons (rC (.str "parts")) raNil)) raNil)) (rC .non)) (rOp2 oIsN (rCallK c_bar_of [.k 0] raNil (raCons (rTup (raCons (rC (.str "rests")) (raCons (rC (.int 2)) raNil))) raNil)) (rC .non)))))))))
def T_law (c__law_deck : FnC) (c__law_m : FnC) (c__law_right : FnC) (c_bar_of : FnC) : Tab := ⟨[("_law_deck", E__law_deck c__law_deck), ("_law_m", E__law_m c__law_m), ("_law_right", E__law_right c__law_right), ("bar_of", E_bar_of c_bar_of)], [], ["range"]⟩
def orc_law : List ((Nat × Nat × Nat) × Nat) := [((75, 16, 18), 1)]
theorem hB_law (c__law_deck : FnC) (c__law_m : FnC) (c__law_right : FnC) (c_bar_of : FnC) : compB (compS 30 30 ⟨T_law c__law_deck c__law_m c__law_right c_bar_of, defScope st_law, N_law, fun _ => true, orc_law⟩) (defBody st_law) = some (B_law c__law_deck c__law_m c__law_right c_bar_of) := by kernel_rfl
def d__law_deck : He.DefD := ⟨("_law_deck", none), "_law_deck", "_law_deck", defArgs st__law_deck, defBody st__law_deck, defScope st__law_deck, [], []⟩
abbrev F__law_deck (K : PySem.W.Frag) (f : Addr) (fd : FuncData) : Prop := FunD K "_law_deck" "_law_deck" (defArgs st__law_deck) (defBody st__law_deck) (defScope st__law_deck) [] [] f fd
theorem bnd__law_deck_0 {K : PySem.W.Frag} {mg : Str → Option Value} {f : Addr} {fd : FuncData} (F : F__law_deck K f fd) : Bnd K mg fd ps__law_deck 1 [] [.p 0] :=
  bnd0 F fun _ _ _ _ _ _ us ws h1 h2 => match us, ws, h1, h2 with | [a0], [], _, _ => ⟨[a0], rfl, (.p rfl .nil)⟩
def d__law_draw : He.DefD := ⟨("_law_draw", none), "_law_draw", "_law_draw", defArgs st__law_draw, defBody st__law_draw, defScope st__law_draw, [], []⟩
abbrev F__law_draw (K : PySem.W.Frag) (f : Addr) (fd : FuncData) : Prop := FunD K "_law_draw" "_law_draw" (defArgs st__law_draw) (defBody st__law_draw) (defScope st__law_draw) [] [] f fd
theorem bnd__law_draw_0 {K : PySem.W.Frag} {mg : Str → Option Value} {f : Addr} {fd : FuncData} (F : F__law_draw K f fd) : Bnd K mg fd ps__law_draw 2 [] [.p 0, .p 1] :=
  bnd0 F fun _ _ _ _ _ _ us ws h1 h2 => match us, ws, h1, h2 with | [a0, a1], [], _, _ => ⟨[a0, a1], rfl, (.p rfl (.p rfl .nil))⟩
def d__law_pick : He.DefD := ⟨("_law_pick", none), "_law_pick", "_law_pick", defArgs st__law_pick, defBody st__law_pick, defScope st__law_pick, [], []⟩
abbrev F__law_pick (K : PySem.W.Frag) (f : Addr) (fd : FuncData) : Prop := FunD K "_law_pick" "_law_pick" (defArgs st__law_pick) (defBody st__law_pick) (defScope st__law_pick) [] [] f fd
theorem bnd__law_pick_0 {K : PySem.W.Frag} {mg : Str → Option Value} {f : Addr} {fd : FuncData} (F : F__law_pick K f fd) : Bnd K mg fd ps__law_pick 2 [] [.p 0, .p 1] :=
  bnd0 F fun _ _ _ _ _ _ us ws h1 h2 => match us, ws, h1, h2 with | [a0, a1], [], _, _ => ⟨[a0, a1], rfl, (.p rfl (.p rfl .nil))⟩
def d__law_m : He.DefD := ⟨("_law_m", none), "_law_m", "_law_m", defArgs st__law_m, defBody st__law_m, defScope st__law_m, [], []⟩
abbrev F__law_m (K : PySem.W.Frag) (f : Addr) (fd : FuncData) : Prop := FunD K "_law_m" "_law_m" (defArgs st__law_m) (defBody st__law_m) (defScope st__law_m) [] [] f fd
theorem bnd__law_m_0 {K : PySem.W.Frag} {mg : Str → Option Value} {f : Addr} {fd : FuncData} (F : F__law_m K f fd) : Bnd K mg fd ps__law_m 1 [] [.p 0] :=
  bnd0 F fun _ _ _ _ _ _ us ws h1 h2 => match us, ws, h1, h2 with | [a0], [], _, _ => ⟨[a0], rfl, (.p rfl .nil)⟩
def d__law_least : He.DefD := ⟨("_law_least", none), "_law_least", "_law_least", defArgs st__law_least, defBody st__law_least, defScope st__law_least, [], []⟩
abbrev F__law_least (K : PySem.W.Frag) (f : Addr) (fd : FuncData) : Prop := FunD K "_law_least" "_law_least" (defArgs st__law_least) (defBody st__law_least) (defScope st__law_least) [] [] f fd
theorem bnd__law_least_0 {K : PySem.W.Frag} {mg : Str → Option Value} {f : Addr} {fd : FuncData} (F : F__law_least K f fd) : Bnd K mg fd ps__law_least 1 [] [.p 0] :=
  bnd0 F fun _ _ _ _ _ _ us ws h1 h2 => match us, ws, h1, h2 with | [a0], [], _, _ => ⟨[a0], rfl, (.p rfl .nil)⟩
def d_rests : He.DefD := ⟨("rests", none), "rests", "rests", defArgs st_rests, defBody st_rests, defScope st_rests, [], []⟩
abbrev F_rests (K : PySem.W.Frag) (f : Addr) (fd : FuncData) : Prop := FunD K "rests" "rests" (defArgs st_rests) (defBody st_rests) (defScope st_rests) [] [] f fd
theorem bnd_rests_0 {K : PySem.W.Frag} {mg : Str → Option Value} {f : Addr} {fd : FuncData} (F : F_rests K f fd) : Bnd K mg fd ps_rests 1 [] [.p 0] :=
  bnd0 F fun _ _ _ _ _ _ us ws h1 h2 => match us, ws, h1, h2 with | [a0], [], _, _ => ⟨[a0], rfl, (.p rfl .nil)⟩
def d_bar_of : He.DefD := ⟨("bar_of", none), "bar_of", "bar_of", defArgs st_bar_of, defBody st_bar_of, defScope st_bar_of, [], []⟩
abbrev F_bar_of (K : PySem.W.Frag) (f : Addr) (fd : FuncData) : Prop := FunD K "bar_of" "bar_of" (defArgs st_bar_of) (defBody st_bar_of) (defScope st_bar_of) [] [] f fd
theorem bnd_bar_of_0 {K : PySem.W.Frag} {mg : Str → Option Value} {f : Addr} {fd : FuncData} (F : F_bar_of K f fd) : Bnd K mg fd ps_bar_of 1 [] [.p 0] :=
  bnd0 F fun _ _ _ _ _ _ us ws h1 h2 => match us, ws, h1, h2 with | [a0], [], _, _ => ⟨[a0], rfl, (.p rfl .nil)⟩
theorem bnd_bar_of_1 {K : PySem.W.Frag} {mg : Str → Option Value} {f : Addr} {fd : FuncData} (F : F_bar_of K f fd) : Bnd K mg fd ps_bar_of 0 ["ring"] [.k 0] :=
  bnd0 F fun _ _ _ _ _ _ us ws h1 h2 => match us, ws, h1, h2 with | [], [b0], _, _ => ⟨[b0], rfl, (.k rfl .nil)⟩
def d_divisor_of : He.DefD := ⟨("divisor_of", none), "divisor_of", "divisor_of", defArgs st_divisor_of, defBody st_divisor_of, defScope st_divisor_of, [], []⟩
abbrev F_divisor_of (K : PySem.W.Frag) (f : Addr) (fd : FuncData) : Prop := FunD K "divisor_of" "divisor_of" (defArgs st_divisor_of) (defBody st_divisor_of) (defScope st_divisor_of) [] [] f fd
theorem bnd_divisor_of_0 {K : PySem.W.Frag} {mg : Str → Option Value} {f : Addr} {fd : FuncData} (F : F_divisor_of K f fd) : Bnd K mg fd ps_divisor_of 2 [] [.p 0, .p 1] :=
  bnd0 F fun _ _ _ _ _ _ us ws h1 h2 => match us, ws, h1, h2 with | [a0, a1], [], _, _ => ⟨[a0, a1], rfl, (.p rfl (.p rfl .nil))⟩
def d_in_lowest : He.DefD := ⟨("in_lowest", none), "in_lowest", "in_lowest", defArgs st_in_lowest, defBody st_in_lowest, defScope st_in_lowest, [], []⟩
abbrev F_in_lowest (K : PySem.W.Frag) (f : Addr) (fd : FuncData) : Prop := FunD K "in_lowest" "in_lowest" (defArgs st_in_lowest) (defBody st_in_lowest) (defScope st_in_lowest) [] [] f fd
theorem bnd_in_lowest_0 {K : PySem.W.Frag} {mg : Str → Option Value} {f : Addr} {fd : FuncData} (F : F_in_lowest K f fd) : Bnd K mg fd ps_in_lowest 2 [] [.p 0, .p 1] :=
  bnd0 F fun _ _ _ _ _ _ us ws h1 h2 => match us, ws, h1, h2 with | [a0, a1], [], _, _ => ⟨[a0, a1], rfl, (.p rfl (.p rfl .nil))⟩
def d_multiplied : He.DefD := ⟨("multiplied", none), "multiplied", "multiplied", defArgs st_multiplied, defBody st_multiplied, defScope st_multiplied, [], []⟩
abbrev F_multiplied (K : PySem.W.Frag) (f : Addr) (fd : FuncData) : Prop := FunD K "multiplied" "multiplied" (defArgs st_multiplied) (defBody st_multiplied) (defScope st_multiplied) [] [] f fd
theorem bnd_multiplied_0 {K : PySem.W.Frag} {mg : Str → Option Value} {f : Addr} {fd : FuncData} (F : F_multiplied K f fd) : Bnd K mg fd ps_multiplied 3 [] [.p 0, .p 1, .p 2] :=
  bnd0 F fun _ _ _ _ _ _ us ws h1 h2 => match us, ws, h1, h2 with | [a0, a1, a2], [], _, _ => ⟨[a0, a1, a2], rfl, (.p rfl (.p rfl (.p rfl .nil)))⟩
def d__law_is_gone : He.DefD := ⟨("_law_is_gone", none), "_law_is_gone", "_law_is_gone", defArgs st__law_is_gone, defBody st__law_is_gone, defScope st__law_is_gone, [], []⟩
abbrev F__law_is_gone (K : PySem.W.Frag) (f : Addr) (fd : FuncData) : Prop := FunD K "_law_is_gone" "_law_is_gone" (defArgs st__law_is_gone) (defBody st__law_is_gone) (defScope st__law_is_gone) [] [] f fd
theorem bnd__law_is_gone_0 {K : PySem.W.Frag} {mg : Str → Option Value} {f : Addr} {fd : FuncData} (F : F__law_is_gone K f fd) : Bnd K mg fd ps__law_is_gone 2 [] [.p 0, .p 1] :=
  bnd0 F fun _ _ _ _ _ _ us ws h1 h2 => match us, ws, h1, h2 with | [a0, a1], [], _, _ => ⟨[a0, a1], rfl, (.p rfl (.p rfl .nil))⟩
def d__law_right : He.DefD := ⟨("_law_right", none), "_law_right", "_law_right", defArgs st__law_right, defBody st__law_right, defScope st__law_right, [], []⟩
abbrev F__law_right (K : PySem.W.Frag) (f : Addr) (fd : FuncData) : Prop := FunD K "_law_right" "_law_right" (defArgs st__law_right) (defBody st__law_right) (defScope st__law_right) [] [] f fd
theorem bnd__law_right_0 {K : PySem.W.Frag} {mg : Str → Option Value} {f : Addr} {fd : FuncData} (F : F__law_right K f fd) : Bnd K mg fd ps__law_right 1 [] [.p 0] :=
  bnd0 F fun _ _ _ _ _ _ us ws h1 h2 => match us, ws, h1, h2 with | [a0], [], _, _ => ⟨[a0], rfl, (.p rfl .nil)⟩
def d_law : He.DefD := ⟨("law", none), "law", "law", defArgs st_law, defBody st_law, defScope st_law, [], []⟩
abbrev F_law (K : PySem.W.Frag) (f : Addr) (fd : FuncData) : Prop := FunD K "law" "law" (defArgs st_law) (defBody st_law) (defScope st_law) [] [] f fd
end K03

namespace K03
open PySem PySem.Spec PyProof.Rows L2 PL
theorem runs_deck : Runs N__law_deck.length B__law_deck c_deck := fun ds m K E h => by
  obtain ⟨ns, rfl, rfl, hK⟩ := h
  unfold B__law_deck
  repeat (first | (with_reducible first | refine seq_i ?_ | refine asg_i ?_ | refine c_i ?_ | refine op2_i ?_ | refine gname_i ?_ | refine cons_i ?_ | refine nil_i ?_ | refine add_i ?_ | refine sub_i ?_ | refine lt_i ?_ | refine le_i ?_ | refine gt_i ?_ | refine ge_i ?_ | refine eq_i ?_ | refine ne_i ?_ | refine onBl_i ?_ | refine tB_i ?_ | refine sif_i ?_ | refine rif_i ?_ | refine call_i ?_ | refine callK_i ?_ | refine ret_i ?_ | refine tup_i ?_ | refine lst_i ?_ | refine lstN_i ?_ | refine opN_i ?_ | refine f_i ?_ | refine fN_i ?_ | refine op1_i ?_ | refine neg_i ?_ | refine drop_i ?_ | refine mtd_i ?_ | refine tNot_i ?_ | refine tAnd_i ?_ | refine tOr_i ?_ | refine tYes_i ?_ | refine and_i ?_ | refine or_i ?_ | refine not_i ?_ | refine for_i ?_ | refine iseq_i ?_ | refine range1_i ?_ | refine range2_i ?_ | refine rcomp_i ?_ | refine rcompN_i ?_ | refine par_i ?_ | refine addA_i ?_ | refine gcons_i ?_ | refine gnil_i ?_ | refine dict_i ?_ | refine dget_i ?_ | refine din_i ?_ | refine dnotin_i ?_ | refine dput_i ?_ | refine setItem_i ?_ | refine oNone_i ?_ | refine oSome_i ?_ | refine onO_i ?_ | refine slice_i ?_ | refine sliceN_i ?_ | refine onSl_tup ?_ | refine onSl_old ?_ | refine onSl_lst ?_ | refine max2_i ?_ | refine min2_i ?_ | refine abs_i ?_ | refine eqS_i ?_ | refine neS_i ?_ | refine eqB_i ?_ | refine retN_i ?_ | refine skip_i ?_ | refine isN_i ?_ | refine isNI_i ?_ | refine isNT_i ?_ | refine isNS_i ?_ | refine chain_i ?_ | refine onB3_i ?_ | refine asg2_i ?_) | ((with_reducible apply var_i); exact rfl) | ((with_reducible apply seqE_i); exact rfl) | ((with_reducible apply srcE_i); exact rfl) | ((with_reducible apply list_i); exact rfl) | ((with_reducible apply rev_i); exact rfl) | ((with_reducible apply tuple_i); exact rfl) | ((with_reducible apply len_i); exact rfl) | ((with_reducible apply ix_i); exact rfl; exact rfl) | ((with_reducible apply aug_i); exact rfl) | ((with_reducible apply gtup_i); exact rfl))
  rw [cut63]
  refine comp_inv (fun i acc m' => m' = [Cell.lst ((ns.take 63).map D.int).reverse] ∧ ∃ l : List Int, acc = l.map D.int ∧ l.length = i) (fun i acc m _ _ => rfl) (fun i x acc m N hx hI hN => ?_) ⟨rfl, [], rfl, rfl⟩ fun acc m hI => ?_
  · obtain ⟨rfl, l, rfl, hl⟩ := hI
    rw [List.getElem?_map] at hx
    obtain ⟨z, hz, rfl⟩ := Option.map_eq_some_iff.mp hx
    have hi := (List.getElem?_eq_some_iff.mp hz).1
    rw [List.length_take] at hi
    repeat (first | (with_reducible first | refine seq_i ?_ | refine asg_i ?_ | refine c_i ?_ | refine op2_i ?_ | refine gname_i ?_ | refine cons_i ?_ | refine nil_i ?_ | refine add_i ?_ | refine sub_i ?_ | refine lt_i ?_ | refine le_i ?_ | refine gt_i ?_ | refine ge_i ?_ | refine eq_i ?_ | refine ne_i ?_ | refine onBl_i ?_ | refine tB_i ?_ | refine sif_i ?_ | refine rif_i ?_ | refine call_i ?_ | refine callK_i ?_ | refine ret_i ?_ | refine tup_i ?_ | refine lst_i ?_ | refine lstN_i ?_ | refine opN_i ?_ | refine f_i ?_ | refine fN_i ?_ | refine op1_i ?_ | refine neg_i ?_ | refine drop_i ?_ | refine mtd_i ?_ | refine tNot_i ?_ | refine tAnd_i ?_ | refine tOr_i ?_ | refine tYes_i ?_ | refine and_i ?_ | refine or_i ?_ | refine not_i ?_ | refine for_i ?_ | refine iseq_i ?_ | refine range1_i ?_ | refine range2_i ?_ | refine rcomp_i ?_ | refine rcompN_i ?_ | refine par_i ?_ | refine addA_i ?_ | refine gcons_i ?_ | refine gnil_i ?_ | refine dict_i ?_ | refine dget_i ?_ | refine din_i ?_ | refine dnotin_i ?_ | refine dput_i ?_ | refine setItem_i ?_ | refine oNone_i ?_ | refine oSome_i ?_ | refine onO_i ?_ | refine slice_i ?_ | refine sliceN_i ?_ | refine onSl_tup ?_ | refine onSl_old ?_ | refine onSl_lst ?_ | refine max2_i ?_ | refine min2_i ?_ | refine abs_i ?_ | refine eqS_i ?_ | refine neS_i ?_ | refine eqB_i ?_ | refine retN_i ?_ | refine skip_i ?_ | refine isN_i ?_ | refine isNI_i ?_ | refine isNT_i ?_ | refine isNS_i ?_ | refine chain_i ?_ | refine onB3_i ?_ | refine asg2_i ?_) | ((with_reducible apply var_i); exact rfl) | ((with_reducible apply seqE_i); exact rfl) | ((with_reducible apply srcE_i); exact rfl) | ((with_reducible apply list_i); exact rfl) | ((with_reducible apply rev_i); exact rfl) | ((with_reducible apply tuple_i); exact rfl) | ((with_reducible apply len_i); exact rfl) | ((with_reducible apply ix_i); exact rfl; exact rfl) | ((with_reducible apply aug_i); exact rfl) | ((with_reducible apply gtup_i); exact rfl))
    refine iteB_i (fun _ => ?_) fun h => nomatch h
    repeat (first | (with_reducible first | refine seq_i ?_ | refine asg_i ?_ | refine c_i ?_ | refine op2_i ?_ | refine gname_i ?_ | refine cons_i ?_ | refine nil_i ?_ | refine add_i ?_ | refine sub_i ?_ | refine lt_i ?_ | refine le_i ?_ | refine gt_i ?_ | refine ge_i ?_ | refine eq_i ?_ | refine ne_i ?_ | refine onBl_i ?_ | refine tB_i ?_ | refine sif_i ?_ | refine rif_i ?_ | refine call_i ?_ | refine callK_i ?_ | refine ret_i ?_ | refine tup_i ?_ | refine lst_i ?_ | refine lstN_i ?_ | refine opN_i ?_ | refine f_i ?_ | refine fN_i ?_ | refine op1_i ?_ | refine neg_i ?_ | refine drop_i ?_ | refine mtd_i ?_ | refine tNot_i ?_ | refine tAnd_i ?_ | refine tOr_i ?_ | refine tYes_i ?_ | refine and_i ?_ | refine or_i ?_ | refine not_i ?_ | refine for_i ?_ | refine iseq_i ?_ | refine range1_i ?_ | refine range2_i ?_ | refine rcomp_i ?_ | refine rcompN_i ?_ | refine par_i ?_ | refine addA_i ?_ | refine gcons_i ?_ | refine gnil_i ?_ | refine dict_i ?_ | refine dget_i ?_ | refine din_i ?_ | refine dnotin_i ?_ | refine dput_i ?_ | refine setItem_i ?_ | refine oNone_i ?_ | refine oSome_i ?_ | refine onO_i ?_ | refine slice_i ?_ | refine sliceN_i ?_ | refine onSl_tup ?_ | refine onSl_old ?_ | refine onSl_lst ?_ | refine max2_i ?_ | refine min2_i ?_ | refine abs_i ?_ | refine eqS_i ?_ | refine neS_i ?_ | refine eqB_i ?_ | refine retN_i ?_ | refine skip_i ?_ | refine isN_i ?_ | refine isNI_i ?_ | refine isNT_i ?_ | refine isNS_i ?_ | refine chain_i ?_ | refine onB3_i ?_ | refine asg2_i ?_) | ((with_reducible apply var_i); exact rfl) | ((with_reducible apply seqE_i); exact rfl) | ((with_reducible apply srcE_i); exact rfl) | ((with_reducible apply list_i); exact rfl) | ((with_reducible apply rev_i); exact rfl) | ((with_reducible apply tuple_i); exact rfl) | ((with_reducible apply len_i); exact rfl) | ((with_reducible apply ix_i); exact rfl; exact rfl) | ((with_reducible apply aug_i); exact rfl) | ((with_reducible apply gtup_i); exact rfl))
    refine mod_i (by decide) ⟨by rw [List.length_map]; omega, hN _ _ ⟨rfl, l ++ [z.fmod 1000003], by simp, by simp [hl]⟩⟩
  · obtain ⟨rfl, l, rfl, hl⟩ := hI
    repeat (first | (with_reducible first | refine seq_i ?_ | refine asg_i ?_ | refine c_i ?_ | refine op2_i ?_ | refine gname_i ?_ | refine cons_i ?_ | refine nil_i ?_ | refine add_i ?_ | refine sub_i ?_ | refine lt_i ?_ | refine le_i ?_ | refine gt_i ?_ | refine ge_i ?_ | refine eq_i ?_ | refine ne_i ?_ | refine onBl_i ?_ | refine tB_i ?_ | refine sif_i ?_ | refine rif_i ?_ | refine call_i ?_ | refine callK_i ?_ | refine ret_i ?_ | refine tup_i ?_ | refine lst_i ?_ | refine lstN_i ?_ | refine opN_i ?_ | refine f_i ?_ | refine fN_i ?_ | refine op1_i ?_ | refine neg_i ?_ | refine drop_i ?_ | refine mtd_i ?_ | refine tNot_i ?_ | refine tAnd_i ?_ | refine tOr_i ?_ | refine tYes_i ?_ | refine and_i ?_ | refine or_i ?_ | refine not_i ?_ | refine for_i ?_ | refine iseq_i ?_ | refine range1_i ?_ | refine range2_i ?_ | refine rcomp_i ?_ | refine rcompN_i ?_ | refine par_i ?_ | refine addA_i ?_ | refine gcons_i ?_ | refine gnil_i ?_ | refine dict_i ?_ | refine dget_i ?_ | refine din_i ?_ | refine dnotin_i ?_ | refine dput_i ?_ | refine setItem_i ?_ | refine oNone_i ?_ | refine oSome_i ?_ | refine onO_i ?_ | refine slice_i ?_ | refine sliceN_i ?_ | refine onSl_tup ?_ | refine onSl_old ?_ | refine onSl_lst ?_ | refine max2_i ?_ | refine min2_i ?_ | refine abs_i ?_ | refine eqS_i ?_ | refine neS_i ?_ | refine eqB_i ?_ | refine retN_i ?_ | refine skip_i ?_ | refine isN_i ?_ | refine isNI_i ?_ | refine isNT_i ?_ | refine isNS_i ?_ | refine chain_i ?_ | refine onB3_i ?_ | refine asg2_i ?_) | ((with_reducible apply var_i); exact rfl) | ((with_reducible apply seqE_i); exact rfl) | ((with_reducible apply srcE_i); exact rfl) | ((with_reducible apply list_i); exact rfl) | ((with_reducible apply rev_i); exact rfl) | ((with_reducible apply tuple_i); exact rfl) | ((with_reducible apply len_i); exact rfl) | ((with_reducible apply ix_i); exact rfl; exact rfl) | ((with_reducible apply aug_i); exact rfl) | ((with_reducible apply gtup_i); exact rfl))
    refine sum_i rfl (intsD_map l) ?_
    repeat (first | (with_reducible first | refine seq_i ?_ | refine asg_i ?_ | refine c_i ?_ | refine op2_i ?_ | refine gname_i ?_ | refine cons_i ?_ | refine nil_i ?_ | refine add_i ?_ | refine sub_i ?_ | refine lt_i ?_ | refine le_i ?_ | refine gt_i ?_ | refine ge_i ?_ | refine eq_i ?_ | refine ne_i ?_ | refine onBl_i ?_ | refine tB_i ?_ | refine sif_i ?_ | refine rif_i ?_ | refine call_i ?_ | refine callK_i ?_ | refine ret_i ?_ | refine tup_i ?_ | refine lst_i ?_ | refine lstN_i ?_ | refine opN_i ?_ | refine f_i ?_ | refine fN_i ?_ | refine op1_i ?_ | refine neg_i ?_ | refine drop_i ?_ | refine mtd_i ?_ | refine tNot_i ?_ | refine tAnd_i ?_ | refine tOr_i ?_ | refine tYes_i ?_ | refine and_i ?_ | refine or_i ?_ | refine not_i ?_ | refine for_i ?_ | refine iseq_i ?_ | refine range1_i ?_ | refine range2_i ?_ | refine rcomp_i ?_ | refine rcompN_i ?_ | refine par_i ?_ | refine addA_i ?_ | refine gcons_i ?_ | refine gnil_i ?_ | refine dict_i ?_ | refine dget_i ?_ | refine din_i ?_ | refine dnotin_i ?_ | refine dput_i ?_ | refine setItem_i ?_ | refine oNone_i ?_ | refine oSome_i ?_ | refine onO_i ?_ | refine slice_i ?_ | refine sliceN_i ?_ | refine onSl_tup ?_ | refine onSl_old ?_ | refine onSl_lst ?_ | refine max2_i ?_ | refine min2_i ?_ | refine abs_i ?_ | refine eqS_i ?_ | refine neS_i ?_ | refine eqB_i ?_ | refine retN_i ?_ | refine skip_i ?_ | refine isN_i ?_ | refine isNI_i ?_ | refine isNT_i ?_ | refine isNS_i ?_ | refine chain_i ?_ | refine onB3_i ?_ | refine asg2_i ?_) | ((with_reducible apply var_i); exact rfl) | ((with_reducible apply seqE_i); exact rfl) | ((with_reducible apply srcE_i); exact rfl) | ((with_reducible apply list_i); exact rfl) | ((with_reducible apply rev_i); exact rfl) | ((with_reducible apply tuple_i); exact rfl) | ((with_reducible apply len_i); exact rfl) | ((with_reducible apply ix_i); exact rfl; exact rfl) | ((with_reducible apply aug_i); exact rfl) | ((with_reducible apply gtup_i); exact rfl))
    rw [cut63, List.length_map]
    refine mul_i (mulw (by decide) (by decide)) ?_
    repeat (first | (with_reducible first | refine seq_i ?_ | refine asg_i ?_ | refine c_i ?_ | refine op2_i ?_ | refine gname_i ?_ | refine cons_i ?_ | refine nil_i ?_ | refine add_i ?_ | refine sub_i ?_ | refine lt_i ?_ | refine le_i ?_ | refine gt_i ?_ | refine ge_i ?_ | refine eq_i ?_ | refine ne_i ?_ | refine onBl_i ?_ | refine tB_i ?_ | refine sif_i ?_ | refine rif_i ?_ | refine call_i ?_ | refine callK_i ?_ | refine ret_i ?_ | refine tup_i ?_ | refine lst_i ?_ | refine lstN_i ?_ | refine opN_i ?_ | refine f_i ?_ | refine fN_i ?_ | refine op1_i ?_ | refine neg_i ?_ | refine drop_i ?_ | refine mtd_i ?_ | refine tNot_i ?_ | refine tAnd_i ?_ | refine tOr_i ?_ | refine tYes_i ?_ | refine and_i ?_ | refine or_i ?_ | refine not_i ?_ | refine for_i ?_ | refine iseq_i ?_ | refine range1_i ?_ | refine range2_i ?_ | refine rcomp_i ?_ | refine rcompN_i ?_ | refine par_i ?_ | refine addA_i ?_ | refine gcons_i ?_ | refine gnil_i ?_ | refine dict_i ?_ | refine dget_i ?_ | refine din_i ?_ | refine dnotin_i ?_ | refine dput_i ?_ | refine setItem_i ?_ | refine oNone_i ?_ | refine oSome_i ?_ | refine onO_i ?_ | refine slice_i ?_ | refine sliceN_i ?_ | refine onSl_tup ?_ | refine onSl_old ?_ | refine onSl_lst ?_ | refine max2_i ?_ | refine min2_i ?_ | refine abs_i ?_ | refine eqS_i ?_ | refine neS_i ?_ | refine eqB_i ?_ | refine retN_i ?_ | refine skip_i ?_ | refine isN_i ?_ | refine isNI_i ?_ | refine isNT_i ?_ | refine isNS_i ?_ | refine chain_i ?_ | refine onB3_i ?_ | refine asg2_i ?_) | ((with_reducible apply var_i); exact rfl) | ((with_reducible apply seqE_i); exact rfl) | ((with_reducible apply srcE_i); exact rfl) | ((with_reducible apply list_i); exact rfl) | ((with_reducible apply rev_i); exact rfl) | ((with_reducible apply tuple_i); exact rfl) | ((with_reducible apply len_i); exact rfl) | ((with_reducible apply ix_i); exact rfl; exact rfl) | ((with_reducible apply aug_i); exact rfl) | ((with_reducible apply gtup_i); exact rfl))
    refine outK_same ?_
    rw [← List.map_reverse]
    exact hK _ _ (by rw [List.length_reverse, List.length_take]; omega)
theorem runs_draw : Runs N__law_draw.length B__law_draw c_draw := fun ds m K E h => by
  obtain ⟨n, j, most, rfl, ⟨hnj, l, s, t, hl, hj, hn⟩, h1, h2, hK⟩ := h
  unfold B__law_draw
  refine seq_i ?_
  repeat (first | (with_reducible first | refine seq_i ?_ | refine asg_i ?_ | refine c_i ?_ | refine op2_i ?_ | refine gname_i ?_ | refine cons_i ?_ | refine nil_i ?_ | refine add_i ?_ | refine sub_i ?_ | refine lt_i ?_ | refine le_i ?_ | refine gt_i ?_ | refine ge_i ?_ | refine eq_i ?_ | refine ne_i ?_ | refine onBl_i ?_ | refine tB_i ?_ | refine sif_i ?_ | refine rif_i ?_ | refine call_i ?_ | refine callK_i ?_ | refine ret_i ?_ | refine tup_i ?_ | refine lst_i ?_ | refine lstN_i ?_ | refine opN_i ?_ | refine f_i ?_ | refine fN_i ?_ | refine op1_i ?_ | refine neg_i ?_ | refine drop_i ?_ | refine mtd_i ?_ | refine tNot_i ?_ | refine tAnd_i ?_ | refine tOr_i ?_ | refine tYes_i ?_ | refine and_i ?_ | refine or_i ?_ | refine not_i ?_ | refine for_i ?_ | refine iseq_i ?_ | refine range1_i ?_ | refine range2_i ?_ | refine rcomp_i ?_ | refine rcompN_i ?_ | refine par_i ?_ | refine addA_i ?_ | refine gcons_i ?_ | refine gnil_i ?_ | refine dict_i ?_ | refine dget_i ?_ | refine din_i ?_ | refine dnotin_i ?_ | refine dput_i ?_ | refine setItem_i ?_ | refine oNone_i ?_ | refine oSome_i ?_ | refine onO_i ?_ | refine slice_i ?_ | refine sliceN_i ?_ | refine onSl_tup ?_ | refine onSl_old ?_ | refine onSl_lst ?_ | refine max2_i ?_ | refine min2_i ?_ | refine abs_i ?_ | refine eqS_i ?_ | refine neS_i ?_ | refine eqB_i ?_ | refine retN_i ?_ | refine skip_i ?_ | refine isN_i ?_ | refine isNI_i ?_ | refine isNT_i ?_ | refine isNS_i ?_ | refine chain_i ?_ | refine onB3_i ?_ | refine asg2_i ?_) | ((with_reducible apply var_i); exact rfl) | ((with_reducible apply seqE_i); exact rfl) | ((with_reducible apply srcE_i); exact rfl) | ((with_reducible apply list_i); exact rfl) | ((with_reducible apply rev_i); exact rfl) | ((with_reducible apply tuple_i); exact rfl) | ((with_reducible apply len_i); exact rfl) | ((with_reducible apply ix_i); exact rfl; exact rfl) | ((with_reducible apply aug_i); exact rfl) | ((with_reducible apply gtup_i); exact rfl))
  refine ix_i (seq_cell hn) rfl ?_
  repeat (first | (with_reducible first | refine seq_i ?_ | refine asg_i ?_ | refine c_i ?_ | refine op2_i ?_ | refine gname_i ?_ | refine cons_i ?_ | refine nil_i ?_ | refine add_i ?_ | refine sub_i ?_ | refine lt_i ?_ | refine le_i ?_ | refine gt_i ?_ | refine ge_i ?_ | refine eq_i ?_ | refine ne_i ?_ | refine onBl_i ?_ | refine tB_i ?_ | refine sif_i ?_ | refine rif_i ?_ | refine call_i ?_ | refine callK_i ?_ | refine ret_i ?_ | refine tup_i ?_ | refine lst_i ?_ | refine lstN_i ?_ | refine opN_i ?_ | refine f_i ?_ | refine fN_i ?_ | refine op1_i ?_ | refine neg_i ?_ | refine drop_i ?_ | refine mtd_i ?_ | refine tNot_i ?_ | refine tAnd_i ?_ | refine tOr_i ?_ | refine tYes_i ?_ | refine and_i ?_ | refine or_i ?_ | refine not_i ?_ | refine for_i ?_ | refine iseq_i ?_ | refine range1_i ?_ | refine range2_i ?_ | refine rcomp_i ?_ | refine rcompN_i ?_ | refine par_i ?_ | refine addA_i ?_ | refine gcons_i ?_ | refine gnil_i ?_ | refine dict_i ?_ | refine dget_i ?_ | refine din_i ?_ | refine dnotin_i ?_ | refine dput_i ?_ | refine setItem_i ?_ | refine oNone_i ?_ | refine oSome_i ?_ | refine onO_i ?_ | refine slice_i ?_ | refine sliceN_i ?_ | refine onSl_tup ?_ | refine onSl_old ?_ | refine onSl_lst ?_ | refine max2_i ?_ | refine min2_i ?_ | refine abs_i ?_ | refine eqS_i ?_ | refine neS_i ?_ | refine eqB_i ?_ | refine retN_i ?_ | refine skip_i ?_ | refine isN_i ?_ | refine isNI_i ?_ | refine isNT_i ?_ | refine isNS_i ?_ | refine chain_i ?_ | refine onB3_i ?_ | refine asg2_i ?_) | ((with_reducible apply var_i); exact rfl) | ((with_reducible apply seqE_i); exact rfl) | ((with_reducible apply srcE_i); exact rfl) | ((with_reducible apply list_i); exact rfl) | ((with_reducible apply rev_i); exact rfl) | ((with_reducible apply tuple_i); exact rfl) | ((with_reducible apply len_i); exact rfl) | ((with_reducible apply ix_i); exact rfl; exact rfl) | ((with_reducible apply aug_i); exact rfl) | ((with_reducible apply gtup_i); exact rfl))
  refine ⟨n, _, 2, 2, rfl, rfl, hn, rfl, ?_⟩
  have hn' : (m.set n (.lst [.cell j, .int s, .int (t + 1)]))[n]? = some (.lst [.cell j, .int s, .int (t + 1)]) := set_same (get_lt hn)
  have hj' : (m.set n (.lst [.cell j, .int s, .int (t + 1)]))[j]? = some (.lst (l.map D.int)) := (set_other hnj).trans hj
  have sb : SameBut m (m.set n (.lst [.cell j, .int s, .int (t + 1)])) n j := ⟨List.length_set, fun i a b => set_other fun e => a e.symm⟩
  show sSeq _ _ _ (m.set n (.lst [.cell j, .int s, .int (t + 1)])) _
  generalize m.set n (.lst [.cell j, .int s, .int (t + 1)]) = m1 at hn' hj' sb ⊢
  -- what is told where no cell is used up
  have tail : ∀ (c : Int) (m2 : Mem) (e : Lo) (y : Option D), Deck m2 n j → SameBut m m2 n j → (∃ s' t', m2[n]? = some (.lst [.cell j, .int s', .int t'])) → e = [some (.cell n), some (.int most), some (.int c), y] →
      (sSeq (sAsg (rOp2 oMod (rOp2 oMul (rOp2 oAdd (rOp2 oAdd (rOp2 oMod (rVar 2) (rC (.int 2147483629))) (rOp2 oMul (rC (.int 65537)) (rOp2 oIx (rVar 0) (rC (.int 2))))) (rC (.int 7))) (rC (.int 48271))) (rC (.int 2147483647))) (gName 3))
    (sSeq (sAsg (rOp2 oMod (rOp2 oAdd (rOp2 oAdd (rOp2 oMul (rVar 3) (rVar 3)) (rOp2 oMul (rC (.int 69621)) (rOp2 oIx (rVar 0) (rC (.int 2))))) (rC (.int 19))) (rC (.int 2147483587))) (gName 3))
    (sRet (rOp2 oMod (rOp2 oDiv (rOp2 oMod (rOp2 oAdd (rOp2 oMul (rVar 3) (rVar 3)) (rC (.int 39373))) (rC (.int 2147483563))) (rC (.int 64))) (rVar 1))))) e m2 ⟨fun _ m1 => outK m K .non m1, outK m K, fun x _ m1 => outE m E x m1⟩ := by
    rintro c m2 e y dk sb2 ⟨s', t', hd⟩ rfl
    repeat (first | (with_reducible first | refine seq_i ?_ | refine asg_i ?_ | refine c_i ?_ | refine op2_i ?_ | refine gname_i ?_ | refine cons_i ?_ | refine nil_i ?_ | refine add_i ?_ | refine sub_i ?_ | refine lt_i ?_ | refine le_i ?_ | refine gt_i ?_ | refine ge_i ?_ | refine eq_i ?_ | refine ne_i ?_ | refine onBl_i ?_ | refine tB_i ?_ | refine sif_i ?_ | refine rif_i ?_ | refine call_i ?_ | refine callK_i ?_ | refine ret_i ?_ | refine tup_i ?_ | refine lst_i ?_ | refine lstN_i ?_ | refine opN_i ?_ | refine f_i ?_ | refine fN_i ?_ | refine op1_i ?_ | refine neg_i ?_ | refine drop_i ?_ | refine mtd_i ?_ | refine tNot_i ?_ | refine tAnd_i ?_ | refine tOr_i ?_ | refine tYes_i ?_ | refine and_i ?_ | refine or_i ?_ | refine not_i ?_ | refine for_i ?_ | refine iseq_i ?_ | refine range1_i ?_ | refine range2_i ?_ | refine rcomp_i ?_ | refine rcompN_i ?_ | refine par_i ?_ | refine addA_i ?_ | refine gcons_i ?_ | refine gnil_i ?_ | refine dict_i ?_ | refine dget_i ?_ | refine din_i ?_ | refine dnotin_i ?_ | refine dput_i ?_ | refine setItem_i ?_ | refine oNone_i ?_ | refine oSome_i ?_ | refine onO_i ?_ | refine slice_i ?_ | refine sliceN_i ?_ | refine onSl_tup ?_ | refine onSl_old ?_ | refine onSl_lst ?_ | refine max2_i ?_ | refine min2_i ?_ | refine abs_i ?_ | refine eqS_i ?_ | refine neS_i ?_ | refine eqB_i ?_ | refine retN_i ?_ | refine skip_i ?_ | refine isN_i ?_ | refine isNI_i ?_ | refine isNT_i ?_ | refine isNS_i ?_ | refine chain_i ?_ | refine onB3_i ?_ | refine asg2_i ?_) | ((with_reducible apply var_i); exact rfl) | ((with_reducible apply seqE_i); exact rfl) | ((with_reducible apply srcE_i); exact rfl) | ((with_reducible apply list_i); exact rfl) | ((with_reducible apply rev_i); exact rfl) | ((with_reducible apply tuple_i); exact rfl) | ((with_reducible apply len_i); exact rfl) | ((with_reducible apply ix_i); exact rfl; exact rfl) | ((with_reducible apply aug_i); exact rfl) | ((with_reducible apply gtup_i); exact rfl))
    refine mod_i (by decide) ?_
    repeat (first | (with_reducible first | refine seq_i ?_ | refine asg_i ?_ | refine c_i ?_ | refine op2_i ?_ | refine gname_i ?_ | refine cons_i ?_ | refine nil_i ?_ | refine add_i ?_ | refine sub_i ?_ | refine lt_i ?_ | refine le_i ?_ | refine gt_i ?_ | refine ge_i ?_ | refine eq_i ?_ | refine ne_i ?_ | refine onBl_i ?_ | refine tB_i ?_ | refine sif_i ?_ | refine rif_i ?_ | refine call_i ?_ | refine callK_i ?_ | refine ret_i ?_ | refine tup_i ?_ | refine lst_i ?_ | refine lstN_i ?_ | refine opN_i ?_ | refine f_i ?_ | refine fN_i ?_ | refine op1_i ?_ | refine neg_i ?_ | refine drop_i ?_ | refine mtd_i ?_ | refine tNot_i ?_ | refine tAnd_i ?_ | refine tOr_i ?_ | refine tYes_i ?_ | refine and_i ?_ | refine or_i ?_ | refine not_i ?_ | refine for_i ?_ | refine iseq_i ?_ | refine range1_i ?_ | refine range2_i ?_ | refine rcomp_i ?_ | refine rcompN_i ?_ | refine par_i ?_ | refine addA_i ?_ | refine gcons_i ?_ | refine gnil_i ?_ | refine dict_i ?_ | refine dget_i ?_ | refine din_i ?_ | refine dnotin_i ?_ | refine dput_i ?_ | refine setItem_i ?_ | refine oNone_i ?_ | refine oSome_i ?_ | refine onO_i ?_ | refine slice_i ?_ | refine sliceN_i ?_ | refine onSl_tup ?_ | refine onSl_old ?_ | refine onSl_lst ?_ | refine max2_i ?_ | refine min2_i ?_ | refine abs_i ?_ | refine eqS_i ?_ | refine neS_i ?_ | refine eqB_i ?_ | refine retN_i ?_ | refine skip_i ?_ | refine isN_i ?_ | refine isNI_i ?_ | refine isNT_i ?_ | refine isNS_i ?_ | refine chain_i ?_ | refine onB3_i ?_ | refine asg2_i ?_) | ((with_reducible apply var_i); exact rfl) | ((with_reducible apply seqE_i); exact rfl) | ((with_reducible apply srcE_i); exact rfl) | ((with_reducible apply list_i); exact rfl) | ((with_reducible apply rev_i); exact rfl) | ((with_reducible apply tuple_i); exact rfl) | ((with_reducible apply len_i); exact rfl) | ((with_reducible apply ix_i); exact rfl; exact rfl) | ((with_reducible apply aug_i); exact rfl) | ((with_reducible apply gtup_i); exact rfl))
    refine ix_i (seq_cell hd) rfl ?_
    refine mul_i (mulw (by decide) (by decide)) ?_
    repeat (first | (with_reducible first | refine seq_i ?_ | refine asg_i ?_ | refine c_i ?_ | refine op2_i ?_ | refine gname_i ?_ | refine cons_i ?_ | refine nil_i ?_ | refine add_i ?_ | refine sub_i ?_ | refine lt_i ?_ | refine le_i ?_ | refine gt_i ?_ | refine ge_i ?_ | refine eq_i ?_ | refine ne_i ?_ | refine onBl_i ?_ | refine tB_i ?_ | refine sif_i ?_ | refine rif_i ?_ | refine call_i ?_ | refine callK_i ?_ | refine ret_i ?_ | refine tup_i ?_ | refine lst_i ?_ | refine lstN_i ?_ | refine opN_i ?_ | refine f_i ?_ | refine fN_i ?_ | refine op1_i ?_ | refine neg_i ?_ | refine drop_i ?_ | refine mtd_i ?_ | refine tNot_i ?_ | refine tAnd_i ?_ | refine tOr_i ?_ | refine tYes_i ?_ | refine and_i ?_ | refine or_i ?_ | refine not_i ?_ | refine for_i ?_ | refine iseq_i ?_ | refine range1_i ?_ | refine range2_i ?_ | refine rcomp_i ?_ | refine rcompN_i ?_ | refine par_i ?_ | refine addA_i ?_ | refine gcons_i ?_ | refine gnil_i ?_ | refine dict_i ?_ | refine dget_i ?_ | refine din_i ?_ | refine dnotin_i ?_ | refine dput_i ?_ | refine setItem_i ?_ | refine oNone_i ?_ | refine oSome_i ?_ | refine onO_i ?_ | refine slice_i ?_ | refine sliceN_i ?_ | refine onSl_tup ?_ | refine onSl_old ?_ | refine onSl_lst ?_ | refine max2_i ?_ | refine min2_i ?_ | refine abs_i ?_ | refine eqS_i ?_ | refine neS_i ?_ | refine eqB_i ?_ | refine retN_i ?_ | refine skip_i ?_ | refine isN_i ?_ | refine isNI_i ?_ | refine isNT_i ?_ | refine isNS_i ?_ | refine chain_i ?_ | refine onB3_i ?_ | refine asg2_i ?_) | ((with_reducible apply var_i); exact rfl) | ((with_reducible apply seqE_i); exact rfl) | ((with_reducible apply srcE_i); exact rfl) | ((with_reducible apply list_i); exact rfl) | ((with_reducible apply rev_i); exact rfl) | ((with_reducible apply tuple_i); exact rfl) | ((with_reducible apply len_i); exact rfl) | ((with_reducible apply ix_i); exact rfl; exact rfl) | ((with_reducible apply aug_i); exact rfl) | ((with_reducible apply gtup_i); exact rfl))
    refine mul_i (mulr (by decide) (by decide)) ?_
    repeat (first | (with_reducible first | refine seq_i ?_ | refine asg_i ?_ | refine c_i ?_ | refine op2_i ?_ | refine gname_i ?_ | refine cons_i ?_ | refine nil_i ?_ | refine add_i ?_ | refine sub_i ?_ | refine lt_i ?_ | refine le_i ?_ | refine gt_i ?_ | refine ge_i ?_ | refine eq_i ?_ | refine ne_i ?_ | refine onBl_i ?_ | refine tB_i ?_ | refine sif_i ?_ | refine rif_i ?_ | refine call_i ?_ | refine callK_i ?_ | refine ret_i ?_ | refine tup_i ?_ | refine lst_i ?_ | refine lstN_i ?_ | refine opN_i ?_ | refine f_i ?_ | refine fN_i ?_ | refine op1_i ?_ | refine neg_i ?_ | refine drop_i ?_ | refine mtd_i ?_ | refine tNot_i ?_ | refine tAnd_i ?_ | refine tOr_i ?_ | refine tYes_i ?_ | refine and_i ?_ | refine or_i ?_ | refine not_i ?_ | refine for_i ?_ | refine iseq_i ?_ | refine range1_i ?_ | refine range2_i ?_ | refine rcomp_i ?_ | refine rcompN_i ?_ | refine par_i ?_ | refine addA_i ?_ | refine gcons_i ?_ | refine gnil_i ?_ | refine dict_i ?_ | refine dget_i ?_ | refine din_i ?_ | refine dnotin_i ?_ | refine dput_i ?_ | refine setItem_i ?_ | refine oNone_i ?_ | refine oSome_i ?_ | refine onO_i ?_ | refine slice_i ?_ | refine sliceN_i ?_ | refine onSl_tup ?_ | refine onSl_old ?_ | refine onSl_lst ?_ | refine max2_i ?_ | refine min2_i ?_ | refine abs_i ?_ | refine eqS_i ?_ | refine neS_i ?_ | refine eqB_i ?_ | refine retN_i ?_ | refine skip_i ?_ | refine isN_i ?_ | refine isNI_i ?_ | refine isNT_i ?_ | refine isNS_i ?_ | refine chain_i ?_ | refine onB3_i ?_ | refine asg2_i ?_) | ((with_reducible apply var_i); exact rfl) | ((with_reducible apply seqE_i); exact rfl) | ((with_reducible apply srcE_i); exact rfl) | ((with_reducible apply list_i); exact rfl) | ((with_reducible apply rev_i); exact rfl) | ((with_reducible apply tuple_i); exact rfl) | ((with_reducible apply len_i); exact rfl) | ((with_reducible apply ix_i); exact rfl; exact rfl) | ((with_reducible apply aug_i); exact rfl) | ((with_reducible apply gtup_i); exact rfl))
    refine mod_i (by decide) ?_
    repeat (first | (with_reducible first | refine seq_i ?_ | refine asg_i ?_ | refine c_i ?_ | refine op2_i ?_ | refine gname_i ?_ | refine cons_i ?_ | refine nil_i ?_ | refine add_i ?_ | refine sub_i ?_ | refine lt_i ?_ | refine le_i ?_ | refine gt_i ?_ | refine ge_i ?_ | refine eq_i ?_ | refine ne_i ?_ | refine onBl_i ?_ | refine tB_i ?_ | refine sif_i ?_ | refine rif_i ?_ | refine call_i ?_ | refine callK_i ?_ | refine ret_i ?_ | refine tup_i ?_ | refine lst_i ?_ | refine lstN_i ?_ | refine opN_i ?_ | refine f_i ?_ | refine fN_i ?_ | refine op1_i ?_ | refine neg_i ?_ | refine drop_i ?_ | refine mtd_i ?_ | refine tNot_i ?_ | refine tAnd_i ?_ | refine tOr_i ?_ | refine tYes_i ?_ | refine and_i ?_ | refine or_i ?_ | refine not_i ?_ | refine for_i ?_ | refine iseq_i ?_ | refine range1_i ?_ | refine range2_i ?_ | refine rcomp_i ?_ | refine rcompN_i ?_ | refine par_i ?_ | refine addA_i ?_ | refine gcons_i ?_ | refine gnil_i ?_ | refine dict_i ?_ | refine dget_i ?_ | refine din_i ?_ | refine dnotin_i ?_ | refine dput_i ?_ | refine setItem_i ?_ | refine oNone_i ?_ | refine oSome_i ?_ | refine onO_i ?_ | refine slice_i ?_ | refine sliceN_i ?_ | refine onSl_tup ?_ | refine onSl_old ?_ | refine onSl_lst ?_ | refine max2_i ?_ | refine min2_i ?_ | refine abs_i ?_ | refine eqS_i ?_ | refine neS_i ?_ | refine eqB_i ?_ | refine retN_i ?_ | refine skip_i ?_ | refine isN_i ?_ | refine isNI_i ?_ | refine isNT_i ?_ | refine isNS_i ?_ | refine chain_i ?_ | refine onB3_i ?_ | refine asg2_i ?_) | ((with_reducible apply var_i); exact rfl) | ((with_reducible apply seqE_i); exact rfl) | ((with_reducible apply srcE_i); exact rfl) | ((with_reducible apply list_i); exact rfl) | ((with_reducible apply rev_i); exact rfl) | ((with_reducible apply tuple_i); exact rfl) | ((with_reducible apply len_i); exact rfl) | ((with_reducible apply ix_i); exact rfl; exact rfl) | ((with_reducible apply aug_i); exact rfl) | ((with_reducible apply gtup_i); exact rfl))
    generalize ha : Int.fmod _ 2147483647 = a
    have ra : 0 ≤ a ∧ a < 2147483647 := by rw [← ha]; exact fmod_range _ (by decide)
    refine mul_i (mulw (by omega) (by omega)) ?_
    repeat (first | (with_reducible first | refine seq_i ?_ | refine asg_i ?_ | refine c_i ?_ | refine op2_i ?_ | refine gname_i ?_ | refine cons_i ?_ | refine nil_i ?_ | refine add_i ?_ | refine sub_i ?_ | refine lt_i ?_ | refine le_i ?_ | refine gt_i ?_ | refine ge_i ?_ | refine eq_i ?_ | refine ne_i ?_ | refine onBl_i ?_ | refine tB_i ?_ | refine sif_i ?_ | refine rif_i ?_ | refine call_i ?_ | refine callK_i ?_ | refine ret_i ?_ | refine tup_i ?_ | refine lst_i ?_ | refine lstN_i ?_ | refine opN_i ?_ | refine f_i ?_ | refine fN_i ?_ | refine op1_i ?_ | refine neg_i ?_ | refine drop_i ?_ | refine mtd_i ?_ | refine tNot_i ?_ | refine tAnd_i ?_ | refine tOr_i ?_ | refine tYes_i ?_ | refine and_i ?_ | refine or_i ?_ | refine not_i ?_ | refine for_i ?_ | refine iseq_i ?_ | refine range1_i ?_ | refine range2_i ?_ | refine rcomp_i ?_ | refine rcompN_i ?_ | refine par_i ?_ | refine addA_i ?_ | refine gcons_i ?_ | refine gnil_i ?_ | refine dict_i ?_ | refine dget_i ?_ | refine din_i ?_ | refine dnotin_i ?_ | refine dput_i ?_ | refine setItem_i ?_ | refine oNone_i ?_ | refine oSome_i ?_ | refine onO_i ?_ | refine slice_i ?_ | refine sliceN_i ?_ | refine onSl_tup ?_ | refine onSl_old ?_ | refine onSl_lst ?_ | refine max2_i ?_ | refine min2_i ?_ | refine abs_i ?_ | refine eqS_i ?_ | refine neS_i ?_ | refine eqB_i ?_ | refine retN_i ?_ | refine skip_i ?_ | refine isN_i ?_ | refine isNI_i ?_ | refine isNT_i ?_ | refine isNS_i ?_ | refine chain_i ?_ | refine onB3_i ?_ | refine asg2_i ?_) | ((with_reducible apply var_i); exact rfl) | ((with_reducible apply seqE_i); exact rfl) | ((with_reducible apply srcE_i); exact rfl) | ((with_reducible apply list_i); exact rfl) | ((with_reducible apply rev_i); exact rfl) | ((with_reducible apply tuple_i); exact rfl) | ((with_reducible apply len_i); exact rfl) | ((with_reducible apply ix_i); exact rfl; exact rfl) | ((with_reducible apply aug_i); exact rfl) | ((with_reducible apply gtup_i); exact rfl))
    refine ix_i (seq_cell hd) rfl ?_
    refine mul_i (mulw (by decide) (by decide)) ?_
    repeat (first | (with_reducible first | refine seq_i ?_ | refine asg_i ?_ | refine c_i ?_ | refine op2_i ?_ | refine gname_i ?_ | refine cons_i ?_ | refine nil_i ?_ | refine add_i ?_ | refine sub_i ?_ | refine lt_i ?_ | refine le_i ?_ | refine gt_i ?_ | refine ge_i ?_ | refine eq_i ?_ | refine ne_i ?_ | refine onBl_i ?_ | refine tB_i ?_ | refine sif_i ?_ | refine rif_i ?_ | refine call_i ?_ | refine callK_i ?_ | refine ret_i ?_ | refine tup_i ?_ | refine lst_i ?_ | refine lstN_i ?_ | refine opN_i ?_ | refine f_i ?_ | refine fN_i ?_ | refine op1_i ?_ | refine neg_i ?_ | refine drop_i ?_ | refine mtd_i ?_ | refine tNot_i ?_ | refine tAnd_i ?_ | refine tOr_i ?_ | refine tYes_i ?_ | refine and_i ?_ | refine or_i ?_ | refine not_i ?_ | refine for_i ?_ | refine iseq_i ?_ | refine range1_i ?_ | refine range2_i ?_ | refine rcomp_i ?_ | refine rcompN_i ?_ | refine par_i ?_ | refine addA_i ?_ | refine gcons_i ?_ | refine gnil_i ?_ | refine dict_i ?_ | refine dget_i ?_ | refine din_i ?_ | refine dnotin_i ?_ | refine dput_i ?_ | refine setItem_i ?_ | refine oNone_i ?_ | refine oSome_i ?_ | refine onO_i ?_ | refine slice_i ?_ | refine sliceN_i ?_ | refine onSl_tup ?_ | refine onSl_old ?_ | refine onSl_lst ?_ | refine max2_i ?_ | refine min2_i ?_ | refine abs_i ?_ | refine eqS_i ?_ | refine neS_i ?_ | refine eqB_i ?_ | refine retN_i ?_ | refine skip_i ?_ | refine isN_i ?_ | refine isNI_i ?_ | refine isNT_i ?_ | refine isNS_i ?_ | refine chain_i ?_ | refine onB3_i ?_ | refine asg2_i ?_) | ((with_reducible apply var_i); exact rfl) | ((with_reducible apply seqE_i); exact rfl) | ((with_reducible apply srcE_i); exact rfl) | ((with_reducible apply list_i); exact rfl) | ((with_reducible apply rev_i); exact rfl) | ((with_reducible apply tuple_i); exact rfl) | ((with_reducible apply len_i); exact rfl) | ((with_reducible apply ix_i); exact rfl; exact rfl) | ((with_reducible apply aug_i); exact rfl) | ((with_reducible apply gtup_i); exact rfl))
    refine mod_i (by decide) ?_
    repeat (first | (with_reducible first | refine seq_i ?_ | refine asg_i ?_ | refine c_i ?_ | refine op2_i ?_ | refine gname_i ?_ | refine cons_i ?_ | refine nil_i ?_ | refine add_i ?_ | refine sub_i ?_ | refine lt_i ?_ | refine le_i ?_ | refine gt_i ?_ | refine ge_i ?_ | refine eq_i ?_ | refine ne_i ?_ | refine onBl_i ?_ | refine tB_i ?_ | refine sif_i ?_ | refine rif_i ?_ | refine call_i ?_ | refine callK_i ?_ | refine ret_i ?_ | refine tup_i ?_ | refine lst_i ?_ | refine lstN_i ?_ | refine opN_i ?_ | refine f_i ?_ | refine fN_i ?_ | refine op1_i ?_ | refine neg_i ?_ | refine drop_i ?_ | refine mtd_i ?_ | refine tNot_i ?_ | refine tAnd_i ?_ | refine tOr_i ?_ | refine tYes_i ?_ | refine and_i ?_ | refine or_i ?_ | refine not_i ?_ | refine for_i ?_ | refine iseq_i ?_ | refine range1_i ?_ | refine range2_i ?_ | refine rcomp_i ?_ | refine rcompN_i ?_ | refine par_i ?_ | refine addA_i ?_ | refine gcons_i ?_ | refine gnil_i ?_ | refine dict_i ?_ | refine dget_i ?_ | refine din_i ?_ | refine dnotin_i ?_ | refine dput_i ?_ | refine setItem_i ?_ | refine oNone_i ?_ | refine oSome_i ?_ | refine onO_i ?_ | refine slice_i ?_ | refine sliceN_i ?_ | refine onSl_tup ?_ | refine onSl_old ?_ | refine onSl_lst ?_ | refine max2_i ?_ | refine min2_i ?_ | refine abs_i ?_ | refine eqS_i ?_ | refine neS_i ?_ | refine eqB_i ?_ | refine retN_i ?_ | refine skip_i ?_ | refine isN_i ?_ | refine isNI_i ?_ | refine isNT_i ?_ | refine isNS_i ?_ | refine chain_i ?_ | refine onB3_i ?_ | refine asg2_i ?_) | ((with_reducible apply var_i); exact rfl) | ((with_reducible apply seqE_i); exact rfl) | ((with_reducible apply srcE_i); exact rfl) | ((with_reducible apply list_i); exact rfl) | ((with_reducible apply rev_i); exact rfl) | ((with_reducible apply tuple_i); exact rfl) | ((with_reducible apply len_i); exact rfl) | ((with_reducible apply ix_i); exact rfl; exact rfl) | ((with_reducible apply aug_i); exact rfl) | ((with_reducible apply gtup_i); exact rfl))
    generalize hb : Int.fmod _ 2147483587 = b
    have rb : 0 ≤ b ∧ b < 2147483587 := by rw [← hb]; exact fmod_range _ (by decide)
    refine mul_i (mulw (by omega) (by omega)) ?_
    repeat (first | (with_reducible first | refine seq_i ?_ | refine asg_i ?_ | refine c_i ?_ | refine op2_i ?_ | refine gname_i ?_ | refine cons_i ?_ | refine nil_i ?_ | refine add_i ?_ | refine sub_i ?_ | refine lt_i ?_ | refine le_i ?_ | refine gt_i ?_ | refine ge_i ?_ | refine eq_i ?_ | refine ne_i ?_ | refine onBl_i ?_ | refine tB_i ?_ | refine sif_i ?_ | refine rif_i ?_ | refine call_i ?_ | refine callK_i ?_ | refine ret_i ?_ | refine tup_i ?_ | refine lst_i ?_ | refine lstN_i ?_ | refine opN_i ?_ | refine f_i ?_ | refine fN_i ?_ | refine op1_i ?_ | refine neg_i ?_ | refine drop_i ?_ | refine mtd_i ?_ | refine tNot_i ?_ | refine tAnd_i ?_ | refine tOr_i ?_ | refine tYes_i ?_ | refine and_i ?_ | refine or_i ?_ | refine not_i ?_ | refine for_i ?_ | refine iseq_i ?_ | refine range1_i ?_ | refine range2_i ?_ | refine rcomp_i ?_ | refine rcompN_i ?_ | refine par_i ?_ | refine addA_i ?_ | refine gcons_i ?_ | refine gnil_i ?_ | refine dict_i ?_ | refine dget_i ?_ | refine din_i ?_ | refine dnotin_i ?_ | refine dput_i ?_ | refine setItem_i ?_ | refine oNone_i ?_ | refine oSome_i ?_ | refine onO_i ?_ | refine slice_i ?_ | refine sliceN_i ?_ | refine onSl_tup ?_ | refine onSl_old ?_ | refine onSl_lst ?_ | refine max2_i ?_ | refine min2_i ?_ | refine abs_i ?_ | refine eqS_i ?_ | refine neS_i ?_ | refine eqB_i ?_ | refine retN_i ?_ | refine skip_i ?_ | refine isN_i ?_ | refine isNI_i ?_ | refine isNT_i ?_ | refine isNS_i ?_ | refine chain_i ?_ | refine onB3_i ?_ | refine asg2_i ?_) | ((with_reducible apply var_i); exact rfl) | ((with_reducible apply seqE_i); exact rfl) | ((with_reducible apply srcE_i); exact rfl) | ((with_reducible apply list_i); exact rfl) | ((with_reducible apply rev_i); exact rfl) | ((with_reducible apply tuple_i); exact rfl) | ((with_reducible apply len_i); exact rfl) | ((with_reducible apply ix_i); exact rfl; exact rfl) | ((with_reducible apply aug_i); exact rfl) | ((with_reducible apply gtup_i); exact rfl))
    refine mod_i (by decide) ?_
    repeat (first | (with_reducible first | refine seq_i ?_ | refine asg_i ?_ | refine c_i ?_ | refine op2_i ?_ | refine gname_i ?_ | refine cons_i ?_ | refine nil_i ?_ | refine add_i ?_ | refine sub_i ?_ | refine lt_i ?_ | refine le_i ?_ | refine gt_i ?_ | refine ge_i ?_ | refine eq_i ?_ | refine ne_i ?_ | refine onBl_i ?_ | refine tB_i ?_ | refine sif_i ?_ | refine rif_i ?_ | refine call_i ?_ | refine callK_i ?_ | refine ret_i ?_ | refine tup_i ?_ | refine lst_i ?_ | refine lstN_i ?_ | refine opN_i ?_ | refine f_i ?_ | refine fN_i ?_ | refine op1_i ?_ | refine neg_i ?_ | refine drop_i ?_ | refine mtd_i ?_ | refine tNot_i ?_ | refine tAnd_i ?_ | refine tOr_i ?_ | refine tYes_i ?_ | refine and_i ?_ | refine or_i ?_ | refine not_i ?_ | refine for_i ?_ | refine iseq_i ?_ | refine range1_i ?_ | refine range2_i ?_ | refine rcomp_i ?_ | refine rcompN_i ?_ | refine par_i ?_ | refine addA_i ?_ | refine gcons_i ?_ | refine gnil_i ?_ | refine dict_i ?_ | refine dget_i ?_ | refine din_i ?_ | refine dnotin_i ?_ | refine dput_i ?_ | refine setItem_i ?_ | refine oNone_i ?_ | refine oSome_i ?_ | refine onO_i ?_ | refine slice_i ?_ | refine sliceN_i ?_ | refine onSl_tup ?_ | refine onSl_old ?_ | refine onSl_lst ?_ | refine max2_i ?_ | refine min2_i ?_ | refine abs_i ?_ | refine eqS_i ?_ | refine neS_i ?_ | refine eqB_i ?_ | refine retN_i ?_ | refine skip_i ?_ | refine isN_i ?_ | refine isNI_i ?_ | refine isNT_i ?_ | refine isNS_i ?_ | refine chain_i ?_ | refine onB3_i ?_ | refine asg2_i ?_) | ((with_reducible apply var_i); exact rfl) | ((with_reducible apply seqE_i); exact rfl) | ((with_reducible apply srcE_i); exact rfl) | ((with_reducible apply list_i); exact rfl) | ((with_reducible apply rev_i); exact rfl) | ((with_reducible apply tuple_i); exact rfl) | ((with_reducible apply len_i); exact rfl) | ((with_reducible apply ix_i); exact rfl; exact rfl) | ((with_reducible apply aug_i); exact rfl) | ((with_reducible apply gtup_i); exact rfl))
    refine div_i (.inl ⟨by decide, by decide⟩) ?_
    repeat (first | (with_reducible first | refine seq_i ?_ | refine asg_i ?_ | refine c_i ?_ | refine op2_i ?_ | refine gname_i ?_ | refine cons_i ?_ | refine nil_i ?_ | refine add_i ?_ | refine sub_i ?_ | refine lt_i ?_ | refine le_i ?_ | refine gt_i ?_ | refine ge_i ?_ | refine eq_i ?_ | refine ne_i ?_ | refine onBl_i ?_ | refine tB_i ?_ | refine sif_i ?_ | refine rif_i ?_ | refine call_i ?_ | refine callK_i ?_ | refine ret_i ?_ | refine tup_i ?_ | refine lst_i ?_ | refine lstN_i ?_ | refine opN_i ?_ | refine f_i ?_ | refine fN_i ?_ | refine op1_i ?_ | refine neg_i ?_ | refine drop_i ?_ | refine mtd_i ?_ | refine tNot_i ?_ | refine tAnd_i ?_ | refine tOr_i ?_ | refine tYes_i ?_ | refine and_i ?_ | refine or_i ?_ | refine not_i ?_ | refine for_i ?_ | refine iseq_i ?_ | refine range1_i ?_ | refine range2_i ?_ | refine rcomp_i ?_ | refine rcompN_i ?_ | refine par_i ?_ | refine addA_i ?_ | refine gcons_i ?_ | refine gnil_i ?_ | refine dict_i ?_ | refine dget_i ?_ | refine din_i ?_ | refine dnotin_i ?_ | refine dput_i ?_ | refine setItem_i ?_ | refine oNone_i ?_ | refine oSome_i ?_ | refine onO_i ?_ | refine slice_i ?_ | refine sliceN_i ?_ | refine onSl_tup ?_ | refine onSl_old ?_ | refine onSl_lst ?_ | refine max2_i ?_ | refine min2_i ?_ | refine abs_i ?_ | refine eqS_i ?_ | refine neS_i ?_ | refine eqB_i ?_ | refine retN_i ?_ | refine skip_i ?_ | refine isN_i ?_ | refine isNI_i ?_ | refine isNT_i ?_ | refine isNS_i ?_ | refine chain_i ?_ | refine onB3_i ?_ | refine asg2_i ?_) | ((with_reducible apply var_i); exact rfl) | ((with_reducible apply seqE_i); exact rfl) | ((with_reducible apply srcE_i); exact rfl) | ((with_reducible apply list_i); exact rfl) | ((with_reducible apply rev_i); exact rfl) | ((with_reducible apply tuple_i); exact rfl) | ((with_reducible apply len_i); exact rfl) | ((with_reducible apply ix_i); exact rfl; exact rfl) | ((with_reducible apply aug_i); exact rfl) | ((with_reducible apply gtup_i); exact rfl))
    refine mod_i (by omega) (outK_same (hK _ _ ?_ ?_ dk sb2))
    · exact (fmod_range _ (by omega)).1
    · exact (fmod_range _ (by omega)).2
  repeat (first | (with_reducible first | refine seq_i ?_ | refine asg_i ?_ | refine c_i ?_ | refine op2_i ?_ | refine gname_i ?_ | refine cons_i ?_ | refine nil_i ?_ | refine add_i ?_ | refine sub_i ?_ | refine lt_i ?_ | refine le_i ?_ | refine gt_i ?_ | refine ge_i ?_ | refine eq_i ?_ | refine ne_i ?_ | refine onBl_i ?_ | refine tB_i ?_ | refine sif_i ?_ | refine rif_i ?_ | refine call_i ?_ | refine callK_i ?_ | refine ret_i ?_ | refine tup_i ?_ | refine lst_i ?_ | refine lstN_i ?_ | refine opN_i ?_ | refine f_i ?_ | refine fN_i ?_ | refine op1_i ?_ | refine neg_i ?_ | refine drop_i ?_ | refine mtd_i ?_ | refine tNot_i ?_ | refine tAnd_i ?_ | refine tOr_i ?_ | refine tYes_i ?_ | refine and_i ?_ | refine or_i ?_ | refine not_i ?_ | refine for_i ?_ | refine iseq_i ?_ | refine range1_i ?_ | refine range2_i ?_ | refine rcomp_i ?_ | refine rcompN_i ?_ | refine par_i ?_ | refine addA_i ?_ | refine gcons_i ?_ | refine gnil_i ?_ | refine dict_i ?_ | refine dget_i ?_ | refine din_i ?_ | refine dnotin_i ?_ | refine dput_i ?_ | refine setItem_i ?_ | refine oNone_i ?_ | refine oSome_i ?_ | refine onO_i ?_ | refine slice_i ?_ | refine sliceN_i ?_ | refine onSl_tup ?_ | refine onSl_old ?_ | refine onSl_lst ?_ | refine max2_i ?_ | refine min2_i ?_ | refine abs_i ?_ | refine eqS_i ?_ | refine neS_i ?_ | refine eqB_i ?_ | refine retN_i ?_ | refine skip_i ?_ | refine isN_i ?_ | refine isNI_i ?_ | refine isNT_i ?_ | refine isNS_i ?_ | refine chain_i ?_ | refine onB3_i ?_ | refine asg2_i ?_) | ((with_reducible apply var_i); exact rfl) | ((with_reducible apply seqE_i); exact rfl) | ((with_reducible apply srcE_i); exact rfl) | ((with_reducible apply list_i); exact rfl) | ((with_reducible apply rev_i); exact rfl) | ((with_reducible apply tuple_i); exact rfl) | ((with_reducible apply len_i); exact rfl) | ((with_reducible apply ix_i); exact rfl; exact rfl) | ((with_reducible apply aug_i); exact rfl) | ((with_reducible apply gtup_i); exact rfl))
  refine ix_i (seq_cell hn') rfl ?_
  repeat (first | (with_reducible first | refine seq_i ?_ | refine asg_i ?_ | refine c_i ?_ | refine op2_i ?_ | refine gname_i ?_ | refine cons_i ?_ | refine nil_i ?_ | refine add_i ?_ | refine sub_i ?_ | refine lt_i ?_ | refine le_i ?_ | refine gt_i ?_ | refine ge_i ?_ | refine eq_i ?_ | refine ne_i ?_ | refine onBl_i ?_ | refine tB_i ?_ | refine sif_i ?_ | refine rif_i ?_ | refine call_i ?_ | refine callK_i ?_ | refine ret_i ?_ | refine tup_i ?_ | refine lst_i ?_ | refine lstN_i ?_ | refine opN_i ?_ | refine f_i ?_ | refine fN_i ?_ | refine op1_i ?_ | refine neg_i ?_ | refine drop_i ?_ | refine mtd_i ?_ | refine tNot_i ?_ | refine tAnd_i ?_ | refine tOr_i ?_ | refine tYes_i ?_ | refine and_i ?_ | refine or_i ?_ | refine not_i ?_ | refine for_i ?_ | refine iseq_i ?_ | refine range1_i ?_ | refine range2_i ?_ | refine rcomp_i ?_ | refine rcompN_i ?_ | refine par_i ?_ | refine addA_i ?_ | refine gcons_i ?_ | refine gnil_i ?_ | refine dict_i ?_ | refine dget_i ?_ | refine din_i ?_ | refine dnotin_i ?_ | refine dput_i ?_ | refine setItem_i ?_ | refine oNone_i ?_ | refine oSome_i ?_ | refine onO_i ?_ | refine slice_i ?_ | refine sliceN_i ?_ | refine onSl_tup ?_ | refine onSl_old ?_ | refine onSl_lst ?_ | refine max2_i ?_ | refine min2_i ?_ | refine abs_i ?_ | refine eqS_i ?_ | refine neS_i ?_ | refine eqB_i ?_ | refine retN_i ?_ | refine skip_i ?_ | refine isN_i ?_ | refine isNI_i ?_ | refine isNT_i ?_ | refine isNS_i ?_ | refine chain_i ?_ | refine onB3_i ?_ | refine asg2_i ?_) | ((with_reducible apply var_i); exact rfl) | ((with_reducible apply seqE_i); exact rfl) | ((with_reducible apply srcE_i); exact rfl) | ((with_reducible apply list_i); exact rfl) | ((with_reducible apply rev_i); exact rfl) | ((with_reducible apply tuple_i); exact rfl) | ((with_reducible apply len_i); exact rfl) | ((with_reducible apply ix_i); exact rfl; exact rfl) | ((with_reducible apply aug_i); exact rfl) | ((with_reducible apply gtup_i); exact rfl))
  refine ix_i (seq_cell hn') rfl ?_
  repeat (first | (with_reducible first | refine seq_i ?_ | refine asg_i ?_ | refine c_i ?_ | refine op2_i ?_ | refine gname_i ?_ | refine cons_i ?_ | refine nil_i ?_ | refine add_i ?_ | refine sub_i ?_ | refine lt_i ?_ | refine le_i ?_ | refine gt_i ?_ | refine ge_i ?_ | refine eq_i ?_ | refine ne_i ?_ | refine onBl_i ?_ | refine tB_i ?_ | refine sif_i ?_ | refine rif_i ?_ | refine call_i ?_ | refine callK_i ?_ | refine ret_i ?_ | refine tup_i ?_ | refine lst_i ?_ | refine lstN_i ?_ | refine opN_i ?_ | refine f_i ?_ | refine fN_i ?_ | refine op1_i ?_ | refine neg_i ?_ | refine drop_i ?_ | refine mtd_i ?_ | refine tNot_i ?_ | refine tAnd_i ?_ | refine tOr_i ?_ | refine tYes_i ?_ | refine and_i ?_ | refine or_i ?_ | refine not_i ?_ | refine for_i ?_ | refine iseq_i ?_ | refine range1_i ?_ | refine range2_i ?_ | refine rcomp_i ?_ | refine rcompN_i ?_ | refine par_i ?_ | refine addA_i ?_ | refine gcons_i ?_ | refine gnil_i ?_ | refine dict_i ?_ | refine dget_i ?_ | refine din_i ?_ | refine dnotin_i ?_ | refine dput_i ?_ | refine setItem_i ?_ | refine oNone_i ?_ | refine oSome_i ?_ | refine onO_i ?_ | refine slice_i ?_ | refine sliceN_i ?_ | refine onSl_tup ?_ | refine onSl_old ?_ | refine onSl_lst ?_ | refine max2_i ?_ | refine min2_i ?_ | refine abs_i ?_ | refine eqS_i ?_ | refine neS_i ?_ | refine eqB_i ?_ | refine retN_i ?_ | refine skip_i ?_ | refine isN_i ?_ | refine isNI_i ?_ | refine isNT_i ?_ | refine isNS_i ?_ | refine chain_i ?_ | refine onB3_i ?_ | refine asg2_i ?_) | ((with_reducible apply var_i); exact rfl) | ((with_reducible apply seqE_i); exact rfl) | ((with_reducible apply srcE_i); exact rfl) | ((with_reducible apply list_i); exact rfl) | ((with_reducible apply rev_i); exact rfl) | ((with_reducible apply tuple_i); exact rfl) | ((with_reducible apply len_i); exact rfl) | ((with_reducible apply ix_i); exact rfl; exact rfl) | ((with_reducible apply aug_i); exact rfl) | ((with_reducible apply gtup_i); exact rfl))
  refine ⟨_, .list [], py_cell_ints hj', rfl, ?_, by decide, ?_⟩
  · exact lay_ints l
  · repeat (first | (with_reducible first | refine seq_i ?_ | refine asg_i ?_ | refine c_i ?_ | refine op2_i ?_ | refine gname_i ?_ | refine cons_i ?_ | refine nil_i ?_ | refine add_i ?_ | refine sub_i ?_ | refine lt_i ?_ | refine le_i ?_ | refine gt_i ?_ | refine ge_i ?_ | refine eq_i ?_ | refine ne_i ?_ | refine onBl_i ?_ | refine tB_i ?_ | refine sif_i ?_ | refine rif_i ?_ | refine call_i ?_ | refine callK_i ?_ | refine ret_i ?_ | refine tup_i ?_ | refine lst_i ?_ | refine lstN_i ?_ | refine opN_i ?_ | refine f_i ?_ | refine fN_i ?_ | refine op1_i ?_ | refine neg_i ?_ | refine drop_i ?_ | refine mtd_i ?_ | refine tNot_i ?_ | refine tAnd_i ?_ | refine tOr_i ?_ | refine tYes_i ?_ | refine and_i ?_ | refine or_i ?_ | refine not_i ?_ | refine for_i ?_ | refine iseq_i ?_ | refine range1_i ?_ | refine range2_i ?_ | refine rcomp_i ?_ | refine rcompN_i ?_ | refine par_i ?_ | refine addA_i ?_ | refine gcons_i ?_ | refine gnil_i ?_ | refine dict_i ?_ | refine dget_i ?_ | refine din_i ?_ | refine dnotin_i ?_ | refine dput_i ?_ | refine setItem_i ?_ | refine oNone_i ?_ | refine oSome_i ?_ | refine onO_i ?_ | refine slice_i ?_ | refine sliceN_i ?_ | refine onSl_tup ?_ | refine onSl_old ?_ | refine onSl_lst ?_ | refine max2_i ?_ | refine min2_i ?_ | refine abs_i ?_ | refine eqS_i ?_ | refine neS_i ?_ | refine eqB_i ?_ | refine retN_i ?_ | refine skip_i ?_ | refine isN_i ?_ | refine isNI_i ?_ | refine isNT_i ?_ | refine isNS_i ?_ | refine chain_i ?_ | refine onB3_i ?_ | refine asg2_i ?_) | ((with_reducible apply var_i); exact rfl) | ((with_reducible apply seqE_i); exact rfl) | ((with_reducible apply srcE_i); exact rfl) | ((with_reducible apply list_i); exact rfl) | ((with_reducible apply rev_i); exact rfl) | ((with_reducible apply tuple_i); exact rfl) | ((with_reducible apply len_i); exact rfl) | ((with_reducible apply ix_i); exact rfl; exact rfl) | ((with_reducible apply aug_i); exact rfl) | ((with_reducible apply gtup_i); exact rfl))
    refine iteB_i (fun hq => ?_) fun hq => ?_
    · repeat (first | (with_reducible first | refine seq_i ?_ | refine asg_i ?_ | refine c_i ?_ | refine op2_i ?_ | refine gname_i ?_ | refine cons_i ?_ | refine nil_i ?_ | refine add_i ?_ | refine sub_i ?_ | refine lt_i ?_ | refine le_i ?_ | refine gt_i ?_ | refine ge_i ?_ | refine eq_i ?_ | refine ne_i ?_ | refine onBl_i ?_ | refine tB_i ?_ | refine sif_i ?_ | refine rif_i ?_ | refine call_i ?_ | refine callK_i ?_ | refine ret_i ?_ | refine tup_i ?_ | refine lst_i ?_ | refine lstN_i ?_ | refine opN_i ?_ | refine f_i ?_ | refine fN_i ?_ | refine op1_i ?_ | refine neg_i ?_ | refine drop_i ?_ | refine mtd_i ?_ | refine tNot_i ?_ | refine tAnd_i ?_ | refine tOr_i ?_ | refine tYes_i ?_ | refine and_i ?_ | refine or_i ?_ | refine not_i ?_ | refine for_i ?_ | refine iseq_i ?_ | refine range1_i ?_ | refine range2_i ?_ | refine rcomp_i ?_ | refine rcompN_i ?_ | refine par_i ?_ | refine addA_i ?_ | refine gcons_i ?_ | refine gnil_i ?_ | refine dict_i ?_ | refine dget_i ?_ | refine din_i ?_ | refine dnotin_i ?_ | refine dput_i ?_ | refine setItem_i ?_ | refine oNone_i ?_ | refine oSome_i ?_ | refine onO_i ?_ | refine slice_i ?_ | refine sliceN_i ?_ | refine onSl_tup ?_ | refine onSl_old ?_ | refine onSl_lst ?_ | refine max2_i ?_ | refine min2_i ?_ | refine abs_i ?_ | refine eqS_i ?_ | refine neS_i ?_ | refine eqB_i ?_ | refine retN_i ?_ | refine skip_i ?_ | refine isN_i ?_ | refine isNI_i ?_ | refine isNT_i ?_ | refine isNS_i ?_ | refine chain_i ?_ | refine onB3_i ?_ | refine asg2_i ?_) | ((with_reducible apply var_i); exact rfl) | ((with_reducible apply seqE_i); exact rfl) | ((with_reducible apply srcE_i); exact rfl) | ((with_reducible apply list_i); exact rfl) | ((with_reducible apply rev_i); exact rfl) | ((with_reducible apply tuple_i); exact rfl) | ((with_reducible apply len_i); exact rfl) | ((with_reducible apply ix_i); exact rfl; exact rfl) | ((with_reducible apply aug_i); exact rfl) | ((with_reducible apply gtup_i); exact rfl))
      refine ix_i (seq_cell hn') rfl ?_
      refine ⟨⟨_, items_cell hj'⟩, ?_⟩
      repeat (first | (with_reducible first | refine seq_i ?_ | refine asg_i ?_ | refine c_i ?_ | refine op2_i ?_ | refine gname_i ?_ | refine cons_i ?_ | refine nil_i ?_ | refine add_i ?_ | refine sub_i ?_ | refine lt_i ?_ | refine le_i ?_ | refine gt_i ?_ | refine ge_i ?_ | refine eq_i ?_ | refine ne_i ?_ | refine onBl_i ?_ | refine tB_i ?_ | refine sif_i ?_ | refine rif_i ?_ | refine call_i ?_ | refine callK_i ?_ | refine ret_i ?_ | refine tup_i ?_ | refine lst_i ?_ | refine lstN_i ?_ | refine opN_i ?_ | refine f_i ?_ | refine fN_i ?_ | refine op1_i ?_ | refine neg_i ?_ | refine drop_i ?_ | refine mtd_i ?_ | refine tNot_i ?_ | refine tAnd_i ?_ | refine tOr_i ?_ | refine tYes_i ?_ | refine and_i ?_ | refine or_i ?_ | refine not_i ?_ | refine for_i ?_ | refine iseq_i ?_ | refine range1_i ?_ | refine range2_i ?_ | refine rcomp_i ?_ | refine rcompN_i ?_ | refine par_i ?_ | refine addA_i ?_ | refine gcons_i ?_ | refine gnil_i ?_ | refine dict_i ?_ | refine dget_i ?_ | refine din_i ?_ | refine dnotin_i ?_ | refine dput_i ?_ | refine setItem_i ?_ | refine oNone_i ?_ | refine oSome_i ?_ | refine onO_i ?_ | refine slice_i ?_ | refine sliceN_i ?_ | refine onSl_tup ?_ | refine onSl_old ?_ | refine onSl_lst ?_ | refine max2_i ?_ | refine min2_i ?_ | refine abs_i ?_ | refine eqS_i ?_ | refine neS_i ?_ | refine eqB_i ?_ | refine retN_i ?_ | refine skip_i ?_ | refine isN_i ?_ | refine isNI_i ?_ | refine isNT_i ?_ | refine isNS_i ?_ | refine chain_i ?_ | refine onB3_i ?_ | refine asg2_i ?_) | ((with_reducible apply var_i); exact rfl) | ((with_reducible apply seqE_i); exact rfl) | ((with_reducible apply srcE_i); exact rfl) | ((with_reducible apply list_i); exact rfl) | ((with_reducible apply rev_i); exact rfl) | ((with_reducible apply tuple_i); exact rfl) | ((with_reducible apply len_i); exact rfl) | ((with_reducible apply ix_i); exact rfl; exact rfl) | ((with_reducible apply aug_i); exact rfl) | ((with_reducible apply gtup_i); exact rfl))
      have hne : l ≠ [] := fun e => by subst e; revert hq; decide
      obtain ⟨a, c, rfl⟩ : ∃ a c, l = a ++ [c] := ⟨l.dropLast, l.getLast hne, (List.dropLast_concat_getLast hne).symm⟩
      rw [List.length_append] at hl
      refine ⟨j, _, .int c, rfl, rfl, hj', by simp, ?_⟩
      have e1 : (List.map D.int (a ++ [c])).dropLast = a.map D.int := by simp
      rw [e1]
      have hj2 : (m1.set j (.lst (a.map D.int)))[j]? = some (.lst (a.map D.int)) := set_same (get_lt hj')
      have hn2 : (m1.set j (.lst (a.map D.int)))[n]? = some (.lst [.cell j, .int s, .int (t + 1)]) := (set_other fun e => hnj e.symm).trans hn'
      have sb2 : SameBut m (m1.set j (.lst (a.map D.int))) n j := sb.trans ⟨List.length_set, fun i _ b => set_other fun e => b e.symm⟩
      generalize m1.set j (.lst (a.map D.int)) = m2 at hn2 hj2 sb2 ⊢
      repeat (first | (with_reducible first | refine seq_i ?_ | refine asg_i ?_ | refine c_i ?_ | refine op2_i ?_ | refine gname_i ?_ | refine cons_i ?_ | refine nil_i ?_ | refine add_i ?_ | refine sub_i ?_ | refine lt_i ?_ | refine le_i ?_ | refine gt_i ?_ | refine ge_i ?_ | refine eq_i ?_ | refine ne_i ?_ | refine onBl_i ?_ | refine tB_i ?_ | refine sif_i ?_ | refine rif_i ?_ | refine call_i ?_ | refine callK_i ?_ | refine ret_i ?_ | refine tup_i ?_ | refine lst_i ?_ | refine lstN_i ?_ | refine opN_i ?_ | refine f_i ?_ | refine fN_i ?_ | refine op1_i ?_ | refine neg_i ?_ | refine drop_i ?_ | refine mtd_i ?_ | refine tNot_i ?_ | refine tAnd_i ?_ | refine tOr_i ?_ | refine tYes_i ?_ | refine and_i ?_ | refine or_i ?_ | refine not_i ?_ | refine for_i ?_ | refine iseq_i ?_ | refine range1_i ?_ | refine range2_i ?_ | refine rcomp_i ?_ | refine rcompN_i ?_ | refine par_i ?_ | refine addA_i ?_ | refine gcons_i ?_ | refine gnil_i ?_ | refine dict_i ?_ | refine dget_i ?_ | refine din_i ?_ | refine dnotin_i ?_ | refine dput_i ?_ | refine setItem_i ?_ | refine oNone_i ?_ | refine oSome_i ?_ | refine onO_i ?_ | refine slice_i ?_ | refine sliceN_i ?_ | refine onSl_tup ?_ | refine onSl_old ?_ | refine onSl_lst ?_ | refine max2_i ?_ | refine min2_i ?_ | refine abs_i ?_ | refine eqS_i ?_ | refine neS_i ?_ | refine eqB_i ?_ | refine retN_i ?_ | refine skip_i ?_ | refine isN_i ?_ | refine isNI_i ?_ | refine isNT_i ?_ | refine isNS_i ?_ | refine chain_i ?_ | refine onB3_i ?_ | refine asg2_i ?_) | ((with_reducible apply var_i); exact rfl) | ((with_reducible apply seqE_i); exact rfl) | ((with_reducible apply srcE_i); exact rfl) | ((with_reducible apply list_i); exact rfl) | ((with_reducible apply rev_i); exact rfl) | ((with_reducible apply tuple_i); exact rfl) | ((with_reducible apply len_i); exact rfl) | ((with_reducible apply ix_i); exact rfl; exact rfl) | ((with_reducible apply aug_i); exact rfl) | ((with_reducible apply gtup_i); exact rfl))
      refine pow_i (by decide) ?_
      repeat (first | (with_reducible first | refine seq_i ?_ | refine asg_i ?_ | refine c_i ?_ | refine op2_i ?_ | refine gname_i ?_ | refine cons_i ?_ | refine nil_i ?_ | refine add_i ?_ | refine sub_i ?_ | refine lt_i ?_ | refine le_i ?_ | refine gt_i ?_ | refine ge_i ?_ | refine eq_i ?_ | refine ne_i ?_ | refine onBl_i ?_ | refine tB_i ?_ | refine sif_i ?_ | refine rif_i ?_ | refine call_i ?_ | refine callK_i ?_ | refine ret_i ?_ | refine tup_i ?_ | refine lst_i ?_ | refine lstN_i ?_ | refine opN_i ?_ | refine f_i ?_ | refine fN_i ?_ | refine op1_i ?_ | refine neg_i ?_ | refine drop_i ?_ | refine mtd_i ?_ | refine tNot_i ?_ | refine tAnd_i ?_ | refine tOr_i ?_ | refine tYes_i ?_ | refine and_i ?_ | refine or_i ?_ | refine not_i ?_ | refine for_i ?_ | refine iseq_i ?_ | refine range1_i ?_ | refine range2_i ?_ | refine rcomp_i ?_ | refine rcompN_i ?_ | refine par_i ?_ | refine addA_i ?_ | refine gcons_i ?_ | refine gnil_i ?_ | refine dict_i ?_ | refine dget_i ?_ | refine din_i ?_ | refine dnotin_i ?_ | refine dput_i ?_ | refine setItem_i ?_ | refine oNone_i ?_ | refine oSome_i ?_ | refine onO_i ?_ | refine slice_i ?_ | refine sliceN_i ?_ | refine onSl_tup ?_ | refine onSl_old ?_ | refine onSl_lst ?_ | refine max2_i ?_ | refine min2_i ?_ | refine abs_i ?_ | refine eqS_i ?_ | refine neS_i ?_ | refine eqB_i ?_ | refine retN_i ?_ | refine skip_i ?_ | refine isN_i ?_ | refine isNI_i ?_ | refine isNT_i ?_ | refine isNS_i ?_ | refine chain_i ?_ | refine onB3_i ?_ | refine asg2_i ?_) | ((with_reducible apply var_i); exact rfl) | ((with_reducible apply seqE_i); exact rfl) | ((with_reducible apply srcE_i); exact rfl) | ((with_reducible apply list_i); exact rfl) | ((with_reducible apply rev_i); exact rfl) | ((with_reducible apply tuple_i); exact rfl) | ((with_reducible apply len_i); exact rfl) | ((with_reducible apply ix_i); exact rfl; exact rfl) | ((with_reducible apply aug_i); exact rfl) | ((with_reducible apply gtup_i); exact rfl))
      refine ite_i (fun hg => ?_) fun hg => ?_
      · repeat (first | (with_reducible first | refine seq_i ?_ | refine asg_i ?_ | refine c_i ?_ | refine op2_i ?_ | refine gname_i ?_ | refine cons_i ?_ | refine nil_i ?_ | refine add_i ?_ | refine sub_i ?_ | refine lt_i ?_ | refine le_i ?_ | refine gt_i ?_ | refine ge_i ?_ | refine eq_i ?_ | refine ne_i ?_ | refine onBl_i ?_ | refine tB_i ?_ | refine sif_i ?_ | refine rif_i ?_ | refine call_i ?_ | refine callK_i ?_ | refine ret_i ?_ | refine tup_i ?_ | refine lst_i ?_ | refine lstN_i ?_ | refine opN_i ?_ | refine f_i ?_ | refine fN_i ?_ | refine op1_i ?_ | refine neg_i ?_ | refine drop_i ?_ | refine mtd_i ?_ | refine tNot_i ?_ | refine tAnd_i ?_ | refine tOr_i ?_ | refine tYes_i ?_ | refine and_i ?_ | refine or_i ?_ | refine not_i ?_ | refine for_i ?_ | refine iseq_i ?_ | refine range1_i ?_ | refine range2_i ?_ | refine rcomp_i ?_ | refine rcompN_i ?_ | refine par_i ?_ | refine addA_i ?_ | refine gcons_i ?_ | refine gnil_i ?_ | refine dict_i ?_ | refine dget_i ?_ | refine din_i ?_ | refine dnotin_i ?_ | refine dput_i ?_ | refine setItem_i ?_ | refine oNone_i ?_ | refine oSome_i ?_ | refine onO_i ?_ | refine slice_i ?_ | refine sliceN_i ?_ | refine onSl_tup ?_ | refine onSl_old ?_ | refine onSl_lst ?_ | refine max2_i ?_ | refine min2_i ?_ | refine abs_i ?_ | refine eqS_i ?_ | refine neS_i ?_ | refine eqB_i ?_ | refine retN_i ?_ | refine skip_i ?_ | refine isN_i ?_ | refine isNI_i ?_ | refine isNT_i ?_ | refine isNS_i ?_ | refine chain_i ?_ | refine onB3_i ?_ | refine asg2_i ?_) | ((with_reducible apply var_i); exact rfl) | ((with_reducible apply seqE_i); exact rfl) | ((with_reducible apply srcE_i); exact rfl) | ((with_reducible apply list_i); exact rfl) | ((with_reducible apply rev_i); exact rfl) | ((with_reducible apply tuple_i); exact rfl) | ((with_reducible apply len_i); exact rfl) | ((with_reducible apply ix_i); exact rfl; exact rfl) | ((with_reducible apply aug_i); exact rfl) | ((with_reducible apply gtup_i); exact rfl))
        refine ix_i (seq_cell hn2) rfl ?_
        refine ⟨⟨_, items_cell hj2⟩, ?_⟩
        repeat (first | (with_reducible first | refine seq_i ?_ | refine asg_i ?_ | refine c_i ?_ | refine op2_i ?_ | refine gname_i ?_ | refine cons_i ?_ | refine nil_i ?_ | refine add_i ?_ | refine sub_i ?_ | refine lt_i ?_ | refine le_i ?_ | refine gt_i ?_ | refine ge_i ?_ | refine eq_i ?_ | refine ne_i ?_ | refine onBl_i ?_ | refine tB_i ?_ | refine sif_i ?_ | refine rif_i ?_ | refine call_i ?_ | refine callK_i ?_ | refine ret_i ?_ | refine tup_i ?_ | refine lst_i ?_ | refine lstN_i ?_ | refine opN_i ?_ | refine f_i ?_ | refine fN_i ?_ | refine op1_i ?_ | refine neg_i ?_ | refine drop_i ?_ | refine mtd_i ?_ | refine tNot_i ?_ | refine tAnd_i ?_ | refine tOr_i ?_ | refine tYes_i ?_ | refine and_i ?_ | refine or_i ?_ | refine not_i ?_ | refine for_i ?_ | refine iseq_i ?_ | refine range1_i ?_ | refine range2_i ?_ | refine rcomp_i ?_ | refine rcompN_i ?_ | refine par_i ?_ | refine addA_i ?_ | refine gcons_i ?_ | refine gnil_i ?_ | refine dict_i ?_ | refine dget_i ?_ | refine din_i ?_ | refine dnotin_i ?_ | refine dput_i ?_ | refine setItem_i ?_ | refine oNone_i ?_ | refine oSome_i ?_ | refine onO_i ?_ | refine slice_i ?_ | refine sliceN_i ?_ | refine onSl_tup ?_ | refine onSl_old ?_ | refine onSl_lst ?_ | refine max2_i ?_ | refine min2_i ?_ | refine abs_i ?_ | refine eqS_i ?_ | refine neS_i ?_ | refine eqB_i ?_ | refine retN_i ?_ | refine skip_i ?_ | refine isN_i ?_ | refine isNI_i ?_ | refine isNT_i ?_ | refine isNS_i ?_ | refine chain_i ?_ | refine onB3_i ?_ | refine asg2_i ?_) | ((with_reducible apply var_i); exact rfl) | ((with_reducible apply seqE_i); exact rfl) | ((with_reducible apply srcE_i); exact rfl) | ((with_reducible apply list_i); exact rfl) | ((with_reducible apply rev_i); exact rfl) | ((with_reducible apply tuple_i); exact rfl) | ((with_reducible apply len_i); exact rfl) | ((with_reducible apply ix_i); exact rfl; exact rfl) | ((with_reducible apply aug_i); exact rfl) | ((with_reducible apply gtup_i); exact rfl))
        refine div_i (divw h1 h2) ?_
        repeat (first | (with_reducible first | refine seq_i ?_ | refine asg_i ?_ | refine c_i ?_ | refine op2_i ?_ | refine gname_i ?_ | refine cons_i ?_ | refine nil_i ?_ | refine add_i ?_ | refine sub_i ?_ | refine lt_i ?_ | refine le_i ?_ | refine gt_i ?_ | refine ge_i ?_ | refine eq_i ?_ | refine ne_i ?_ | refine onBl_i ?_ | refine tB_i ?_ | refine sif_i ?_ | refine rif_i ?_ | refine call_i ?_ | refine callK_i ?_ | refine ret_i ?_ | refine tup_i ?_ | refine lst_i ?_ | refine lstN_i ?_ | refine opN_i ?_ | refine f_i ?_ | refine fN_i ?_ | refine op1_i ?_ | refine neg_i ?_ | refine drop_i ?_ | refine mtd_i ?_ | refine tNot_i ?_ | refine tAnd_i ?_ | refine tOr_i ?_ | refine tYes_i ?_ | refine and_i ?_ | refine or_i ?_ | refine not_i ?_ | refine for_i ?_ | refine iseq_i ?_ | refine range1_i ?_ | refine range2_i ?_ | refine rcomp_i ?_ | refine rcompN_i ?_ | refine par_i ?_ | refine addA_i ?_ | refine gcons_i ?_ | refine gnil_i ?_ | refine dict_i ?_ | refine dget_i ?_ | refine din_i ?_ | refine dnotin_i ?_ | refine dput_i ?_ | refine setItem_i ?_ | refine oNone_i ?_ | refine oSome_i ?_ | refine onO_i ?_ | refine slice_i ?_ | refine sliceN_i ?_ | refine onSl_tup ?_ | refine onSl_old ?_ | refine onSl_lst ?_ | refine max2_i ?_ | refine min2_i ?_ | refine abs_i ?_ | refine eqS_i ?_ | refine neS_i ?_ | refine eqB_i ?_ | refine retN_i ?_ | refine skip_i ?_ | refine isN_i ?_ | refine isNI_i ?_ | refine isNT_i ?_ | refine isNS_i ?_ | refine chain_i ?_ | refine onB3_i ?_ | refine asg2_i ?_) | ((with_reducible apply var_i); exact rfl) | ((with_reducible apply seqE_i); exact rfl) | ((with_reducible apply srcE_i); exact rfl) | ((with_reducible apply list_i); exact rfl) | ((with_reducible apply rev_i); exact rfl) | ((with_reducible apply tuple_i); exact rfl) | ((with_reducible apply len_i); exact rfl) | ((with_reducible apply ix_i); exact rfl; exact rfl) | ((with_reducible apply aug_i); exact rfl) | ((with_reducible apply gtup_i); exact rfl))
        refine ⟨j, _, .int (c.fdiv most), rfl, rfl, hj2, by rw [List.length_map]; omega, ?_⟩
        repeat (first | (with_reducible first | refine seq_i ?_ | refine asg_i ?_ | refine c_i ?_ | refine op2_i ?_ | refine gname_i ?_ | refine cons_i ?_ | refine nil_i ?_ | refine add_i ?_ | refine sub_i ?_ | refine lt_i ?_ | refine le_i ?_ | refine gt_i ?_ | refine ge_i ?_ | refine eq_i ?_ | refine ne_i ?_ | refine onBl_i ?_ | refine tB_i ?_ | refine sif_i ?_ | refine rif_i ?_ | refine call_i ?_ | refine callK_i ?_ | refine ret_i ?_ | refine tup_i ?_ | refine lst_i ?_ | refine lstN_i ?_ | refine opN_i ?_ | refine f_i ?_ | refine fN_i ?_ | refine op1_i ?_ | refine neg_i ?_ | refine drop_i ?_ | refine mtd_i ?_ | refine tNot_i ?_ | refine tAnd_i ?_ | refine tOr_i ?_ | refine tYes_i ?_ | refine and_i ?_ | refine or_i ?_ | refine not_i ?_ | refine for_i ?_ | refine iseq_i ?_ | refine range1_i ?_ | refine range2_i ?_ | refine rcomp_i ?_ | refine rcompN_i ?_ | refine par_i ?_ | refine addA_i ?_ | refine gcons_i ?_ | refine gnil_i ?_ | refine dict_i ?_ | refine dget_i ?_ | refine din_i ?_ | refine dnotin_i ?_ | refine dput_i ?_ | refine setItem_i ?_ | refine oNone_i ?_ | refine oSome_i ?_ | refine onO_i ?_ | refine slice_i ?_ | refine sliceN_i ?_ | refine onSl_tup ?_ | refine onSl_old ?_ | refine onSl_lst ?_ | refine max2_i ?_ | refine min2_i ?_ | refine abs_i ?_ | refine eqS_i ?_ | refine neS_i ?_ | refine eqB_i ?_ | refine retN_i ?_ | refine skip_i ?_ | refine isN_i ?_ | refine isNI_i ?_ | refine isNT_i ?_ | refine isNS_i ?_ | refine chain_i ?_ | refine onB3_i ?_ | refine asg2_i ?_) | ((with_reducible apply var_i); exact rfl) | ((with_reducible apply seqE_i); exact rfl) | ((with_reducible apply srcE_i); exact rfl) | ((with_reducible apply list_i); exact rfl) | ((with_reducible apply rev_i); exact rfl) | ((with_reducible apply tuple_i); exact rfl) | ((with_reducible apply len_i); exact rfl) | ((with_reducible apply ix_i); exact rfl; exact rfl) | ((with_reducible apply aug_i); exact rfl) | ((with_reducible apply gtup_i); exact rfl))
        refine mod_i (by omega) (outK_same (hK _ _ (fmod_range _ (by omega)).1 (fmod_range _ (by omega)).2 ⟨hnj, a ++ [c.fdiv most], s, t + 1, by simp; simp at hl; omega, by rw [set_same (get_lt hj2)]; simp, (set_other fun e => hnj e.symm).trans hn2⟩ (sb2.trans ⟨List.length_set, fun i _ b => set_other fun e => b e.symm⟩)))
      · repeat (first | (with_reducible first | refine seq_i ?_ | refine asg_i ?_ | refine c_i ?_ | refine op2_i ?_ | refine gname_i ?_ | refine cons_i ?_ | refine nil_i ?_ | refine add_i ?_ | refine sub_i ?_ | refine lt_i ?_ | refine le_i ?_ | refine gt_i ?_ | refine ge_i ?_ | refine eq_i ?_ | refine ne_i ?_ | refine onBl_i ?_ | refine tB_i ?_ | refine sif_i ?_ | refine rif_i ?_ | refine call_i ?_ | refine callK_i ?_ | refine ret_i ?_ | refine tup_i ?_ | refine lst_i ?_ | refine lstN_i ?_ | refine opN_i ?_ | refine f_i ?_ | refine fN_i ?_ | refine op1_i ?_ | refine neg_i ?_ | refine drop_i ?_ | refine mtd_i ?_ | refine tNot_i ?_ | refine tAnd_i ?_ | refine tOr_i ?_ | refine tYes_i ?_ | refine and_i ?_ | refine or_i ?_ | refine not_i ?_ | refine for_i ?_ | refine iseq_i ?_ | refine range1_i ?_ | refine range2_i ?_ | refine rcomp_i ?_ | refine rcompN_i ?_ | refine par_i ?_ | refine addA_i ?_ | refine gcons_i ?_ | refine gnil_i ?_ | refine dict_i ?_ | refine dget_i ?_ | refine din_i ?_ | refine dnotin_i ?_ | refine dput_i ?_ | refine setItem_i ?_ | refine oNone_i ?_ | refine oSome_i ?_ | refine onO_i ?_ | refine slice_i ?_ | refine sliceN_i ?_ | refine onSl_tup ?_ | refine onSl_old ?_ | refine onSl_lst ?_ | refine max2_i ?_ | refine min2_i ?_ | refine abs_i ?_ | refine eqS_i ?_ | refine neS_i ?_ | refine eqB_i ?_ | refine retN_i ?_ | refine skip_i ?_ | refine isN_i ?_ | refine isNI_i ?_ | refine isNT_i ?_ | refine isNS_i ?_ | refine chain_i ?_ | refine onB3_i ?_ | refine asg2_i ?_) | ((with_reducible apply var_i); exact rfl) | ((with_reducible apply seqE_i); exact rfl) | ((with_reducible apply srcE_i); exact rfl) | ((with_reducible apply list_i); exact rfl) | ((with_reducible apply rev_i); exact rfl) | ((with_reducible apply tuple_i); exact rfl) | ((with_reducible apply len_i); exact rfl) | ((with_reducible apply ix_i); exact rfl; exact rfl) | ((with_reducible apply aug_i); exact rfl) | ((with_reducible apply gtup_i); exact rfl))
        exact tail c m2 _ none ⟨hnj, a, s, t + 1, by omega, hj2, hn2⟩ sb2 ⟨_, _, hn2⟩ rfl
    · repeat (first | (with_reducible first | refine seq_i ?_ | refine asg_i ?_ | refine c_i ?_ | refine op2_i ?_ | refine gname_i ?_ | refine cons_i ?_ | refine nil_i ?_ | refine add_i ?_ | refine sub_i ?_ | refine lt_i ?_ | refine le_i ?_ | refine gt_i ?_ | refine ge_i ?_ | refine eq_i ?_ | refine ne_i ?_ | refine onBl_i ?_ | refine tB_i ?_ | refine sif_i ?_ | refine rif_i ?_ | refine call_i ?_ | refine callK_i ?_ | refine ret_i ?_ | refine tup_i ?_ | refine lst_i ?_ | refine lstN_i ?_ | refine opN_i ?_ | refine f_i ?_ | refine fN_i ?_ | refine op1_i ?_ | refine neg_i ?_ | refine drop_i ?_ | refine mtd_i ?_ | refine tNot_i ?_ | refine tAnd_i ?_ | refine tOr_i ?_ | refine tYes_i ?_ | refine and_i ?_ | refine or_i ?_ | refine not_i ?_ | refine for_i ?_ | refine iseq_i ?_ | refine range1_i ?_ | refine range2_i ?_ | refine rcomp_i ?_ | refine rcompN_i ?_ | refine par_i ?_ | refine addA_i ?_ | refine gcons_i ?_ | refine gnil_i ?_ | refine dict_i ?_ | refine dget_i ?_ | refine din_i ?_ | refine dnotin_i ?_ | refine dput_i ?_ | refine setItem_i ?_ | refine oNone_i ?_ | refine oSome_i ?_ | refine onO_i ?_ | refine slice_i ?_ | refine sliceN_i ?_ | refine onSl_tup ?_ | refine onSl_old ?_ | refine onSl_lst ?_ | refine max2_i ?_ | refine min2_i ?_ | refine abs_i ?_ | refine eqS_i ?_ | refine neS_i ?_ | refine eqB_i ?_ | refine retN_i ?_ | refine skip_i ?_ | refine isN_i ?_ | refine isNI_i ?_ | refine isNT_i ?_ | refine isNS_i ?_ | refine chain_i ?_ | refine onB3_i ?_ | refine asg2_i ?_) | ((with_reducible apply var_i); exact rfl) | ((with_reducible apply seqE_i); exact rfl) | ((with_reducible apply srcE_i); exact rfl) | ((with_reducible apply list_i); exact rfl) | ((with_reducible apply rev_i); exact rfl) | ((with_reducible apply tuple_i); exact rfl) | ((with_reducible apply len_i); exact rfl) | ((with_reducible apply ix_i); exact rfl; exact rfl) | ((with_reducible apply aug_i); exact rfl) | ((with_reducible apply gtup_i); exact rfl))
      exact tail s m1 _ none ⟨hnj, l, s, t + 1, hl, hj', hn'⟩ sb ⟨_, _, hn'⟩ rfl
theorem runs_pick : Runs N__law_pick.length (B__law_pick c_draw) c_pick := fun ds m K E h => by
  obtain ⟨n, j, xs, rfl, dk, h1, h2, hK⟩ := h
  unfold B__law_pick
  repeat (first | (with_reducible first | refine seq_i ?_ | refine asg_i ?_ | refine c_i ?_ | refine op2_i ?_ | refine gname_i ?_ | refine cons_i ?_ | refine nil_i ?_ | refine add_i ?_ | refine sub_i ?_ | refine lt_i ?_ | refine le_i ?_ | refine gt_i ?_ | refine ge_i ?_ | refine eq_i ?_ | refine ne_i ?_ | refine onBl_i ?_ | refine tB_i ?_ | refine sif_i ?_ | refine rif_i ?_ | refine call_i ?_ | refine callK_i ?_ | refine ret_i ?_ | refine tup_i ?_ | refine lst_i ?_ | refine lstN_i ?_ | refine opN_i ?_ | refine f_i ?_ | refine fN_i ?_ | refine op1_i ?_ | refine neg_i ?_ | refine drop_i ?_ | refine mtd_i ?_ | refine tNot_i ?_ | refine tAnd_i ?_ | refine tOr_i ?_ | refine tYes_i ?_ | refine and_i ?_ | refine or_i ?_ | refine not_i ?_ | refine for_i ?_ | refine iseq_i ?_ | refine range1_i ?_ | refine range2_i ?_ | refine rcomp_i ?_ | refine rcompN_i ?_ | refine par_i ?_ | refine addA_i ?_ | refine gcons_i ?_ | refine gnil_i ?_ | refine dict_i ?_ | refine dget_i ?_ | refine din_i ?_ | refine dnotin_i ?_ | refine dput_i ?_ | refine setItem_i ?_ | refine oNone_i ?_ | refine oSome_i ?_ | refine onO_i ?_ | refine slice_i ?_ | refine sliceN_i ?_ | refine onSl_tup ?_ | refine onSl_old ?_ | refine onSl_lst ?_ | refine max2_i ?_ | refine min2_i ?_ | refine abs_i ?_ | refine eqS_i ?_ | refine neS_i ?_ | refine eqB_i ?_ | refine retN_i ?_ | refine skip_i ?_ | refine isN_i ?_ | refine isNI_i ?_ | refine isNT_i ?_ | refine isNS_i ?_ | refine chain_i ?_ | refine onB3_i ?_ | refine asg2_i ?_) | ((with_reducible apply var_i); exact rfl) | ((with_reducible apply seqE_i); exact rfl) | ((with_reducible apply srcE_i); exact rfl) | ((with_reducible apply list_i); exact rfl) | ((with_reducible apply rev_i); exact rfl) | ((with_reducible apply tuple_i); exact rfl) | ((with_reducible apply len_i); exact rfl) | ((with_reducible apply ix_i); exact rfl; exact rfl) | ((with_reducible apply aug_i); exact rfl) | ((with_reducible apply gtup_i); exact rfl))
  refine ⟨n, j, _, rfl, dk, by omega, by omega, fun v m' v0 v1 dk' sb => ?_⟩
  have hv : v.toNat < xs.length := by omega
  refine ix_i rfl (atI_nat v0 (List.getElem?_eq_getElem hv)) ?_
  exact outK_same (hK _ _ (List.getElem_mem hv) dk' sb)
end K03

namespace PL
open PySem
theorem items0_cell {m : Mem} {n : Nat} {xs : List D} (h : m[n]? = some (.lst xs)) : (D.cell n).items0 m = some xs := by
  show (match m[n]? with
    | some (.lst xs) => some xs
    | _ => none) = _
  rw [h]
theorem take_get {m : Mem} {k i : Nat} (h : i < k) : (m.take k)[i]? = m[i]? := List.getElem?_take_of_lt h
/-- the deck has gone on; cells made since are dropped -/
theorem leave_take {m m1 : Mem} {n j : Nat} (hn : n < m.length) (hj : j < m.length) (hl : m.length ≤ m1.length) (dk : Deck m1 n j) (h : ∀ i, i < m.length → i ≠ n → i ≠ j → m1[i]? = m[i]?) : Leave m m1 (m1.take m.length) ∧ Deck (m1.take m.length) n j ∧ SameBut m (m1.take m.length) n j := by
  obtain ⟨hnj, l, s, t, h1, h2, h3⟩ := dk
  refine ⟨⟨by rw [List.length_take]; omega, fun i hi => ?_⟩, ⟨hnj, l, s, t, h1, (take_get hj).trans h2, (take_get hn).trans h3⟩, ⟨by rw [List.length_take]; omega, fun i a b => ?_⟩⟩
  · by_cases e1 : i = n
    · subst e1
      refine .inr ⟨_, _, h3, ?_, (take_get hi).trans h3⟩
      show (allO (D.frz m1 m.length 20) [.cell j, .int s, .int t]).map Cell.lst = _
      have : D.frz m1 m.length 20 (.cell j) = some (.cell j) := if_pos hj
      simp only [allO, this]
      rfl
    · by_cases e2 : i = j
      · subst e2
        refine .inr ⟨_, _, h2, ?_, (take_get hi).trans h2⟩
        show (allO (D.frz m1 m.length 20) (l.map D.int)).map Cell.lst = _
        rw [allO_id _ fun x hx => by
          obtain ⟨z, _, rfl⟩ := List.mem_map.mp hx
          rfl]
        rfl
      · exact .inl ⟨h i hi e1 e2, (take_get hi).trans (h i hi e1 e2)⟩
  · by_cases hi : i < m.length
    · exact (take_get hi).trans (h i hi a b)
    · rw [List.getElem?_eq_none (by rw [List.length_take]; omega), List.getElem?_eq_none (by omega)]
theorem outK_deck {m m1 : Mem} {n j : Nat} {K : DK} {d : D} (hn : n < m.length) (hj : j < m.length) (hl : m.length ≤ m1.length) (dk : Deck m1 n j) (h : ∀ i, i < m.length → i ≠ n → i ≠ j → m1[i]? = m[i]?) (hd : d.flat = true) (hK : ∀ m2, Deck m2 n j → SameBut m m2 n j → K d m2) : outK m K d m1 := by
  obtain ⟨a, b, c⟩ := leave_take hn hj hl dk h
  exact .inr ⟨d, _, flat_frz (k := 18) hd, a, hK _ b c⟩
theorem Deck.lt {m : Mem} {n j : Nat} (h : Deck m n j) : n < m.length ∧ j < m.length := by
  obtain ⟨_, l, s, t, _, h2, h3⟩ := h
  exact ⟨get_lt h3, get_lt h2⟩
theorem Deck.app {m : Mem} {n j : Nat} (h : Deck m n j) (e : Mem) : Deck (m ++ e) n j := by
  obtain ⟨a, b⟩ := h.lt
  obtain ⟨hnj, l, s, t, h1, h2, h3⟩ := h
  exact ⟨hnj, l, s, t, h1, (List.getElem?_append_left b).trans h2, (List.getElem?_append_left a).trans h3⟩
theorem Deck.setO {m : Mem} {n j k : Nat} {c : Cell} (h : Deck m n j) (h1 : k ≠ n) (h2 : k ≠ j) : Deck (m.set k c) n j := by
  obtain ⟨hnj, l, s, t, q1, q2, q3⟩ := h
  exact ⟨hnj, l, s, t, q1, (set_other h2).trans q2, (set_other h1).trans q3⟩
end PL
namespace K03
open PySem PySem.Spec PyProof.Rows L2 PL
/-- v is the least divisor from 2 on -/
structure Least (m v : Int) : Prop where
  two : 2 ≤ v
  le : v ≤ m
  dv : m.fmod v = 0
  no : ∀ d, 2 ≤ d → d < v → m.fmod d ≠ 0
theorem Least.one {m v w : Int} (a : Least m v) (b : Least m w) : v = w := by
  rcases Int.lt_trichotomy v w with h | h | h
  · exact absurd a.dv (b.no v a.two h)
  · exact h
  · exact absurd b.dv (a.no w b.two h)
theorem fm {a b : Int} (h : 0 ≤ b) : a.fmod b = a % b := Int.fmod_eq_emod_of_nonneg a h
theorem least_exit {m t : Int} (h2 : 2 ≤ m) (ht : 2 ≤ t) (hno : ∀ d, 2 ≤ d → d < t → m.fmod d ≠ 0) (hx : ¬ t * t ≤ m) : Least m m := by
  refine ⟨h2, Int.le_refl _, by rw [fm (by omega)]; exact Int.emod_self, fun d h1 h3 he => ?_⟩
  rw [fm (by omega)] at he
  obtain ⟨q, hq⟩ := Int.dvd_of_emod_eq_zero he
  by_cases hd : d < t
  · exact hno d h1 hd (by rw [fm (by omega)]; exact he)
  · have q0 : 0 < q := by
      rcases Int.lt_or_le 0 q with h | h
      · exact h
      · have := Int.mul_nonpos_of_nonneg_of_nonpos (show 0 ≤ d by omega) h
        omega
    have q2 : 2 ≤ q := by
      rcases Int.lt_or_le q 2 with h | h
      · have : q = 1 := by omega
        subst this; omega
      · exact h
    have qt : q < t := by
      rcases Int.lt_or_le q t with h | h
      · exact h
      · have : t * t ≤ d * q := Int.mul_le_mul (by omega) h (by omega) (by omega)
        omega
    refine hno q q2 qt ?_
    rw [fm (by omega), hq]
    exact Int.mul_emod_left d q
theorem least_found {m t : Int} (ht : 2 ≤ t) (hno : ∀ d, 2 ≤ d → d < t → m.fmod d ≠ 0) (hx : t * t ≤ m) (he : m.fmod t = 0) : Least m t ∧ t < m := by
  have : t * 2 ≤ t * t := Int.mul_le_mul_of_nonneg_left ht (by omega)
  exact ⟨⟨ht, by omega, he, hno⟩, by omega⟩
def c_least : FnC := fun ds m K _ => ∃ n : Int, ds = [.int n] ∧ 2 ≤ n ∧ n ≤ 1000000 ∧ ∀ v, Least n v → K (.int v) m
theorem sq_small {t n : Int} (h0 : 2 ≤ t) (h : t * t ≤ n) (hn : n ≤ 1000000) : t ≤ n := by
  have : t * 2 ≤ t * t := Int.mul_le_mul_of_nonneg_left h0 (by omega)
  omega
theorem runs_least : Runs N__law_least.length B__law_least c_least := fun ds m K E h => by
  obtain ⟨n, rfl, h1, h2, hK⟩ := h
  unfold B__law_least
  repeat (first | (with_reducible first | refine seq_i ?_ | refine asg_i ?_ | refine c_i ?_ | refine op2_i ?_ | refine gname_i ?_ | refine cons_i ?_ | refine nil_i ?_ | refine add_i ?_ | refine sub_i ?_ | refine lt_i ?_ | refine le_i ?_ | refine gt_i ?_ | refine ge_i ?_ | refine eq_i ?_ | refine ne_i ?_ | refine onBl_i ?_ | refine tB_i ?_ | refine sif_i ?_ | refine rif_i ?_ | refine call_i ?_ | refine callK_i ?_ | refine ret_i ?_ | refine tup_i ?_ | refine lst_i ?_ | refine lstN_i ?_ | refine opN_i ?_ | refine f_i ?_ | refine fN_i ?_ | refine op1_i ?_ | refine neg_i ?_ | refine drop_i ?_ | refine mtd_i ?_ | refine tNot_i ?_ | refine tAnd_i ?_ | refine tOr_i ?_ | refine tYes_i ?_ | refine and_i ?_ | refine or_i ?_ | refine not_i ?_ | refine for_i ?_ | refine iseq_i ?_ | refine range1_i ?_ | refine range2_i ?_ | refine rcomp_i ?_ | refine rcompN_i ?_ | refine par_i ?_ | refine addA_i ?_ | refine gcons_i ?_ | refine gnil_i ?_ | refine dict_i ?_ | refine dget_i ?_ | refine din_i ?_ | refine dnotin_i ?_ | refine dput_i ?_ | refine setItem_i ?_ | refine oNone_i ?_ | refine oSome_i ?_ | refine onO_i ?_ | refine slice_i ?_ | refine sliceN_i ?_ | refine onSl_tup ?_ | refine onSl_old ?_ | refine onSl_lst ?_ | refine max2_i ?_ | refine min2_i ?_ | refine abs_i ?_ | refine eqS_i ?_ | refine neS_i ?_ | refine eqB_i ?_ | refine retN_i ?_ | refine skip_i ?_ | refine isN_i ?_ | refine isNI_i ?_ | refine isNT_i ?_ | refine isNS_i ?_ | refine chain_i ?_ | refine onB3_i ?_ | refine asg2_i ?_) | ((with_reducible apply var_i); exact rfl) | ((with_reducible apply seqE_i); exact rfl) | ((with_reducible apply srcE_i); exact rfl) | ((with_reducible apply list_i); exact rfl) | ((with_reducible apply rev_i); exact rfl) | ((with_reducible apply tuple_i); exact rfl) | ((with_reducible apply len_i); exact rfl) | ((with_reducible apply ix_i); exact rfl; exact rfl) | ((with_reducible apply aug_i); exact rfl) | ((with_reducible apply gtup_i); exact rfl))
  refine while_inv (fun k e m' => ∃ t : Int, m' = m ∧ e = [some (.int n), some (.int t)] ∧ 2 ≤ t ∧ t ≤ n + 1 ∧ (∀ d, 2 ≤ d → d < t → n.fmod d ≠ 0) ∧ k = (n + 1 - t).toNat) (n + 1 - 2).toNat (fun k e m' N hI hN => ?_) ⟨2, rfl, rfl, by decide, by omega, fun d a b => by omega, rfl⟩
  obtain ⟨t, rfl, rfl, t1, t2, hno, rfl⟩ := hI
  repeat (first | (with_reducible first | refine seq_i ?_ | refine asg_i ?_ | refine c_i ?_ | refine op2_i ?_ | refine gname_i ?_ | refine cons_i ?_ | refine nil_i ?_ | refine add_i ?_ | refine sub_i ?_ | refine lt_i ?_ | refine le_i ?_ | refine gt_i ?_ | refine ge_i ?_ | refine eq_i ?_ | refine ne_i ?_ | refine onBl_i ?_ | refine tB_i ?_ | refine sif_i ?_ | refine rif_i ?_ | refine call_i ?_ | refine callK_i ?_ | refine ret_i ?_ | refine tup_i ?_ | refine lst_i ?_ | refine lstN_i ?_ | refine opN_i ?_ | refine f_i ?_ | refine fN_i ?_ | refine op1_i ?_ | refine neg_i ?_ | refine drop_i ?_ | refine mtd_i ?_ | refine tNot_i ?_ | refine tAnd_i ?_ | refine tOr_i ?_ | refine tYes_i ?_ | refine and_i ?_ | refine or_i ?_ | refine not_i ?_ | refine for_i ?_ | refine iseq_i ?_ | refine range1_i ?_ | refine range2_i ?_ | refine rcomp_i ?_ | refine rcompN_i ?_ | refine par_i ?_ | refine addA_i ?_ | refine gcons_i ?_ | refine gnil_i ?_ | refine dict_i ?_ | refine dget_i ?_ | refine din_i ?_ | refine dnotin_i ?_ | refine dput_i ?_ | refine setItem_i ?_ | refine oNone_i ?_ | refine oSome_i ?_ | refine onO_i ?_ | refine slice_i ?_ | refine sliceN_i ?_ | refine onSl_tup ?_ | refine onSl_old ?_ | refine onSl_lst ?_ | refine max2_i ?_ | refine min2_i ?_ | refine abs_i ?_ | refine eqS_i ?_ | refine neS_i ?_ | refine eqB_i ?_ | refine retN_i ?_ | refine skip_i ?_ | refine isN_i ?_ | refine isNI_i ?_ | refine isNT_i ?_ | refine isNS_i ?_ | refine chain_i ?_ | refine onB3_i ?_ | refine asg2_i ?_) | ((with_reducible apply var_i); exact rfl) | ((with_reducible apply seqE_i); exact rfl) | ((with_reducible apply srcE_i); exact rfl) | ((with_reducible apply list_i); exact rfl) | ((with_reducible apply rev_i); exact rfl) | ((with_reducible apply tuple_i); exact rfl) | ((with_reducible apply len_i); exact rfl) | ((with_reducible apply ix_i); exact rfl; exact rfl) | ((with_reducible apply aug_i); exact rfl) | ((with_reducible apply gtup_i); exact rfl))
  refine mul_i (mulw (by omega) (by omega)) ?_
  repeat (first | (with_reducible first | refine seq_i ?_ | refine asg_i ?_ | refine c_i ?_ | refine op2_i ?_ | refine gname_i ?_ | refine cons_i ?_ | refine nil_i ?_ | refine add_i ?_ | refine sub_i ?_ | refine lt_i ?_ | refine le_i ?_ | refine gt_i ?_ | refine ge_i ?_ | refine eq_i ?_ | refine ne_i ?_ | refine onBl_i ?_ | refine tB_i ?_ | refine sif_i ?_ | refine rif_i ?_ | refine call_i ?_ | refine callK_i ?_ | refine ret_i ?_ | refine tup_i ?_ | refine lst_i ?_ | refine lstN_i ?_ | refine opN_i ?_ | refine f_i ?_ | refine fN_i ?_ | refine op1_i ?_ | refine neg_i ?_ | refine drop_i ?_ | refine mtd_i ?_ | refine tNot_i ?_ | refine tAnd_i ?_ | refine tOr_i ?_ | refine tYes_i ?_ | refine and_i ?_ | refine or_i ?_ | refine not_i ?_ | refine for_i ?_ | refine iseq_i ?_ | refine range1_i ?_ | refine range2_i ?_ | refine rcomp_i ?_ | refine rcompN_i ?_ | refine par_i ?_ | refine addA_i ?_ | refine gcons_i ?_ | refine gnil_i ?_ | refine dict_i ?_ | refine dget_i ?_ | refine din_i ?_ | refine dnotin_i ?_ | refine dput_i ?_ | refine setItem_i ?_ | refine oNone_i ?_ | refine oSome_i ?_ | refine onO_i ?_ | refine slice_i ?_ | refine sliceN_i ?_ | refine onSl_tup ?_ | refine onSl_old ?_ | refine onSl_lst ?_ | refine max2_i ?_ | refine min2_i ?_ | refine abs_i ?_ | refine eqS_i ?_ | refine neS_i ?_ | refine eqB_i ?_ | refine retN_i ?_ | refine skip_i ?_ | refine isN_i ?_ | refine isNI_i ?_ | refine isNT_i ?_ | refine isNS_i ?_ | refine chain_i ?_ | refine onB3_i ?_ | refine asg2_i ?_) | ((with_reducible apply var_i); exact rfl) | ((with_reducible apply seqE_i); exact rfl) | ((with_reducible apply srcE_i); exact rfl) | ((with_reducible apply list_i); exact rfl) | ((with_reducible apply rev_i); exact rfl) | ((with_reducible apply tuple_i); exact rfl) | ((with_reducible apply len_i); exact rfl) | ((with_reducible apply ix_i); exact rfl; exact rfl) | ((with_reducible apply aug_i); exact rfl) | ((with_reducible apply gtup_i); exact rfl))
  refine ite_i (fun hle => ?_) fun hle => ?_
  · have tn := sq_small t1 hle h2
    repeat (first | (with_reducible first | refine seq_i ?_ | refine asg_i ?_ | refine c_i ?_ | refine op2_i ?_ | refine gname_i ?_ | refine cons_i ?_ | refine nil_i ?_ | refine add_i ?_ | refine sub_i ?_ | refine lt_i ?_ | refine le_i ?_ | refine gt_i ?_ | refine ge_i ?_ | refine eq_i ?_ | refine ne_i ?_ | refine onBl_i ?_ | refine tB_i ?_ | refine sif_i ?_ | refine rif_i ?_ | refine call_i ?_ | refine callK_i ?_ | refine ret_i ?_ | refine tup_i ?_ | refine lst_i ?_ | refine lstN_i ?_ | refine opN_i ?_ | refine f_i ?_ | refine fN_i ?_ | refine op1_i ?_ | refine neg_i ?_ | refine drop_i ?_ | refine mtd_i ?_ | refine tNot_i ?_ | refine tAnd_i ?_ | refine tOr_i ?_ | refine tYes_i ?_ | refine and_i ?_ | refine or_i ?_ | refine not_i ?_ | refine for_i ?_ | refine iseq_i ?_ | refine range1_i ?_ | refine range2_i ?_ | refine rcomp_i ?_ | refine rcompN_i ?_ | refine par_i ?_ | refine addA_i ?_ | refine gcons_i ?_ | refine gnil_i ?_ | refine dict_i ?_ | refine dget_i ?_ | refine din_i ?_ | refine dnotin_i ?_ | refine dput_i ?_ | refine setItem_i ?_ | refine oNone_i ?_ | refine oSome_i ?_ | refine onO_i ?_ | refine slice_i ?_ | refine sliceN_i ?_ | refine onSl_tup ?_ | refine onSl_old ?_ | refine onSl_lst ?_ | refine max2_i ?_ | refine min2_i ?_ | refine abs_i ?_ | refine eqS_i ?_ | refine neS_i ?_ | refine eqB_i ?_ | refine retN_i ?_ | refine skip_i ?_ | refine isN_i ?_ | refine isNI_i ?_ | refine isNT_i ?_ | refine isNS_i ?_ | refine chain_i ?_ | refine onB3_i ?_ | refine asg2_i ?_) | ((with_reducible apply var_i); exact rfl) | ((with_reducible apply seqE_i); exact rfl) | ((with_reducible apply srcE_i); exact rfl) | ((with_reducible apply list_i); exact rfl) | ((with_reducible apply rev_i); exact rfl) | ((with_reducible apply tuple_i); exact rfl) | ((with_reducible apply len_i); exact rfl) | ((with_reducible apply ix_i); exact rfl; exact rfl) | ((with_reducible apply aug_i); exact rfl) | ((with_reducible apply gtup_i); exact rfl))
    refine mod_i (by omega) ?_
    repeat (first | (with_reducible first | refine seq_i ?_ | refine asg_i ?_ | refine c_i ?_ | refine op2_i ?_ | refine gname_i ?_ | refine cons_i ?_ | refine nil_i ?_ | refine add_i ?_ | refine sub_i ?_ | refine lt_i ?_ | refine le_i ?_ | refine gt_i ?_ | refine ge_i ?_ | refine eq_i ?_ | refine ne_i ?_ | refine onBl_i ?_ | refine tB_i ?_ | refine sif_i ?_ | refine rif_i ?_ | refine call_i ?_ | refine callK_i ?_ | refine ret_i ?_ | refine tup_i ?_ | refine lst_i ?_ | refine lstN_i ?_ | refine opN_i ?_ | refine f_i ?_ | refine fN_i ?_ | refine op1_i ?_ | refine neg_i ?_ | refine drop_i ?_ | refine mtd_i ?_ | refine tNot_i ?_ | refine tAnd_i ?_ | refine tOr_i ?_ | refine tYes_i ?_ | refine and_i ?_ | refine or_i ?_ | refine not_i ?_ | refine for_i ?_ | refine iseq_i ?_ | refine range1_i ?_ | refine range2_i ?_ | refine rcomp_i ?_ | refine rcompN_i ?_ | refine par_i ?_ | refine addA_i ?_ | refine gcons_i ?_ | refine gnil_i ?_ | refine dict_i ?_ | refine dget_i ?_ | refine din_i ?_ | refine dnotin_i ?_ | refine dput_i ?_ | refine setItem_i ?_ | refine oNone_i ?_ | refine oSome_i ?_ | refine onO_i ?_ | refine slice_i ?_ | refine sliceN_i ?_ | refine onSl_tup ?_ | refine onSl_old ?_ | refine onSl_lst ?_ | refine max2_i ?_ | refine min2_i ?_ | refine abs_i ?_ | refine eqS_i ?_ | refine neS_i ?_ | refine eqB_i ?_ | refine retN_i ?_ | refine skip_i ?_ | refine isN_i ?_ | refine isNI_i ?_ | refine isNT_i ?_ | refine isNS_i ?_ | refine chain_i ?_ | refine onB3_i ?_ | refine asg2_i ?_) | ((with_reducible apply var_i); exact rfl) | ((with_reducible apply seqE_i); exact rfl) | ((with_reducible apply srcE_i); exact rfl) | ((with_reducible apply list_i); exact rfl) | ((with_reducible apply rev_i); exact rfl) | ((with_reducible apply tuple_i); exact rfl) | ((with_reducible apply len_i); exact rfl) | ((with_reducible apply ix_i); exact rfl; exact rfl) | ((with_reducible apply aug_i); exact rfl) | ((with_reducible apply gtup_i); exact rfl))
    refine ite_i (fun he => ?_) fun he => ?_
    · repeat (first | (with_reducible first | refine seq_i ?_ | refine asg_i ?_ | refine c_i ?_ | refine op2_i ?_ | refine gname_i ?_ | refine cons_i ?_ | refine nil_i ?_ | refine add_i ?_ | refine sub_i ?_ | refine lt_i ?_ | refine le_i ?_ | refine gt_i ?_ | refine ge_i ?_ | refine eq_i ?_ | refine ne_i ?_ | refine onBl_i ?_ | refine tB_i ?_ | refine sif_i ?_ | refine rif_i ?_ | refine call_i ?_ | refine callK_i ?_ | refine ret_i ?_ | refine tup_i ?_ | refine lst_i ?_ | refine lstN_i ?_ | refine opN_i ?_ | refine f_i ?_ | refine fN_i ?_ | refine op1_i ?_ | refine neg_i ?_ | refine drop_i ?_ | refine mtd_i ?_ | refine tNot_i ?_ | refine tAnd_i ?_ | refine tOr_i ?_ | refine tYes_i ?_ | refine and_i ?_ | refine or_i ?_ | refine not_i ?_ | refine for_i ?_ | refine iseq_i ?_ | refine range1_i ?_ | refine range2_i ?_ | refine rcomp_i ?_ | refine rcompN_i ?_ | refine par_i ?_ | refine addA_i ?_ | refine gcons_i ?_ | refine gnil_i ?_ | refine dict_i ?_ | refine dget_i ?_ | refine din_i ?_ | refine dnotin_i ?_ | refine dput_i ?_ | refine setItem_i ?_ | refine oNone_i ?_ | refine oSome_i ?_ | refine onO_i ?_ | refine slice_i ?_ | refine sliceN_i ?_ | refine onSl_tup ?_ | refine onSl_old ?_ | refine onSl_lst ?_ | refine max2_i ?_ | refine min2_i ?_ | refine abs_i ?_ | refine eqS_i ?_ | refine neS_i ?_ | refine eqB_i ?_ | refine retN_i ?_ | refine skip_i ?_ | refine isN_i ?_ | refine isNI_i ?_ | refine isNT_i ?_ | refine isNS_i ?_ | refine chain_i ?_ | refine onB3_i ?_ | refine asg2_i ?_) | ((with_reducible apply var_i); exact rfl) | ((with_reducible apply seqE_i); exact rfl) | ((with_reducible apply srcE_i); exact rfl) | ((with_reducible apply list_i); exact rfl) | ((with_reducible apply rev_i); exact rfl) | ((with_reducible apply tuple_i); exact rfl) | ((with_reducible apply len_i); exact rfl) | ((with_reducible apply ix_i); exact rfl; exact rfl) | ((with_reducible apply aug_i); exact rfl) | ((with_reducible apply gtup_i); exact rfl))
      exact outK_same (hK _ (least_found t1 hno hle he).1)
    · repeat (first | (with_reducible first | refine seq_i ?_ | refine asg_i ?_ | refine c_i ?_ | refine op2_i ?_ | refine gname_i ?_ | refine cons_i ?_ | refine nil_i ?_ | refine add_i ?_ | refine sub_i ?_ | refine lt_i ?_ | refine le_i ?_ | refine gt_i ?_ | refine ge_i ?_ | refine eq_i ?_ | refine ne_i ?_ | refine onBl_i ?_ | refine tB_i ?_ | refine sif_i ?_ | refine rif_i ?_ | refine call_i ?_ | refine callK_i ?_ | refine ret_i ?_ | refine tup_i ?_ | refine lst_i ?_ | refine lstN_i ?_ | refine opN_i ?_ | refine f_i ?_ | refine fN_i ?_ | refine op1_i ?_ | refine neg_i ?_ | refine drop_i ?_ | refine mtd_i ?_ | refine tNot_i ?_ | refine tAnd_i ?_ | refine tOr_i ?_ | refine tYes_i ?_ | refine and_i ?_ | refine or_i ?_ | refine not_i ?_ | refine for_i ?_ | refine iseq_i ?_ | refine range1_i ?_ | refine range2_i ?_ | refine rcomp_i ?_ | refine rcompN_i ?_ | refine par_i ?_ | refine addA_i ?_ | refine gcons_i ?_ | refine gnil_i ?_ | refine dict_i ?_ | refine dget_i ?_ | refine din_i ?_ | refine dnotin_i ?_ | refine dput_i ?_ | refine setItem_i ?_ | refine oNone_i ?_ | refine oSome_i ?_ | refine onO_i ?_ | refine slice_i ?_ | refine sliceN_i ?_ | refine onSl_tup ?_ | refine onSl_old ?_ | refine onSl_lst ?_ | refine max2_i ?_ | refine min2_i ?_ | refine abs_i ?_ | refine eqS_i ?_ | refine neS_i ?_ | refine eqB_i ?_ | refine retN_i ?_ | refine skip_i ?_ | refine isN_i ?_ | refine isNI_i ?_ | refine isNT_i ?_ | refine isNS_i ?_ | refine chain_i ?_ | refine onB3_i ?_ | refine asg2_i ?_) | ((with_reducible apply var_i); exact rfl) | ((with_reducible apply seqE_i); exact rfl) | ((with_reducible apply srcE_i); exact rfl) | ((with_reducible apply list_i); exact rfl) | ((with_reducible apply rev_i); exact rfl) | ((with_reducible apply tuple_i); exact rfl) | ((with_reducible apply len_i); exact rfl) | ((with_reducible apply ix_i); exact rfl; exact rfl) | ((with_reducible apply aug_i); exact rfl) | ((with_reducible apply gtup_i); exact rfl))
      exact hN _ _ _ (by omega) ⟨t + 1, rfl, rfl, by omega, by omega, fun d a b => by
        by_cases e : d = t
        · rw [e]; exact he
        · exact hno d a (by omega), rfl⟩
  · repeat (first | (with_reducible first | refine seq_i ?_ | refine asg_i ?_ | refine c_i ?_ | refine op2_i ?_ | refine gname_i ?_ | refine cons_i ?_ | refine nil_i ?_ | refine add_i ?_ | refine sub_i ?_ | refine lt_i ?_ | refine le_i ?_ | refine gt_i ?_ | refine ge_i ?_ | refine eq_i ?_ | refine ne_i ?_ | refine onBl_i ?_ | refine tB_i ?_ | refine sif_i ?_ | refine rif_i ?_ | refine call_i ?_ | refine callK_i ?_ | refine ret_i ?_ | refine tup_i ?_ | refine lst_i ?_ | refine lstN_i ?_ | refine opN_i ?_ | refine f_i ?_ | refine fN_i ?_ | refine op1_i ?_ | refine neg_i ?_ | refine drop_i ?_ | refine mtd_i ?_ | refine tNot_i ?_ | refine tAnd_i ?_ | refine tOr_i ?_ | refine tYes_i ?_ | refine and_i ?_ | refine or_i ?_ | refine not_i ?_ | refine for_i ?_ | refine iseq_i ?_ | refine range1_i ?_ | refine range2_i ?_ | refine rcomp_i ?_ | refine rcompN_i ?_ | refine par_i ?_ | refine addA_i ?_ | refine gcons_i ?_ | refine gnil_i ?_ | refine dict_i ?_ | refine dget_i ?_ | refine din_i ?_ | refine dnotin_i ?_ | refine dput_i ?_ | refine setItem_i ?_ | refine oNone_i ?_ | refine oSome_i ?_ | refine onO_i ?_ | refine slice_i ?_ | refine sliceN_i ?_ | refine onSl_tup ?_ | refine onSl_old ?_ | refine onSl_lst ?_ | refine max2_i ?_ | refine min2_i ?_ | refine abs_i ?_ | refine eqS_i ?_ | refine neS_i ?_ | refine eqB_i ?_ | refine retN_i ?_ | refine skip_i ?_ | refine isN_i ?_ | refine isNI_i ?_ | refine isNT_i ?_ | refine isNS_i ?_ | refine chain_i ?_ | refine onB3_i ?_ | refine asg2_i ?_) | ((with_reducible apply var_i); exact rfl) | ((with_reducible apply seqE_i); exact rfl) | ((with_reducible apply srcE_i); exact rfl) | ((with_reducible apply list_i); exact rfl) | ((with_reducible apply rev_i); exact rfl) | ((with_reducible apply tuple_i); exact rfl) | ((with_reducible apply len_i); exact rfl) | ((with_reducible apply ix_i); exact rfl; exact rfl) | ((with_reducible apply aug_i); exact rfl) | ((with_reducible apply gtup_i); exact rfl))
    exact outK_same (hK _ (least_exit h1 t1 hno hle))
abbrev ring (n : Int) : D := .tup [.str "rests", .int n]
def c_rests : FnC := fun ds m K _ => ∃ n : Int, ds = [.int n] ∧ K (ring n) m
theorem runs_rests : Runs N_rests.length B_rests c_rests := fun ds m K E h => by
  obtain ⟨n, rfl, hK⟩ := h
  unfold B_rests
  repeat (first | (with_reducible first | refine seq_i ?_ | refine asg_i ?_ | refine c_i ?_ | refine op2_i ?_ | refine gname_i ?_ | refine cons_i ?_ | refine nil_i ?_ | refine add_i ?_ | refine sub_i ?_ | refine lt_i ?_ | refine le_i ?_ | refine gt_i ?_ | refine ge_i ?_ | refine eq_i ?_ | refine ne_i ?_ | refine onBl_i ?_ | refine tB_i ?_ | refine sif_i ?_ | refine rif_i ?_ | refine call_i ?_ | refine callK_i ?_ | refine ret_i ?_ | refine tup_i ?_ | refine lst_i ?_ | refine lstN_i ?_ | refine opN_i ?_ | refine f_i ?_ | refine fN_i ?_ | refine op1_i ?_ | refine neg_i ?_ | refine drop_i ?_ | refine mtd_i ?_ | refine tNot_i ?_ | refine tAnd_i ?_ | refine tOr_i ?_ | refine tYes_i ?_ | refine and_i ?_ | refine or_i ?_ | refine not_i ?_ | refine for_i ?_ | refine iseq_i ?_ | refine range1_i ?_ | refine range2_i ?_ | refine rcomp_i ?_ | refine rcompN_i ?_ | refine par_i ?_ | refine addA_i ?_ | refine gcons_i ?_ | refine gnil_i ?_ | refine dict_i ?_ | refine dget_i ?_ | refine din_i ?_ | refine dnotin_i ?_ | refine dput_i ?_ | refine setItem_i ?_ | refine oNone_i ?_ | refine oSome_i ?_ | refine onO_i ?_ | refine slice_i ?_ | refine sliceN_i ?_ | refine onSl_tup ?_ | refine onSl_old ?_ | refine onSl_lst ?_ | refine max2_i ?_ | refine min2_i ?_ | refine abs_i ?_ | refine eqS_i ?_ | refine neS_i ?_ | refine eqB_i ?_ | refine retN_i ?_ | refine skip_i ?_ | refine isN_i ?_ | refine isNI_i ?_ | refine isNT_i ?_ | refine isNS_i ?_ | refine chain_i ?_ | refine onB3_i ?_ | refine asg2_i ?_) | ((with_reducible apply var_i); exact rfl) | ((with_reducible apply seqE_i); exact rfl) | ((with_reducible apply srcE_i); exact rfl) | ((with_reducible apply list_i); exact rfl) | ((with_reducible apply rev_i); exact rfl) | ((with_reducible apply tuple_i); exact rfl) | ((with_reducible apply len_i); exact rfl) | ((with_reducible apply ix_i); exact rfl; exact rfl) | ((with_reducible apply aug_i); exact rfl) | ((with_reducible apply gtup_i); exact rfl))
  exact outK_same hK
def c_bar : FnC := fun ds m K _ => ∃ d, ds = [d] ∧ ((∃ n : Int, d = ring n ∧ 2 ≤ n ∧ n ≤ 1000000 ∧ ∀ v, Least n v → K (if v = n then .non else .int v) m) ∨ ((d = .tup [.str "whole"] ∨ d = .tup [.str "parts"]) ∧ K .non m))
theorem runs_bar : Runs N_bar_of.length B_bar_of c_bar := fun ds m K E h => by
  obtain ⟨d, rfl, h⟩ := h
  unfold B_bar_of
  rcases h with ⟨n, rfl, h1, h2, hK⟩ | ⟨hd, hK⟩
  · repeat (first | (with_reducible first | refine seq_i ?_ | refine asg_i ?_ | refine c_i ?_ | refine op2_i ?_ | refine gname_i ?_ | refine cons_i ?_ | refine nil_i ?_ | refine add_i ?_ | refine sub_i ?_ | refine lt_i ?_ | refine le_i ?_ | refine gt_i ?_ | refine ge_i ?_ | refine eq_i ?_ | refine ne_i ?_ | refine onBl_i ?_ | refine tB_i ?_ | refine sif_i ?_ | refine rif_i ?_ | refine call_i ?_ | refine callK_i ?_ | refine ret_i ?_ | refine tup_i ?_ | refine lst_i ?_ | refine lstN_i ?_ | refine opN_i ?_ | refine f_i ?_ | refine fN_i ?_ | refine op1_i ?_ | refine neg_i ?_ | refine drop_i ?_ | refine mtd_i ?_ | refine tNot_i ?_ | refine tAnd_i ?_ | refine tOr_i ?_ | refine tYes_i ?_ | refine and_i ?_ | refine or_i ?_ | refine not_i ?_ | refine for_i ?_ | refine iseq_i ?_ | refine range1_i ?_ | refine range2_i ?_ | refine rcomp_i ?_ | refine rcompN_i ?_ | refine par_i ?_ | refine addA_i ?_ | refine gcons_i ?_ | refine gnil_i ?_ | refine dict_i ?_ | refine dget_i ?_ | refine din_i ?_ | refine dnotin_i ?_ | refine dput_i ?_ | refine setItem_i ?_ | refine oNone_i ?_ | refine oSome_i ?_ | refine onO_i ?_ | refine slice_i ?_ | refine sliceN_i ?_ | refine onSl_tup ?_ | refine onSl_old ?_ | refine onSl_lst ?_ | refine max2_i ?_ | refine min2_i ?_ | refine abs_i ?_ | refine eqS_i ?_ | refine neS_i ?_ | refine eqB_i ?_ | refine retN_i ?_ | refine skip_i ?_ | refine isN_i ?_ | refine isNI_i ?_ | refine isNT_i ?_ | refine isNS_i ?_ | refine chain_i ?_ | refine onB3_i ?_ | refine asg2_i ?_) | ((with_reducible apply var_i); exact rfl) | ((with_reducible apply seqE_i); exact rfl) | ((with_reducible apply srcE_i); exact rfl) | ((with_reducible apply list_i); exact rfl) | ((with_reducible apply rev_i); exact rfl) | ((with_reducible apply tuple_i); exact rfl) | ((with_reducible apply len_i); exact rfl) | ((with_reducible apply ix_i); exact rfl; exact rfl) | ((with_reducible apply aug_i); exact rfl) | ((with_reducible apply gtup_i); exact rfl))
    refine ⟨.tuple [.str "rests", .int n], [.tuple [.str "whole"], .tuple [.str "parts"]], rfl, .inr rfl, by simp [PyData.canLay0, PyData.canLayAll0]; decide +kernel, by decide +kernel, ?_⟩
    repeat (first | (with_reducible first | refine seq_i ?_ | refine asg_i ?_ | refine c_i ?_ | refine op2_i ?_ | refine gname_i ?_ | refine cons_i ?_ | refine nil_i ?_ | refine add_i ?_ | refine sub_i ?_ | refine lt_i ?_ | refine le_i ?_ | refine gt_i ?_ | refine ge_i ?_ | refine eq_i ?_ | refine ne_i ?_ | refine onBl_i ?_ | refine tB_i ?_ | refine sif_i ?_ | refine rif_i ?_ | refine call_i ?_ | refine callK_i ?_ | refine ret_i ?_ | refine tup_i ?_ | refine lst_i ?_ | refine lstN_i ?_ | refine opN_i ?_ | refine f_i ?_ | refine fN_i ?_ | refine op1_i ?_ | refine neg_i ?_ | refine drop_i ?_ | refine mtd_i ?_ | refine tNot_i ?_ | refine tAnd_i ?_ | refine tOr_i ?_ | refine tYes_i ?_ | refine and_i ?_ | refine or_i ?_ | refine not_i ?_ | refine for_i ?_ | refine iseq_i ?_ | refine range1_i ?_ | refine range2_i ?_ | refine rcomp_i ?_ | refine rcompN_i ?_ | refine par_i ?_ | refine addA_i ?_ | refine gcons_i ?_ | refine gnil_i ?_ | refine dict_i ?_ | refine dget_i ?_ | refine din_i ?_ | refine dnotin_i ?_ | refine dput_i ?_ | refine setItem_i ?_ | refine oNone_i ?_ | refine oSome_i ?_ | refine onO_i ?_ | refine slice_i ?_ | refine sliceN_i ?_ | refine onSl_tup ?_ | refine onSl_old ?_ | refine onSl_lst ?_ | refine max2_i ?_ | refine min2_i ?_ | refine abs_i ?_ | refine eqS_i ?_ | refine neS_i ?_ | refine eqB_i ?_ | refine retN_i ?_ | refine skip_i ?_ | refine isN_i ?_ | refine isNI_i ?_ | refine isNT_i ?_ | refine isNS_i ?_ | refine chain_i ?_ | refine onB3_i ?_ | refine asg2_i ?_) | ((with_reducible apply var_i); exact rfl) | ((with_reducible apply seqE_i); exact rfl) | ((with_reducible apply srcE_i); exact rfl) | ((with_reducible apply list_i); exact rfl) | ((with_reducible apply rev_i); exact rfl) | ((with_reducible apply tuple_i); exact rfl) | ((with_reducible apply len_i); exact rfl) | ((with_reducible apply ix_i); exact rfl; exact rfl) | ((with_reducible apply aug_i); exact rfl) | ((with_reducible apply gtup_i); exact rfl))
    refine iteB_i (fun h => ?_) fun _ => ?_
    · exfalso
      revert h
      simp [PyData.eqv, PyData.eqvAll]
    repeat (first | (with_reducible first | refine seq_i ?_ | refine asg_i ?_ | refine c_i ?_ | refine op2_i ?_ | refine gname_i ?_ | refine cons_i ?_ | refine nil_i ?_ | refine add_i ?_ | refine sub_i ?_ | refine lt_i ?_ | refine le_i ?_ | refine gt_i ?_ | refine ge_i ?_ | refine eq_i ?_ | refine ne_i ?_ | refine onBl_i ?_ | refine tB_i ?_ | refine sif_i ?_ | refine rif_i ?_ | refine call_i ?_ | refine callK_i ?_ | refine ret_i ?_ | refine tup_i ?_ | refine lst_i ?_ | refine lstN_i ?_ | refine opN_i ?_ | refine f_i ?_ | refine fN_i ?_ | refine op1_i ?_ | refine neg_i ?_ | refine drop_i ?_ | refine mtd_i ?_ | refine tNot_i ?_ | refine tAnd_i ?_ | refine tOr_i ?_ | refine tYes_i ?_ | refine and_i ?_ | refine or_i ?_ | refine not_i ?_ | refine for_i ?_ | refine iseq_i ?_ | refine range1_i ?_ | refine range2_i ?_ | refine rcomp_i ?_ | refine rcompN_i ?_ | refine par_i ?_ | refine addA_i ?_ | refine gcons_i ?_ | refine gnil_i ?_ | refine dict_i ?_ | refine dget_i ?_ | refine din_i ?_ | refine dnotin_i ?_ | refine dput_i ?_ | refine setItem_i ?_ | refine oNone_i ?_ | refine oSome_i ?_ | refine onO_i ?_ | refine slice_i ?_ | refine sliceN_i ?_ | refine onSl_tup ?_ | refine onSl_old ?_ | refine onSl_lst ?_ | refine max2_i ?_ | refine min2_i ?_ | refine abs_i ?_ | refine eqS_i ?_ | refine neS_i ?_ | refine eqB_i ?_ | refine retN_i ?_ | refine skip_i ?_ | refine isN_i ?_ | refine isNI_i ?_ | refine isNT_i ?_ | refine isNS_i ?_ | refine chain_i ?_ | refine onB3_i ?_ | refine asg2_i ?_) | ((with_reducible apply var_i); exact rfl) | ((with_reducible apply seqE_i); exact rfl) | ((with_reducible apply srcE_i); exact rfl) | ((with_reducible apply list_i); exact rfl) | ((with_reducible apply rev_i); exact rfl) | ((with_reducible apply tuple_i); exact rfl) | ((with_reducible apply len_i); exact rfl) | ((with_reducible apply ix_i); exact rfl; exact rfl) | ((with_reducible apply aug_i); exact rfl) | ((with_reducible apply gtup_i); exact rfl))
    refine while_inv (fun k e m' => ∃ t : Int, m' = m ∧ e = [some (ring n), some (.int t)] ∧ 2 ≤ t ∧ t ≤ n + 1 ∧ (∀ d, 2 ≤ d → d < t → n.fmod d ≠ 0) ∧ k = (n + 1 - t).toNat) (n + 1 - 2).toNat (fun k e m' N hI hN => ?_) ⟨2, rfl, rfl, by decide, by omega, fun d a b => by omega, rfl⟩
    obtain ⟨t, rfl, rfl, t1, t2, hno, rfl⟩ := hI
    repeat (first | (with_reducible first | refine seq_i ?_ | refine asg_i ?_ | refine c_i ?_ | refine op2_i ?_ | refine gname_i ?_ | refine cons_i ?_ | refine nil_i ?_ | refine add_i ?_ | refine sub_i ?_ | refine lt_i ?_ | refine le_i ?_ | refine gt_i ?_ | refine ge_i ?_ | refine eq_i ?_ | refine ne_i ?_ | refine onBl_i ?_ | refine tB_i ?_ | refine sif_i ?_ | refine rif_i ?_ | refine call_i ?_ | refine callK_i ?_ | refine ret_i ?_ | refine tup_i ?_ | refine lst_i ?_ | refine lstN_i ?_ | refine opN_i ?_ | refine f_i ?_ | refine fN_i ?_ | refine op1_i ?_ | refine neg_i ?_ | refine drop_i ?_ | refine mtd_i ?_ | refine tNot_i ?_ | refine tAnd_i ?_ | refine tOr_i ?_ | refine tYes_i ?_ | refine and_i ?_ | refine or_i ?_ | refine not_i ?_ | refine for_i ?_ | refine iseq_i ?_ | refine range1_i ?_ | refine range2_i ?_ | refine rcomp_i ?_ | refine rcompN_i ?_ | refine par_i ?_ | refine addA_i ?_ | refine gcons_i ?_ | refine gnil_i ?_ | refine dict_i ?_ | refine dget_i ?_ | refine din_i ?_ | refine dnotin_i ?_ | refine dput_i ?_ | refine setItem_i ?_ | refine oNone_i ?_ | refine oSome_i ?_ | refine onO_i ?_ | refine slice_i ?_ | refine sliceN_i ?_ | refine onSl_tup ?_ | refine onSl_old ?_ | refine onSl_lst ?_ | refine max2_i ?_ | refine min2_i ?_ | refine abs_i ?_ | refine eqS_i ?_ | refine neS_i ?_ | refine eqB_i ?_ | refine retN_i ?_ | refine skip_i ?_ | refine isN_i ?_ | refine isNI_i ?_ | refine isNT_i ?_ | refine isNS_i ?_ | refine chain_i ?_ | refine onB3_i ?_ | refine asg2_i ?_) | ((with_reducible apply var_i); exact rfl) | ((with_reducible apply seqE_i); exact rfl) | ((with_reducible apply srcE_i); exact rfl) | ((with_reducible apply list_i); exact rfl) | ((with_reducible apply rev_i); exact rfl) | ((with_reducible apply tuple_i); exact rfl) | ((with_reducible apply len_i); exact rfl) | ((with_reducible apply ix_i); exact rfl; exact rfl) | ((with_reducible apply aug_i); exact rfl) | ((with_reducible apply gtup_i); exact rfl))
    refine mul_i (mulw (by omega) (by omega)) ?_
    repeat (first | (with_reducible first | refine seq_i ?_ | refine asg_i ?_ | refine c_i ?_ | refine op2_i ?_ | refine gname_i ?_ | refine cons_i ?_ | refine nil_i ?_ | refine add_i ?_ | refine sub_i ?_ | refine lt_i ?_ | refine le_i ?_ | refine gt_i ?_ | refine ge_i ?_ | refine eq_i ?_ | refine ne_i ?_ | refine onBl_i ?_ | refine tB_i ?_ | refine sif_i ?_ | refine rif_i ?_ | refine call_i ?_ | refine callK_i ?_ | refine ret_i ?_ | refine tup_i ?_ | refine lst_i ?_ | refine lstN_i ?_ | refine opN_i ?_ | refine f_i ?_ | refine fN_i ?_ | refine op1_i ?_ | refine neg_i ?_ | refine drop_i ?_ | refine mtd_i ?_ | refine tNot_i ?_ | refine tAnd_i ?_ | refine tOr_i ?_ | refine tYes_i ?_ | refine and_i ?_ | refine or_i ?_ | refine not_i ?_ | refine for_i ?_ | refine iseq_i ?_ | refine range1_i ?_ | refine range2_i ?_ | refine rcomp_i ?_ | refine rcompN_i ?_ | refine par_i ?_ | refine addA_i ?_ | refine gcons_i ?_ | refine gnil_i ?_ | refine dict_i ?_ | refine dget_i ?_ | refine din_i ?_ | refine dnotin_i ?_ | refine dput_i ?_ | refine setItem_i ?_ | refine oNone_i ?_ | refine oSome_i ?_ | refine onO_i ?_ | refine slice_i ?_ | refine sliceN_i ?_ | refine onSl_tup ?_ | refine onSl_old ?_ | refine onSl_lst ?_ | refine max2_i ?_ | refine min2_i ?_ | refine abs_i ?_ | refine eqS_i ?_ | refine neS_i ?_ | refine eqB_i ?_ | refine retN_i ?_ | refine skip_i ?_ | refine isN_i ?_ | refine isNI_i ?_ | refine isNT_i ?_ | refine isNS_i ?_ | refine chain_i ?_ | refine onB3_i ?_ | refine asg2_i ?_) | ((with_reducible apply var_i); exact rfl) | ((with_reducible apply seqE_i); exact rfl) | ((with_reducible apply srcE_i); exact rfl) | ((with_reducible apply list_i); exact rfl) | ((with_reducible apply rev_i); exact rfl) | ((with_reducible apply tuple_i); exact rfl) | ((with_reducible apply len_i); exact rfl) | ((with_reducible apply ix_i); exact rfl; exact rfl) | ((with_reducible apply aug_i); exact rfl) | ((with_reducible apply gtup_i); exact rfl))
    refine ite_i (fun hle => ?_) fun hle => ?_
    · have tn := sq_small t1 hle h2
      repeat (first | (with_reducible first | refine seq_i ?_ | refine asg_i ?_ | refine c_i ?_ | refine op2_i ?_ | refine gname_i ?_ | refine cons_i ?_ | refine nil_i ?_ | refine add_i ?_ | refine sub_i ?_ | refine lt_i ?_ | refine le_i ?_ | refine gt_i ?_ | refine ge_i ?_ | refine eq_i ?_ | refine ne_i ?_ | refine onBl_i ?_ | refine tB_i ?_ | refine sif_i ?_ | refine rif_i ?_ | refine call_i ?_ | refine callK_i ?_ | refine ret_i ?_ | refine tup_i ?_ | refine lst_i ?_ | refine lstN_i ?_ | refine opN_i ?_ | refine f_i ?_ | refine fN_i ?_ | refine op1_i ?_ | refine neg_i ?_ | refine drop_i ?_ | refine mtd_i ?_ | refine tNot_i ?_ | refine tAnd_i ?_ | refine tOr_i ?_ | refine tYes_i ?_ | refine and_i ?_ | refine or_i ?_ | refine not_i ?_ | refine for_i ?_ | refine iseq_i ?_ | refine range1_i ?_ | refine range2_i ?_ | refine rcomp_i ?_ | refine rcompN_i ?_ | refine par_i ?_ | refine addA_i ?_ | refine gcons_i ?_ | refine gnil_i ?_ | refine dict_i ?_ | refine dget_i ?_ | refine din_i ?_ | refine dnotin_i ?_ | refine dput_i ?_ | refine setItem_i ?_ | refine oNone_i ?_ | refine oSome_i ?_ | refine onO_i ?_ | refine slice_i ?_ | refine sliceN_i ?_ | refine onSl_tup ?_ | refine onSl_old ?_ | refine onSl_lst ?_ | refine max2_i ?_ | refine min2_i ?_ | refine abs_i ?_ | refine eqS_i ?_ | refine neS_i ?_ | refine eqB_i ?_ | refine retN_i ?_ | refine skip_i ?_ | refine isN_i ?_ | refine isNI_i ?_ | refine isNT_i ?_ | refine isNS_i ?_ | refine chain_i ?_ | refine onB3_i ?_ | refine asg2_i ?_) | ((with_reducible apply var_i); exact rfl) | ((with_reducible apply seqE_i); exact rfl) | ((with_reducible apply srcE_i); exact rfl) | ((with_reducible apply list_i); exact rfl) | ((with_reducible apply rev_i); exact rfl) | ((with_reducible apply tuple_i); exact rfl) | ((with_reducible apply len_i); exact rfl) | ((with_reducible apply ix_i); exact rfl; exact rfl) | ((with_reducible apply aug_i); exact rfl) | ((with_reducible apply gtup_i); exact rfl))
      refine mod_i (by omega) ?_
      repeat (first | (with_reducible first | refine seq_i ?_ | refine asg_i ?_ | refine c_i ?_ | refine op2_i ?_ | refine gname_i ?_ | refine cons_i ?_ | refine nil_i ?_ | refine add_i ?_ | refine sub_i ?_ | refine lt_i ?_ | refine le_i ?_ | refine gt_i ?_ | refine ge_i ?_ | refine eq_i ?_ | refine ne_i ?_ | refine onBl_i ?_ | refine tB_i ?_ | refine sif_i ?_ | refine rif_i ?_ | refine call_i ?_ | refine callK_i ?_ | refine ret_i ?_ | refine tup_i ?_ | refine lst_i ?_ | refine lstN_i ?_ | refine opN_i ?_ | refine f_i ?_ | refine fN_i ?_ | refine op1_i ?_ | refine neg_i ?_ | refine drop_i ?_ | refine mtd_i ?_ | refine tNot_i ?_ | refine tAnd_i ?_ | refine tOr_i ?_ | refine tYes_i ?_ | refine and_i ?_ | refine or_i ?_ | refine not_i ?_ | refine for_i ?_ | refine iseq_i ?_ | refine range1_i ?_ | refine range2_i ?_ | refine rcomp_i ?_ | refine rcompN_i ?_ | refine par_i ?_ | refine addA_i ?_ | refine gcons_i ?_ | refine gnil_i ?_ | refine dict_i ?_ | refine dget_i ?_ | refine din_i ?_ | refine dnotin_i ?_ | refine dput_i ?_ | refine setItem_i ?_ | refine oNone_i ?_ | refine oSome_i ?_ | refine onO_i ?_ | refine slice_i ?_ | refine sliceN_i ?_ | refine onSl_tup ?_ | refine onSl_old ?_ | refine onSl_lst ?_ | refine max2_i ?_ | refine min2_i ?_ | refine abs_i ?_ | refine eqS_i ?_ | refine neS_i ?_ | refine eqB_i ?_ | refine retN_i ?_ | refine skip_i ?_ | refine isN_i ?_ | refine isNI_i ?_ | refine isNT_i ?_ | refine isNS_i ?_ | refine chain_i ?_ | refine onB3_i ?_ | refine asg2_i ?_) | ((with_reducible apply var_i); exact rfl) | ((with_reducible apply seqE_i); exact rfl) | ((with_reducible apply srcE_i); exact rfl) | ((with_reducible apply list_i); exact rfl) | ((with_reducible apply rev_i); exact rfl) | ((with_reducible apply tuple_i); exact rfl) | ((with_reducible apply len_i); exact rfl) | ((with_reducible apply ix_i); exact rfl; exact rfl) | ((with_reducible apply aug_i); exact rfl) | ((with_reducible apply gtup_i); exact rfl))
      refine ite_i (fun he => ?_) fun he => ?_
      · repeat (first | (with_reducible first | refine seq_i ?_ | refine asg_i ?_ | refine c_i ?_ | refine op2_i ?_ | refine gname_i ?_ | refine cons_i ?_ | refine nil_i ?_ | refine add_i ?_ | refine sub_i ?_ | refine lt_i ?_ | refine le_i ?_ | refine gt_i ?_ | refine ge_i ?_ | refine eq_i ?_ | refine ne_i ?_ | refine onBl_i ?_ | refine tB_i ?_ | refine sif_i ?_ | refine rif_i ?_ | refine call_i ?_ | refine callK_i ?_ | refine ret_i ?_ | refine tup_i ?_ | refine lst_i ?_ | refine lstN_i ?_ | refine opN_i ?_ | refine f_i ?_ | refine fN_i ?_ | refine op1_i ?_ | refine neg_i ?_ | refine drop_i ?_ | refine mtd_i ?_ | refine tNot_i ?_ | refine tAnd_i ?_ | refine tOr_i ?_ | refine tYes_i ?_ | refine and_i ?_ | refine or_i ?_ | refine not_i ?_ | refine for_i ?_ | refine iseq_i ?_ | refine range1_i ?_ | refine range2_i ?_ | refine rcomp_i ?_ | refine rcompN_i ?_ | refine par_i ?_ | refine addA_i ?_ | refine gcons_i ?_ | refine gnil_i ?_ | refine dict_i ?_ | refine dget_i ?_ | refine din_i ?_ | refine dnotin_i ?_ | refine dput_i ?_ | refine setItem_i ?_ | refine oNone_i ?_ | refine oSome_i ?_ | refine onO_i ?_ | refine slice_i ?_ | refine sliceN_i ?_ | refine onSl_tup ?_ | refine onSl_old ?_ | refine onSl_lst ?_ | refine max2_i ?_ | refine min2_i ?_ | refine abs_i ?_ | refine eqS_i ?_ | refine neS_i ?_ | refine eqB_i ?_ | refine retN_i ?_ | refine skip_i ?_ | refine isN_i ?_ | refine isNI_i ?_ | refine isNT_i ?_ | refine isNS_i ?_ | refine chain_i ?_ | refine onB3_i ?_ | refine asg2_i ?_) | ((with_reducible apply var_i); exact rfl) | ((with_reducible apply seqE_i); exact rfl) | ((with_reducible apply srcE_i); exact rfl) | ((with_reducible apply list_i); exact rfl) | ((with_reducible apply rev_i); exact rfl) | ((with_reducible apply tuple_i); exact rfl) | ((with_reducible apply len_i); exact rfl) | ((with_reducible apply ix_i); exact rfl; exact rfl) | ((with_reducible apply aug_i); exact rfl) | ((with_reducible apply gtup_i); exact rfl))
        have q := least_found t1 hno hle he
        have := hK _ q.1
        rw [if_neg (by omega)] at this
        exact outK_same this
      · repeat (first | (with_reducible first | refine seq_i ?_ | refine asg_i ?_ | refine c_i ?_ | refine op2_i ?_ | refine gname_i ?_ | refine cons_i ?_ | refine nil_i ?_ | refine add_i ?_ | refine sub_i ?_ | refine lt_i ?_ | refine le_i ?_ | refine gt_i ?_ | refine ge_i ?_ | refine eq_i ?_ | refine ne_i ?_ | refine onBl_i ?_ | refine tB_i ?_ | refine sif_i ?_ | refine rif_i ?_ | refine call_i ?_ | refine callK_i ?_ | refine ret_i ?_ | refine tup_i ?_ | refine lst_i ?_ | refine lstN_i ?_ | refine opN_i ?_ | refine f_i ?_ | refine fN_i ?_ | refine op1_i ?_ | refine neg_i ?_ | refine drop_i ?_ | refine mtd_i ?_ | refine tNot_i ?_ | refine tAnd_i ?_ | refine tOr_i ?_ | refine tYes_i ?_ | refine and_i ?_ | refine or_i ?_ | refine not_i ?_ | refine for_i ?_ | refine iseq_i ?_ | refine range1_i ?_ | refine range2_i ?_ | refine rcomp_i ?_ | refine rcompN_i ?_ | refine par_i ?_ | refine addA_i ?_ | refine gcons_i ?_ | refine gnil_i ?_ | refine dict_i ?_ | refine dget_i ?_ | refine din_i ?_ | refine dnotin_i ?_ | refine dput_i ?_ | refine setItem_i ?_ | refine oNone_i ?_ | refine oSome_i ?_ | refine onO_i ?_ | refine slice_i ?_ | refine sliceN_i ?_ | refine onSl_tup ?_ | refine onSl_old ?_ | refine onSl_lst ?_ | refine max2_i ?_ | refine min2_i ?_ | refine abs_i ?_ | refine eqS_i ?_ | refine neS_i ?_ | refine eqB_i ?_ | refine retN_i ?_ | refine skip_i ?_ | refine isN_i ?_ | refine isNI_i ?_ | refine isNT_i ?_ | refine isNS_i ?_ | refine chain_i ?_ | refine onB3_i ?_ | refine asg2_i ?_) | ((with_reducible apply var_i); exact rfl) | ((with_reducible apply seqE_i); exact rfl) | ((with_reducible apply srcE_i); exact rfl) | ((with_reducible apply list_i); exact rfl) | ((with_reducible apply rev_i); exact rfl) | ((with_reducible apply tuple_i); exact rfl) | ((with_reducible apply len_i); exact rfl) | ((with_reducible apply ix_i); exact rfl; exact rfl) | ((with_reducible apply aug_i); exact rfl) | ((with_reducible apply gtup_i); exact rfl))
        exact hN _ _ _ (by omega) ⟨t + 1, rfl, rfl, by omega, by omega, fun d a b => by
          by_cases e : d = t
          · rw [e]; exact he
          · exact hno d a (by omega), rfl⟩
    · repeat (first | (with_reducible first | refine seq_i ?_ | refine asg_i ?_ | refine c_i ?_ | refine op2_i ?_ | refine gname_i ?_ | refine cons_i ?_ | refine nil_i ?_ | refine add_i ?_ | refine sub_i ?_ | refine lt_i ?_ | refine le_i ?_ | refine gt_i ?_ | refine ge_i ?_ | refine eq_i ?_ | refine ne_i ?_ | refine onBl_i ?_ | refine tB_i ?_ | refine sif_i ?_ | refine rif_i ?_ | refine call_i ?_ | refine callK_i ?_ | refine ret_i ?_ | refine tup_i ?_ | refine lst_i ?_ | refine lstN_i ?_ | refine opN_i ?_ | refine f_i ?_ | refine fN_i ?_ | refine op1_i ?_ | refine neg_i ?_ | refine drop_i ?_ | refine mtd_i ?_ | refine tNot_i ?_ | refine tAnd_i ?_ | refine tOr_i ?_ | refine tYes_i ?_ | refine and_i ?_ | refine or_i ?_ | refine not_i ?_ | refine for_i ?_ | refine iseq_i ?_ | refine range1_i ?_ | refine range2_i ?_ | refine rcomp_i ?_ | refine rcompN_i ?_ | refine par_i ?_ | refine addA_i ?_ | refine gcons_i ?_ | refine gnil_i ?_ | refine dict_i ?_ | refine dget_i ?_ | refine din_i ?_ | refine dnotin_i ?_ | refine dput_i ?_ | refine setItem_i ?_ | refine oNone_i ?_ | refine oSome_i ?_ | refine onO_i ?_ | refine slice_i ?_ | refine sliceN_i ?_ | refine onSl_tup ?_ | refine onSl_old ?_ | refine onSl_lst ?_ | refine max2_i ?_ | refine min2_i ?_ | refine abs_i ?_ | refine eqS_i ?_ | refine neS_i ?_ | refine eqB_i ?_ | refine retN_i ?_ | refine skip_i ?_ | refine isN_i ?_ | refine isNI_i ?_ | refine isNT_i ?_ | refine isNS_i ?_ | refine chain_i ?_ | refine onB3_i ?_ | refine asg2_i ?_) | ((with_reducible apply var_i); exact rfl) | ((with_reducible apply seqE_i); exact rfl) | ((with_reducible apply srcE_i); exact rfl) | ((with_reducible apply list_i); exact rfl) | ((with_reducible apply rev_i); exact rfl) | ((with_reducible apply tuple_i); exact rfl) | ((with_reducible apply len_i); exact rfl) | ((with_reducible apply ix_i); exact rfl; exact rfl) | ((with_reducible apply aug_i); exact rfl) | ((with_reducible apply gtup_i); exact rfl))
      have := hK _ (least_exit h1 t1 hno hle)
      rw [if_pos rfl] at this
      exact outK_same this
  · rcases hd with rfl | rfl
    · repeat (first | (with_reducible first | refine seq_i ?_ | refine asg_i ?_ | refine c_i ?_ | refine op2_i ?_ | refine gname_i ?_ | refine cons_i ?_ | refine nil_i ?_ | refine add_i ?_ | refine sub_i ?_ | refine lt_i ?_ | refine le_i ?_ | refine gt_i ?_ | refine ge_i ?_ | refine eq_i ?_ | refine ne_i ?_ | refine onBl_i ?_ | refine tB_i ?_ | refine sif_i ?_ | refine rif_i ?_ | refine call_i ?_ | refine callK_i ?_ | refine ret_i ?_ | refine tup_i ?_ | refine lst_i ?_ | refine lstN_i ?_ | refine opN_i ?_ | refine f_i ?_ | refine fN_i ?_ | refine op1_i ?_ | refine neg_i ?_ | refine drop_i ?_ | refine mtd_i ?_ | refine tNot_i ?_ | refine tAnd_i ?_ | refine tOr_i ?_ | refine tYes_i ?_ | refine and_i ?_ | refine or_i ?_ | refine not_i ?_ | refine for_i ?_ | refine iseq_i ?_ | refine range1_i ?_ | refine range2_i ?_ | refine rcomp_i ?_ | refine rcompN_i ?_ | refine par_i ?_ | refine addA_i ?_ | refine gcons_i ?_ | refine gnil_i ?_ | refine dict_i ?_ | refine dget_i ?_ | refine din_i ?_ | refine dnotin_i ?_ | refine dput_i ?_ | refine setItem_i ?_ | refine oNone_i ?_ | refine oSome_i ?_ | refine onO_i ?_ | refine slice_i ?_ | refine sliceN_i ?_ | refine onSl_tup ?_ | refine onSl_old ?_ | refine onSl_lst ?_ | refine max2_i ?_ | refine min2_i ?_ | refine abs_i ?_ | refine eqS_i ?_ | refine neS_i ?_ | refine eqB_i ?_ | refine retN_i ?_ | refine skip_i ?_ | refine isN_i ?_ | refine isNI_i ?_ | refine isNT_i ?_ | refine isNS_i ?_ | refine chain_i ?_ | refine onB3_i ?_ | refine asg2_i ?_) | ((with_reducible apply var_i); exact rfl) | ((with_reducible apply seqE_i); exact rfl) | ((with_reducible apply srcE_i); exact rfl) | ((with_reducible apply list_i); exact rfl) | ((with_reducible apply rev_i); exact rfl) | ((with_reducible apply tuple_i); exact rfl) | ((with_reducible apply len_i); exact rfl) | ((with_reducible apply ix_i); exact rfl; exact rfl) | ((with_reducible apply aug_i); exact rfl) | ((with_reducible apply gtup_i); exact rfl))
      refine ⟨.tuple [.str "whole"], [.tuple [.str "whole"], .tuple [.str "parts"]], rfl, .inr rfl, by decide +kernel, by decide +kernel, ?_⟩
      repeat (first | (with_reducible first | refine seq_i ?_ | refine asg_i ?_ | refine c_i ?_ | refine op2_i ?_ | refine gname_i ?_ | refine cons_i ?_ | refine nil_i ?_ | refine add_i ?_ | refine sub_i ?_ | refine lt_i ?_ | refine le_i ?_ | refine gt_i ?_ | refine ge_i ?_ | refine eq_i ?_ | refine ne_i ?_ | refine onBl_i ?_ | refine tB_i ?_ | refine sif_i ?_ | refine rif_i ?_ | refine call_i ?_ | refine callK_i ?_ | refine ret_i ?_ | refine tup_i ?_ | refine lst_i ?_ | refine lstN_i ?_ | refine opN_i ?_ | refine f_i ?_ | refine fN_i ?_ | refine op1_i ?_ | refine neg_i ?_ | refine drop_i ?_ | refine mtd_i ?_ | refine tNot_i ?_ | refine tAnd_i ?_ | refine tOr_i ?_ | refine tYes_i ?_ | refine and_i ?_ | refine or_i ?_ | refine not_i ?_ | refine for_i ?_ | refine iseq_i ?_ | refine range1_i ?_ | refine range2_i ?_ | refine rcomp_i ?_ | refine rcompN_i ?_ | refine par_i ?_ | refine addA_i ?_ | refine gcons_i ?_ | refine gnil_i ?_ | refine dict_i ?_ | refine dget_i ?_ | refine din_i ?_ | refine dnotin_i ?_ | refine dput_i ?_ | refine setItem_i ?_ | refine oNone_i ?_ | refine oSome_i ?_ | refine onO_i ?_ | refine slice_i ?_ | refine sliceN_i ?_ | refine onSl_tup ?_ | refine onSl_old ?_ | refine onSl_lst ?_ | refine max2_i ?_ | refine min2_i ?_ | refine abs_i ?_ | refine eqS_i ?_ | refine neS_i ?_ | refine eqB_i ?_ | refine retN_i ?_ | refine skip_i ?_ | refine isN_i ?_ | refine isNI_i ?_ | refine isNT_i ?_ | refine isNS_i ?_ | refine chain_i ?_ | refine onB3_i ?_ | refine asg2_i ?_) | ((with_reducible apply var_i); exact rfl) | ((with_reducible apply seqE_i); exact rfl) | ((with_reducible apply srcE_i); exact rfl) | ((with_reducible apply list_i); exact rfl) | ((with_reducible apply rev_i); exact rfl) | ((with_reducible apply tuple_i); exact rfl) | ((with_reducible apply len_i); exact rfl) | ((with_reducible apply ix_i); exact rfl; exact rfl) | ((with_reducible apply aug_i); exact rfl) | ((with_reducible apply gtup_i); exact rfl))
      refine iteB_i (fun h => ?_) fun h => ?_
      · repeat (first | (with_reducible first | refine seq_i ?_ | refine asg_i ?_ | refine c_i ?_ | refine op2_i ?_ | refine gname_i ?_ | refine cons_i ?_ | refine nil_i ?_ | refine add_i ?_ | refine sub_i ?_ | refine lt_i ?_ | refine le_i ?_ | refine gt_i ?_ | refine ge_i ?_ | refine eq_i ?_ | refine ne_i ?_ | refine onBl_i ?_ | refine tB_i ?_ | refine sif_i ?_ | refine rif_i ?_ | refine call_i ?_ | refine callK_i ?_ | refine ret_i ?_ | refine tup_i ?_ | refine lst_i ?_ | refine lstN_i ?_ | refine opN_i ?_ | refine f_i ?_ | refine fN_i ?_ | refine op1_i ?_ | refine neg_i ?_ | refine drop_i ?_ | refine mtd_i ?_ | refine tNot_i ?_ | refine tAnd_i ?_ | refine tOr_i ?_ | refine tYes_i ?_ | refine and_i ?_ | refine or_i ?_ | refine not_i ?_ | refine for_i ?_ | refine iseq_i ?_ | refine range1_i ?_ | refine range2_i ?_ | refine rcomp_i ?_ | refine rcompN_i ?_ | refine par_i ?_ | refine addA_i ?_ | refine gcons_i ?_ | refine gnil_i ?_ | refine dict_i ?_ | refine dget_i ?_ | refine din_i ?_ | refine dnotin_i ?_ | refine dput_i ?_ | refine setItem_i ?_ | refine oNone_i ?_ | refine oSome_i ?_ | refine onO_i ?_ | refine slice_i ?_ | refine sliceN_i ?_ | refine onSl_tup ?_ | refine onSl_old ?_ | refine onSl_lst ?_ | refine max2_i ?_ | refine min2_i ?_ | refine abs_i ?_ | refine eqS_i ?_ | refine neS_i ?_ | refine eqB_i ?_ | refine retN_i ?_ | refine skip_i ?_ | refine isN_i ?_ | refine isNI_i ?_ | refine isNT_i ?_ | refine isNS_i ?_ | refine chain_i ?_ | refine onB3_i ?_ | refine asg2_i ?_) | ((with_reducible apply var_i); exact rfl) | ((with_reducible apply seqE_i); exact rfl) | ((with_reducible apply srcE_i); exact rfl) | ((with_reducible apply list_i); exact rfl) | ((with_reducible apply rev_i); exact rfl) | ((with_reducible apply tuple_i); exact rfl) | ((with_reducible apply len_i); exact rfl) | ((with_reducible apply ix_i); exact rfl; exact rfl) | ((with_reducible apply aug_i); exact rfl) | ((with_reducible apply gtup_i); exact rfl))
        exact outK_same hK
      · exact absurd h (by decide +kernel)
    · repeat (first | (with_reducible first | refine seq_i ?_ | refine asg_i ?_ | refine c_i ?_ | refine op2_i ?_ | refine gname_i ?_ | refine cons_i ?_ | refine nil_i ?_ | refine add_i ?_ | refine sub_i ?_ | refine lt_i ?_ | refine le_i ?_ | refine gt_i ?_ | refine ge_i ?_ | refine eq_i ?_ | refine ne_i ?_ | refine onBl_i ?_ | refine tB_i ?_ | refine sif_i ?_ | refine rif_i ?_ | refine call_i ?_ | refine callK_i ?_ | refine ret_i ?_ | refine tup_i ?_ | refine lst_i ?_ | refine lstN_i ?_ | refine opN_i ?_ | refine f_i ?_ | refine fN_i ?_ | refine op1_i ?_ | refine neg_i ?_ | refine drop_i ?_ | refine mtd_i ?_ | refine tNot_i ?_ | refine tAnd_i ?_ | refine tOr_i ?_ | refine tYes_i ?_ | refine and_i ?_ | refine or_i ?_ | refine not_i ?_ | refine for_i ?_ | refine iseq_i ?_ | refine range1_i ?_ | refine range2_i ?_ | refine rcomp_i ?_ | refine rcompN_i ?_ | refine par_i ?_ | refine addA_i ?_ | refine gcons_i ?_ | refine gnil_i ?_ | refine dict_i ?_ | refine dget_i ?_ | refine din_i ?_ | refine dnotin_i ?_ | refine dput_i ?_ | refine setItem_i ?_ | refine oNone_i ?_ | refine oSome_i ?_ | refine onO_i ?_ | refine slice_i ?_ | refine sliceN_i ?_ | refine onSl_tup ?_ | refine onSl_old ?_ | refine onSl_lst ?_ | refine max2_i ?_ | refine min2_i ?_ | refine abs_i ?_ | refine eqS_i ?_ | refine neS_i ?_ | refine eqB_i ?_ | refine retN_i ?_ | refine skip_i ?_ | refine isN_i ?_ | refine isNI_i ?_ | refine isNT_i ?_ | refine isNS_i ?_ | refine chain_i ?_ | refine onB3_i ?_ | refine asg2_i ?_) | ((with_reducible apply var_i); exact rfl) | ((with_reducible apply seqE_i); exact rfl) | ((with_reducible apply srcE_i); exact rfl) | ((with_reducible apply list_i); exact rfl) | ((with_reducible apply rev_i); exact rfl) | ((with_reducible apply tuple_i); exact rfl) | ((with_reducible apply len_i); exact rfl) | ((with_reducible apply ix_i); exact rfl; exact rfl) | ((with_reducible apply aug_i); exact rfl) | ((with_reducible apply gtup_i); exact rfl))
      refine ⟨.tuple [.str "parts"], [.tuple [.str "whole"], .tuple [.str "parts"]], rfl, .inr rfl, by decide +kernel, by decide +kernel, ?_⟩
      repeat (first | (with_reducible first | refine seq_i ?_ | refine asg_i ?_ | refine c_i ?_ | refine op2_i ?_ | refine gname_i ?_ | refine cons_i ?_ | refine nil_i ?_ | refine add_i ?_ | refine sub_i ?_ | refine lt_i ?_ | refine le_i ?_ | refine gt_i ?_ | refine ge_i ?_ | refine eq_i ?_ | refine ne_i ?_ | refine onBl_i ?_ | refine tB_i ?_ | refine sif_i ?_ | refine rif_i ?_ | refine call_i ?_ | refine callK_i ?_ | refine ret_i ?_ | refine tup_i ?_ | refine lst_i ?_ | refine lstN_i ?_ | refine opN_i ?_ | refine f_i ?_ | refine fN_i ?_ | refine op1_i ?_ | refine neg_i ?_ | refine drop_i ?_ | refine mtd_i ?_ | refine tNot_i ?_ | refine tAnd_i ?_ | refine tOr_i ?_ | refine tYes_i ?_ | refine and_i ?_ | refine or_i ?_ | refine not_i ?_ | refine for_i ?_ | refine iseq_i ?_ | refine range1_i ?_ | refine range2_i ?_ | refine rcomp_i ?_ | refine rcompN_i ?_ | refine par_i ?_ | refine addA_i ?_ | refine gcons_i ?_ | refine gnil_i ?_ | refine dict_i ?_ | refine dget_i ?_ | refine din_i ?_ | refine dnotin_i ?_ | refine dput_i ?_ | refine setItem_i ?_ | refine oNone_i ?_ | refine oSome_i ?_ | refine onO_i ?_ | refine slice_i ?_ | refine sliceN_i ?_ | refine onSl_tup ?_ | refine onSl_old ?_ | refine onSl_lst ?_ | refine max2_i ?_ | refine min2_i ?_ | refine abs_i ?_ | refine eqS_i ?_ | refine neS_i ?_ | refine eqB_i ?_ | refine retN_i ?_ | refine skip_i ?_ | refine isN_i ?_ | refine isNI_i ?_ | refine isNT_i ?_ | refine isNS_i ?_ | refine chain_i ?_ | refine onB3_i ?_ | refine asg2_i ?_) | ((with_reducible apply var_i); exact rfl) | ((with_reducible apply seqE_i); exact rfl) | ((with_reducible apply srcE_i); exact rfl) | ((with_reducible apply list_i); exact rfl) | ((with_reducible apply rev_i); exact rfl) | ((with_reducible apply tuple_i); exact rfl) | ((with_reducible apply len_i); exact rfl) | ((with_reducible apply ix_i); exact rfl; exact rfl) | ((with_reducible apply aug_i); exact rfl) | ((with_reducible apply gtup_i); exact rfl))
      refine iteB_i (fun h => ?_) fun h => ?_
      · repeat (first | (with_reducible first | refine seq_i ?_ | refine asg_i ?_ | refine c_i ?_ | refine op2_i ?_ | refine gname_i ?_ | refine cons_i ?_ | refine nil_i ?_ | refine add_i ?_ | refine sub_i ?_ | refine lt_i ?_ | refine le_i ?_ | refine gt_i ?_ | refine ge_i ?_ | refine eq_i ?_ | refine ne_i ?_ | refine onBl_i ?_ | refine tB_i ?_ | refine sif_i ?_ | refine rif_i ?_ | refine call_i ?_ | refine callK_i ?_ | refine ret_i ?_ | refine tup_i ?_ | refine lst_i ?_ | refine lstN_i ?_ | refine opN_i ?_ | refine f_i ?_ | refine fN_i ?_ | refine op1_i ?_ | refine neg_i ?_ | refine drop_i ?_ | refine mtd_i ?_ | refine tNot_i ?_ | refine tAnd_i ?_ | refine tOr_i ?_ | refine tYes_i ?_ | refine and_i ?_ | refine or_i ?_ | refine not_i ?_ | refine for_i ?_ | refine iseq_i ?_ | refine range1_i ?_ | refine range2_i ?_ | refine rcomp_i ?_ | refine rcompN_i ?_ | refine par_i ?_ | refine addA_i ?_ | refine gcons_i ?_ | refine gnil_i ?_ | refine dict_i ?_ | refine dget_i ?_ | refine din_i ?_ | refine dnotin_i ?_ | refine dput_i ?_ | refine setItem_i ?_ | refine oNone_i ?_ | refine oSome_i ?_ | refine onO_i ?_ | refine slice_i ?_ | refine sliceN_i ?_ | refine onSl_tup ?_ | refine onSl_old ?_ | refine onSl_lst ?_ | refine max2_i ?_ | refine min2_i ?_ | refine abs_i ?_ | refine eqS_i ?_ | refine neS_i ?_ | refine eqB_i ?_ | refine retN_i ?_ | refine skip_i ?_ | refine isN_i ?_ | refine isNI_i ?_ | refine isNT_i ?_ | refine isNS_i ?_ | refine chain_i ?_ | refine onB3_i ?_ | refine asg2_i ?_) | ((with_reducible apply var_i); exact rfl) | ((with_reducible apply seqE_i); exact rfl) | ((with_reducible apply srcE_i); exact rfl) | ((with_reducible apply list_i); exact rfl) | ((with_reducible apply rev_i); exact rfl) | ((with_reducible apply tuple_i); exact rfl) | ((with_reducible apply len_i); exact rfl) | ((with_reducible apply ix_i); exact rfl; exact rfl) | ((with_reducible apply aug_i); exact rfl) | ((with_reducible apply gtup_i); exact rfl))
        exact outK_same hK
      · exact absurd h (by decide +kernel)
def c_no : FnC := fun _ _ _ _ => False
theorem runs_divisor : Runs N_divisor_of.length B_divisor_of c_no := fun ds m K E h => False.elim h
theorem runs_lowest : Runs N_in_lowest.length (B_in_lowest c_no) c_no := fun ds m K E h => False.elim h
def c_mult : FnC := fun ds m K _ => ∃ n a b : Int, ds = [ring n, .int a, .int b] ∧ 1 ≤ n ∧ -1000000 ≤ a ∧ a ≤ 1000000 ∧ K (.int ((a * b).fmod n)) m
theorem lay_ring (n : Int) : (PyData.tuple [.str "rests", .int n]).canLay0 = true := by simp [PyData.canLay0, PyData.canLayAll0]; decide +kernel
theorem runs_mult : Runs N_multiplied.length (B_multiplied c_no) c_mult := fun ds m K E h => by
  obtain ⟨n, a, b, rfl, h1, h2, h3, hK⟩ := h
  unfold B_multiplied
  repeat (first | (with_reducible first | refine seq_i ?_ | refine asg_i ?_ | refine c_i ?_ | refine op2_i ?_ | refine gname_i ?_ | refine cons_i ?_ | refine nil_i ?_ | refine add_i ?_ | refine sub_i ?_ | refine lt_i ?_ | refine le_i ?_ | refine gt_i ?_ | refine ge_i ?_ | refine eq_i ?_ | refine ne_i ?_ | refine onBl_i ?_ | refine tB_i ?_ | refine sif_i ?_ | refine rif_i ?_ | refine call_i ?_ | refine callK_i ?_ | refine ret_i ?_ | refine tup_i ?_ | refine lst_i ?_ | refine lstN_i ?_ | refine opN_i ?_ | refine f_i ?_ | refine fN_i ?_ | refine op1_i ?_ | refine neg_i ?_ | refine drop_i ?_ | refine mtd_i ?_ | refine tNot_i ?_ | refine tAnd_i ?_ | refine tOr_i ?_ | refine tYes_i ?_ | refine and_i ?_ | refine or_i ?_ | refine not_i ?_ | refine for_i ?_ | refine iseq_i ?_ | refine range1_i ?_ | refine range2_i ?_ | refine rcomp_i ?_ | refine rcompN_i ?_ | refine par_i ?_ | refine addA_i ?_ | refine gcons_i ?_ | refine gnil_i ?_ | refine dict_i ?_ | refine dget_i ?_ | refine din_i ?_ | refine dnotin_i ?_ | refine dput_i ?_ | refine setItem_i ?_ | refine oNone_i ?_ | refine oSome_i ?_ | refine onO_i ?_ | refine slice_i ?_ | refine sliceN_i ?_ | refine onSl_tup ?_ | refine onSl_old ?_ | refine onSl_lst ?_ | refine max2_i ?_ | refine min2_i ?_ | refine abs_i ?_ | refine eqS_i ?_ | refine neS_i ?_ | refine eqB_i ?_ | refine retN_i ?_ | refine skip_i ?_ | refine isN_i ?_ | refine isNI_i ?_ | refine isNT_i ?_ | refine isNS_i ?_ | refine chain_i ?_ | refine onB3_i ?_ | refine asg2_i ?_) | ((with_reducible apply var_i); exact rfl) | ((with_reducible apply seqE_i); exact rfl) | ((with_reducible apply srcE_i); exact rfl) | ((with_reducible apply list_i); exact rfl) | ((with_reducible apply rev_i); exact rfl) | ((with_reducible apply tuple_i); exact rfl) | ((with_reducible apply len_i); exact rfl) | ((with_reducible apply ix_i); exact rfl; exact rfl) | ((with_reducible apply aug_i); exact rfl) | ((with_reducible apply gtup_i); exact rfl))
  refine ⟨.tuple [.str "rests", .int n], .tuple [.str "whole"], rfl, rfl, lay_ring n, by decide +kernel, ?_⟩
  repeat (first | (with_reducible first | refine seq_i ?_ | refine asg_i ?_ | refine c_i ?_ | refine op2_i ?_ | refine gname_i ?_ | refine cons_i ?_ | refine nil_i ?_ | refine add_i ?_ | refine sub_i ?_ | refine lt_i ?_ | refine le_i ?_ | refine gt_i ?_ | refine ge_i ?_ | refine eq_i ?_ | refine ne_i ?_ | refine onBl_i ?_ | refine tB_i ?_ | refine sif_i ?_ | refine rif_i ?_ | refine call_i ?_ | refine callK_i ?_ | refine ret_i ?_ | refine tup_i ?_ | refine lst_i ?_ | refine lstN_i ?_ | refine opN_i ?_ | refine f_i ?_ | refine fN_i ?_ | refine op1_i ?_ | refine neg_i ?_ | refine drop_i ?_ | refine mtd_i ?_ | refine tNot_i ?_ | refine tAnd_i ?_ | refine tOr_i ?_ | refine tYes_i ?_ | refine and_i ?_ | refine or_i ?_ | refine not_i ?_ | refine for_i ?_ | refine iseq_i ?_ | refine range1_i ?_ | refine range2_i ?_ | refine rcomp_i ?_ | refine rcompN_i ?_ | refine par_i ?_ | refine addA_i ?_ | refine gcons_i ?_ | refine gnil_i ?_ | refine dict_i ?_ | refine dget_i ?_ | refine din_i ?_ | refine dnotin_i ?_ | refine dput_i ?_ | refine setItem_i ?_ | refine oNone_i ?_ | refine oSome_i ?_ | refine onO_i ?_ | refine slice_i ?_ | refine sliceN_i ?_ | refine onSl_tup ?_ | refine onSl_old ?_ | refine onSl_lst ?_ | refine max2_i ?_ | refine min2_i ?_ | refine abs_i ?_ | refine eqS_i ?_ | refine neS_i ?_ | refine eqB_i ?_ | refine retN_i ?_ | refine skip_i ?_ | refine isN_i ?_ | refine isNI_i ?_ | refine isNT_i ?_ | refine isNS_i ?_ | refine chain_i ?_ | refine onB3_i ?_ | refine asg2_i ?_) | ((with_reducible apply var_i); exact rfl) | ((with_reducible apply seqE_i); exact rfl) | ((with_reducible apply srcE_i); exact rfl) | ((with_reducible apply list_i); exact rfl) | ((with_reducible apply rev_i); exact rfl) | ((with_reducible apply tuple_i); exact rfl) | ((with_reducible apply len_i); exact rfl) | ((with_reducible apply ix_i); exact rfl; exact rfl) | ((with_reducible apply aug_i); exact rfl) | ((with_reducible apply gtup_i); exact rfl))
  refine iteB_i (fun h => ?_) fun _ => ?_
  · exfalso
    revert h
    simp [PyData.eqv, PyData.eqvAll]
  repeat (first | (with_reducible first | refine seq_i ?_ | refine asg_i ?_ | refine c_i ?_ | refine op2_i ?_ | refine gname_i ?_ | refine cons_i ?_ | refine nil_i ?_ | refine add_i ?_ | refine sub_i ?_ | refine lt_i ?_ | refine le_i ?_ | refine gt_i ?_ | refine ge_i ?_ | refine eq_i ?_ | refine ne_i ?_ | refine onBl_i ?_ | refine tB_i ?_ | refine sif_i ?_ | refine rif_i ?_ | refine call_i ?_ | refine callK_i ?_ | refine ret_i ?_ | refine tup_i ?_ | refine lst_i ?_ | refine lstN_i ?_ | refine opN_i ?_ | refine f_i ?_ | refine fN_i ?_ | refine op1_i ?_ | refine neg_i ?_ | refine drop_i ?_ | refine mtd_i ?_ | refine tNot_i ?_ | refine tAnd_i ?_ | refine tOr_i ?_ | refine tYes_i ?_ | refine and_i ?_ | refine or_i ?_ | refine not_i ?_ | refine for_i ?_ | refine iseq_i ?_ | refine range1_i ?_ | refine range2_i ?_ | refine rcomp_i ?_ | refine rcompN_i ?_ | refine par_i ?_ | refine addA_i ?_ | refine gcons_i ?_ | refine gnil_i ?_ | refine dict_i ?_ | refine dget_i ?_ | refine din_i ?_ | refine dnotin_i ?_ | refine dput_i ?_ | refine setItem_i ?_ | refine oNone_i ?_ | refine oSome_i ?_ | refine onO_i ?_ | refine slice_i ?_ | refine sliceN_i ?_ | refine onSl_tup ?_ | refine onSl_old ?_ | refine onSl_lst ?_ | refine max2_i ?_ | refine min2_i ?_ | refine abs_i ?_ | refine eqS_i ?_ | refine neS_i ?_ | refine eqB_i ?_ | refine retN_i ?_ | refine skip_i ?_ | refine isN_i ?_ | refine isNI_i ?_ | refine isNT_i ?_ | refine isNS_i ?_ | refine chain_i ?_ | refine onB3_i ?_ | refine asg2_i ?_) | ((with_reducible apply var_i); exact rfl) | ((with_reducible apply seqE_i); exact rfl) | ((with_reducible apply srcE_i); exact rfl) | ((with_reducible apply list_i); exact rfl) | ((with_reducible apply rev_i); exact rfl) | ((with_reducible apply tuple_i); exact rfl) | ((with_reducible apply len_i); exact rfl) | ((with_reducible apply ix_i); exact rfl; exact rfl) | ((with_reducible apply aug_i); exact rfl) | ((with_reducible apply gtup_i); exact rfl))
  refine ⟨.tuple [.str "rests", .int n], .tuple [.str "parts"], rfl, rfl, lay_ring n, by decide +kernel, ?_⟩
  repeat (first | (with_reducible first | refine seq_i ?_ | refine asg_i ?_ | refine c_i ?_ | refine op2_i ?_ | refine gname_i ?_ | refine cons_i ?_ | refine nil_i ?_ | refine add_i ?_ | refine sub_i ?_ | refine lt_i ?_ | refine le_i ?_ | refine gt_i ?_ | refine ge_i ?_ | refine eq_i ?_ | refine ne_i ?_ | refine onBl_i ?_ | refine tB_i ?_ | refine sif_i ?_ | refine rif_i ?_ | refine call_i ?_ | refine callK_i ?_ | refine ret_i ?_ | refine tup_i ?_ | refine lst_i ?_ | refine lstN_i ?_ | refine opN_i ?_ | refine f_i ?_ | refine fN_i ?_ | refine op1_i ?_ | refine neg_i ?_ | refine drop_i ?_ | refine mtd_i ?_ | refine tNot_i ?_ | refine tAnd_i ?_ | refine tOr_i ?_ | refine tYes_i ?_ | refine and_i ?_ | refine or_i ?_ | refine not_i ?_ | refine for_i ?_ | refine iseq_i ?_ | refine range1_i ?_ | refine range2_i ?_ | refine rcomp_i ?_ | refine rcompN_i ?_ | refine par_i ?_ | refine addA_i ?_ | refine gcons_i ?_ | refine gnil_i ?_ | refine dict_i ?_ | refine dget_i ?_ | refine din_i ?_ | refine dnotin_i ?_ | refine dput_i ?_ | refine setItem_i ?_ | refine oNone_i ?_ | refine oSome_i ?_ | refine onO_i ?_ | refine slice_i ?_ | refine sliceN_i ?_ | refine onSl_tup ?_ | refine onSl_old ?_ | refine onSl_lst ?_ | refine max2_i ?_ | refine min2_i ?_ | refine abs_i ?_ | refine eqS_i ?_ | refine neS_i ?_ | refine eqB_i ?_ | refine retN_i ?_ | refine skip_i ?_ | refine isN_i ?_ | refine isNI_i ?_ | refine isNT_i ?_ | refine isNS_i ?_ | refine chain_i ?_ | refine onB3_i ?_ | refine asg2_i ?_) | ((with_reducible apply var_i); exact rfl) | ((with_reducible apply seqE_i); exact rfl) | ((with_reducible apply srcE_i); exact rfl) | ((with_reducible apply list_i); exact rfl) | ((with_reducible apply rev_i); exact rfl) | ((with_reducible apply tuple_i); exact rfl) | ((with_reducible apply len_i); exact rfl) | ((with_reducible apply ix_i); exact rfl; exact rfl) | ((with_reducible apply aug_i); exact rfl) | ((with_reducible apply gtup_i); exact rfl))
  refine iteB_i (fun h => ?_) fun _ => ?_
  · exfalso
    revert h
    simp [PyData.eqv, PyData.eqvAll]
  repeat (first | (with_reducible first | refine seq_i ?_ | refine asg_i ?_ | refine c_i ?_ | refine op2_i ?_ | refine gname_i ?_ | refine cons_i ?_ | refine nil_i ?_ | refine add_i ?_ | refine sub_i ?_ | refine lt_i ?_ | refine le_i ?_ | refine gt_i ?_ | refine ge_i ?_ | refine eq_i ?_ | refine ne_i ?_ | refine onBl_i ?_ | refine tB_i ?_ | refine sif_i ?_ | refine rif_i ?_ | refine call_i ?_ | refine callK_i ?_ | refine ret_i ?_ | refine tup_i ?_ | refine lst_i ?_ | refine lstN_i ?_ | refine opN_i ?_ | refine f_i ?_ | refine fN_i ?_ | refine op1_i ?_ | refine neg_i ?_ | refine drop_i ?_ | refine mtd_i ?_ | refine tNot_i ?_ | refine tAnd_i ?_ | refine tOr_i ?_ | refine tYes_i ?_ | refine and_i ?_ | refine or_i ?_ | refine not_i ?_ | refine for_i ?_ | refine iseq_i ?_ | refine range1_i ?_ | refine range2_i ?_ | refine rcomp_i ?_ | refine rcompN_i ?_ | refine par_i ?_ | refine addA_i ?_ | refine gcons_i ?_ | refine gnil_i ?_ | refine dict_i ?_ | refine dget_i ?_ | refine din_i ?_ | refine dnotin_i ?_ | refine dput_i ?_ | refine setItem_i ?_ | refine oNone_i ?_ | refine oSome_i ?_ | refine onO_i ?_ | refine slice_i ?_ | refine sliceN_i ?_ | refine onSl_tup ?_ | refine onSl_old ?_ | refine onSl_lst ?_ | refine max2_i ?_ | refine min2_i ?_ | refine abs_i ?_ | refine eqS_i ?_ | refine neS_i ?_ | refine eqB_i ?_ | refine retN_i ?_ | refine skip_i ?_ | refine isN_i ?_ | refine isNI_i ?_ | refine isNT_i ?_ | refine isNS_i ?_ | refine chain_i ?_ | refine onB3_i ?_ | refine asg2_i ?_) | ((with_reducible apply var_i); exact rfl) | ((with_reducible apply seqE_i); exact rfl) | ((with_reducible apply srcE_i); exact rfl) | ((with_reducible apply list_i); exact rfl) | ((with_reducible apply rev_i); exact rfl) | ((with_reducible apply tuple_i); exact rfl) | ((with_reducible apply len_i); exact rfl) | ((with_reducible apply ix_i); exact rfl; exact rfl) | ((with_reducible apply aug_i); exact rfl) | ((with_reducible apply gtup_i); exact rfl))
  refine mul_i (mulw (by omega) (by omega)) ?_
  repeat (first | (with_reducible first | refine seq_i ?_ | refine asg_i ?_ | refine c_i ?_ | refine op2_i ?_ | refine gname_i ?_ | refine cons_i ?_ | refine nil_i ?_ | refine add_i ?_ | refine sub_i ?_ | refine lt_i ?_ | refine le_i ?_ | refine gt_i ?_ | refine ge_i ?_ | refine eq_i ?_ | refine ne_i ?_ | refine onBl_i ?_ | refine tB_i ?_ | refine sif_i ?_ | refine rif_i ?_ | refine call_i ?_ | refine callK_i ?_ | refine ret_i ?_ | refine tup_i ?_ | refine lst_i ?_ | refine lstN_i ?_ | refine opN_i ?_ | refine f_i ?_ | refine fN_i ?_ | refine op1_i ?_ | refine neg_i ?_ | refine drop_i ?_ | refine mtd_i ?_ | refine tNot_i ?_ | refine tAnd_i ?_ | refine tOr_i ?_ | refine tYes_i ?_ | refine and_i ?_ | refine or_i ?_ | refine not_i ?_ | refine for_i ?_ | refine iseq_i ?_ | refine range1_i ?_ | refine range2_i ?_ | refine rcomp_i ?_ | refine rcompN_i ?_ | refine par_i ?_ | refine addA_i ?_ | refine gcons_i ?_ | refine gnil_i ?_ | refine dict_i ?_ | refine dget_i ?_ | refine din_i ?_ | refine dnotin_i ?_ | refine dput_i ?_ | refine setItem_i ?_ | refine oNone_i ?_ | refine oSome_i ?_ | refine onO_i ?_ | refine slice_i ?_ | refine sliceN_i ?_ | refine onSl_tup ?_ | refine onSl_old ?_ | refine onSl_lst ?_ | refine max2_i ?_ | refine min2_i ?_ | refine abs_i ?_ | refine eqS_i ?_ | refine neS_i ?_ | refine eqB_i ?_ | refine retN_i ?_ | refine skip_i ?_ | refine isN_i ?_ | refine isNI_i ?_ | refine isNT_i ?_ | refine isNS_i ?_ | refine chain_i ?_ | refine onB3_i ?_ | refine asg2_i ?_) | ((with_reducible apply var_i); exact rfl) | ((with_reducible apply seqE_i); exact rfl) | ((with_reducible apply srcE_i); exact rfl) | ((with_reducible apply list_i); exact rfl) | ((with_reducible apply rev_i); exact rfl) | ((with_reducible apply tuple_i); exact rfl) | ((with_reducible apply len_i); exact rfl) | ((with_reducible apply ix_i); exact rfl; exact rfl) | ((with_reducible apply aug_i); exact rfl) | ((with_reducible apply gtup_i); exact rfl))
  exact mod_i (by omega) (outK_same hK)
end K03

namespace K03
open PySem PySem.Spec PyProof.Rows L2 PL
theorem euclid {m x b : Int} (p : Least m m) (x0 : 0 < x) (x1 : x < m) (b0 : 0 < b) (b1 : b < m) : (x * b).fmod m ≠ 0 := by
  intro h
  have m0 : 0 < m := by have := p.two; omega
  rw [fm (by omega)] at h
  have hd : m ∣ x * b := Int.dvd_of_emod_eq_zero h
  have hn : m.natAbs ∣ x.natAbs * b.natAbs := by rw [← Int.natAbs_mul]; exact Int.natAbs_dvd_natAbs.mpr hd
  have g1 : Nat.gcd m.natAbs x.natAbs ∣ m.natAbs := Nat.gcd_dvd_left _ _
  have g2 : Nat.gcd m.natAbs x.natAbs ∣ x.natAbs := Nat.gcd_dvd_right _ _
  have gle : Nat.gcd m.natAbs x.natAbs ≤ x.natAbs := Nat.le_of_dvd (by omega) g2
  have gpos : 0 < Nat.gcd m.natAbs x.natAbs := Nat.gcd_pos_of_pos_left _ (by omega)
  have g : Nat.gcd m.natAbs x.natAbs = 1 := by
    refine Classical.byContradiction fun hne => ?_
    refine p.no (Nat.gcd m.natAbs x.natAbs : Int) (by omega) (by omega) ?_
    rw [fm (by omega)]
    refine Int.emod_eq_zero_of_dvd ?_
    have := Int.natCast_dvd_natCast.mpr g1
    rwa [Int.natAbs_of_nonneg (by omega)] at this
  have : m.natAbs ∣ b.natAbs := Nat.Coprime.dvd_of_dvd_mul_left (show Nat.Coprime m.natAbs x.natAbs from g) hn
  have := Nat.le_of_dvd (by omega) this
  omega
def c_gone : FnC := fun ds m K _ => ∃ n a : Int, ds = [.int n, .int a] ∧ n ≤ 1000000 ∧ Least n n ∧ a.fmod n ≠ 0 ∧ K (.bl false) m
theorem runs_gone : Runs N__law_is_gone.length (B__law_is_gone c_mult c_rests) c_gone := fun ds m K E h => by
  obtain ⟨n, a, rfl, h1, hp, ha, hK⟩ := h
  have n2 := hp.two
  unfold B__law_is_gone
  repeat (first | (with_reducible first | refine seq_i ?_ | refine asg_i ?_ | refine c_i ?_ | refine op2_i ?_ | refine gname_i ?_ | refine cons_i ?_ | refine nil_i ?_ | refine add_i ?_ | refine sub_i ?_ | refine lt_i ?_ | refine le_i ?_ | refine gt_i ?_ | refine ge_i ?_ | refine eq_i ?_ | refine ne_i ?_ | refine onBl_i ?_ | refine tB_i ?_ | refine sif_i ?_ | refine rif_i ?_ | refine call_i ?_ | refine callK_i ?_ | refine ret_i ?_ | refine tup_i ?_ | refine lst_i ?_ | refine lstN_i ?_ | refine opN_i ?_ | refine f_i ?_ | refine fN_i ?_ | refine op1_i ?_ | refine neg_i ?_ | refine drop_i ?_ | refine mtd_i ?_ | refine tNot_i ?_ | refine tAnd_i ?_ | refine tOr_i ?_ | refine tYes_i ?_ | refine and_i ?_ | refine or_i ?_ | refine not_i ?_ | refine for_i ?_ | refine iseq_i ?_ | refine range1_i ?_ | refine range2_i ?_ | refine rcomp_i ?_ | refine rcompN_i ?_ | refine par_i ?_ | refine addA_i ?_ | refine gcons_i ?_ | refine gnil_i ?_ | refine dict_i ?_ | refine dget_i ?_ | refine din_i ?_ | refine dnotin_i ?_ | refine dput_i ?_ | refine setItem_i ?_ | refine oNone_i ?_ | refine oSome_i ?_ | refine onO_i ?_ | refine slice_i ?_ | refine sliceN_i ?_ | refine onSl_tup ?_ | refine onSl_old ?_ | refine onSl_lst ?_ | refine max2_i ?_ | refine min2_i ?_ | refine abs_i ?_ | refine eqS_i ?_ | refine neS_i ?_ | refine eqB_i ?_ | refine retN_i ?_ | refine skip_i ?_ | refine isN_i ?_ | refine isNI_i ?_ | refine isNT_i ?_ | refine isNS_i ?_ | refine chain_i ?_ | refine onB3_i ?_ | refine asg2_i ?_) | ((with_reducible apply var_i); exact rfl) | ((with_reducible apply seqE_i); exact rfl) | ((with_reducible apply srcE_i); exact rfl) | ((with_reducible apply list_i); exact rfl) | ((with_reducible apply rev_i); exact rfl) | ((with_reducible apply tuple_i); exact rfl) | ((with_reducible apply len_i); exact rfl) | ((with_reducible apply ix_i); exact rfl; exact rfl) | ((with_reducible apply aug_i); exact rfl) | ((with_reducible apply gtup_i); exact rfl))
  refine mod_i (by omega) ?_
  repeat (first | (with_reducible first | refine seq_i ?_ | refine asg_i ?_ | refine c_i ?_ | refine op2_i ?_ | refine gname_i ?_ | refine cons_i ?_ | refine nil_i ?_ | refine add_i ?_ | refine sub_i ?_ | refine lt_i ?_ | refine le_i ?_ | refine gt_i ?_ | refine ge_i ?_ | refine eq_i ?_ | refine ne_i ?_ | refine onBl_i ?_ | refine tB_i ?_ | refine sif_i ?_ | refine rif_i ?_ | refine call_i ?_ | refine callK_i ?_ | refine ret_i ?_ | refine tup_i ?_ | refine lst_i ?_ | refine lstN_i ?_ | refine opN_i ?_ | refine f_i ?_ | refine fN_i ?_ | refine op1_i ?_ | refine neg_i ?_ | refine drop_i ?_ | refine mtd_i ?_ | refine tNot_i ?_ | refine tAnd_i ?_ | refine tOr_i ?_ | refine tYes_i ?_ | refine and_i ?_ | refine or_i ?_ | refine not_i ?_ | refine for_i ?_ | refine iseq_i ?_ | refine range1_i ?_ | refine range2_i ?_ | refine rcomp_i ?_ | refine rcompN_i ?_ | refine par_i ?_ | refine addA_i ?_ | refine gcons_i ?_ | refine gnil_i ?_ | refine dict_i ?_ | refine dget_i ?_ | refine din_i ?_ | refine dnotin_i ?_ | refine dput_i ?_ | refine setItem_i ?_ | refine oNone_i ?_ | refine oSome_i ?_ | refine onO_i ?_ | refine slice_i ?_ | refine sliceN_i ?_ | refine onSl_tup ?_ | refine onSl_old ?_ | refine onSl_lst ?_ | refine max2_i ?_ | refine min2_i ?_ | refine abs_i ?_ | refine eqS_i ?_ | refine neS_i ?_ | refine eqB_i ?_ | refine retN_i ?_ | refine skip_i ?_ | refine isN_i ?_ | refine isNI_i ?_ | refine isNT_i ?_ | refine isNS_i ?_ | refine chain_i ?_ | refine onB3_i ?_ | refine asg2_i ?_) | ((with_reducible apply var_i); exact rfl) | ((with_reducible apply seqE_i); exact rfl) | ((with_reducible apply srcE_i); exact rfl) | ((with_reducible apply list_i); exact rfl) | ((with_reducible apply rev_i); exact rfl) | ((with_reducible apply tuple_i); exact rfl) | ((with_reducible apply len_i); exact rfl) | ((with_reducible apply ix_i); exact rfl; exact rfl) | ((with_reducible apply aug_i); exact rfl) | ((with_reducible apply gtup_i); exact rfl))
  refine mod_i (by omega) ?_
  repeat (first | (with_reducible first | refine seq_i ?_ | refine asg_i ?_ | refine c_i ?_ | refine op2_i ?_ | refine gname_i ?_ | refine cons_i ?_ | refine nil_i ?_ | refine add_i ?_ | refine sub_i ?_ | refine lt_i ?_ | refine le_i ?_ | refine gt_i ?_ | refine ge_i ?_ | refine eq_i ?_ | refine ne_i ?_ | refine onBl_i ?_ | refine tB_i ?_ | refine sif_i ?_ | refine rif_i ?_ | refine call_i ?_ | refine callK_i ?_ | refine ret_i ?_ | refine tup_i ?_ | refine lst_i ?_ | refine lstN_i ?_ | refine opN_i ?_ | refine f_i ?_ | refine fN_i ?_ | refine op1_i ?_ | refine neg_i ?_ | refine drop_i ?_ | refine mtd_i ?_ | refine tNot_i ?_ | refine tAnd_i ?_ | refine tOr_i ?_ | refine tYes_i ?_ | refine and_i ?_ | refine or_i ?_ | refine not_i ?_ | refine for_i ?_ | refine iseq_i ?_ | refine range1_i ?_ | refine range2_i ?_ | refine rcomp_i ?_ | refine rcompN_i ?_ | refine par_i ?_ | refine addA_i ?_ | refine gcons_i ?_ | refine gnil_i ?_ | refine dict_i ?_ | refine dget_i ?_ | refine din_i ?_ | refine dnotin_i ?_ | refine dput_i ?_ | refine setItem_i ?_ | refine oNone_i ?_ | refine oSome_i ?_ | refine onO_i ?_ | refine slice_i ?_ | refine sliceN_i ?_ | refine onSl_tup ?_ | refine onSl_old ?_ | refine onSl_lst ?_ | refine max2_i ?_ | refine min2_i ?_ | refine abs_i ?_ | refine eqS_i ?_ | refine neS_i ?_ | refine eqB_i ?_ | refine retN_i ?_ | refine skip_i ?_ | refine isN_i ?_ | refine isNI_i ?_ | refine isNT_i ?_ | refine isNS_i ?_ | refine chain_i ?_ | refine onB3_i ?_ | refine asg2_i ?_) | ((with_reducible apply var_i); exact rfl) | ((with_reducible apply seqE_i); exact rfl) | ((with_reducible apply srcE_i); exact rfl) | ((with_reducible apply list_i); exact rfl) | ((with_reducible apply rev_i); exact rfl) | ((with_reducible apply tuple_i); exact rfl) | ((with_reducible apply len_i); exact rfl) | ((with_reducible apply ix_i); exact rfl; exact rfl) | ((with_reducible apply aug_i); exact rfl) | ((with_reducible apply gtup_i); exact rfl))
  refine div_i (.inl ⟨by decide, by decide⟩) ?_
  repeat (first | (with_reducible first | refine seq_i ?_ | refine asg_i ?_ | refine c_i ?_ | refine op2_i ?_ | refine gname_i ?_ | refine cons_i ?_ | refine nil_i ?_ | refine add_i ?_ | refine sub_i ?_ | refine lt_i ?_ | refine le_i ?_ | refine gt_i ?_ | refine ge_i ?_ | refine eq_i ?_ | refine ne_i ?_ | refine onBl_i ?_ | refine tB_i ?_ | refine sif_i ?_ | refine rif_i ?_ | refine call_i ?_ | refine callK_i ?_ | refine ret_i ?_ | refine tup_i ?_ | refine lst_i ?_ | refine lstN_i ?_ | refine opN_i ?_ | refine f_i ?_ | refine fN_i ?_ | refine op1_i ?_ | refine neg_i ?_ | refine drop_i ?_ | refine mtd_i ?_ | refine tNot_i ?_ | refine tAnd_i ?_ | refine tOr_i ?_ | refine tYes_i ?_ | refine and_i ?_ | refine or_i ?_ | refine not_i ?_ | refine for_i ?_ | refine iseq_i ?_ | refine range1_i ?_ | refine range2_i ?_ | refine rcomp_i ?_ | refine rcompN_i ?_ | refine par_i ?_ | refine addA_i ?_ | refine gcons_i ?_ | refine gnil_i ?_ | refine dict_i ?_ | refine dget_i ?_ | refine din_i ?_ | refine dnotin_i ?_ | refine dput_i ?_ | refine setItem_i ?_ | refine oNone_i ?_ | refine oSome_i ?_ | refine onO_i ?_ | refine slice_i ?_ | refine sliceN_i ?_ | refine onSl_tup ?_ | refine onSl_old ?_ | refine onSl_lst ?_ | refine max2_i ?_ | refine min2_i ?_ | refine abs_i ?_ | refine eqS_i ?_ | refine neS_i ?_ | refine eqB_i ?_ | refine retN_i ?_ | refine skip_i ?_ | refine isN_i ?_ | refine isNI_i ?_ | refine isNT_i ?_ | refine isNS_i ?_ | refine chain_i ?_ | refine onB3_i ?_ | refine asg2_i ?_) | ((with_reducible apply var_i); exact rfl) | ((with_reducible apply seqE_i); exact rfl) | ((with_reducible apply srcE_i); exact rfl) | ((with_reducible apply list_i); exact rfl) | ((with_reducible apply rev_i); exact rfl) | ((with_reducible apply tuple_i); exact rfl) | ((with_reducible apply len_i); exact rfl) | ((with_reducible apply ix_i); exact rfl; exact rfl) | ((with_reducible apply aug_i); exact rfl) | ((with_reducible apply gtup_i); exact rfl))
  refine comp_inv (fun i acc m' => m' = m ∧ acc = []) (fun _ _ _ _ _ => rfl) (fun i x acc m' N hx hI hN => ?_) ⟨rfl, rfl⟩ fun acc m' hI => ?_
  · obtain ⟨rfl, rfl⟩ := hI
    have r2 := fmod_range 2 (show 0 < n by omega)
    have r3 := fmod_range 3 (show 0 < n by omega)
    have rh : n.fdiv 2 = n / 2 := Int.fdiv_eq_ediv_of_nonneg _ (by decide)
    have hb : ∃ b : Int, x = .int b ∧ 0 ≤ b ∧ b < n := by
      have := List.mem_of_getElem? hx
      simp only [List.mem_cons, List.not_mem_nil, or_false] at this
      rcases this with rfl | rfl | rfl | rfl | rfl
      · exact ⟨_, rfl, by decide, by omega⟩
      · exact ⟨_, rfl, r2.1, r2.2⟩
      · exact ⟨_, rfl, r3.1, r3.2⟩
      · exact ⟨_, rfl, by omega, by omega⟩
      · exact ⟨_, rfl, by omega, by omega⟩
    obtain ⟨b, rfl, b0, b1⟩ := hb
    repeat (first | (with_reducible first | refine seq_i ?_ | refine asg_i ?_ | refine c_i ?_ | refine op2_i ?_ | refine gname_i ?_ | refine cons_i ?_ | refine nil_i ?_ | refine add_i ?_ | refine sub_i ?_ | refine lt_i ?_ | refine le_i ?_ | refine gt_i ?_ | refine ge_i ?_ | refine eq_i ?_ | refine ne_i ?_ | refine onBl_i ?_ | refine tB_i ?_ | refine sif_i ?_ | refine rif_i ?_ | refine call_i ?_ | refine callK_i ?_ | refine ret_i ?_ | refine tup_i ?_ | refine lst_i ?_ | refine lstN_i ?_ | refine opN_i ?_ | refine f_i ?_ | refine fN_i ?_ | refine op1_i ?_ | refine neg_i ?_ | refine drop_i ?_ | refine mtd_i ?_ | refine tNot_i ?_ | refine tAnd_i ?_ | refine tOr_i ?_ | refine tYes_i ?_ | refine and_i ?_ | refine or_i ?_ | refine not_i ?_ | refine for_i ?_ | refine iseq_i ?_ | refine range1_i ?_ | refine range2_i ?_ | refine rcomp_i ?_ | refine rcompN_i ?_ | refine par_i ?_ | refine addA_i ?_ | refine gcons_i ?_ | refine gnil_i ?_ | refine dict_i ?_ | refine dget_i ?_ | refine din_i ?_ | refine dnotin_i ?_ | refine dput_i ?_ | refine setItem_i ?_ | refine oNone_i ?_ | refine oSome_i ?_ | refine onO_i ?_ | refine slice_i ?_ | refine sliceN_i ?_ | refine onSl_tup ?_ | refine onSl_old ?_ | refine onSl_lst ?_ | refine max2_i ?_ | refine min2_i ?_ | refine abs_i ?_ | refine eqS_i ?_ | refine neS_i ?_ | refine eqB_i ?_ | refine retN_i ?_ | refine skip_i ?_ | refine isN_i ?_ | refine isNI_i ?_ | refine isNT_i ?_ | refine isNS_i ?_ | refine chain_i ?_ | refine onB3_i ?_ | refine asg2_i ?_) | ((with_reducible apply var_i); exact rfl) | ((with_reducible apply seqE_i); exact rfl) | ((with_reducible apply srcE_i); exact rfl) | ((with_reducible apply list_i); exact rfl) | ((with_reducible apply rev_i); exact rfl) | ((with_reducible apply tuple_i); exact rfl) | ((with_reducible apply len_i); exact rfl) | ((with_reducible apply ix_i); exact rfl; exact rfl) | ((with_reducible apply aug_i); exact rfl) | ((with_reducible apply gtup_i); exact rfl))
    refine iteN_i (fun hb0 => ?_) fun hb0 => ?_
    · repeat (first | (with_reducible first | refine seq_i ?_ | refine asg_i ?_ | refine c_i ?_ | refine op2_i ?_ | refine gname_i ?_ | refine cons_i ?_ | refine nil_i ?_ | refine add_i ?_ | refine sub_i ?_ | refine lt_i ?_ | refine le_i ?_ | refine gt_i ?_ | refine ge_i ?_ | refine eq_i ?_ | refine ne_i ?_ | refine onBl_i ?_ | refine tB_i ?_ | refine sif_i ?_ | refine rif_i ?_ | refine call_i ?_ | refine callK_i ?_ | refine ret_i ?_ | refine tup_i ?_ | refine lst_i ?_ | refine lstN_i ?_ | refine opN_i ?_ | refine f_i ?_ | refine fN_i ?_ | refine op1_i ?_ | refine neg_i ?_ | refine drop_i ?_ | refine mtd_i ?_ | refine tNot_i ?_ | refine tAnd_i ?_ | refine tOr_i ?_ | refine tYes_i ?_ | refine and_i ?_ | refine or_i ?_ | refine not_i ?_ | refine for_i ?_ | refine iseq_i ?_ | refine range1_i ?_ | refine range2_i ?_ | refine rcomp_i ?_ | refine rcompN_i ?_ | refine par_i ?_ | refine addA_i ?_ | refine gcons_i ?_ | refine gnil_i ?_ | refine dict_i ?_ | refine dget_i ?_ | refine din_i ?_ | refine dnotin_i ?_ | refine dput_i ?_ | refine setItem_i ?_ | refine oNone_i ?_ | refine oSome_i ?_ | refine onO_i ?_ | refine slice_i ?_ | refine sliceN_i ?_ | refine onSl_tup ?_ | refine onSl_old ?_ | refine onSl_lst ?_ | refine max2_i ?_ | refine min2_i ?_ | refine abs_i ?_ | refine eqS_i ?_ | refine neS_i ?_ | refine eqB_i ?_ | refine retN_i ?_ | refine skip_i ?_ | refine isN_i ?_ | refine isNI_i ?_ | refine isNT_i ?_ | refine isNS_i ?_ | refine chain_i ?_ | refine onB3_i ?_ | refine asg2_i ?_) | ((with_reducible apply var_i); exact rfl) | ((with_reducible apply seqE_i); exact rfl) | ((with_reducible apply srcE_i); exact rfl) | ((with_reducible apply list_i); exact rfl) | ((with_reducible apply rev_i); exact rfl) | ((with_reducible apply tuple_i); exact rfl) | ((with_reducible apply len_i); exact rfl) | ((with_reducible apply ix_i); exact rfl; exact rfl) | ((with_reducible apply aug_i); exact rfl) | ((with_reducible apply gtup_i); exact rfl))
      refine ⟨n, rfl, ?_⟩
      repeat (first | (with_reducible first | refine seq_i ?_ | refine asg_i ?_ | refine c_i ?_ | refine op2_i ?_ | refine gname_i ?_ | refine cons_i ?_ | refine nil_i ?_ | refine add_i ?_ | refine sub_i ?_ | refine lt_i ?_ | refine le_i ?_ | refine gt_i ?_ | refine ge_i ?_ | refine eq_i ?_ | refine ne_i ?_ | refine onBl_i ?_ | refine tB_i ?_ | refine sif_i ?_ | refine rif_i ?_ | refine call_i ?_ | refine callK_i ?_ | refine ret_i ?_ | refine tup_i ?_ | refine lst_i ?_ | refine lstN_i ?_ | refine opN_i ?_ | refine f_i ?_ | refine fN_i ?_ | refine op1_i ?_ | refine neg_i ?_ | refine drop_i ?_ | refine mtd_i ?_ | refine tNot_i ?_ | refine tAnd_i ?_ | refine tOr_i ?_ | refine tYes_i ?_ | refine and_i ?_ | refine or_i ?_ | refine not_i ?_ | refine for_i ?_ | refine iseq_i ?_ | refine range1_i ?_ | refine range2_i ?_ | refine rcomp_i ?_ | refine rcompN_i ?_ | refine par_i ?_ | refine addA_i ?_ | refine gcons_i ?_ | refine gnil_i ?_ | refine dict_i ?_ | refine dget_i ?_ | refine din_i ?_ | refine dnotin_i ?_ | refine dput_i ?_ | refine setItem_i ?_ | refine oNone_i ?_ | refine oSome_i ?_ | refine onO_i ?_ | refine slice_i ?_ | refine sliceN_i ?_ | refine onSl_tup ?_ | refine onSl_old ?_ | refine onSl_lst ?_ | refine max2_i ?_ | refine min2_i ?_ | refine abs_i ?_ | refine eqS_i ?_ | refine neS_i ?_ | refine eqB_i ?_ | refine retN_i ?_ | refine skip_i ?_ | refine isN_i ?_ | refine isNI_i ?_ | refine isNT_i ?_ | refine isNS_i ?_ | refine chain_i ?_ | refine onB3_i ?_ | refine asg2_i ?_) | ((with_reducible apply var_i); exact rfl) | ((with_reducible apply seqE_i); exact rfl) | ((with_reducible apply srcE_i); exact rfl) | ((with_reducible apply list_i); exact rfl) | ((with_reducible apply rev_i); exact rfl) | ((with_reducible apply tuple_i); exact rfl) | ((with_reducible apply len_i); exact rfl) | ((with_reducible apply ix_i); exact rfl; exact rfl) | ((with_reducible apply aug_i); exact rfl) | ((with_reducible apply gtup_i); exact rfl))
      refine mod_i (by omega) ?_
      have ra := fmod_range a (show 0 < n by omega)
      repeat (first | (with_reducible first | refine seq_i ?_ | refine asg_i ?_ | refine c_i ?_ | refine op2_i ?_ | refine gname_i ?_ | refine cons_i ?_ | refine nil_i ?_ | refine add_i ?_ | refine sub_i ?_ | refine lt_i ?_ | refine le_i ?_ | refine gt_i ?_ | refine ge_i ?_ | refine eq_i ?_ | refine ne_i ?_ | refine onBl_i ?_ | refine tB_i ?_ | refine sif_i ?_ | refine rif_i ?_ | refine call_i ?_ | refine callK_i ?_ | refine ret_i ?_ | refine tup_i ?_ | refine lst_i ?_ | refine lstN_i ?_ | refine opN_i ?_ | refine f_i ?_ | refine fN_i ?_ | refine op1_i ?_ | refine neg_i ?_ | refine drop_i ?_ | refine mtd_i ?_ | refine tNot_i ?_ | refine tAnd_i ?_ | refine tOr_i ?_ | refine tYes_i ?_ | refine and_i ?_ | refine or_i ?_ | refine not_i ?_ | refine for_i ?_ | refine iseq_i ?_ | refine range1_i ?_ | refine range2_i ?_ | refine rcomp_i ?_ | refine rcompN_i ?_ | refine par_i ?_ | refine addA_i ?_ | refine gcons_i ?_ | refine gnil_i ?_ | refine dict_i ?_ | refine dget_i ?_ | refine din_i ?_ | refine dnotin_i ?_ | refine dput_i ?_ | refine setItem_i ?_ | refine oNone_i ?_ | refine oSome_i ?_ | refine onO_i ?_ | refine slice_i ?_ | refine sliceN_i ?_ | refine onSl_tup ?_ | refine onSl_old ?_ | refine onSl_lst ?_ | refine max2_i ?_ | refine min2_i ?_ | refine abs_i ?_ | refine eqS_i ?_ | refine neS_i ?_ | refine eqB_i ?_ | refine retN_i ?_ | refine skip_i ?_ | refine isN_i ?_ | refine isNI_i ?_ | refine isNT_i ?_ | refine isNS_i ?_ | refine chain_i ?_ | refine onB3_i ?_ | refine asg2_i ?_) | ((with_reducible apply var_i); exact rfl) | ((with_reducible apply seqE_i); exact rfl) | ((with_reducible apply srcE_i); exact rfl) | ((with_reducible apply list_i); exact rfl) | ((with_reducible apply rev_i); exact rfl) | ((with_reducible apply tuple_i); exact rfl) | ((with_reducible apply len_i); exact rfl) | ((with_reducible apply ix_i); exact rfl; exact rfl) | ((with_reducible apply aug_i); exact rfl) | ((with_reducible apply gtup_i); exact rfl))
      refine ⟨n, a.fmod n, b, rfl, by omega, by omega, by omega, ?_⟩
      repeat (first | (with_reducible first | refine seq_i ?_ | refine asg_i ?_ | refine c_i ?_ | refine op2_i ?_ | refine gname_i ?_ | refine cons_i ?_ | refine nil_i ?_ | refine add_i ?_ | refine sub_i ?_ | refine lt_i ?_ | refine le_i ?_ | refine gt_i ?_ | refine ge_i ?_ | refine eq_i ?_ | refine ne_i ?_ | refine onBl_i ?_ | refine tB_i ?_ | refine sif_i ?_ | refine rif_i ?_ | refine call_i ?_ | refine callK_i ?_ | refine ret_i ?_ | refine tup_i ?_ | refine lst_i ?_ | refine lstN_i ?_ | refine opN_i ?_ | refine f_i ?_ | refine fN_i ?_ | refine op1_i ?_ | refine neg_i ?_ | refine drop_i ?_ | refine mtd_i ?_ | refine tNot_i ?_ | refine tAnd_i ?_ | refine tOr_i ?_ | refine tYes_i ?_ | refine and_i ?_ | refine or_i ?_ | refine not_i ?_ | refine for_i ?_ | refine iseq_i ?_ | refine range1_i ?_ | refine range2_i ?_ | refine rcomp_i ?_ | refine rcompN_i ?_ | refine par_i ?_ | refine addA_i ?_ | refine gcons_i ?_ | refine gnil_i ?_ | refine dict_i ?_ | refine dget_i ?_ | refine din_i ?_ | refine dnotin_i ?_ | refine dput_i ?_ | refine setItem_i ?_ | refine oNone_i ?_ | refine oSome_i ?_ | refine onO_i ?_ | refine slice_i ?_ | refine sliceN_i ?_ | refine onSl_tup ?_ | refine onSl_old ?_ | refine onSl_lst ?_ | refine max2_i ?_ | refine min2_i ?_ | refine abs_i ?_ | refine eqS_i ?_ | refine neS_i ?_ | refine eqB_i ?_ | refine retN_i ?_ | refine skip_i ?_ | refine isN_i ?_ | refine isNI_i ?_ | refine isNT_i ?_ | refine isNS_i ?_ | refine chain_i ?_ | refine onB3_i ?_ | refine asg2_i ?_) | ((with_reducible apply var_i); exact rfl) | ((with_reducible apply seqE_i); exact rfl) | ((with_reducible apply srcE_i); exact rfl) | ((with_reducible apply list_i); exact rfl) | ((with_reducible apply rev_i); exact rfl) | ((with_reducible apply tuple_i); exact rfl) | ((with_reducible apply len_i); exact rfl) | ((with_reducible apply ix_i); exact rfl; exact rfl) | ((with_reducible apply aug_i); exact rfl) | ((with_reducible apply gtup_i); exact rfl))
      have hne := euclid hp (x := a.fmod n) (b := b) (by omega) ra.2 (by omega) b1
      refine ite_i (fun h => absurd h hne) fun _ => ?_
      exact hN _ _ ⟨rfl, rfl⟩
    · refine iteB_i (fun h => nomatch h) fun _ => ?_
      exact hN _ _ ⟨rfl, rfl⟩
  · obtain ⟨rfl, rfl⟩ := hI
    repeat (first | (with_reducible first | refine seq_i ?_ | refine asg_i ?_ | refine c_i ?_ | refine op2_i ?_ | refine gname_i ?_ | refine cons_i ?_ | refine nil_i ?_ | refine add_i ?_ | refine sub_i ?_ | refine lt_i ?_ | refine le_i ?_ | refine gt_i ?_ | refine ge_i ?_ | refine eq_i ?_ | refine ne_i ?_ | refine onBl_i ?_ | refine tB_i ?_ | refine sif_i ?_ | refine rif_i ?_ | refine call_i ?_ | refine callK_i ?_ | refine ret_i ?_ | refine tup_i ?_ | refine lst_i ?_ | refine lstN_i ?_ | refine opN_i ?_ | refine f_i ?_ | refine fN_i ?_ | refine op1_i ?_ | refine neg_i ?_ | refine drop_i ?_ | refine mtd_i ?_ | refine tNot_i ?_ | refine tAnd_i ?_ | refine tOr_i ?_ | refine tYes_i ?_ | refine and_i ?_ | refine or_i ?_ | refine not_i ?_ | refine for_i ?_ | refine iseq_i ?_ | refine range1_i ?_ | refine range2_i ?_ | refine rcomp_i ?_ | refine rcompN_i ?_ | refine par_i ?_ | refine addA_i ?_ | refine gcons_i ?_ | refine gnil_i ?_ | refine dict_i ?_ | refine dget_i ?_ | refine din_i ?_ | refine dnotin_i ?_ | refine dput_i ?_ | refine setItem_i ?_ | refine oNone_i ?_ | refine oSome_i ?_ | refine onO_i ?_ | refine slice_i ?_ | refine sliceN_i ?_ | refine onSl_tup ?_ | refine onSl_old ?_ | refine onSl_lst ?_ | refine max2_i ?_ | refine min2_i ?_ | refine abs_i ?_ | refine eqS_i ?_ | refine neS_i ?_ | refine eqB_i ?_ | refine retN_i ?_ | refine skip_i ?_ | refine isN_i ?_ | refine isNI_i ?_ | refine isNT_i ?_ | refine isNS_i ?_ | refine chain_i ?_ | refine onB3_i ?_ | refine asg2_i ?_) | ((with_reducible apply var_i); exact rfl) | ((with_reducible apply seqE_i); exact rfl) | ((with_reducible apply srcE_i); exact rfl) | ((with_reducible apply list_i); exact rfl) | ((with_reducible apply rev_i); exact rfl) | ((with_reducible apply tuple_i); exact rfl) | ((with_reducible apply len_i); exact rfl) | ((with_reducible apply ix_i); exact rfl; exact rfl) | ((with_reducible apply aug_i); exact rfl) | ((with_reducible apply gtup_i); exact rfl))
    refine ⟨.list [], .list [], rfl, rfl, by decide, by decide, ?_⟩
    exact outK_same hK
def c_right : FnC := fun ds m K _ => ∃ n : Int, ds = [.int n] ∧ 2 ≤ n ∧ n ≤ 1000000 ∧ K (.bl true) m
theorem ite_eqS {a b : Str} (e : a = b) {A B : Prop} (h : B) : if (!decide (a = b)) = true then A else B := by
  subst e; simpa using h
theorem log20 {i : Int} (h0 : 0 ≤ i) (h : i ≤ 1000000) : i.natAbs.log2 < 1920 := by
  by_cases z : i.natAbs = 0
  · rw [z]; decide
  · have : i.natAbs.log2 < 20 := (Nat.log2_lt z).mpr (by omega)
    omega
theorem rpN {m : Mem} {K : D → Prop} (hK : K (.str (PyData.list [.none, .none]).shown)) : oRepr m [.lst [.non, .non]] K := repr_of (p := .list [.none, .none]) rfl rfl rfl (by decide) hK
theorem rpI {m : Mem} {v : Int} {K : D → Prop} (h0 : 0 ≤ v) (h : v ≤ 1000000) (hK : K (.str (PyData.list [.int v, .int v]).shown)) : oRepr m [.lst [.int v, .int v]] K :=
  repr_of (p := .list [.int v, .int v]) rfl rfl (by simp [PyData.showable, PyData.showableAll, log20 h0 h]) (by show 2 + (1921 + 2 + (1921 + 2 + 0)) ≤ 1000000; omega) hK
theorem runs_right : Runs N__law_right.length (B__law_right c_least c_rests c_bar c_gone c_mult) c_right := fun ds m K E h => by
  obtain ⟨n, rfl, h1, h2, hK⟩ := h
  unfold B__law_right
  repeat (first | (with_reducible first | refine seq_i ?_ | refine asg_i ?_ | refine c_i ?_ | refine op2_i ?_ | refine gname_i ?_ | refine cons_i ?_ | refine nil_i ?_ | refine add_i ?_ | refine sub_i ?_ | refine lt_i ?_ | refine le_i ?_ | refine gt_i ?_ | refine ge_i ?_ | refine eq_i ?_ | refine ne_i ?_ | refine onBl_i ?_ | refine tB_i ?_ | refine sif_i ?_ | refine rif_i ?_ | refine call_i ?_ | refine callK_i ?_ | refine ret_i ?_ | refine tup_i ?_ | refine lst_i ?_ | refine lstN_i ?_ | refine opN_i ?_ | refine f_i ?_ | refine fN_i ?_ | refine op1_i ?_ | refine neg_i ?_ | refine drop_i ?_ | refine mtd_i ?_ | refine tNot_i ?_ | refine tAnd_i ?_ | refine tOr_i ?_ | refine tYes_i ?_ | refine and_i ?_ | refine or_i ?_ | refine not_i ?_ | refine for_i ?_ | refine iseq_i ?_ | refine range1_i ?_ | refine range2_i ?_ | refine rcomp_i ?_ | refine rcompN_i ?_ | refine par_i ?_ | refine addA_i ?_ | refine gcons_i ?_ | refine gnil_i ?_ | refine dict_i ?_ | refine dget_i ?_ | refine din_i ?_ | refine dnotin_i ?_ | refine dput_i ?_ | refine setItem_i ?_ | refine oNone_i ?_ | refine oSome_i ?_ | refine onO_i ?_ | refine slice_i ?_ | refine sliceN_i ?_ | refine onSl_tup ?_ | refine onSl_old ?_ | refine onSl_lst ?_ | refine max2_i ?_ | refine min2_i ?_ | refine abs_i ?_ | refine eqS_i ?_ | refine neS_i ?_ | refine eqB_i ?_ | refine retN_i ?_ | refine skip_i ?_ | refine isN_i ?_ | refine isNI_i ?_ | refine isNT_i ?_ | refine isNS_i ?_ | refine chain_i ?_ | refine onB3_i ?_ | refine asg2_i ?_) | ((with_reducible apply var_i); exact rfl) | ((with_reducible apply seqE_i); exact rfl) | ((with_reducible apply srcE_i); exact rfl) | ((with_reducible apply list_i); exact rfl) | ((with_reducible apply rev_i); exact rfl) | ((with_reducible apply tuple_i); exact rfl) | ((with_reducible apply len_i); exact rfl) | ((with_reducible apply ix_i); exact rfl; exact rfl) | ((with_reducible apply aug_i); exact rfl) | ((with_reducible apply gtup_i); exact rfl))
  refine ⟨n, rfl, h1, h2, fun v hv => ?_⟩
  repeat (first | (with_reducible first | refine seq_i ?_ | refine asg_i ?_ | refine c_i ?_ | refine op2_i ?_ | refine gname_i ?_ | refine cons_i ?_ | refine nil_i ?_ | refine add_i ?_ | refine sub_i ?_ | refine lt_i ?_ | refine le_i ?_ | refine gt_i ?_ | refine ge_i ?_ | refine eq_i ?_ | refine ne_i ?_ | refine onBl_i ?_ | refine tB_i ?_ | refine sif_i ?_ | refine rif_i ?_ | refine call_i ?_ | refine callK_i ?_ | refine ret_i ?_ | refine tup_i ?_ | refine lst_i ?_ | refine lstN_i ?_ | refine opN_i ?_ | refine f_i ?_ | refine fN_i ?_ | refine op1_i ?_ | refine neg_i ?_ | refine drop_i ?_ | refine mtd_i ?_ | refine tNot_i ?_ | refine tAnd_i ?_ | refine tOr_i ?_ | refine tYes_i ?_ | refine and_i ?_ | refine or_i ?_ | refine not_i ?_ | refine for_i ?_ | refine iseq_i ?_ | refine range1_i ?_ | refine range2_i ?_ | refine rcomp_i ?_ | refine rcompN_i ?_ | refine par_i ?_ | refine addA_i ?_ | refine gcons_i ?_ | refine gnil_i ?_ | refine dict_i ?_ | refine dget_i ?_ | refine din_i ?_ | refine dnotin_i ?_ | refine dput_i ?_ | refine setItem_i ?_ | refine oNone_i ?_ | refine oSome_i ?_ | refine onO_i ?_ | refine slice_i ?_ | refine sliceN_i ?_ | refine onSl_tup ?_ | refine onSl_old ?_ | refine onSl_lst ?_ | refine max2_i ?_ | refine min2_i ?_ | refine abs_i ?_ | refine eqS_i ?_ | refine neS_i ?_ | refine eqB_i ?_ | refine retN_i ?_ | refine skip_i ?_ | refine isN_i ?_ | refine isNI_i ?_ | refine isNT_i ?_ | refine isNS_i ?_ | refine chain_i ?_ | refine onB3_i ?_ | refine asg2_i ?_) | ((with_reducible apply var_i); exact rfl) | ((with_reducible apply seqE_i); exact rfl) | ((with_reducible apply srcE_i); exact rfl) | ((with_reducible apply list_i); exact rfl) | ((with_reducible apply rev_i); exact rfl) | ((with_reducible apply tuple_i); exact rfl) | ((with_reducible apply len_i); exact rfl) | ((with_reducible apply ix_i); exact rfl; exact rfl) | ((with_reducible apply aug_i); exact rfl) | ((with_reducible apply gtup_i); exact rfl))
  have v2 := hv.two
  have vn := hv.le
  by_cases e : v = n
  · subst e
    refine ite_i (fun _ => ?_) fun h => absurd rfl h
    repeat (first | (with_reducible first | refine seq_i ?_ | refine asg_i ?_ | refine c_i ?_ | refine op2_i ?_ | refine gname_i ?_ | refine cons_i ?_ | refine nil_i ?_ | refine add_i ?_ | refine sub_i ?_ | refine lt_i ?_ | refine le_i ?_ | refine gt_i ?_ | refine ge_i ?_ | refine eq_i ?_ | refine ne_i ?_ | refine onBl_i ?_ | refine tB_i ?_ | refine sif_i ?_ | refine rif_i ?_ | refine call_i ?_ | refine callK_i ?_ | refine ret_i ?_ | refine tup_i ?_ | refine lst_i ?_ | refine lstN_i ?_ | refine opN_i ?_ | refine f_i ?_ | refine fN_i ?_ | refine op1_i ?_ | refine neg_i ?_ | refine drop_i ?_ | refine mtd_i ?_ | refine tNot_i ?_ | refine tAnd_i ?_ | refine tOr_i ?_ | refine tYes_i ?_ | refine and_i ?_ | refine or_i ?_ | refine not_i ?_ | refine for_i ?_ | refine iseq_i ?_ | refine range1_i ?_ | refine range2_i ?_ | refine rcomp_i ?_ | refine rcompN_i ?_ | refine par_i ?_ | refine addA_i ?_ | refine gcons_i ?_ | refine gnil_i ?_ | refine dict_i ?_ | refine dget_i ?_ | refine din_i ?_ | refine dnotin_i ?_ | refine dput_i ?_ | refine setItem_i ?_ | refine oNone_i ?_ | refine oSome_i ?_ | refine onO_i ?_ | refine slice_i ?_ | refine sliceN_i ?_ | refine onSl_tup ?_ | refine onSl_old ?_ | refine onSl_lst ?_ | refine max2_i ?_ | refine min2_i ?_ | refine abs_i ?_ | refine eqS_i ?_ | refine neS_i ?_ | refine eqB_i ?_ | refine retN_i ?_ | refine skip_i ?_ | refine isN_i ?_ | refine isNI_i ?_ | refine isNT_i ?_ | refine isNS_i ?_ | refine chain_i ?_ | refine onB3_i ?_ | refine asg2_i ?_) | ((with_reducible apply var_i); exact rfl) | ((with_reducible apply seqE_i); exact rfl) | ((with_reducible apply srcE_i); exact rfl) | ((with_reducible apply list_i); exact rfl) | ((with_reducible apply rev_i); exact rfl) | ((with_reducible apply tuple_i); exact rfl) | ((with_reducible apply len_i); exact rfl) | ((with_reducible apply ix_i); exact rfl; exact rfl) | ((with_reducible apply aug_i); exact rfl) | ((with_reducible apply gtup_i); exact rfl))
    refine ⟨v, rfl, ?_⟩
    repeat (first | (with_reducible first | refine seq_i ?_ | refine asg_i ?_ | refine c_i ?_ | refine op2_i ?_ | refine gname_i ?_ | refine cons_i ?_ | refine nil_i ?_ | refine add_i ?_ | refine sub_i ?_ | refine lt_i ?_ | refine le_i ?_ | refine gt_i ?_ | refine ge_i ?_ | refine eq_i ?_ | refine ne_i ?_ | refine onBl_i ?_ | refine tB_i ?_ | refine sif_i ?_ | refine rif_i ?_ | refine call_i ?_ | refine callK_i ?_ | refine ret_i ?_ | refine tup_i ?_ | refine lst_i ?_ | refine lstN_i ?_ | refine opN_i ?_ | refine f_i ?_ | refine fN_i ?_ | refine op1_i ?_ | refine neg_i ?_ | refine drop_i ?_ | refine mtd_i ?_ | refine tNot_i ?_ | refine tAnd_i ?_ | refine tOr_i ?_ | refine tYes_i ?_ | refine and_i ?_ | refine or_i ?_ | refine not_i ?_ | refine for_i ?_ | refine iseq_i ?_ | refine range1_i ?_ | refine range2_i ?_ | refine rcomp_i ?_ | refine rcompN_i ?_ | refine par_i ?_ | refine addA_i ?_ | refine gcons_i ?_ | refine gnil_i ?_ | refine dict_i ?_ | refine dget_i ?_ | refine din_i ?_ | refine dnotin_i ?_ | refine dput_i ?_ | refine setItem_i ?_ | refine oNone_i ?_ | refine oSome_i ?_ | refine onO_i ?_ | refine slice_i ?_ | refine sliceN_i ?_ | refine onSl_tup ?_ | refine onSl_old ?_ | refine onSl_lst ?_ | refine max2_i ?_ | refine min2_i ?_ | refine abs_i ?_ | refine eqS_i ?_ | refine neS_i ?_ | refine eqB_i ?_ | refine retN_i ?_ | refine skip_i ?_ | refine isN_i ?_ | refine isNI_i ?_ | refine isNT_i ?_ | refine isNS_i ?_ | refine chain_i ?_ | refine onB3_i ?_ | refine asg2_i ?_) | ((with_reducible apply var_i); exact rfl) | ((with_reducible apply seqE_i); exact rfl) | ((with_reducible apply srcE_i); exact rfl) | ((with_reducible apply list_i); exact rfl) | ((with_reducible apply rev_i); exact rfl) | ((with_reducible apply tuple_i); exact rfl) | ((with_reducible apply len_i); exact rfl) | ((with_reducible apply ix_i); exact rfl; exact rfl) | ((with_reducible apply aug_i); exact rfl) | ((with_reducible apply gtup_i); exact rfl))
    refine ⟨_, rfl, .inl ⟨v, rfl, h1, h2, fun w hw => ?_⟩⟩
    obtain rfl := hv.one hw
    rw [if_pos rfl]
    repeat (first | (with_reducible first | refine seq_i ?_ | refine asg_i ?_ | refine c_i ?_ | refine op2_i ?_ | refine gname_i ?_ | refine cons_i ?_ | refine nil_i ?_ | refine add_i ?_ | refine sub_i ?_ | refine lt_i ?_ | refine le_i ?_ | refine gt_i ?_ | refine ge_i ?_ | refine eq_i ?_ | refine ne_i ?_ | refine onBl_i ?_ | refine tB_i ?_ | refine sif_i ?_ | refine rif_i ?_ | refine call_i ?_ | refine callK_i ?_ | refine ret_i ?_ | refine tup_i ?_ | refine lst_i ?_ | refine lstN_i ?_ | refine opN_i ?_ | refine f_i ?_ | refine fN_i ?_ | refine op1_i ?_ | refine neg_i ?_ | refine drop_i ?_ | refine mtd_i ?_ | refine tNot_i ?_ | refine tAnd_i ?_ | refine tOr_i ?_ | refine tYes_i ?_ | refine and_i ?_ | refine or_i ?_ | refine not_i ?_ | refine for_i ?_ | refine iseq_i ?_ | refine range1_i ?_ | refine range2_i ?_ | refine rcomp_i ?_ | refine rcompN_i ?_ | refine par_i ?_ | refine addA_i ?_ | refine gcons_i ?_ | refine gnil_i ?_ | refine dict_i ?_ | refine dget_i ?_ | refine din_i ?_ | refine dnotin_i ?_ | refine dput_i ?_ | refine setItem_i ?_ | refine oNone_i ?_ | refine oSome_i ?_ | refine onO_i ?_ | refine slice_i ?_ | refine sliceN_i ?_ | refine onSl_tup ?_ | refine onSl_old ?_ | refine onSl_lst ?_ | refine max2_i ?_ | refine min2_i ?_ | refine abs_i ?_ | refine eqS_i ?_ | refine neS_i ?_ | refine eqB_i ?_ | refine retN_i ?_ | refine skip_i ?_ | refine isN_i ?_ | refine isNI_i ?_ | refine isNT_i ?_ | refine isNS_i ?_ | refine chain_i ?_ | refine onB3_i ?_ | refine asg2_i ?_) | ((with_reducible apply var_i); exact rfl) | ((with_reducible apply seqE_i); exact rfl) | ((with_reducible apply srcE_i); exact rfl) | ((with_reducible apply list_i); exact rfl) | ((with_reducible apply rev_i); exact rfl) | ((with_reducible apply tuple_i); exact rfl) | ((with_reducible apply len_i); exact rfl) | ((with_reducible apply ix_i); exact rfl; exact rfl) | ((with_reducible apply aug_i); exact rfl) | ((with_reducible apply gtup_i); exact rfl))
    refine ⟨_, rfl, .inl ⟨v, rfl, h1, h2, fun w hw => ?_⟩⟩
    obtain rfl := hv.one hw
    rw [if_pos rfl]
    repeat (first | (with_reducible first | refine seq_i ?_ | refine asg_i ?_ | refine c_i ?_ | refine op2_i ?_ | refine gname_i ?_ | refine cons_i ?_ | refine nil_i ?_ | refine add_i ?_ | refine sub_i ?_ | refine lt_i ?_ | refine le_i ?_ | refine gt_i ?_ | refine ge_i ?_ | refine eq_i ?_ | refine ne_i ?_ | refine onBl_i ?_ | refine tB_i ?_ | refine sif_i ?_ | refine rif_i ?_ | refine call_i ?_ | refine callK_i ?_ | refine ret_i ?_ | refine tup_i ?_ | refine lst_i ?_ | refine lstN_i ?_ | refine opN_i ?_ | refine f_i ?_ | refine fN_i ?_ | refine op1_i ?_ | refine neg_i ?_ | refine drop_i ?_ | refine mtd_i ?_ | refine tNot_i ?_ | refine tAnd_i ?_ | refine tOr_i ?_ | refine tYes_i ?_ | refine and_i ?_ | refine or_i ?_ | refine not_i ?_ | refine for_i ?_ | refine iseq_i ?_ | refine range1_i ?_ | refine range2_i ?_ | refine rcomp_i ?_ | refine rcompN_i ?_ | refine par_i ?_ | refine addA_i ?_ | refine gcons_i ?_ | refine gnil_i ?_ | refine dict_i ?_ | refine dget_i ?_ | refine din_i ?_ | refine dnotin_i ?_ | refine dput_i ?_ | refine setItem_i ?_ | refine oNone_i ?_ | refine oSome_i ?_ | refine onO_i ?_ | refine slice_i ?_ | refine sliceN_i ?_ | refine onSl_tup ?_ | refine onSl_old ?_ | refine onSl_lst ?_ | refine max2_i ?_ | refine min2_i ?_ | refine abs_i ?_ | refine eqS_i ?_ | refine neS_i ?_ | refine eqB_i ?_ | refine retN_i ?_ | refine skip_i ?_ | refine isN_i ?_ | refine isNI_i ?_ | refine isNT_i ?_ | refine isNS_i ?_ | refine chain_i ?_ | refine onB3_i ?_ | refine asg2_i ?_) | ((with_reducible apply var_i); exact rfl) | ((with_reducible apply seqE_i); exact rfl) | ((with_reducible apply srcE_i); exact rfl) | ((with_reducible apply list_i); exact rfl) | ((with_reducible apply rev_i); exact rfl) | ((with_reducible apply tuple_i); exact rfl) | ((with_reducible apply len_i); exact rfl) | ((with_reducible apply ix_i); exact rfl; exact rfl) | ((with_reducible apply aug_i); exact rfl) | ((with_reducible apply gtup_i); exact rfl))
    refine rpN ?_
    repeat (first | (with_reducible first | refine seq_i ?_ | refine asg_i ?_ | refine c_i ?_ | refine op2_i ?_ | refine gname_i ?_ | refine cons_i ?_ | refine nil_i ?_ | refine add_i ?_ | refine sub_i ?_ | refine lt_i ?_ | refine le_i ?_ | refine gt_i ?_ | refine ge_i ?_ | refine eq_i ?_ | refine ne_i ?_ | refine onBl_i ?_ | refine tB_i ?_ | refine sif_i ?_ | refine rif_i ?_ | refine call_i ?_ | refine callK_i ?_ | refine ret_i ?_ | refine tup_i ?_ | refine lst_i ?_ | refine lstN_i ?_ | refine opN_i ?_ | refine f_i ?_ | refine fN_i ?_ | refine op1_i ?_ | refine neg_i ?_ | refine drop_i ?_ | refine mtd_i ?_ | refine tNot_i ?_ | refine tAnd_i ?_ | refine tOr_i ?_ | refine tYes_i ?_ | refine and_i ?_ | refine or_i ?_ | refine not_i ?_ | refine for_i ?_ | refine iseq_i ?_ | refine range1_i ?_ | refine range2_i ?_ | refine rcomp_i ?_ | refine rcompN_i ?_ | refine par_i ?_ | refine addA_i ?_ | refine gcons_i ?_ | refine gnil_i ?_ | refine dict_i ?_ | refine dget_i ?_ | refine din_i ?_ | refine dnotin_i ?_ | refine dput_i ?_ | refine setItem_i ?_ | refine oNone_i ?_ | refine oSome_i ?_ | refine onO_i ?_ | refine slice_i ?_ | refine sliceN_i ?_ | refine onSl_tup ?_ | refine onSl_old ?_ | refine onSl_lst ?_ | refine max2_i ?_ | refine min2_i ?_ | refine abs_i ?_ | refine eqS_i ?_ | refine neS_i ?_ | refine eqB_i ?_ | refine retN_i ?_ | refine skip_i ?_ | refine isN_i ?_ | refine isNI_i ?_ | refine isNT_i ?_ | refine isNS_i ?_ | refine chain_i ?_ | refine onB3_i ?_ | refine asg2_i ?_) | ((with_reducible apply var_i); exact rfl) | ((with_reducible apply seqE_i); exact rfl) | ((with_reducible apply srcE_i); exact rfl) | ((with_reducible apply list_i); exact rfl) | ((with_reducible apply rev_i); exact rfl) | ((with_reducible apply tuple_i); exact rfl) | ((with_reducible apply len_i); exact rfl) | ((with_reducible apply ix_i); exact rfl; exact rfl) | ((with_reducible apply aug_i); exact rfl) | ((with_reducible apply gtup_i); exact rfl))
    refine rpN ?_
    repeat (first | (with_reducible first | refine seq_i ?_ | refine asg_i ?_ | refine c_i ?_ | refine op2_i ?_ | refine gname_i ?_ | refine cons_i ?_ | refine nil_i ?_ | refine add_i ?_ | refine sub_i ?_ | refine lt_i ?_ | refine le_i ?_ | refine gt_i ?_ | refine ge_i ?_ | refine eq_i ?_ | refine ne_i ?_ | refine onBl_i ?_ | refine tB_i ?_ | refine sif_i ?_ | refine rif_i ?_ | refine call_i ?_ | refine callK_i ?_ | refine ret_i ?_ | refine tup_i ?_ | refine lst_i ?_ | refine lstN_i ?_ | refine opN_i ?_ | refine f_i ?_ | refine fN_i ?_ | refine op1_i ?_ | refine neg_i ?_ | refine drop_i ?_ | refine mtd_i ?_ | refine tNot_i ?_ | refine tAnd_i ?_ | refine tOr_i ?_ | refine tYes_i ?_ | refine and_i ?_ | refine or_i ?_ | refine not_i ?_ | refine for_i ?_ | refine iseq_i ?_ | refine range1_i ?_ | refine range2_i ?_ | refine rcomp_i ?_ | refine rcompN_i ?_ | refine par_i ?_ | refine addA_i ?_ | refine gcons_i ?_ | refine gnil_i ?_ | refine dict_i ?_ | refine dget_i ?_ | refine din_i ?_ | refine dnotin_i ?_ | refine dput_i ?_ | refine setItem_i ?_ | refine oNone_i ?_ | refine oSome_i ?_ | refine onO_i ?_ | refine slice_i ?_ | refine sliceN_i ?_ | refine onSl_tup ?_ | refine onSl_old ?_ | refine onSl_lst ?_ | refine max2_i ?_ | refine min2_i ?_ | refine abs_i ?_ | refine eqS_i ?_ | refine neS_i ?_ | refine eqB_i ?_ | refine retN_i ?_ | refine skip_i ?_ | refine isN_i ?_ | refine isNI_i ?_ | refine isNT_i ?_ | refine isNS_i ?_ | refine chain_i ?_ | refine onB3_i ?_ | refine asg2_i ?_) | ((with_reducible apply var_i); exact rfl) | ((with_reducible apply seqE_i); exact rfl) | ((with_reducible apply srcE_i); exact rfl) | ((with_reducible apply list_i); exact rfl) | ((with_reducible apply rev_i); exact rfl) | ((with_reducible apply tuple_i); exact rfl) | ((with_reducible apply len_i); exact rfl) | ((with_reducible apply ix_i); exact rfl; exact rfl) | ((with_reducible apply aug_i); exact rfl) | ((with_reducible apply gtup_i); exact rfl))
    refine ite_eqS rfl ?_
    repeat (first | (with_reducible first | refine seq_i ?_ | refine asg_i ?_ | refine c_i ?_ | refine op2_i ?_ | refine gname_i ?_ | refine cons_i ?_ | refine nil_i ?_ | refine add_i ?_ | refine sub_i ?_ | refine lt_i ?_ | refine le_i ?_ | refine gt_i ?_ | refine ge_i ?_ | refine eq_i ?_ | refine ne_i ?_ | refine onBl_i ?_ | refine tB_i ?_ | refine sif_i ?_ | refine rif_i ?_ | refine call_i ?_ | refine callK_i ?_ | refine ret_i ?_ | refine tup_i ?_ | refine lst_i ?_ | refine lstN_i ?_ | refine opN_i ?_ | refine f_i ?_ | refine fN_i ?_ | refine op1_i ?_ | refine neg_i ?_ | refine drop_i ?_ | refine mtd_i ?_ | refine tNot_i ?_ | refine tAnd_i ?_ | refine tOr_i ?_ | refine tYes_i ?_ | refine and_i ?_ | refine or_i ?_ | refine not_i ?_ | refine for_i ?_ | refine iseq_i ?_ | refine range1_i ?_ | refine range2_i ?_ | refine rcomp_i ?_ | refine rcompN_i ?_ | refine par_i ?_ | refine addA_i ?_ | refine gcons_i ?_ | refine gnil_i ?_ | refine dict_i ?_ | refine dget_i ?_ | refine din_i ?_ | refine dnotin_i ?_ | refine dput_i ?_ | refine setItem_i ?_ | refine oNone_i ?_ | refine oSome_i ?_ | refine onO_i ?_ | refine slice_i ?_ | refine sliceN_i ?_ | refine onSl_tup ?_ | refine onSl_old ?_ | refine onSl_lst ?_ | refine max2_i ?_ | refine min2_i ?_ | refine abs_i ?_ | refine eqS_i ?_ | refine neS_i ?_ | refine eqB_i ?_ | refine retN_i ?_ | refine skip_i ?_ | refine isN_i ?_ | refine isNI_i ?_ | refine isNT_i ?_ | refine isNS_i ?_ | refine chain_i ?_ | refine onB3_i ?_ | refine asg2_i ?_) | ((with_reducible apply var_i); exact rfl) | ((with_reducible apply seqE_i); exact rfl) | ((with_reducible apply srcE_i); exact rfl) | ((with_reducible apply list_i); exact rfl) | ((with_reducible apply rev_i); exact rfl) | ((with_reducible apply tuple_i); exact rfl) | ((with_reducible apply len_i); exact rfl) | ((with_reducible apply ix_i); exact rfl; exact rfl) | ((with_reducible apply aug_i); exact rfl) | ((with_reducible apply gtup_i); exact rfl))
    refine iteB_i (fun _ => ?_) fun h => nomatch h
    repeat (first | (with_reducible first | refine seq_i ?_ | refine asg_i ?_ | refine c_i ?_ | refine op2_i ?_ | refine gname_i ?_ | refine cons_i ?_ | refine nil_i ?_ | refine add_i ?_ | refine sub_i ?_ | refine lt_i ?_ | refine le_i ?_ | refine gt_i ?_ | refine ge_i ?_ | refine eq_i ?_ | refine ne_i ?_ | refine onBl_i ?_ | refine tB_i ?_ | refine sif_i ?_ | refine rif_i ?_ | refine call_i ?_ | refine callK_i ?_ | refine ret_i ?_ | refine tup_i ?_ | refine lst_i ?_ | refine lstN_i ?_ | refine opN_i ?_ | refine f_i ?_ | refine fN_i ?_ | refine op1_i ?_ | refine neg_i ?_ | refine drop_i ?_ | refine mtd_i ?_ | refine tNot_i ?_ | refine tAnd_i ?_ | refine tOr_i ?_ | refine tYes_i ?_ | refine and_i ?_ | refine or_i ?_ | refine not_i ?_ | refine for_i ?_ | refine iseq_i ?_ | refine range1_i ?_ | refine range2_i ?_ | refine rcomp_i ?_ | refine rcompN_i ?_ | refine par_i ?_ | refine addA_i ?_ | refine gcons_i ?_ | refine gnil_i ?_ | refine dict_i ?_ | refine dget_i ?_ | refine din_i ?_ | refine dnotin_i ?_ | refine dput_i ?_ | refine setItem_i ?_ | refine oNone_i ?_ | refine oSome_i ?_ | refine onO_i ?_ | refine slice_i ?_ | refine sliceN_i ?_ | refine onSl_tup ?_ | refine onSl_old ?_ | refine onSl_lst ?_ | refine max2_i ?_ | refine min2_i ?_ | refine abs_i ?_ | refine eqS_i ?_ | refine neS_i ?_ | refine eqB_i ?_ | refine retN_i ?_ | refine skip_i ?_ | refine isN_i ?_ | refine isNI_i ?_ | refine isNT_i ?_ | refine isNS_i ?_ | refine chain_i ?_ | refine onB3_i ?_ | refine asg2_i ?_) | ((with_reducible apply var_i); exact rfl) | ((with_reducible apply seqE_i); exact rfl) | ((with_reducible apply srcE_i); exact rfl) | ((with_reducible apply list_i); exact rfl) | ((with_reducible apply rev_i); exact rfl) | ((with_reducible apply tuple_i); exact rfl) | ((with_reducible apply len_i); exact rfl) | ((with_reducible apply ix_i); exact rfl; exact rfl) | ((with_reducible apply aug_i); exact rfl) | ((with_reducible apply gtup_i); exact rfl))
    refine div_i (.inl ⟨by decide, by decide⟩) ?_
    repeat (first | (with_reducible first | refine seq_i ?_ | refine asg_i ?_ | refine c_i ?_ | refine op2_i ?_ | refine gname_i ?_ | refine cons_i ?_ | refine nil_i ?_ | refine add_i ?_ | refine sub_i ?_ | refine lt_i ?_ | refine le_i ?_ | refine gt_i ?_ | refine ge_i ?_ | refine eq_i ?_ | refine ne_i ?_ | refine onBl_i ?_ | refine tB_i ?_ | refine sif_i ?_ | refine rif_i ?_ | refine call_i ?_ | refine callK_i ?_ | refine ret_i ?_ | refine tup_i ?_ | refine lst_i ?_ | refine lstN_i ?_ | refine opN_i ?_ | refine f_i ?_ | refine fN_i ?_ | refine op1_i ?_ | refine neg_i ?_ | refine drop_i ?_ | refine mtd_i ?_ | refine tNot_i ?_ | refine tAnd_i ?_ | refine tOr_i ?_ | refine tYes_i ?_ | refine and_i ?_ | refine or_i ?_ | refine not_i ?_ | refine for_i ?_ | refine iseq_i ?_ | refine range1_i ?_ | refine range2_i ?_ | refine rcomp_i ?_ | refine rcompN_i ?_ | refine par_i ?_ | refine addA_i ?_ | refine gcons_i ?_ | refine gnil_i ?_ | refine dict_i ?_ | refine dget_i ?_ | refine din_i ?_ | refine dnotin_i ?_ | refine dput_i ?_ | refine setItem_i ?_ | refine oNone_i ?_ | refine oSome_i ?_ | refine onO_i ?_ | refine slice_i ?_ | refine sliceN_i ?_ | refine onSl_tup ?_ | refine onSl_old ?_ | refine onSl_lst ?_ | refine max2_i ?_ | refine min2_i ?_ | refine abs_i ?_ | refine eqS_i ?_ | refine neS_i ?_ | refine eqB_i ?_ | refine retN_i ?_ | refine skip_i ?_ | refine isN_i ?_ | refine isNI_i ?_ | refine isNT_i ?_ | refine isNS_i ?_ | refine chain_i ?_ | refine onB3_i ?_ | refine asg2_i ?_) | ((with_reducible apply var_i); exact rfl) | ((with_reducible apply seqE_i); exact rfl) | ((with_reducible apply srcE_i); exact rfl) | ((with_reducible apply list_i); exact rfl) | ((with_reducible apply rev_i); exact rfl) | ((with_reducible apply tuple_i); exact rfl) | ((with_reducible apply len_i); exact rfl) | ((with_reducible apply ix_i); exact rfl; exact rfl) | ((with_reducible apply aug_i); exact rfl) | ((with_reducible apply gtup_i); exact rfl))
    refine mod_i (by decide) ?_
    repeat (first | (with_reducible first | refine seq_i ?_ | refine asg_i ?_ | refine c_i ?_ | refine op2_i ?_ | refine gname_i ?_ | refine cons_i ?_ | refine nil_i ?_ | refine add_i ?_ | refine sub_i ?_ | refine lt_i ?_ | refine le_i ?_ | refine gt_i ?_ | refine ge_i ?_ | refine eq_i ?_ | refine ne_i ?_ | refine onBl_i ?_ | refine tB_i ?_ | refine sif_i ?_ | refine rif_i ?_ | refine call_i ?_ | refine callK_i ?_ | refine ret_i ?_ | refine tup_i ?_ | refine lst_i ?_ | refine lstN_i ?_ | refine opN_i ?_ | refine f_i ?_ | refine fN_i ?_ | refine op1_i ?_ | refine neg_i ?_ | refine drop_i ?_ | refine mtd_i ?_ | refine tNot_i ?_ | refine tAnd_i ?_ | refine tOr_i ?_ | refine tYes_i ?_ | refine and_i ?_ | refine or_i ?_ | refine not_i ?_ | refine for_i ?_ | refine iseq_i ?_ | refine range1_i ?_ | refine range2_i ?_ | refine rcomp_i ?_ | refine rcompN_i ?_ | refine par_i ?_ | refine addA_i ?_ | refine gcons_i ?_ | refine gnil_i ?_ | refine dict_i ?_ | refine dget_i ?_ | refine din_i ?_ | refine dnotin_i ?_ | refine dput_i ?_ | refine setItem_i ?_ | refine oNone_i ?_ | refine oSome_i ?_ | refine onO_i ?_ | refine slice_i ?_ | refine sliceN_i ?_ | refine onSl_tup ?_ | refine onSl_old ?_ | refine onSl_lst ?_ | refine max2_i ?_ | refine min2_i ?_ | refine abs_i ?_ | refine eqS_i ?_ | refine neS_i ?_ | refine eqB_i ?_ | refine retN_i ?_ | refine skip_i ?_ | refine isN_i ?_ | refine isNI_i ?_ | refine isNT_i ?_ | refine isNS_i ?_ | refine chain_i ?_ | refine onB3_i ?_ | refine asg2_i ?_) | ((with_reducible apply var_i); exact rfl) | ((with_reducible apply seqE_i); exact rfl) | ((with_reducible apply srcE_i); exact rfl) | ((with_reducible apply list_i); exact rfl) | ((with_reducible apply rev_i); exact rfl) | ((with_reducible apply tuple_i); exact rfl) | ((with_reducible apply len_i); exact rfl) | ((with_reducible apply ix_i); exact rfl; exact rfl) | ((with_reducible apply aug_i); exact rfl) | ((with_reducible apply gtup_i); exact rfl))
    refine div_i (.inl ⟨by decide, by decide⟩) ?_
    repeat (first | (with_reducible first | refine seq_i ?_ | refine asg_i ?_ | refine c_i ?_ | refine op2_i ?_ | refine gname_i ?_ | refine cons_i ?_ | refine nil_i ?_ | refine add_i ?_ | refine sub_i ?_ | refine lt_i ?_ | refine le_i ?_ | refine gt_i ?_ | refine ge_i ?_ | refine eq_i ?_ | refine ne_i ?_ | refine onBl_i ?_ | refine tB_i ?_ | refine sif_i ?_ | refine rif_i ?_ | refine call_i ?_ | refine callK_i ?_ | refine ret_i ?_ | refine tup_i ?_ | refine lst_i ?_ | refine lstN_i ?_ | refine opN_i ?_ | refine f_i ?_ | refine fN_i ?_ | refine op1_i ?_ | refine neg_i ?_ | refine drop_i ?_ | refine mtd_i ?_ | refine tNot_i ?_ | refine tAnd_i ?_ | refine tOr_i ?_ | refine tYes_i ?_ | refine and_i ?_ | refine or_i ?_ | refine not_i ?_ | refine for_i ?_ | refine iseq_i ?_ | refine range1_i ?_ | refine range2_i ?_ | refine rcomp_i ?_ | refine rcompN_i ?_ | refine par_i ?_ | refine addA_i ?_ | refine gcons_i ?_ | refine gnil_i ?_ | refine dict_i ?_ | refine dget_i ?_ | refine din_i ?_ | refine dnotin_i ?_ | refine dput_i ?_ | refine setItem_i ?_ | refine oNone_i ?_ | refine oSome_i ?_ | refine onO_i ?_ | refine slice_i ?_ | refine sliceN_i ?_ | refine onSl_tup ?_ | refine onSl_old ?_ | refine onSl_lst ?_ | refine max2_i ?_ | refine min2_i ?_ | refine abs_i ?_ | refine eqS_i ?_ | refine neS_i ?_ | refine eqB_i ?_ | refine retN_i ?_ | refine skip_i ?_ | refine isN_i ?_ | refine isNI_i ?_ | refine isNT_i ?_ | refine isNS_i ?_ | refine chain_i ?_ | refine onB3_i ?_ | refine asg2_i ?_) | ((with_reducible apply var_i); exact rfl) | ((with_reducible apply seqE_i); exact rfl) | ((with_reducible apply srcE_i); exact rfl) | ((with_reducible apply list_i); exact rfl) | ((with_reducible apply rev_i); exact rfl) | ((with_reducible apply tuple_i); exact rfl) | ((with_reducible apply len_i); exact rfl) | ((with_reducible apply ix_i); exact rfl; exact rfl) | ((with_reducible apply aug_i); exact rfl) | ((with_reducible apply gtup_i); exact rfl))
    refine comp_inv (fun i acc m' => m' = m ∧ acc = []) (fun _ _ _ _ _ => rfl) (fun i x acc m' N hx hI hN => ?_) ⟨rfl, rfl⟩ fun acc m' hI => ?_
    · obtain ⟨rfl, rfl⟩ := hI
      have hb : ∃ b : Int, x = .int b := by
        have := List.mem_of_getElem? hx
        simp only [List.mem_cons, List.not_mem_nil, or_false] at this
        rcases this with rfl | rfl | rfl | rfl <;> exact ⟨_, rfl⟩
      obtain ⟨b, rfl⟩ := hb
      repeat (first | (with_reducible first | refine seq_i ?_ | refine asg_i ?_ | refine c_i ?_ | refine op2_i ?_ | refine gname_i ?_ | refine cons_i ?_ | refine nil_i ?_ | refine add_i ?_ | refine sub_i ?_ | refine lt_i ?_ | refine le_i ?_ | refine gt_i ?_ | refine ge_i ?_ | refine eq_i ?_ | refine ne_i ?_ | refine onBl_i ?_ | refine tB_i ?_ | refine sif_i ?_ | refine rif_i ?_ | refine call_i ?_ | refine callK_i ?_ | refine ret_i ?_ | refine tup_i ?_ | refine lst_i ?_ | refine lstN_i ?_ | refine opN_i ?_ | refine f_i ?_ | refine fN_i ?_ | refine op1_i ?_ | refine neg_i ?_ | refine drop_i ?_ | refine mtd_i ?_ | refine tNot_i ?_ | refine tAnd_i ?_ | refine tOr_i ?_ | refine tYes_i ?_ | refine and_i ?_ | refine or_i ?_ | refine not_i ?_ | refine for_i ?_ | refine iseq_i ?_ | refine range1_i ?_ | refine range2_i ?_ | refine rcomp_i ?_ | refine rcompN_i ?_ | refine par_i ?_ | refine addA_i ?_ | refine gcons_i ?_ | refine gnil_i ?_ | refine dict_i ?_ | refine dget_i ?_ | refine din_i ?_ | refine dnotin_i ?_ | refine dput_i ?_ | refine setItem_i ?_ | refine oNone_i ?_ | refine oSome_i ?_ | refine onO_i ?_ | refine slice_i ?_ | refine sliceN_i ?_ | refine onSl_tup ?_ | refine onSl_old ?_ | refine onSl_lst ?_ | refine max2_i ?_ | refine min2_i ?_ | refine abs_i ?_ | refine eqS_i ?_ | refine neS_i ?_ | refine eqB_i ?_ | refine retN_i ?_ | refine skip_i ?_ | refine isN_i ?_ | refine isNI_i ?_ | refine isNT_i ?_ | refine isNS_i ?_ | refine chain_i ?_ | refine onB3_i ?_ | refine asg2_i ?_) | ((with_reducible apply var_i); exact rfl) | ((with_reducible apply seqE_i); exact rfl) | ((with_reducible apply srcE_i); exact rfl) | ((with_reducible apply list_i); exact rfl) | ((with_reducible apply rev_i); exact rfl) | ((with_reducible apply tuple_i); exact rfl) | ((with_reducible apply len_i); exact rfl) | ((with_reducible apply ix_i); exact rfl; exact rfl) | ((with_reducible apply aug_i); exact rfl) | ((with_reducible apply gtup_i); exact rfl))
      refine mod_i (by omega) ?_
      repeat (first | (with_reducible first | refine seq_i ?_ | refine asg_i ?_ | refine c_i ?_ | refine op2_i ?_ | refine gname_i ?_ | refine cons_i ?_ | refine nil_i ?_ | refine add_i ?_ | refine sub_i ?_ | refine lt_i ?_ | refine le_i ?_ | refine gt_i ?_ | refine ge_i ?_ | refine eq_i ?_ | refine ne_i ?_ | refine onBl_i ?_ | refine tB_i ?_ | refine sif_i ?_ | refine rif_i ?_ | refine call_i ?_ | refine callK_i ?_ | refine ret_i ?_ | refine tup_i ?_ | refine lst_i ?_ | refine lstN_i ?_ | refine opN_i ?_ | refine f_i ?_ | refine fN_i ?_ | refine op1_i ?_ | refine neg_i ?_ | refine drop_i ?_ | refine mtd_i ?_ | refine tNot_i ?_ | refine tAnd_i ?_ | refine tOr_i ?_ | refine tYes_i ?_ | refine and_i ?_ | refine or_i ?_ | refine not_i ?_ | refine for_i ?_ | refine iseq_i ?_ | refine range1_i ?_ | refine range2_i ?_ | refine rcomp_i ?_ | refine rcompN_i ?_ | refine par_i ?_ | refine addA_i ?_ | refine gcons_i ?_ | refine gnil_i ?_ | refine dict_i ?_ | refine dget_i ?_ | refine din_i ?_ | refine dnotin_i ?_ | refine dput_i ?_ | refine setItem_i ?_ | refine oNone_i ?_ | refine oSome_i ?_ | refine onO_i ?_ | refine slice_i ?_ | refine sliceN_i ?_ | refine onSl_tup ?_ | refine onSl_old ?_ | refine onSl_lst ?_ | refine max2_i ?_ | refine min2_i ?_ | refine abs_i ?_ | refine eqS_i ?_ | refine neS_i ?_ | refine eqB_i ?_ | refine retN_i ?_ | refine skip_i ?_ | refine isN_i ?_ | refine isNI_i ?_ | refine isNT_i ?_ | refine isNS_i ?_ | refine chain_i ?_ | refine onB3_i ?_ | refine asg2_i ?_) | ((with_reducible apply var_i); exact rfl) | ((with_reducible apply seqE_i); exact rfl) | ((with_reducible apply srcE_i); exact rfl) | ((with_reducible apply list_i); exact rfl) | ((with_reducible apply rev_i); exact rfl) | ((with_reducible apply tuple_i); exact rfl) | ((with_reducible apply len_i); exact rfl) | ((with_reducible apply ix_i); exact rfl; exact rfl) | ((with_reducible apply aug_i); exact rfl) | ((with_reducible apply gtup_i); exact rfl))
      refine iteN_i (fun hb0 => ?_) fun hb0 => ?_
      · repeat (first | (with_reducible first | refine seq_i ?_ | refine asg_i ?_ | refine c_i ?_ | refine op2_i ?_ | refine gname_i ?_ | refine cons_i ?_ | refine nil_i ?_ | refine add_i ?_ | refine sub_i ?_ | refine lt_i ?_ | refine le_i ?_ | refine gt_i ?_ | refine ge_i ?_ | refine eq_i ?_ | refine ne_i ?_ | refine onBl_i ?_ | refine tB_i ?_ | refine sif_i ?_ | refine rif_i ?_ | refine call_i ?_ | refine callK_i ?_ | refine ret_i ?_ | refine tup_i ?_ | refine lst_i ?_ | refine lstN_i ?_ | refine opN_i ?_ | refine f_i ?_ | refine fN_i ?_ | refine op1_i ?_ | refine neg_i ?_ | refine drop_i ?_ | refine mtd_i ?_ | refine tNot_i ?_ | refine tAnd_i ?_ | refine tOr_i ?_ | refine tYes_i ?_ | refine and_i ?_ | refine or_i ?_ | refine not_i ?_ | refine for_i ?_ | refine iseq_i ?_ | refine range1_i ?_ | refine range2_i ?_ | refine rcomp_i ?_ | refine rcompN_i ?_ | refine par_i ?_ | refine addA_i ?_ | refine gcons_i ?_ | refine gnil_i ?_ | refine dict_i ?_ | refine dget_i ?_ | refine din_i ?_ | refine dnotin_i ?_ | refine dput_i ?_ | refine setItem_i ?_ | refine oNone_i ?_ | refine oSome_i ?_ | refine onO_i ?_ | refine slice_i ?_ | refine sliceN_i ?_ | refine onSl_tup ?_ | refine onSl_old ?_ | refine onSl_lst ?_ | refine max2_i ?_ | refine min2_i ?_ | refine abs_i ?_ | refine eqS_i ?_ | refine neS_i ?_ | refine eqB_i ?_ | refine retN_i ?_ | refine skip_i ?_ | refine isN_i ?_ | refine isNI_i ?_ | refine isNT_i ?_ | refine isNS_i ?_ | refine chain_i ?_ | refine onB3_i ?_ | refine asg2_i ?_) | ((with_reducible apply var_i); exact rfl) | ((with_reducible apply seqE_i); exact rfl) | ((with_reducible apply srcE_i); exact rfl) | ((with_reducible apply list_i); exact rfl) | ((with_reducible apply rev_i); exact rfl) | ((with_reducible apply tuple_i); exact rfl) | ((with_reducible apply len_i); exact rfl) | ((with_reducible apply ix_i); exact rfl; exact rfl) | ((with_reducible apply aug_i); exact rfl) | ((with_reducible apply gtup_i); exact rfl))
        refine ⟨v, b, rfl, h2, hv, hb0, ?_⟩
        repeat (first | (with_reducible first | refine seq_i ?_ | refine asg_i ?_ | refine c_i ?_ | refine op2_i ?_ | refine gname_i ?_ | refine cons_i ?_ | refine nil_i ?_ | refine add_i ?_ | refine sub_i ?_ | refine lt_i ?_ | refine le_i ?_ | refine gt_i ?_ | refine ge_i ?_ | refine eq_i ?_ | refine ne_i ?_ | refine onBl_i ?_ | refine tB_i ?_ | refine sif_i ?_ | refine rif_i ?_ | refine call_i ?_ | refine callK_i ?_ | refine ret_i ?_ | refine tup_i ?_ | refine lst_i ?_ | refine lstN_i ?_ | refine opN_i ?_ | refine f_i ?_ | refine fN_i ?_ | refine op1_i ?_ | refine neg_i ?_ | refine drop_i ?_ | refine mtd_i ?_ | refine tNot_i ?_ | refine tAnd_i ?_ | refine tOr_i ?_ | refine tYes_i ?_ | refine and_i ?_ | refine or_i ?_ | refine not_i ?_ | refine for_i ?_ | refine iseq_i ?_ | refine range1_i ?_ | refine range2_i ?_ | refine rcomp_i ?_ | refine rcompN_i ?_ | refine par_i ?_ | refine addA_i ?_ | refine gcons_i ?_ | refine gnil_i ?_ | refine dict_i ?_ | refine dget_i ?_ | refine din_i ?_ | refine dnotin_i ?_ | refine dput_i ?_ | refine setItem_i ?_ | refine oNone_i ?_ | refine oSome_i ?_ | refine onO_i ?_ | refine slice_i ?_ | refine sliceN_i ?_ | refine onSl_tup ?_ | refine onSl_old ?_ | refine onSl_lst ?_ | refine max2_i ?_ | refine min2_i ?_ | refine abs_i ?_ | refine eqS_i ?_ | refine neS_i ?_ | refine eqB_i ?_ | refine retN_i ?_ | refine skip_i ?_ | refine isN_i ?_ | refine isNI_i ?_ | refine isNT_i ?_ | refine isNS_i ?_ | refine chain_i ?_ | refine onB3_i ?_ | refine asg2_i ?_) | ((with_reducible apply var_i); exact rfl) | ((with_reducible apply seqE_i); exact rfl) | ((with_reducible apply srcE_i); exact rfl) | ((with_reducible apply list_i); exact rfl) | ((with_reducible apply rev_i); exact rfl) | ((with_reducible apply tuple_i); exact rfl) | ((with_reducible apply len_i); exact rfl) | ((with_reducible apply ix_i); exact rfl; exact rfl) | ((with_reducible apply aug_i); exact rfl) | ((with_reducible apply gtup_i); exact rfl))
        refine iteB_i (fun h => nomatch h) fun _ => ?_
        exact hN _ _ ⟨rfl, rfl⟩
      · refine iteB_i (fun h => nomatch h) fun _ => ?_
        exact hN _ _ ⟨rfl, rfl⟩
    · obtain ⟨rfl, rfl⟩ := hI
      repeat (first | (with_reducible first | refine seq_i ?_ | refine asg_i ?_ | refine c_i ?_ | refine op2_i ?_ | refine gname_i ?_ | refine cons_i ?_ | refine nil_i ?_ | refine add_i ?_ | refine sub_i ?_ | refine lt_i ?_ | refine le_i ?_ | refine gt_i ?_ | refine ge_i ?_ | refine eq_i ?_ | refine ne_i ?_ | refine onBl_i ?_ | refine tB_i ?_ | refine sif_i ?_ | refine rif_i ?_ | refine call_i ?_ | refine callK_i ?_ | refine ret_i ?_ | refine tup_i ?_ | refine lst_i ?_ | refine lstN_i ?_ | refine opN_i ?_ | refine f_i ?_ | refine fN_i ?_ | refine op1_i ?_ | refine neg_i ?_ | refine drop_i ?_ | refine mtd_i ?_ | refine tNot_i ?_ | refine tAnd_i ?_ | refine tOr_i ?_ | refine tYes_i ?_ | refine and_i ?_ | refine or_i ?_ | refine not_i ?_ | refine for_i ?_ | refine iseq_i ?_ | refine range1_i ?_ | refine range2_i ?_ | refine rcomp_i ?_ | refine rcompN_i ?_ | refine par_i ?_ | refine addA_i ?_ | refine gcons_i ?_ | refine gnil_i ?_ | refine dict_i ?_ | refine dget_i ?_ | refine din_i ?_ | refine dnotin_i ?_ | refine dput_i ?_ | refine setItem_i ?_ | refine oNone_i ?_ | refine oSome_i ?_ | refine onO_i ?_ | refine slice_i ?_ | refine sliceN_i ?_ | refine onSl_tup ?_ | refine onSl_old ?_ | refine onSl_lst ?_ | refine max2_i ?_ | refine min2_i ?_ | refine abs_i ?_ | refine eqS_i ?_ | refine neS_i ?_ | refine eqB_i ?_ | refine retN_i ?_ | refine skip_i ?_ | refine isN_i ?_ | refine isNI_i ?_ | refine isNT_i ?_ | refine isNS_i ?_ | refine chain_i ?_ | refine onB3_i ?_ | refine asg2_i ?_) | ((with_reducible apply var_i); exact rfl) | ((with_reducible apply seqE_i); exact rfl) | ((with_reducible apply srcE_i); exact rfl) | ((with_reducible apply list_i); exact rfl) | ((with_reducible apply rev_i); exact rfl) | ((with_reducible apply tuple_i); exact rfl) | ((with_reducible apply len_i); exact rfl) | ((with_reducible apply ix_i); exact rfl; exact rfl) | ((with_reducible apply aug_i); exact rfl) | ((with_reducible apply gtup_i); exact rfl))
      refine ⟨.list [], .list [], rfl, rfl, by decide, by decide, ?_⟩
      exact outK_same hK
  · refine ite_i (fun h => absurd h e) fun _ => ?_
    repeat (first | (with_reducible first | refine seq_i ?_ | refine asg_i ?_ | refine c_i ?_ | refine op2_i ?_ | refine gname_i ?_ | refine cons_i ?_ | refine nil_i ?_ | refine add_i ?_ | refine sub_i ?_ | refine lt_i ?_ | refine le_i ?_ | refine gt_i ?_ | refine ge_i ?_ | refine eq_i ?_ | refine ne_i ?_ | refine onBl_i ?_ | refine tB_i ?_ | refine sif_i ?_ | refine rif_i ?_ | refine call_i ?_ | refine callK_i ?_ | refine ret_i ?_ | refine tup_i ?_ | refine lst_i ?_ | refine lstN_i ?_ | refine opN_i ?_ | refine f_i ?_ | refine fN_i ?_ | refine op1_i ?_ | refine neg_i ?_ | refine drop_i ?_ | refine mtd_i ?_ | refine tNot_i ?_ | refine tAnd_i ?_ | refine tOr_i ?_ | refine tYes_i ?_ | refine and_i ?_ | refine or_i ?_ | refine not_i ?_ | refine for_i ?_ | refine iseq_i ?_ | refine range1_i ?_ | refine range2_i ?_ | refine rcomp_i ?_ | refine rcompN_i ?_ | refine par_i ?_ | refine addA_i ?_ | refine gcons_i ?_ | refine gnil_i ?_ | refine dict_i ?_ | refine dget_i ?_ | refine din_i ?_ | refine dnotin_i ?_ | refine dput_i ?_ | refine setItem_i ?_ | refine oNone_i ?_ | refine oSome_i ?_ | refine onO_i ?_ | refine slice_i ?_ | refine sliceN_i ?_ | refine onSl_tup ?_ | refine onSl_old ?_ | refine onSl_lst ?_ | refine max2_i ?_ | refine min2_i ?_ | refine abs_i ?_ | refine eqS_i ?_ | refine neS_i ?_ | refine eqB_i ?_ | refine retN_i ?_ | refine skip_i ?_ | refine isN_i ?_ | refine isNI_i ?_ | refine isNT_i ?_ | refine isNS_i ?_ | refine chain_i ?_ | refine onB3_i ?_ | refine asg2_i ?_) | ((with_reducible apply var_i); exact rfl) | ((with_reducible apply seqE_i); exact rfl) | ((with_reducible apply srcE_i); exact rfl) | ((with_reducible apply list_i); exact rfl) | ((with_reducible apply rev_i); exact rfl) | ((with_reducible apply tuple_i); exact rfl) | ((with_reducible apply len_i); exact rfl) | ((with_reducible apply ix_i); exact rfl; exact rfl) | ((with_reducible apply aug_i); exact rfl) | ((with_reducible apply gtup_i); exact rfl))
    refine ⟨n, rfl, ?_⟩
    repeat (first | (with_reducible first | refine seq_i ?_ | refine asg_i ?_ | refine c_i ?_ | refine op2_i ?_ | refine gname_i ?_ | refine cons_i ?_ | refine nil_i ?_ | refine add_i ?_ | refine sub_i ?_ | refine lt_i ?_ | refine le_i ?_ | refine gt_i ?_ | refine ge_i ?_ | refine eq_i ?_ | refine ne_i ?_ | refine onBl_i ?_ | refine tB_i ?_ | refine sif_i ?_ | refine rif_i ?_ | refine call_i ?_ | refine callK_i ?_ | refine ret_i ?_ | refine tup_i ?_ | refine lst_i ?_ | refine lstN_i ?_ | refine opN_i ?_ | refine f_i ?_ | refine fN_i ?_ | refine op1_i ?_ | refine neg_i ?_ | refine drop_i ?_ | refine mtd_i ?_ | refine tNot_i ?_ | refine tAnd_i ?_ | refine tOr_i ?_ | refine tYes_i ?_ | refine and_i ?_ | refine or_i ?_ | refine not_i ?_ | refine for_i ?_ | refine iseq_i ?_ | refine range1_i ?_ | refine range2_i ?_ | refine rcomp_i ?_ | refine rcompN_i ?_ | refine par_i ?_ | refine addA_i ?_ | refine gcons_i ?_ | refine gnil_i ?_ | refine dict_i ?_ | refine dget_i ?_ | refine din_i ?_ | refine dnotin_i ?_ | refine dput_i ?_ | refine setItem_i ?_ | refine oNone_i ?_ | refine oSome_i ?_ | refine onO_i ?_ | refine slice_i ?_ | refine sliceN_i ?_ | refine onSl_tup ?_ | refine onSl_old ?_ | refine onSl_lst ?_ | refine max2_i ?_ | refine min2_i ?_ | refine abs_i ?_ | refine eqS_i ?_ | refine neS_i ?_ | refine eqB_i ?_ | refine retN_i ?_ | refine skip_i ?_ | refine isN_i ?_ | refine isNI_i ?_ | refine isNT_i ?_ | refine isNS_i ?_ | refine chain_i ?_ | refine onB3_i ?_ | refine asg2_i ?_) | ((with_reducible apply var_i); exact rfl) | ((with_reducible apply seqE_i); exact rfl) | ((with_reducible apply srcE_i); exact rfl) | ((with_reducible apply list_i); exact rfl) | ((with_reducible apply rev_i); exact rfl) | ((with_reducible apply tuple_i); exact rfl) | ((with_reducible apply len_i); exact rfl) | ((with_reducible apply ix_i); exact rfl; exact rfl) | ((with_reducible apply aug_i); exact rfl) | ((with_reducible apply gtup_i); exact rfl))
    refine ⟨_, rfl, .inl ⟨n, rfl, h1, h2, fun w hw => ?_⟩⟩
    obtain rfl := hv.one hw
    rw [if_neg e]
    repeat (first | (with_reducible first | refine seq_i ?_ | refine asg_i ?_ | refine c_i ?_ | refine op2_i ?_ | refine gname_i ?_ | refine cons_i ?_ | refine nil_i ?_ | refine add_i ?_ | refine sub_i ?_ | refine lt_i ?_ | refine le_i ?_ | refine gt_i ?_ | refine ge_i ?_ | refine eq_i ?_ | refine ne_i ?_ | refine onBl_i ?_ | refine tB_i ?_ | refine sif_i ?_ | refine rif_i ?_ | refine call_i ?_ | refine callK_i ?_ | refine ret_i ?_ | refine tup_i ?_ | refine lst_i ?_ | refine lstN_i ?_ | refine opN_i ?_ | refine f_i ?_ | refine fN_i ?_ | refine op1_i ?_ | refine neg_i ?_ | refine drop_i ?_ | refine mtd_i ?_ | refine tNot_i ?_ | refine tAnd_i ?_ | refine tOr_i ?_ | refine tYes_i ?_ | refine and_i ?_ | refine or_i ?_ | refine not_i ?_ | refine for_i ?_ | refine iseq_i ?_ | refine range1_i ?_ | refine range2_i ?_ | refine rcomp_i ?_ | refine rcompN_i ?_ | refine par_i ?_ | refine addA_i ?_ | refine gcons_i ?_ | refine gnil_i ?_ | refine dict_i ?_ | refine dget_i ?_ | refine din_i ?_ | refine dnotin_i ?_ | refine dput_i ?_ | refine setItem_i ?_ | refine oNone_i ?_ | refine oSome_i ?_ | refine onO_i ?_ | refine slice_i ?_ | refine sliceN_i ?_ | refine onSl_tup ?_ | refine onSl_old ?_ | refine onSl_lst ?_ | refine max2_i ?_ | refine min2_i ?_ | refine abs_i ?_ | refine eqS_i ?_ | refine neS_i ?_ | refine eqB_i ?_ | refine retN_i ?_ | refine skip_i ?_ | refine isN_i ?_ | refine isNI_i ?_ | refine isNT_i ?_ | refine isNS_i ?_ | refine chain_i ?_ | refine onB3_i ?_ | refine asg2_i ?_) | ((with_reducible apply var_i); exact rfl) | ((with_reducible apply seqE_i); exact rfl) | ((with_reducible apply srcE_i); exact rfl) | ((with_reducible apply list_i); exact rfl) | ((with_reducible apply rev_i); exact rfl) | ((with_reducible apply tuple_i); exact rfl) | ((with_reducible apply len_i); exact rfl) | ((with_reducible apply ix_i); exact rfl; exact rfl) | ((with_reducible apply aug_i); exact rfl) | ((with_reducible apply gtup_i); exact rfl))
    refine ⟨_, rfl, .inl ⟨n, rfl, h1, h2, fun w hw => ?_⟩⟩
    obtain rfl := hv.one hw
    rw [if_neg e]
    repeat (first | (with_reducible first | refine seq_i ?_ | refine asg_i ?_ | refine c_i ?_ | refine op2_i ?_ | refine gname_i ?_ | refine cons_i ?_ | refine nil_i ?_ | refine add_i ?_ | refine sub_i ?_ | refine lt_i ?_ | refine le_i ?_ | refine gt_i ?_ | refine ge_i ?_ | refine eq_i ?_ | refine ne_i ?_ | refine onBl_i ?_ | refine tB_i ?_ | refine sif_i ?_ | refine rif_i ?_ | refine call_i ?_ | refine callK_i ?_ | refine ret_i ?_ | refine tup_i ?_ | refine lst_i ?_ | refine lstN_i ?_ | refine opN_i ?_ | refine f_i ?_ | refine fN_i ?_ | refine op1_i ?_ | refine neg_i ?_ | refine drop_i ?_ | refine mtd_i ?_ | refine tNot_i ?_ | refine tAnd_i ?_ | refine tOr_i ?_ | refine tYes_i ?_ | refine and_i ?_ | refine or_i ?_ | refine not_i ?_ | refine for_i ?_ | refine iseq_i ?_ | refine range1_i ?_ | refine range2_i ?_ | refine rcomp_i ?_ | refine rcompN_i ?_ | refine par_i ?_ | refine addA_i ?_ | refine gcons_i ?_ | refine gnil_i ?_ | refine dict_i ?_ | refine dget_i ?_ | refine din_i ?_ | refine dnotin_i ?_ | refine dput_i ?_ | refine setItem_i ?_ | refine oNone_i ?_ | refine oSome_i ?_ | refine onO_i ?_ | refine slice_i ?_ | refine sliceN_i ?_ | refine onSl_tup ?_ | refine onSl_old ?_ | refine onSl_lst ?_ | refine max2_i ?_ | refine min2_i ?_ | refine abs_i ?_ | refine eqS_i ?_ | refine neS_i ?_ | refine eqB_i ?_ | refine retN_i ?_ | refine skip_i ?_ | refine isN_i ?_ | refine isNI_i ?_ | refine isNT_i ?_ | refine isNS_i ?_ | refine chain_i ?_ | refine onB3_i ?_ | refine asg2_i ?_) | ((with_reducible apply var_i); exact rfl) | ((with_reducible apply seqE_i); exact rfl) | ((with_reducible apply srcE_i); exact rfl) | ((with_reducible apply list_i); exact rfl) | ((with_reducible apply rev_i); exact rfl) | ((with_reducible apply tuple_i); exact rfl) | ((with_reducible apply len_i); exact rfl) | ((with_reducible apply ix_i); exact rfl; exact rfl) | ((with_reducible apply aug_i); exact rfl) | ((with_reducible apply gtup_i); exact rfl))
    refine rpI (by omega) (by omega) ?_
    repeat (first | (with_reducible first | refine seq_i ?_ | refine asg_i ?_ | refine c_i ?_ | refine op2_i ?_ | refine gname_i ?_ | refine cons_i ?_ | refine nil_i ?_ | refine add_i ?_ | refine sub_i ?_ | refine lt_i ?_ | refine le_i ?_ | refine gt_i ?_ | refine ge_i ?_ | refine eq_i ?_ | refine ne_i ?_ | refine onBl_i ?_ | refine tB_i ?_ | refine sif_i ?_ | refine rif_i ?_ | refine call_i ?_ | refine callK_i ?_ | refine ret_i ?_ | refine tup_i ?_ | refine lst_i ?_ | refine lstN_i ?_ | refine opN_i ?_ | refine f_i ?_ | refine fN_i ?_ | refine op1_i ?_ | refine neg_i ?_ | refine drop_i ?_ | refine mtd_i ?_ | refine tNot_i ?_ | refine tAnd_i ?_ | refine tOr_i ?_ | refine tYes_i ?_ | refine and_i ?_ | refine or_i ?_ | refine not_i ?_ | refine for_i ?_ | refine iseq_i ?_ | refine range1_i ?_ | refine range2_i ?_ | refine rcomp_i ?_ | refine rcompN_i ?_ | refine par_i ?_ | refine addA_i ?_ | refine gcons_i ?_ | refine gnil_i ?_ | refine dict_i ?_ | refine dget_i ?_ | refine din_i ?_ | refine dnotin_i ?_ | refine dput_i ?_ | refine setItem_i ?_ | refine oNone_i ?_ | refine oSome_i ?_ | refine onO_i ?_ | refine slice_i ?_ | refine sliceN_i ?_ | refine onSl_tup ?_ | refine onSl_old ?_ | refine onSl_lst ?_ | refine max2_i ?_ | refine min2_i ?_ | refine abs_i ?_ | refine eqS_i ?_ | refine neS_i ?_ | refine eqB_i ?_ | refine retN_i ?_ | refine skip_i ?_ | refine isN_i ?_ | refine isNI_i ?_ | refine isNT_i ?_ | refine isNS_i ?_ | refine chain_i ?_ | refine onB3_i ?_ | refine asg2_i ?_) | ((with_reducible apply var_i); exact rfl) | ((with_reducible apply seqE_i); exact rfl) | ((with_reducible apply srcE_i); exact rfl) | ((with_reducible apply list_i); exact rfl) | ((with_reducible apply rev_i); exact rfl) | ((with_reducible apply tuple_i); exact rfl) | ((with_reducible apply len_i); exact rfl) | ((with_reducible apply ix_i); exact rfl; exact rfl) | ((with_reducible apply aug_i); exact rfl) | ((with_reducible apply gtup_i); exact rfl))
    refine rpI (by omega) (by omega) ?_
    repeat (first | (with_reducible first | refine seq_i ?_ | refine asg_i ?_ | refine c_i ?_ | refine op2_i ?_ | refine gname_i ?_ | refine cons_i ?_ | refine nil_i ?_ | refine add_i ?_ | refine sub_i ?_ | refine lt_i ?_ | refine le_i ?_ | refine gt_i ?_ | refine ge_i ?_ | refine eq_i ?_ | refine ne_i ?_ | refine onBl_i ?_ | refine tB_i ?_ | refine sif_i ?_ | refine rif_i ?_ | refine call_i ?_ | refine callK_i ?_ | refine ret_i ?_ | refine tup_i ?_ | refine lst_i ?_ | refine lstN_i ?_ | refine opN_i ?_ | refine f_i ?_ | refine fN_i ?_ | refine op1_i ?_ | refine neg_i ?_ | refine drop_i ?_ | refine mtd_i ?_ | refine tNot_i ?_ | refine tAnd_i ?_ | refine tOr_i ?_ | refine tYes_i ?_ | refine and_i ?_ | refine or_i ?_ | refine not_i ?_ | refine for_i ?_ | refine iseq_i ?_ | refine range1_i ?_ | refine range2_i ?_ | refine rcomp_i ?_ | refine rcompN_i ?_ | refine par_i ?_ | refine addA_i ?_ | refine gcons_i ?_ | refine gnil_i ?_ | refine dict_i ?_ | refine dget_i ?_ | refine din_i ?_ | refine dnotin_i ?_ | refine dput_i ?_ | refine setItem_i ?_ | refine oNone_i ?_ | refine oSome_i ?_ | refine onO_i ?_ | refine slice_i ?_ | refine sliceN_i ?_ | refine onSl_tup ?_ | refine onSl_old ?_ | refine onSl_lst ?_ | refine max2_i ?_ | refine min2_i ?_ | refine abs_i ?_ | refine eqS_i ?_ | refine neS_i ?_ | refine eqB_i ?_ | refine retN_i ?_ | refine skip_i ?_ | refine isN_i ?_ | refine isNI_i ?_ | refine isNT_i ?_ | refine isNS_i ?_ | refine chain_i ?_ | refine onB3_i ?_ | refine asg2_i ?_) | ((with_reducible apply var_i); exact rfl) | ((with_reducible apply seqE_i); exact rfl) | ((with_reducible apply srcE_i); exact rfl) | ((with_reducible apply list_i); exact rfl) | ((with_reducible apply rev_i); exact rfl) | ((with_reducible apply tuple_i); exact rfl) | ((with_reducible apply len_i); exact rfl) | ((with_reducible apply ix_i); exact rfl; exact rfl) | ((with_reducible apply aug_i); exact rfl) | ((with_reducible apply gtup_i); exact rfl))
    refine ite_eqS rfl ?_
    repeat (first | (with_reducible first | refine seq_i ?_ | refine asg_i ?_ | refine c_i ?_ | refine op2_i ?_ | refine gname_i ?_ | refine cons_i ?_ | refine nil_i ?_ | refine add_i ?_ | refine sub_i ?_ | refine lt_i ?_ | refine le_i ?_ | refine gt_i ?_ | refine ge_i ?_ | refine eq_i ?_ | refine ne_i ?_ | refine onBl_i ?_ | refine tB_i ?_ | refine sif_i ?_ | refine rif_i ?_ | refine call_i ?_ | refine callK_i ?_ | refine ret_i ?_ | refine tup_i ?_ | refine lst_i ?_ | refine lstN_i ?_ | refine opN_i ?_ | refine f_i ?_ | refine fN_i ?_ | refine op1_i ?_ | refine neg_i ?_ | refine drop_i ?_ | refine mtd_i ?_ | refine tNot_i ?_ | refine tAnd_i ?_ | refine tOr_i ?_ | refine tYes_i ?_ | refine and_i ?_ | refine or_i ?_ | refine not_i ?_ | refine for_i ?_ | refine iseq_i ?_ | refine range1_i ?_ | refine range2_i ?_ | refine rcomp_i ?_ | refine rcompN_i ?_ | refine par_i ?_ | refine addA_i ?_ | refine gcons_i ?_ | refine gnil_i ?_ | refine dict_i ?_ | refine dget_i ?_ | refine din_i ?_ | refine dnotin_i ?_ | refine dput_i ?_ | refine setItem_i ?_ | refine oNone_i ?_ | refine oSome_i ?_ | refine onO_i ?_ | refine slice_i ?_ | refine sliceN_i ?_ | refine onSl_tup ?_ | refine onSl_old ?_ | refine onSl_lst ?_ | refine max2_i ?_ | refine min2_i ?_ | refine abs_i ?_ | refine eqS_i ?_ | refine neS_i ?_ | refine eqB_i ?_ | refine retN_i ?_ | refine skip_i ?_ | refine isN_i ?_ | refine isNI_i ?_ | refine isNT_i ?_ | refine isNS_i ?_ | refine chain_i ?_ | refine onB3_i ?_ | refine asg2_i ?_) | ((with_reducible apply var_i); exact rfl) | ((with_reducible apply seqE_i); exact rfl) | ((with_reducible apply srcE_i); exact rfl) | ((with_reducible apply list_i); exact rfl) | ((with_reducible apply rev_i); exact rfl) | ((with_reducible apply tuple_i); exact rfl) | ((with_reducible apply len_i); exact rfl) | ((with_reducible apply ix_i); exact rfl; exact rfl) | ((with_reducible apply aug_i); exact rfl) | ((with_reducible apply gtup_i); exact rfl))
    refine iteB_i (fun h => nomatch h) fun _ => ?_
    repeat (first | (with_reducible first | refine seq_i ?_ | refine asg_i ?_ | refine c_i ?_ | refine op2_i ?_ | refine gname_i ?_ | refine cons_i ?_ | refine nil_i ?_ | refine add_i ?_ | refine sub_i ?_ | refine lt_i ?_ | refine le_i ?_ | refine gt_i ?_ | refine ge_i ?_ | refine eq_i ?_ | refine ne_i ?_ | refine onBl_i ?_ | refine tB_i ?_ | refine sif_i ?_ | refine rif_i ?_ | refine call_i ?_ | refine callK_i ?_ | refine ret_i ?_ | refine tup_i ?_ | refine lst_i ?_ | refine lstN_i ?_ | refine opN_i ?_ | refine f_i ?_ | refine fN_i ?_ | refine op1_i ?_ | refine neg_i ?_ | refine drop_i ?_ | refine mtd_i ?_ | refine tNot_i ?_ | refine tAnd_i ?_ | refine tOr_i ?_ | refine tYes_i ?_ | refine and_i ?_ | refine or_i ?_ | refine not_i ?_ | refine for_i ?_ | refine iseq_i ?_ | refine range1_i ?_ | refine range2_i ?_ | refine rcomp_i ?_ | refine rcompN_i ?_ | refine par_i ?_ | refine addA_i ?_ | refine gcons_i ?_ | refine gnil_i ?_ | refine dict_i ?_ | refine dget_i ?_ | refine din_i ?_ | refine dnotin_i ?_ | refine dput_i ?_ | refine setItem_i ?_ | refine oNone_i ?_ | refine oSome_i ?_ | refine onO_i ?_ | refine slice_i ?_ | refine sliceN_i ?_ | refine onSl_tup ?_ | refine onSl_old ?_ | refine onSl_lst ?_ | refine max2_i ?_ | refine min2_i ?_ | refine abs_i ?_ | refine eqS_i ?_ | refine neS_i ?_ | refine eqB_i ?_ | refine retN_i ?_ | refine skip_i ?_ | refine isN_i ?_ | refine isNI_i ?_ | refine isNT_i ?_ | refine isNS_i ?_ | refine chain_i ?_ | refine onB3_i ?_ | refine asg2_i ?_) | ((with_reducible apply var_i); exact rfl) | ((with_reducible apply seqE_i); exact rfl) | ((with_reducible apply srcE_i); exact rfl) | ((with_reducible apply list_i); exact rfl) | ((with_reducible apply rev_i); exact rfl) | ((with_reducible apply tuple_i); exact rfl) | ((with_reducible apply len_i); exact rfl) | ((with_reducible apply ix_i); exact rfl; exact rfl) | ((with_reducible apply aug_i); exact rfl) | ((with_reducible apply gtup_i); exact rfl))
    refine div_i (divw (by omega) (by omega)) ?_
    repeat (first | (with_reducible first | refine seq_i ?_ | refine asg_i ?_ | refine c_i ?_ | refine op2_i ?_ | refine gname_i ?_ | refine cons_i ?_ | refine nil_i ?_ | refine add_i ?_ | refine sub_i ?_ | refine lt_i ?_ | refine le_i ?_ | refine gt_i ?_ | refine ge_i ?_ | refine eq_i ?_ | refine ne_i ?_ | refine onBl_i ?_ | refine tB_i ?_ | refine sif_i ?_ | refine rif_i ?_ | refine call_i ?_ | refine callK_i ?_ | refine ret_i ?_ | refine tup_i ?_ | refine lst_i ?_ | refine lstN_i ?_ | refine opN_i ?_ | refine f_i ?_ | refine fN_i ?_ | refine op1_i ?_ | refine neg_i ?_ | refine drop_i ?_ | refine mtd_i ?_ | refine tNot_i ?_ | refine tAnd_i ?_ | refine tOr_i ?_ | refine tYes_i ?_ | refine and_i ?_ | refine or_i ?_ | refine not_i ?_ | refine for_i ?_ | refine iseq_i ?_ | refine range1_i ?_ | refine range2_i ?_ | refine rcomp_i ?_ | refine rcompN_i ?_ | refine par_i ?_ | refine addA_i ?_ | refine gcons_i ?_ | refine gnil_i ?_ | refine dict_i ?_ | refine dget_i ?_ | refine din_i ?_ | refine dnotin_i ?_ | refine dput_i ?_ | refine setItem_i ?_ | refine oNone_i ?_ | refine oSome_i ?_ | refine onO_i ?_ | refine slice_i ?_ | refine sliceN_i ?_ | refine onSl_tup ?_ | refine onSl_old ?_ | refine onSl_lst ?_ | refine max2_i ?_ | refine min2_i ?_ | refine abs_i ?_ | refine eqS_i ?_ | refine neS_i ?_ | refine eqB_i ?_ | refine retN_i ?_ | refine skip_i ?_ | refine isN_i ?_ | refine isNI_i ?_ | refine isNT_i ?_ | refine isNS_i ?_ | refine chain_i ?_ | refine onB3_i ?_ | refine asg2_i ?_) | ((with_reducible apply var_i); exact rfl) | ((with_reducible apply seqE_i); exact rfl) | ((with_reducible apply srcE_i); exact rfl) | ((with_reducible apply list_i); exact rfl) | ((with_reducible apply rev_i); exact rfl) | ((with_reducible apply tuple_i); exact rfl) | ((with_reducible apply len_i); exact rfl) | ((with_reducible apply ix_i); exact rfl; exact rfl) | ((with_reducible apply aug_i); exact rfl) | ((with_reducible apply gtup_i); exact rfl))
    refine ⟨n, v, n.fdiv v, rfl, by omega, by omega, by omega, ?_⟩
    have hdv : v ∣ n := by
      have := hv.dv
      rw [fm (by omega)] at this
      exact Int.dvd_of_emod_eq_zero this
    have e1 : v * n.fdiv v = n := by
      rw [Int.fdiv_eq_ediv_of_nonneg _ (show 0 ≤ v by omega)]
      exact Int.mul_ediv_cancel' hdv
    have e2 : (v * n.fdiv v).fmod n = 0 := by
      rw [e1, fm (by omega)]; exact Int.emod_self
    rw [e2]
    repeat (first | (with_reducible first | refine seq_i ?_ | refine asg_i ?_ | refine c_i ?_ | refine op2_i ?_ | refine gname_i ?_ | refine cons_i ?_ | refine nil_i ?_ | refine add_i ?_ | refine sub_i ?_ | refine lt_i ?_ | refine le_i ?_ | refine gt_i ?_ | refine ge_i ?_ | refine eq_i ?_ | refine ne_i ?_ | refine onBl_i ?_ | refine tB_i ?_ | refine sif_i ?_ | refine rif_i ?_ | refine call_i ?_ | refine callK_i ?_ | refine ret_i ?_ | refine tup_i ?_ | refine lst_i ?_ | refine lstN_i ?_ | refine opN_i ?_ | refine f_i ?_ | refine fN_i ?_ | refine op1_i ?_ | refine neg_i ?_ | refine drop_i ?_ | refine mtd_i ?_ | refine tNot_i ?_ | refine tAnd_i ?_ | refine tOr_i ?_ | refine tYes_i ?_ | refine and_i ?_ | refine or_i ?_ | refine not_i ?_ | refine for_i ?_ | refine iseq_i ?_ | refine range1_i ?_ | refine range2_i ?_ | refine rcomp_i ?_ | refine rcompN_i ?_ | refine par_i ?_ | refine addA_i ?_ | refine gcons_i ?_ | refine gnil_i ?_ | refine dict_i ?_ | refine dget_i ?_ | refine din_i ?_ | refine dnotin_i ?_ | refine dput_i ?_ | refine setItem_i ?_ | refine oNone_i ?_ | refine oSome_i ?_ | refine onO_i ?_ | refine slice_i ?_ | refine sliceN_i ?_ | refine onSl_tup ?_ | refine onSl_old ?_ | refine onSl_lst ?_ | refine max2_i ?_ | refine min2_i ?_ | refine abs_i ?_ | refine eqS_i ?_ | refine neS_i ?_ | refine eqB_i ?_ | refine retN_i ?_ | refine skip_i ?_ | refine isN_i ?_ | refine isNI_i ?_ | refine isNT_i ?_ | refine isNS_i ?_ | refine chain_i ?_ | refine onB3_i ?_ | refine asg2_i ?_) | ((with_reducible apply var_i); exact rfl) | ((with_reducible apply seqE_i); exact rfl) | ((with_reducible apply srcE_i); exact rfl) | ((with_reducible apply list_i); exact rfl) | ((with_reducible apply rev_i); exact rfl) | ((with_reducible apply tuple_i); exact rfl) | ((with_reducible apply len_i); exact rfl) | ((with_reducible apply ix_i); exact rfl; exact rfl) | ((with_reducible apply aug_i); exact rfl) | ((with_reducible apply gtup_i); exact rfl))
    refine ite_i (fun _ => ?_) fun h => absurd rfl h
    repeat (first | (with_reducible first | refine seq_i ?_ | refine asg_i ?_ | refine c_i ?_ | refine op2_i ?_ | refine gname_i ?_ | refine cons_i ?_ | refine nil_i ?_ | refine add_i ?_ | refine sub_i ?_ | refine lt_i ?_ | refine le_i ?_ | refine gt_i ?_ | refine ge_i ?_ | refine eq_i ?_ | refine ne_i ?_ | refine onBl_i ?_ | refine tB_i ?_ | refine sif_i ?_ | refine rif_i ?_ | refine call_i ?_ | refine callK_i ?_ | refine ret_i ?_ | refine tup_i ?_ | refine lst_i ?_ | refine lstN_i ?_ | refine opN_i ?_ | refine f_i ?_ | refine fN_i ?_ | refine op1_i ?_ | refine neg_i ?_ | refine drop_i ?_ | refine mtd_i ?_ | refine tNot_i ?_ | refine tAnd_i ?_ | refine tOr_i ?_ | refine tYes_i ?_ | refine and_i ?_ | refine or_i ?_ | refine not_i ?_ | refine for_i ?_ | refine iseq_i ?_ | refine range1_i ?_ | refine range2_i ?_ | refine rcomp_i ?_ | refine rcompN_i ?_ | refine par_i ?_ | refine addA_i ?_ | refine gcons_i ?_ | refine gnil_i ?_ | refine dict_i ?_ | refine dget_i ?_ | refine din_i ?_ | refine dnotin_i ?_ | refine dput_i ?_ | refine setItem_i ?_ | refine oNone_i ?_ | refine oSome_i ?_ | refine onO_i ?_ | refine slice_i ?_ | refine sliceN_i ?_ | refine onSl_tup ?_ | refine onSl_old ?_ | refine onSl_lst ?_ | refine max2_i ?_ | refine min2_i ?_ | refine abs_i ?_ | refine eqS_i ?_ | refine neS_i ?_ | refine eqB_i ?_ | refine retN_i ?_ | refine skip_i ?_ | refine isN_i ?_ | refine isNI_i ?_ | refine isNT_i ?_ | refine isNS_i ?_ | refine chain_i ?_ | refine onB3_i ?_ | refine asg2_i ?_) | ((with_reducible apply var_i); exact rfl) | ((with_reducible apply seqE_i); exact rfl) | ((with_reducible apply srcE_i); exact rfl) | ((with_reducible apply list_i); exact rfl) | ((with_reducible apply rev_i); exact rfl) | ((with_reducible apply tuple_i); exact rfl) | ((with_reducible apply len_i); exact rfl) | ((with_reducible apply ix_i); exact rfl; exact rfl) | ((with_reducible apply aug_i); exact rfl) | ((with_reducible apply gtup_i); exact rfl))
    refine ite_i (fun _ => ?_) fun h => absurd (show (0 : Int) < v by omega) h
    repeat (first | (with_reducible first | refine seq_i ?_ | refine asg_i ?_ | refine c_i ?_ | refine op2_i ?_ | refine gname_i ?_ | refine cons_i ?_ | refine nil_i ?_ | refine add_i ?_ | refine sub_i ?_ | refine lt_i ?_ | refine le_i ?_ | refine gt_i ?_ | refine ge_i ?_ | refine eq_i ?_ | refine ne_i ?_ | refine onBl_i ?_ | refine tB_i ?_ | refine sif_i ?_ | refine rif_i ?_ | refine call_i ?_ | refine callK_i ?_ | refine ret_i ?_ | refine tup_i ?_ | refine lst_i ?_ | refine lstN_i ?_ | refine opN_i ?_ | refine f_i ?_ | refine fN_i ?_ | refine op1_i ?_ | refine neg_i ?_ | refine drop_i ?_ | refine mtd_i ?_ | refine tNot_i ?_ | refine tAnd_i ?_ | refine tOr_i ?_ | refine tYes_i ?_ | refine and_i ?_ | refine or_i ?_ | refine not_i ?_ | refine for_i ?_ | refine iseq_i ?_ | refine range1_i ?_ | refine range2_i ?_ | refine rcomp_i ?_ | refine rcompN_i ?_ | refine par_i ?_ | refine addA_i ?_ | refine gcons_i ?_ | refine gnil_i ?_ | refine dict_i ?_ | refine dget_i ?_ | refine din_i ?_ | refine dnotin_i ?_ | refine dput_i ?_ | refine setItem_i ?_ | refine oNone_i ?_ | refine oSome_i ?_ | refine onO_i ?_ | refine slice_i ?_ | refine sliceN_i ?_ | refine onSl_tup ?_ | refine onSl_old ?_ | refine onSl_lst ?_ | refine max2_i ?_ | refine min2_i ?_ | refine abs_i ?_ | refine eqS_i ?_ | refine neS_i ?_ | refine eqB_i ?_ | refine retN_i ?_ | refine skip_i ?_ | refine isN_i ?_ | refine isNI_i ?_ | refine isNT_i ?_ | refine isNS_i ?_ | refine chain_i ?_ | refine onB3_i ?_ | refine asg2_i ?_) | ((with_reducible apply var_i); exact rfl) | ((with_reducible apply seqE_i); exact rfl) | ((with_reducible apply srcE_i); exact rfl) | ((with_reducible apply list_i); exact rfl) | ((with_reducible apply rev_i); exact rfl) | ((with_reducible apply tuple_i); exact rfl) | ((with_reducible apply len_i); exact rfl) | ((with_reducible apply ix_i); exact rfl; exact rfl) | ((with_reducible apply aug_i); exact rfl) | ((with_reducible apply gtup_i); exact rfl))
    refine ite_i (fun _ => ?_) fun h => absurd (show v < n by omega) h
    repeat (first | (with_reducible first | refine seq_i ?_ | refine asg_i ?_ | refine c_i ?_ | refine op2_i ?_ | refine gname_i ?_ | refine cons_i ?_ | refine nil_i ?_ | refine add_i ?_ | refine sub_i ?_ | refine lt_i ?_ | refine le_i ?_ | refine gt_i ?_ | refine ge_i ?_ | refine eq_i ?_ | refine ne_i ?_ | refine onBl_i ?_ | refine tB_i ?_ | refine sif_i ?_ | refine rif_i ?_ | refine call_i ?_ | refine callK_i ?_ | refine ret_i ?_ | refine tup_i ?_ | refine lst_i ?_ | refine lstN_i ?_ | refine opN_i ?_ | refine f_i ?_ | refine fN_i ?_ | refine op1_i ?_ | refine neg_i ?_ | refine drop_i ?_ | refine mtd_i ?_ | refine tNot_i ?_ | refine tAnd_i ?_ | refine tOr_i ?_ | refine tYes_i ?_ | refine and_i ?_ | refine or_i ?_ | refine not_i ?_ | refine for_i ?_ | refine iseq_i ?_ | refine range1_i ?_ | refine range2_i ?_ | refine rcomp_i ?_ | refine rcompN_i ?_ | refine par_i ?_ | refine addA_i ?_ | refine gcons_i ?_ | refine gnil_i ?_ | refine dict_i ?_ | refine dget_i ?_ | refine din_i ?_ | refine dnotin_i ?_ | refine dput_i ?_ | refine setItem_i ?_ | refine oNone_i ?_ | refine oSome_i ?_ | refine onO_i ?_ | refine slice_i ?_ | refine sliceN_i ?_ | refine onSl_tup ?_ | refine onSl_old ?_ | refine onSl_lst ?_ | refine max2_i ?_ | refine min2_i ?_ | refine abs_i ?_ | refine eqS_i ?_ | refine neS_i ?_ | refine eqB_i ?_ | refine retN_i ?_ | refine skip_i ?_ | refine isN_i ?_ | refine isNI_i ?_ | refine isNT_i ?_ | refine isNS_i ?_ | refine chain_i ?_ | refine onB3_i ?_ | refine asg2_i ?_) | ((with_reducible apply var_i); exact rfl) | ((with_reducible apply seqE_i); exact rfl) | ((with_reducible apply srcE_i); exact rfl) | ((with_reducible apply list_i); exact rfl) | ((with_reducible apply rev_i); exact rfl) | ((with_reducible apply tuple_i); exact rfl) | ((with_reducible apply len_i); exact rfl) | ((with_reducible apply ix_i); exact rfl; exact rfl) | ((with_reducible apply aug_i); exact rfl) | ((with_reducible apply gtup_i); exact rfl))
    refine mod_i (by omega) ?_
    repeat (first | (with_reducible first | refine seq_i ?_ | refine asg_i ?_ | refine c_i ?_ | refine op2_i ?_ | refine gname_i ?_ | refine cons_i ?_ | refine nil_i ?_ | refine add_i ?_ | refine sub_i ?_ | refine lt_i ?_ | refine le_i ?_ | refine gt_i ?_ | refine ge_i ?_ | refine eq_i ?_ | refine ne_i ?_ | refine onBl_i ?_ | refine tB_i ?_ | refine sif_i ?_ | refine rif_i ?_ | refine call_i ?_ | refine callK_i ?_ | refine ret_i ?_ | refine tup_i ?_ | refine lst_i ?_ | refine lstN_i ?_ | refine opN_i ?_ | refine f_i ?_ | refine fN_i ?_ | refine op1_i ?_ | refine neg_i ?_ | refine drop_i ?_ | refine mtd_i ?_ | refine tNot_i ?_ | refine tAnd_i ?_ | refine tOr_i ?_ | refine tYes_i ?_ | refine and_i ?_ | refine or_i ?_ | refine not_i ?_ | refine for_i ?_ | refine iseq_i ?_ | refine range1_i ?_ | refine range2_i ?_ | refine rcomp_i ?_ | refine rcompN_i ?_ | refine par_i ?_ | refine addA_i ?_ | refine gcons_i ?_ | refine gnil_i ?_ | refine dict_i ?_ | refine dget_i ?_ | refine din_i ?_ | refine dnotin_i ?_ | refine dput_i ?_ | refine setItem_i ?_ | refine oNone_i ?_ | refine oSome_i ?_ | refine onO_i ?_ | refine slice_i ?_ | refine sliceN_i ?_ | refine onSl_tup ?_ | refine onSl_old ?_ | refine onSl_lst ?_ | refine max2_i ?_ | refine min2_i ?_ | refine abs_i ?_ | refine eqS_i ?_ | refine neS_i ?_ | refine eqB_i ?_ | refine retN_i ?_ | refine skip_i ?_ | refine isN_i ?_ | refine isNI_i ?_ | refine isNT_i ?_ | refine isNS_i ?_ | refine chain_i ?_ | refine onB3_i ?_ | refine asg2_i ?_) | ((with_reducible apply var_i); exact rfl) | ((with_reducible apply seqE_i); exact rfl) | ((with_reducible apply srcE_i); exact rfl) | ((with_reducible apply list_i); exact rfl) | ((with_reducible apply rev_i); exact rfl) | ((with_reducible apply tuple_i); exact rfl) | ((with_reducible apply len_i); exact rfl) | ((with_reducible apply ix_i); exact rfl; exact rfl) | ((with_reducible apply aug_i); exact rfl) | ((with_reducible apply gtup_i); exact rfl))
    refine ite_i (fun _ => ?_) fun h => absurd hv.dv h
    repeat (first | (with_reducible first | refine seq_i ?_ | refine asg_i ?_ | refine c_i ?_ | refine op2_i ?_ | refine gname_i ?_ | refine cons_i ?_ | refine nil_i ?_ | refine add_i ?_ | refine sub_i ?_ | refine lt_i ?_ | refine le_i ?_ | refine gt_i ?_ | refine ge_i ?_ | refine eq_i ?_ | refine ne_i ?_ | refine onBl_i ?_ | refine tB_i ?_ | refine sif_i ?_ | refine rif_i ?_ | refine call_i ?_ | refine callK_i ?_ | refine ret_i ?_ | refine tup_i ?_ | refine lst_i ?_ | refine lstN_i ?_ | refine opN_i ?_ | refine f_i ?_ | refine fN_i ?_ | refine op1_i ?_ | refine neg_i ?_ | refine drop_i ?_ | refine mtd_i ?_ | refine tNot_i ?_ | refine tAnd_i ?_ | refine tOr_i ?_ | refine tYes_i ?_ | refine and_i ?_ | refine or_i ?_ | refine not_i ?_ | refine for_i ?_ | refine iseq_i ?_ | refine range1_i ?_ | refine range2_i ?_ | refine rcomp_i ?_ | refine rcompN_i ?_ | refine par_i ?_ | refine addA_i ?_ | refine gcons_i ?_ | refine gnil_i ?_ | refine dict_i ?_ | refine dget_i ?_ | refine din_i ?_ | refine dnotin_i ?_ | refine dput_i ?_ | refine setItem_i ?_ | refine oNone_i ?_ | refine oSome_i ?_ | refine onO_i ?_ | refine slice_i ?_ | refine sliceN_i ?_ | refine onSl_tup ?_ | refine onSl_old ?_ | refine onSl_lst ?_ | refine max2_i ?_ | refine min2_i ?_ | refine abs_i ?_ | refine eqS_i ?_ | refine neS_i ?_ | refine eqB_i ?_ | refine retN_i ?_ | refine skip_i ?_ | refine isN_i ?_ | refine isNI_i ?_ | refine isNT_i ?_ | refine isNS_i ?_ | refine chain_i ?_ | refine onB3_i ?_ | refine asg2_i ?_) | ((with_reducible apply var_i); exact rfl) | ((with_reducible apply seqE_i); exact rfl) | ((with_reducible apply srcE_i); exact rfl) | ((with_reducible apply list_i); exact rfl) | ((with_reducible apply rev_i); exact rfl) | ((with_reducible apply tuple_i); exact rfl) | ((with_reducible apply len_i); exact rfl) | ((with_reducible apply ix_i); exact rfl; exact rfl) | ((with_reducible apply aug_i); exact rfl) | ((with_reducible apply gtup_i); exact rfl))
    have pv : Least v v := ⟨v2, Int.le_refl _, by rw [fm (by omega)]; exact Int.emod_self, fun d d1 d2 hd => hv.no d d1 d2 (by
      rw [fm (by omega)] at hd ⊢
      exact Int.emod_eq_zero_of_dvd (Int.dvd_trans (Int.dvd_of_emod_eq_zero hd) hdv))⟩
    refine ⟨v, rfl, v2, by omega, fun w hw => ?_⟩
    obtain rfl := pv.one hw
    repeat (first | (with_reducible first | refine seq_i ?_ | refine asg_i ?_ | refine c_i ?_ | refine op2_i ?_ | refine gname_i ?_ | refine cons_i ?_ | refine nil_i ?_ | refine add_i ?_ | refine sub_i ?_ | refine lt_i ?_ | refine le_i ?_ | refine gt_i ?_ | refine ge_i ?_ | refine eq_i ?_ | refine ne_i ?_ | refine onBl_i ?_ | refine tB_i ?_ | refine sif_i ?_ | refine rif_i ?_ | refine call_i ?_ | refine callK_i ?_ | refine ret_i ?_ | refine tup_i ?_ | refine lst_i ?_ | refine lstN_i ?_ | refine opN_i ?_ | refine f_i ?_ | refine fN_i ?_ | refine op1_i ?_ | refine neg_i ?_ | refine drop_i ?_ | refine mtd_i ?_ | refine tNot_i ?_ | refine tAnd_i ?_ | refine tOr_i ?_ | refine tYes_i ?_ | refine and_i ?_ | refine or_i ?_ | refine not_i ?_ | refine for_i ?_ | refine iseq_i ?_ | refine range1_i ?_ | refine range2_i ?_ | refine rcomp_i ?_ | refine rcompN_i ?_ | refine par_i ?_ | refine addA_i ?_ | refine gcons_i ?_ | refine gnil_i ?_ | refine dict_i ?_ | refine dget_i ?_ | refine din_i ?_ | refine dnotin_i ?_ | refine dput_i ?_ | refine setItem_i ?_ | refine oNone_i ?_ | refine oSome_i ?_ | refine onO_i ?_ | refine slice_i ?_ | refine sliceN_i ?_ | refine onSl_tup ?_ | refine onSl_old ?_ | refine onSl_lst ?_ | refine max2_i ?_ | refine min2_i ?_ | refine abs_i ?_ | refine eqS_i ?_ | refine neS_i ?_ | refine eqB_i ?_ | refine retN_i ?_ | refine skip_i ?_ | refine isN_i ?_ | refine isNI_i ?_ | refine isNT_i ?_ | refine isNS_i ?_ | refine chain_i ?_ | refine onB3_i ?_ | refine asg2_i ?_) | ((with_reducible apply var_i); exact rfl) | ((with_reducible apply seqE_i); exact rfl) | ((with_reducible apply srcE_i); exact rfl) | ((with_reducible apply list_i); exact rfl) | ((with_reducible apply rev_i); exact rfl) | ((with_reducible apply tuple_i); exact rfl) | ((with_reducible apply len_i); exact rfl) | ((with_reducible apply ix_i); exact rfl; exact rfl) | ((with_reducible apply aug_i); exact rfl) | ((with_reducible apply gtup_i); exact rfl))
    rw [decide_eq_true rfl]
    exact outK_same hK
def c_m : FnC := fun ds m K _ => ∃ n j : Nat, ds = [.cell n] ∧ Deck m n j ∧ ∀ (v : Int) (m' : Mem), 2 ≤ v → v ≤ 1000000 → Deck m' n j → SameBut m m' n j → K (.int v) m'
theorem mem_small {x : D} {l : List Int} {a b : Int} (hx : x ∈ l.map D.int) (h : ∀ z ∈ l, a ≤ z ∧ z ≤ b) : ∃ z : Int, x = .int z ∧ a ≤ z ∧ z ≤ b := by
  obtain ⟨z, hz, rfl⟩ := List.mem_map.mp hx
  exact ⟨z, rfl, h z hz⟩
theorem runs_m : Runs N__law_m.length (B__law_m c_draw c_pick) c_m := fun ds m K E h => by
  obtain ⟨n, j, rfl, dk, hK⟩ := h
  have lt := dk.lt
  unfold B__law_m
  repeat (first | (with_reducible first | refine seq_i ?_ | refine asg_i ?_ | refine c_i ?_ | refine op2_i ?_ | refine gname_i ?_ | refine cons_i ?_ | refine nil_i ?_ | refine add_i ?_ | refine sub_i ?_ | refine lt_i ?_ | refine le_i ?_ | refine gt_i ?_ | refine ge_i ?_ | refine eq_i ?_ | refine ne_i ?_ | refine onBl_i ?_ | refine tB_i ?_ | refine sif_i ?_ | refine rif_i ?_ | refine call_i ?_ | refine callK_i ?_ | refine ret_i ?_ | refine tup_i ?_ | refine lst_i ?_ | refine lstN_i ?_ | refine opN_i ?_ | refine f_i ?_ | refine fN_i ?_ | refine op1_i ?_ | refine neg_i ?_ | refine drop_i ?_ | refine mtd_i ?_ | refine tNot_i ?_ | refine tAnd_i ?_ | refine tOr_i ?_ | refine tYes_i ?_ | refine and_i ?_ | refine or_i ?_ | refine not_i ?_ | refine for_i ?_ | refine iseq_i ?_ | refine range1_i ?_ | refine range2_i ?_ | refine rcomp_i ?_ | refine rcompN_i ?_ | refine par_i ?_ | refine addA_i ?_ | refine gcons_i ?_ | refine gnil_i ?_ | refine dict_i ?_ | refine dget_i ?_ | refine din_i ?_ | refine dnotin_i ?_ | refine dput_i ?_ | refine setItem_i ?_ | refine oNone_i ?_ | refine oSome_i ?_ | refine onO_i ?_ | refine slice_i ?_ | refine sliceN_i ?_ | refine onSl_tup ?_ | refine onSl_old ?_ | refine onSl_lst ?_ | refine max2_i ?_ | refine min2_i ?_ | refine abs_i ?_ | refine eqS_i ?_ | refine neS_i ?_ | refine eqB_i ?_ | refine retN_i ?_ | refine skip_i ?_ | refine isN_i ?_ | refine isNI_i ?_ | refine isNT_i ?_ | refine isNS_i ?_ | refine chain_i ?_ | refine onB3_i ?_ | refine asg2_i ?_) | ((with_reducible apply var_i); exact rfl) | ((with_reducible apply seqE_i); exact rfl) | ((with_reducible apply srcE_i); exact rfl) | ((with_reducible apply list_i); exact rfl) | ((with_reducible apply rev_i); exact rfl) | ((with_reducible apply tuple_i); exact rfl) | ((with_reducible apply len_i); exact rfl) | ((with_reducible apply ix_i); exact rfl; exact rfl) | ((with_reducible apply aug_i); exact rfl) | ((with_reducible apply gtup_i); exact rfl))
  refine ⟨n, j, 8, rfl, dk, by decide, by decide, fun way m1 w0 w1 dk1 sb1 => ?_⟩
  repeat (first | (with_reducible first | refine seq_i ?_ | refine asg_i ?_ | refine c_i ?_ | refine op2_i ?_ | refine gname_i ?_ | refine cons_i ?_ | refine nil_i ?_ | refine add_i ?_ | refine sub_i ?_ | refine lt_i ?_ | refine le_i ?_ | refine gt_i ?_ | refine ge_i ?_ | refine eq_i ?_ | refine ne_i ?_ | refine onBl_i ?_ | refine tB_i ?_ | refine sif_i ?_ | refine rif_i ?_ | refine call_i ?_ | refine callK_i ?_ | refine ret_i ?_ | refine tup_i ?_ | refine lst_i ?_ | refine lstN_i ?_ | refine opN_i ?_ | refine f_i ?_ | refine fN_i ?_ | refine op1_i ?_ | refine neg_i ?_ | refine drop_i ?_ | refine mtd_i ?_ | refine tNot_i ?_ | refine tAnd_i ?_ | refine tOr_i ?_ | refine tYes_i ?_ | refine and_i ?_ | refine or_i ?_ | refine not_i ?_ | refine for_i ?_ | refine iseq_i ?_ | refine range1_i ?_ | refine range2_i ?_ | refine rcomp_i ?_ | refine rcompN_i ?_ | refine par_i ?_ | refine addA_i ?_ | refine gcons_i ?_ | refine gnil_i ?_ | refine dict_i ?_ | refine dget_i ?_ | refine din_i ?_ | refine dnotin_i ?_ | refine dput_i ?_ | refine setItem_i ?_ | refine oNone_i ?_ | refine oSome_i ?_ | refine onO_i ?_ | refine slice_i ?_ | refine sliceN_i ?_ | refine onSl_tup ?_ | refine onSl_old ?_ | refine onSl_lst ?_ | refine max2_i ?_ | refine min2_i ?_ | refine abs_i ?_ | refine eqS_i ?_ | refine neS_i ?_ | refine eqB_i ?_ | refine retN_i ?_ | refine skip_i ?_ | refine isN_i ?_ | refine isNI_i ?_ | refine isNT_i ?_ | refine isNS_i ?_ | refine chain_i ?_ | refine onB3_i ?_ | refine asg2_i ?_) | ((with_reducible apply var_i); exact rfl) | ((with_reducible apply seqE_i); exact rfl) | ((with_reducible apply srcE_i); exact rfl) | ((with_reducible apply list_i); exact rfl) | ((with_reducible apply rev_i); exact rfl) | ((with_reducible apply tuple_i); exact rfl) | ((with_reducible apply len_i); exact rfl) | ((with_reducible apply ix_i); exact rfl; exact rfl) | ((with_reducible apply aug_i); exact rfl) | ((with_reducible apply gtup_i); exact rfl))
  refine ⟨n, j, _, rfl, dk1, by decide, by decide, fun x m2 hx dk2 sb2 => ?_⟩
  obtain ⟨p, rfl, p0, p1⟩ := mem_small (l := [2, 3, 5, 7, 11, 13, 31, 97, 101, 499, 503, 887, 907, 953, 967, 971, 977, 983, 991, 997]) (a := 2) (b := 997) hx (by decide)
  repeat (first | (with_reducible first | refine seq_i ?_ | refine asg_i ?_ | refine c_i ?_ | refine op2_i ?_ | refine gname_i ?_ | refine cons_i ?_ | refine nil_i ?_ | refine add_i ?_ | refine sub_i ?_ | refine lt_i ?_ | refine le_i ?_ | refine gt_i ?_ | refine ge_i ?_ | refine eq_i ?_ | refine ne_i ?_ | refine onBl_i ?_ | refine tB_i ?_ | refine sif_i ?_ | refine rif_i ?_ | refine call_i ?_ | refine callK_i ?_ | refine ret_i ?_ | refine tup_i ?_ | refine lst_i ?_ | refine lstN_i ?_ | refine opN_i ?_ | refine f_i ?_ | refine fN_i ?_ | refine op1_i ?_ | refine neg_i ?_ | refine drop_i ?_ | refine mtd_i ?_ | refine tNot_i ?_ | refine tAnd_i ?_ | refine tOr_i ?_ | refine tYes_i ?_ | refine and_i ?_ | refine or_i ?_ | refine not_i ?_ | refine for_i ?_ | refine iseq_i ?_ | refine range1_i ?_ | refine range2_i ?_ | refine rcomp_i ?_ | refine rcompN_i ?_ | refine par_i ?_ | refine addA_i ?_ | refine gcons_i ?_ | refine gnil_i ?_ | refine dict_i ?_ | refine dget_i ?_ | refine din_i ?_ | refine dnotin_i ?_ | refine dput_i ?_ | refine setItem_i ?_ | refine oNone_i ?_ | refine oSome_i ?_ | refine onO_i ?_ | refine slice_i ?_ | refine sliceN_i ?_ | refine onSl_tup ?_ | refine onSl_old ?_ | refine onSl_lst ?_ | refine max2_i ?_ | refine min2_i ?_ | refine abs_i ?_ | refine eqS_i ?_ | refine neS_i ?_ | refine eqB_i ?_ | refine retN_i ?_ | refine skip_i ?_ | refine isN_i ?_ | refine isNI_i ?_ | refine isNT_i ?_ | refine isNS_i ?_ | refine chain_i ?_ | refine onB3_i ?_ | refine asg2_i ?_) | ((with_reducible apply var_i); exact rfl) | ((with_reducible apply seqE_i); exact rfl) | ((with_reducible apply srcE_i); exact rfl) | ((with_reducible apply list_i); exact rfl) | ((with_reducible apply rev_i); exact rfl) | ((with_reducible apply tuple_i); exact rfl) | ((with_reducible apply len_i); exact rfl) | ((with_reducible apply ix_i); exact rfl; exact rfl) | ((with_reducible apply aug_i); exact rfl) | ((with_reducible apply gtup_i); exact rfl))
  refine ⟨n, j, _, rfl, dk2, by decide, by decide, fun x m3 hx dk3 sb3 => ?_⟩
  obtain ⟨q, rfl, q0, q1⟩ := mem_small (l := [2, 3, 5, 7, 11, 13, 31, 97, 101, 499, 503, 887, 907, 953, 967, 971, 977, 983, 991, 997]) (a := 2) (b := 997) hx (by decide)
  repeat (first | (with_reducible first | refine seq_i ?_ | refine asg_i ?_ | refine c_i ?_ | refine op2_i ?_ | refine gname_i ?_ | refine cons_i ?_ | refine nil_i ?_ | refine add_i ?_ | refine sub_i ?_ | refine lt_i ?_ | refine le_i ?_ | refine gt_i ?_ | refine ge_i ?_ | refine eq_i ?_ | refine ne_i ?_ | refine onBl_i ?_ | refine tB_i ?_ | refine sif_i ?_ | refine rif_i ?_ | refine call_i ?_ | refine callK_i ?_ | refine ret_i ?_ | refine tup_i ?_ | refine lst_i ?_ | refine lstN_i ?_ | refine opN_i ?_ | refine f_i ?_ | refine fN_i ?_ | refine op1_i ?_ | refine neg_i ?_ | refine drop_i ?_ | refine mtd_i ?_ | refine tNot_i ?_ | refine tAnd_i ?_ | refine tOr_i ?_ | refine tYes_i ?_ | refine and_i ?_ | refine or_i ?_ | refine not_i ?_ | refine for_i ?_ | refine iseq_i ?_ | refine range1_i ?_ | refine range2_i ?_ | refine rcomp_i ?_ | refine rcompN_i ?_ | refine par_i ?_ | refine addA_i ?_ | refine gcons_i ?_ | refine gnil_i ?_ | refine dict_i ?_ | refine dget_i ?_ | refine din_i ?_ | refine dnotin_i ?_ | refine dput_i ?_ | refine setItem_i ?_ | refine oNone_i ?_ | refine oSome_i ?_ | refine onO_i ?_ | refine slice_i ?_ | refine sliceN_i ?_ | refine onSl_tup ?_ | refine onSl_old ?_ | refine onSl_lst ?_ | refine max2_i ?_ | refine min2_i ?_ | refine abs_i ?_ | refine eqS_i ?_ | refine neS_i ?_ | refine eqB_i ?_ | refine retN_i ?_ | refine skip_i ?_ | refine isN_i ?_ | refine isNI_i ?_ | refine isNT_i ?_ | refine isNS_i ?_ | refine chain_i ?_ | refine onB3_i ?_ | refine asg2_i ?_) | ((with_reducible apply var_i); exact rfl) | ((with_reducible apply seqE_i); exact rfl) | ((with_reducible apply srcE_i); exact rfl) | ((with_reducible apply list_i); exact rfl) | ((with_reducible apply rev_i); exact rfl) | ((with_reducible apply tuple_i); exact rfl) | ((with_reducible apply len_i); exact rfl) | ((with_reducible apply ix_i); exact rfl; exact rfl) | ((with_reducible apply aug_i); exact rfl) | ((with_reducible apply gtup_i); exact rfl))
  refine ⟨n, j, _, rfl, dk3, by decide, by decide, fun x m4 hx dk4 sb4 => ?_⟩
  obtain ⟨g, rfl, g0, g1⟩ := mem_small (l := [999983, 999979, 499979, 333323, 10007, 1009, 65537, 7919]) (a := 2) (b := 999983) hx (by decide)
  have sb := ((sb1.trans sb2).trans sb3).trans sb4
  clear sb1 sb2 sb3 sb4 dk1 dk2 dk3
  repeat (first | (with_reducible first | refine seq_i ?_ | refine asg_i ?_ | refine c_i ?_ | refine op2_i ?_ | refine gname_i ?_ | refine cons_i ?_ | refine nil_i ?_ | refine add_i ?_ | refine sub_i ?_ | refine lt_i ?_ | refine le_i ?_ | refine gt_i ?_ | refine ge_i ?_ | refine eq_i ?_ | refine ne_i ?_ | refine onBl_i ?_ | refine tB_i ?_ | refine sif_i ?_ | refine rif_i ?_ | refine call_i ?_ | refine callK_i ?_ | refine ret_i ?_ | refine tup_i ?_ | refine lst_i ?_ | refine lstN_i ?_ | refine opN_i ?_ | refine f_i ?_ | refine fN_i ?_ | refine op1_i ?_ | refine neg_i ?_ | refine drop_i ?_ | refine mtd_i ?_ | refine tNot_i ?_ | refine tAnd_i ?_ | refine tOr_i ?_ | refine tYes_i ?_ | refine and_i ?_ | refine or_i ?_ | refine not_i ?_ | refine for_i ?_ | refine iseq_i ?_ | refine range1_i ?_ | refine range2_i ?_ | refine rcomp_i ?_ | refine rcompN_i ?_ | refine par_i ?_ | refine addA_i ?_ | refine gcons_i ?_ | refine gnil_i ?_ | refine dict_i ?_ | refine dget_i ?_ | refine din_i ?_ | refine dnotin_i ?_ | refine dput_i ?_ | refine setItem_i ?_ | refine oNone_i ?_ | refine oSome_i ?_ | refine onO_i ?_ | refine slice_i ?_ | refine sliceN_i ?_ | refine onSl_tup ?_ | refine onSl_old ?_ | refine onSl_lst ?_ | refine max2_i ?_ | refine min2_i ?_ | refine abs_i ?_ | refine eqS_i ?_ | refine neS_i ?_ | refine eqB_i ?_ | refine retN_i ?_ | refine skip_i ?_ | refine isN_i ?_ | refine isNI_i ?_ | refine isNT_i ?_ | refine isNS_i ?_ | refine chain_i ?_ | refine onB3_i ?_ | refine asg2_i ?_) | ((with_reducible apply var_i); exact rfl) | ((with_reducible apply seqE_i); exact rfl) | ((with_reducible apply srcE_i); exact rfl) | ((with_reducible apply list_i); exact rfl) | ((with_reducible apply rev_i); exact rfl) | ((with_reducible apply tuple_i); exact rfl) | ((with_reducible apply len_i); exact rfl) | ((with_reducible apply ix_i); exact rfl; exact rfl) | ((with_reducible apply aug_i); exact rfl) | ((with_reducible apply gtup_i); exact rfl))
  refine mul_i (mulw (by omega) (by omega)) ?_
  repeat (first | (with_reducible first | refine seq_i ?_ | refine asg_i ?_ | refine c_i ?_ | refine op2_i ?_ | refine gname_i ?_ | refine cons_i ?_ | refine nil_i ?_ | refine add_i ?_ | refine sub_i ?_ | refine lt_i ?_ | refine le_i ?_ | refine gt_i ?_ | refine ge_i ?_ | refine eq_i ?_ | refine ne_i ?_ | refine onBl_i ?_ | refine tB_i ?_ | refine sif_i ?_ | refine rif_i ?_ | refine call_i ?_ | refine callK_i ?_ | refine ret_i ?_ | refine tup_i ?_ | refine lst_i ?_ | refine lstN_i ?_ | refine opN_i ?_ | refine f_i ?_ | refine fN_i ?_ | refine op1_i ?_ | refine neg_i ?_ | refine drop_i ?_ | refine mtd_i ?_ | refine tNot_i ?_ | refine tAnd_i ?_ | refine tOr_i ?_ | refine tYes_i ?_ | refine and_i ?_ | refine or_i ?_ | refine not_i ?_ | refine for_i ?_ | refine iseq_i ?_ | refine range1_i ?_ | refine range2_i ?_ | refine rcomp_i ?_ | refine rcompN_i ?_ | refine par_i ?_ | refine addA_i ?_ | refine gcons_i ?_ | refine gnil_i ?_ | refine dict_i ?_ | refine dget_i ?_ | refine din_i ?_ | refine dnotin_i ?_ | refine dput_i ?_ | refine setItem_i ?_ | refine oNone_i ?_ | refine oSome_i ?_ | refine onO_i ?_ | refine slice_i ?_ | refine sliceN_i ?_ | refine onSl_tup ?_ | refine onSl_old ?_ | refine onSl_lst ?_ | refine max2_i ?_ | refine min2_i ?_ | refine abs_i ?_ | refine eqS_i ?_ | refine neS_i ?_ | refine eqB_i ?_ | refine retN_i ?_ | refine skip_i ?_ | refine isN_i ?_ | refine isNI_i ?_ | refine isNT_i ?_ | refine isNS_i ?_ | refine chain_i ?_ | refine onB3_i ?_ | refine asg2_i ?_) | ((with_reducible apply var_i); exact rfl) | ((with_reducible apply seqE_i); exact rfl) | ((with_reducible apply srcE_i); exact rfl) | ((with_reducible apply list_i); exact rfl) | ((with_reducible apply rev_i); exact rfl) | ((with_reducible apply tuple_i); exact rfl) | ((with_reducible apply len_i); exact rfl) | ((with_reducible apply ix_i); exact rfl; exact rfl) | ((with_reducible apply aug_i); exact rfl) | ((with_reducible apply gtup_i); exact rfl))
  refine mul_i (mulw (by omega) (by omega)) ?_
  repeat (first | (with_reducible first | refine seq_i ?_ | refine asg_i ?_ | refine c_i ?_ | refine op2_i ?_ | refine gname_i ?_ | refine cons_i ?_ | refine nil_i ?_ | refine add_i ?_ | refine sub_i ?_ | refine lt_i ?_ | refine le_i ?_ | refine gt_i ?_ | refine ge_i ?_ | refine eq_i ?_ | refine ne_i ?_ | refine onBl_i ?_ | refine tB_i ?_ | refine sif_i ?_ | refine rif_i ?_ | refine call_i ?_ | refine callK_i ?_ | refine ret_i ?_ | refine tup_i ?_ | refine lst_i ?_ | refine lstN_i ?_ | refine opN_i ?_ | refine f_i ?_ | refine fN_i ?_ | refine op1_i ?_ | refine neg_i ?_ | refine drop_i ?_ | refine mtd_i ?_ | refine tNot_i ?_ | refine tAnd_i ?_ | refine tOr_i ?_ | refine tYes_i ?_ | refine and_i ?_ | refine or_i ?_ | refine not_i ?_ | refine for_i ?_ | refine iseq_i ?_ | refine range1_i ?_ | refine range2_i ?_ | refine rcomp_i ?_ | refine rcompN_i ?_ | refine par_i ?_ | refine addA_i ?_ | refine gcons_i ?_ | refine gnil_i ?_ | refine dict_i ?_ | refine dget_i ?_ | refine din_i ?_ | refine dnotin_i ?_ | refine dput_i ?_ | refine setItem_i ?_ | refine oNone_i ?_ | refine oSome_i ?_ | refine onO_i ?_ | refine slice_i ?_ | refine sliceN_i ?_ | refine onSl_tup ?_ | refine onSl_old ?_ | refine onSl_lst ?_ | refine max2_i ?_ | refine min2_i ?_ | refine abs_i ?_ | refine eqS_i ?_ | refine neS_i ?_ | refine eqB_i ?_ | refine retN_i ?_ | refine skip_i ?_ | refine isN_i ?_ | refine isNI_i ?_ | refine isNT_i ?_ | refine isNS_i ?_ | refine chain_i ?_ | refine onB3_i ?_ | refine asg2_i ?_) | ((with_reducible apply var_i); exact rfl) | ((with_reducible apply seqE_i); exact rfl) | ((with_reducible apply srcE_i); exact rfl) | ((with_reducible apply list_i); exact rfl) | ((with_reducible apply rev_i); exact rfl) | ((with_reducible apply tuple_i); exact rfl) | ((with_reducible apply len_i); exact rfl) | ((with_reducible apply ix_i); exact rfl; exact rfl) | ((with_reducible apply aug_i); exact rfl) | ((with_reducible apply gtup_i); exact rfl))
  have pp : 4 ≤ p * p ∧ p * p ≤ 997 * 997 := ⟨Int.mul_le_mul p0 p0 (by decide) (by omega), Int.mul_le_mul p1 p1 (by omega) (by decide)⟩
  have pq : 4 ≤ p * q ∧ p * q ≤ 997 * 997 := ⟨Int.mul_le_mul p0 q0 (by decide) (by omega), Int.mul_le_mul p1 q1 (by omega) (by decide)⟩
  -- the rest, by the fourth number
  have tail : ∀ g2 : Int, 2 ≤ g2 → g2 ≤ 1000000 → ∀ (e : Lo), e = [some (.cell n), some (.int way), some (.lst ([2, 3, 5, 7, 11, 13, 31, 97, 101, 499, 503, 887, 907, 953, 967, 971, 977, 983, 991, 997].map D.int)), some (.int p), some (.int q), some (.int g), some (.cell m4.length)] →
      (sSeq (sDrop (rMtd tyL oAppend (rVar 6) (raCons (rOp2 oIx (rLst (raCons (rC (.int 2)) (raCons (rC (.int 4)) (raCons (rC (.int 8)) (raCons (rC (.int 64)) (raCons (rC (.int 1024)) (raCons (rC (.int 65536)) (raCons (rC (.int 262144)) (raCons (rC (.int 524288)) raNil))))))))) (rCall c_draw (raCons (rVar 0) (raCons (rC (.int 8)) raNil)))) raNil)))
    (sRet (rOp2 oIx (rF oCat (raCons (rVar 6) (raCons (rLst (raCons (rOp2 oAdd (rC (.int 2)) (rCall c_draw (raCons (rVar 0) (raCons (rOp2 oSub (rOp2 oPow (rC (.int 10)) (rC (.int 6))) (rC (.int 1))) raNil)))) (raCons (rOp2 oPow (rC (.int 10)) (rC (.int 6))) (raCons (rOp2 oAdd (rC (.int 2)) (rCall c_draw (raCons (rVar 0) (raCons (rC (.int 40)) raNil)))) raNil)))) raNil))) (rVar 1)))) e (m4 ++ [.lst [.int (p * p), .int (p * q), .int g, .int g2]]) ⟨fun _ m1 => outK m K .non m1, outK m K, fun x _ m1 => outE m E x m1⟩ := by
    rintro g2 g20 g21 e rfl
    have hl4 : m4.length = m.length := sb.len
    have hc : (m4 ++ [Cell.lst [.int (p * p), .int (p * q), .int g, .int g2]])[m4.length]? = some (.lst [.int (p * p), .int (p * q), .int g, .int g2]) := List.getElem?_concat_length
    repeat (first | (with_reducible first | refine seq_i ?_ | refine asg_i ?_ | refine c_i ?_ | refine op2_i ?_ | refine gname_i ?_ | refine cons_i ?_ | refine nil_i ?_ | refine add_i ?_ | refine sub_i ?_ | refine lt_i ?_ | refine le_i ?_ | refine gt_i ?_ | refine ge_i ?_ | refine eq_i ?_ | refine ne_i ?_ | refine onBl_i ?_ | refine tB_i ?_ | refine sif_i ?_ | refine rif_i ?_ | refine call_i ?_ | refine callK_i ?_ | refine ret_i ?_ | refine tup_i ?_ | refine lst_i ?_ | refine lstN_i ?_ | refine opN_i ?_ | refine f_i ?_ | refine fN_i ?_ | refine op1_i ?_ | refine neg_i ?_ | refine drop_i ?_ | refine mtd_i ?_ | refine tNot_i ?_ | refine tAnd_i ?_ | refine tOr_i ?_ | refine tYes_i ?_ | refine and_i ?_ | refine or_i ?_ | refine not_i ?_ | refine for_i ?_ | refine iseq_i ?_ | refine range1_i ?_ | refine range2_i ?_ | refine rcomp_i ?_ | refine rcompN_i ?_ | refine par_i ?_ | refine addA_i ?_ | refine gcons_i ?_ | refine gnil_i ?_ | refine dict_i ?_ | refine dget_i ?_ | refine din_i ?_ | refine dnotin_i ?_ | refine dput_i ?_ | refine setItem_i ?_ | refine oNone_i ?_ | refine oSome_i ?_ | refine onO_i ?_ | refine slice_i ?_ | refine sliceN_i ?_ | refine onSl_tup ?_ | refine onSl_old ?_ | refine onSl_lst ?_ | refine max2_i ?_ | refine min2_i ?_ | refine abs_i ?_ | refine eqS_i ?_ | refine neS_i ?_ | refine eqB_i ?_ | refine retN_i ?_ | refine skip_i ?_ | refine isN_i ?_ | refine isNI_i ?_ | refine isNT_i ?_ | refine isNS_i ?_ | refine chain_i ?_ | refine onB3_i ?_ | refine asg2_i ?_) | ((with_reducible apply var_i); exact rfl) | ((with_reducible apply seqE_i); exact rfl) | ((with_reducible apply srcE_i); exact rfl) | ((with_reducible apply list_i); exact rfl) | ((with_reducible apply rev_i); exact rfl) | ((with_reducible apply tuple_i); exact rfl) | ((with_reducible apply len_i); exact rfl) | ((with_reducible apply ix_i); exact rfl; exact rfl) | ((with_reducible apply aug_i); exact rfl) | ((with_reducible apply gtup_i); exact rfl))
    refine ⟨⟨_, items_cell hc⟩, ?_⟩
    repeat (first | (with_reducible first | refine seq_i ?_ | refine asg_i ?_ | refine c_i ?_ | refine op2_i ?_ | refine gname_i ?_ | refine cons_i ?_ | refine nil_i ?_ | refine add_i ?_ | refine sub_i ?_ | refine lt_i ?_ | refine le_i ?_ | refine gt_i ?_ | refine ge_i ?_ | refine eq_i ?_ | refine ne_i ?_ | refine onBl_i ?_ | refine tB_i ?_ | refine sif_i ?_ | refine rif_i ?_ | refine call_i ?_ | refine callK_i ?_ | refine ret_i ?_ | refine tup_i ?_ | refine lst_i ?_ | refine lstN_i ?_ | refine opN_i ?_ | refine f_i ?_ | refine fN_i ?_ | refine op1_i ?_ | refine neg_i ?_ | refine drop_i ?_ | refine mtd_i ?_ | refine tNot_i ?_ | refine tAnd_i ?_ | refine tOr_i ?_ | refine tYes_i ?_ | refine and_i ?_ | refine or_i ?_ | refine not_i ?_ | refine for_i ?_ | refine iseq_i ?_ | refine range1_i ?_ | refine range2_i ?_ | refine rcomp_i ?_ | refine rcompN_i ?_ | refine par_i ?_ | refine addA_i ?_ | refine gcons_i ?_ | refine gnil_i ?_ | refine dict_i ?_ | refine dget_i ?_ | refine din_i ?_ | refine dnotin_i ?_ | refine dput_i ?_ | refine setItem_i ?_ | refine oNone_i ?_ | refine oSome_i ?_ | refine onO_i ?_ | refine slice_i ?_ | refine sliceN_i ?_ | refine onSl_tup ?_ | refine onSl_old ?_ | refine onSl_lst ?_ | refine max2_i ?_ | refine min2_i ?_ | refine abs_i ?_ | refine eqS_i ?_ | refine neS_i ?_ | refine eqB_i ?_ | refine retN_i ?_ | refine skip_i ?_ | refine isN_i ?_ | refine isNI_i ?_ | refine isNT_i ?_ | refine isNS_i ?_ | refine chain_i ?_ | refine onB3_i ?_ | refine asg2_i ?_) | ((with_reducible apply var_i); exact rfl) | ((with_reducible apply seqE_i); exact rfl) | ((with_reducible apply srcE_i); exact rfl) | ((with_reducible apply list_i); exact rfl) | ((with_reducible apply rev_i); exact rfl) | ((with_reducible apply tuple_i); exact rfl) | ((with_reducible apply len_i); exact rfl) | ((with_reducible apply ix_i); exact rfl; exact rfl) | ((with_reducible apply aug_i); exact rfl) | ((with_reducible apply gtup_i); exact rfl))
    refine ⟨n, j, 8, rfl, dk4.app _, by decide, by decide, fun u m5 u0 u1 dk5 sb5 => ?_⟩
    have hc5 := (sb5.at_ m4.length (by omega) (by omega)).trans hc
    have hx : ∃ z : Int, L2.atI [D.int 2, .int 4, .int 8, .int 64, .int 1024, .int 65536, .int 262144, .int 524288] u = some (.int z) ∧ 2 ≤ z ∧ z ≤ 524288 := by
      obtain rfl | rfl | rfl | rfl | rfl | rfl | rfl | rfl : u = 0 ∨ u = 1 ∨ u = 2 ∨ u = 3 ∨ u = 4 ∨ u = 5 ∨ u = 6 ∨ u = 7 := by omega
      all_goals exact ⟨_, rfl, by decide, by decide⟩
    obtain ⟨z, hz, z0, z1⟩ := hx
    refine ix_i rfl hz ?_
    repeat (first | (with_reducible first | refine seq_i ?_ | refine asg_i ?_ | refine c_i ?_ | refine op2_i ?_ | refine gname_i ?_ | refine cons_i ?_ | refine nil_i ?_ | refine add_i ?_ | refine sub_i ?_ | refine lt_i ?_ | refine le_i ?_ | refine gt_i ?_ | refine ge_i ?_ | refine eq_i ?_ | refine ne_i ?_ | refine onBl_i ?_ | refine tB_i ?_ | refine sif_i ?_ | refine rif_i ?_ | refine call_i ?_ | refine callK_i ?_ | refine ret_i ?_ | refine tup_i ?_ | refine lst_i ?_ | refine lstN_i ?_ | refine opN_i ?_ | refine f_i ?_ | refine fN_i ?_ | refine op1_i ?_ | refine neg_i ?_ | refine drop_i ?_ | refine mtd_i ?_ | refine tNot_i ?_ | refine tAnd_i ?_ | refine tOr_i ?_ | refine tYes_i ?_ | refine and_i ?_ | refine or_i ?_ | refine not_i ?_ | refine for_i ?_ | refine iseq_i ?_ | refine range1_i ?_ | refine range2_i ?_ | refine rcomp_i ?_ | refine rcompN_i ?_ | refine par_i ?_ | refine addA_i ?_ | refine gcons_i ?_ | refine gnil_i ?_ | refine dict_i ?_ | refine dget_i ?_ | refine din_i ?_ | refine dnotin_i ?_ | refine dput_i ?_ | refine setItem_i ?_ | refine oNone_i ?_ | refine oSome_i ?_ | refine onO_i ?_ | refine slice_i ?_ | refine sliceN_i ?_ | refine onSl_tup ?_ | refine onSl_old ?_ | refine onSl_lst ?_ | refine max2_i ?_ | refine min2_i ?_ | refine abs_i ?_ | refine eqS_i ?_ | refine neS_i ?_ | refine eqB_i ?_ | refine retN_i ?_ | refine skip_i ?_ | refine isN_i ?_ | refine isNI_i ?_ | refine isNT_i ?_ | refine isNS_i ?_ | refine chain_i ?_ | refine onB3_i ?_ | refine asg2_i ?_) | ((with_reducible apply var_i); exact rfl) | ((with_reducible apply seqE_i); exact rfl) | ((with_reducible apply srcE_i); exact rfl) | ((with_reducible apply list_i); exact rfl) | ((with_reducible apply rev_i); exact rfl) | ((with_reducible apply tuple_i); exact rfl) | ((with_reducible apply len_i); exact rfl) | ((with_reducible apply ix_i); exact rfl; exact rfl) | ((with_reducible apply aug_i); exact rfl) | ((with_reducible apply gtup_i); exact rfl))
    refine ⟨m4.length, _, .int z, rfl, rfl, hc5, by show 4 < 100000; omega, ?_⟩
    have lt4 : n < m4.length ∧ j < m4.length := dk4.lt
    have dk6 := dk5.setO (k := m4.length) (c := .lst [.int (p * p), .int (p * q), .int g, .int g2, .int z]) (by omega) (by omega)
    have hc6 : (m5.set m4.length (.lst [.int (p * p), .int (p * q), .int g, .int g2, .int z]))[m4.length]? = some (.lst [.int (p * p), .int (p * q), .int g, .int g2, .int z]) := set_same (get_lt hc5)
    have o6 : ∀ i, i < m.length → i ≠ n → i ≠ j → (m5.set m4.length (.lst [.int (p * p), .int (p * q), .int g, .int g2, .int z]))[i]? = m[i]? := fun i hi a b => by
      rw [set_other (by omega), sb5.at_ i a b, List.getElem?_append_left (by omega), sb.at_ i a b]
    have l6 : (m5.set m4.length (.lst [.int (p * p), .int (p * q), .int g, .int g2, .int z])).length = m.length + 1 := by rw [List.length_set, sb5.len, List.length_append, hl4]; rfl
    show sRet _ _ (m5.set m4.length (.lst [.int (p * p), .int (p * q), .int g, .int g2, .int z])) _
    generalize m5.set m4.length (.lst [.int (p * p), .int (p * q), .int g, .int g2, .int z]) = m6 at dk6 hc6 o6 l6 ⊢
    repeat (first | (with_reducible first | refine seq_i ?_ | refine asg_i ?_ | refine c_i ?_ | refine op2_i ?_ | refine gname_i ?_ | refine cons_i ?_ | refine nil_i ?_ | refine add_i ?_ | refine sub_i ?_ | refine lt_i ?_ | refine le_i ?_ | refine gt_i ?_ | refine ge_i ?_ | refine eq_i ?_ | refine ne_i ?_ | refine onBl_i ?_ | refine tB_i ?_ | refine sif_i ?_ | refine rif_i ?_ | refine call_i ?_ | refine callK_i ?_ | refine ret_i ?_ | refine tup_i ?_ | refine lst_i ?_ | refine lstN_i ?_ | refine opN_i ?_ | refine f_i ?_ | refine fN_i ?_ | refine op1_i ?_ | refine neg_i ?_ | refine drop_i ?_ | refine mtd_i ?_ | refine tNot_i ?_ | refine tAnd_i ?_ | refine tOr_i ?_ | refine tYes_i ?_ | refine and_i ?_ | refine or_i ?_ | refine not_i ?_ | refine for_i ?_ | refine iseq_i ?_ | refine range1_i ?_ | refine range2_i ?_ | refine rcomp_i ?_ | refine rcompN_i ?_ | refine par_i ?_ | refine addA_i ?_ | refine gcons_i ?_ | refine gnil_i ?_ | refine dict_i ?_ | refine dget_i ?_ | refine din_i ?_ | refine dnotin_i ?_ | refine dput_i ?_ | refine setItem_i ?_ | refine oNone_i ?_ | refine oSome_i ?_ | refine onO_i ?_ | refine slice_i ?_ | refine sliceN_i ?_ | refine onSl_tup ?_ | refine onSl_old ?_ | refine onSl_lst ?_ | refine max2_i ?_ | refine min2_i ?_ | refine abs_i ?_ | refine eqS_i ?_ | refine neS_i ?_ | refine eqB_i ?_ | refine retN_i ?_ | refine skip_i ?_ | refine isN_i ?_ | refine isNI_i ?_ | refine isNT_i ?_ | refine isNS_i ?_ | refine chain_i ?_ | refine onB3_i ?_ | refine asg2_i ?_) | ((with_reducible apply var_i); exact rfl) | ((with_reducible apply seqE_i); exact rfl) | ((with_reducible apply srcE_i); exact rfl) | ((with_reducible apply list_i); exact rfl) | ((with_reducible apply rev_i); exact rfl) | ((with_reducible apply tuple_i); exact rfl) | ((with_reducible apply len_i); exact rfl) | ((with_reducible apply ix_i); exact rfl; exact rfl) | ((with_reducible apply aug_i); exact rfl) | ((with_reducible apply gtup_i); exact rfl))
    refine pow_i (by decide) ?_
    repeat (first | (with_reducible first | refine seq_i ?_ | refine asg_i ?_ | refine c_i ?_ | refine op2_i ?_ | refine gname_i ?_ | refine cons_i ?_ | refine nil_i ?_ | refine add_i ?_ | refine sub_i ?_ | refine lt_i ?_ | refine le_i ?_ | refine gt_i ?_ | refine ge_i ?_ | refine eq_i ?_ | refine ne_i ?_ | refine onBl_i ?_ | refine tB_i ?_ | refine sif_i ?_ | refine rif_i ?_ | refine call_i ?_ | refine callK_i ?_ | refine ret_i ?_ | refine tup_i ?_ | refine lst_i ?_ | refine lstN_i ?_ | refine opN_i ?_ | refine f_i ?_ | refine fN_i ?_ | refine op1_i ?_ | refine neg_i ?_ | refine drop_i ?_ | refine mtd_i ?_ | refine tNot_i ?_ | refine tAnd_i ?_ | refine tOr_i ?_ | refine tYes_i ?_ | refine and_i ?_ | refine or_i ?_ | refine not_i ?_ | refine for_i ?_ | refine iseq_i ?_ | refine range1_i ?_ | refine range2_i ?_ | refine rcomp_i ?_ | refine rcompN_i ?_ | refine par_i ?_ | refine addA_i ?_ | refine gcons_i ?_ | refine gnil_i ?_ | refine dict_i ?_ | refine dget_i ?_ | refine din_i ?_ | refine dnotin_i ?_ | refine dput_i ?_ | refine setItem_i ?_ | refine oNone_i ?_ | refine oSome_i ?_ | refine onO_i ?_ | refine slice_i ?_ | refine sliceN_i ?_ | refine onSl_tup ?_ | refine onSl_old ?_ | refine onSl_lst ?_ | refine max2_i ?_ | refine min2_i ?_ | refine abs_i ?_ | refine eqS_i ?_ | refine neS_i ?_ | refine eqB_i ?_ | refine retN_i ?_ | refine skip_i ?_ | refine isN_i ?_ | refine isNI_i ?_ | refine isNT_i ?_ | refine isNS_i ?_ | refine chain_i ?_ | refine onB3_i ?_ | refine asg2_i ?_) | ((with_reducible apply var_i); exact rfl) | ((with_reducible apply seqE_i); exact rfl) | ((with_reducible apply srcE_i); exact rfl) | ((with_reducible apply list_i); exact rfl) | ((with_reducible apply rev_i); exact rfl) | ((with_reducible apply tuple_i); exact rfl) | ((with_reducible apply len_i); exact rfl) | ((with_reducible apply ix_i); exact rfl; exact rfl) | ((with_reducible apply aug_i); exact rfl) | ((with_reducible apply gtup_i); exact rfl))
    have e6 : (10 : Int) ^ (6 : Int).toNat = 1000000 := by decide
    rw [e6]
    refine ⟨n, j, 1000000 - 1, rfl, dk6, by decide, by decide, fun a m7 a0 a1 dk7 sb7 => ?_⟩
    repeat (first | (with_reducible first | refine seq_i ?_ | refine asg_i ?_ | refine c_i ?_ | refine op2_i ?_ | refine gname_i ?_ | refine cons_i ?_ | refine nil_i ?_ | refine add_i ?_ | refine sub_i ?_ | refine lt_i ?_ | refine le_i ?_ | refine gt_i ?_ | refine ge_i ?_ | refine eq_i ?_ | refine ne_i ?_ | refine onBl_i ?_ | refine tB_i ?_ | refine sif_i ?_ | refine rif_i ?_ | refine call_i ?_ | refine callK_i ?_ | refine ret_i ?_ | refine tup_i ?_ | refine lst_i ?_ | refine lstN_i ?_ | refine opN_i ?_ | refine f_i ?_ | refine fN_i ?_ | refine op1_i ?_ | refine neg_i ?_ | refine drop_i ?_ | refine mtd_i ?_ | refine tNot_i ?_ | refine tAnd_i ?_ | refine tOr_i ?_ | refine tYes_i ?_ | refine and_i ?_ | refine or_i ?_ | refine not_i ?_ | refine for_i ?_ | refine iseq_i ?_ | refine range1_i ?_ | refine range2_i ?_ | refine rcomp_i ?_ | refine rcompN_i ?_ | refine par_i ?_ | refine addA_i ?_ | refine gcons_i ?_ | refine gnil_i ?_ | refine dict_i ?_ | refine dget_i ?_ | refine din_i ?_ | refine dnotin_i ?_ | refine dput_i ?_ | refine setItem_i ?_ | refine oNone_i ?_ | refine oSome_i ?_ | refine onO_i ?_ | refine slice_i ?_ | refine sliceN_i ?_ | refine onSl_tup ?_ | refine onSl_old ?_ | refine onSl_lst ?_ | refine max2_i ?_ | refine min2_i ?_ | refine abs_i ?_ | refine eqS_i ?_ | refine neS_i ?_ | refine eqB_i ?_ | refine retN_i ?_ | refine skip_i ?_ | refine isN_i ?_ | refine isNI_i ?_ | refine isNT_i ?_ | refine isNS_i ?_ | refine chain_i ?_ | refine onB3_i ?_ | refine asg2_i ?_) | ((with_reducible apply var_i); exact rfl) | ((with_reducible apply seqE_i); exact rfl) | ((with_reducible apply srcE_i); exact rfl) | ((with_reducible apply list_i); exact rfl) | ((with_reducible apply rev_i); exact rfl) | ((with_reducible apply tuple_i); exact rfl) | ((with_reducible apply len_i); exact rfl) | ((with_reducible apply ix_i); exact rfl; exact rfl) | ((with_reducible apply aug_i); exact rfl) | ((with_reducible apply gtup_i); exact rfl))
    refine pow_i (by decide) ?_
    rw [e6]
    repeat (first | (with_reducible first | refine seq_i ?_ | refine asg_i ?_ | refine c_i ?_ | refine op2_i ?_ | refine gname_i ?_ | refine cons_i ?_ | refine nil_i ?_ | refine add_i ?_ | refine sub_i ?_ | refine lt_i ?_ | refine le_i ?_ | refine gt_i ?_ | refine ge_i ?_ | refine eq_i ?_ | refine ne_i ?_ | refine onBl_i ?_ | refine tB_i ?_ | refine sif_i ?_ | refine rif_i ?_ | refine call_i ?_ | refine callK_i ?_ | refine ret_i ?_ | refine tup_i ?_ | refine lst_i ?_ | refine lstN_i ?_ | refine opN_i ?_ | refine f_i ?_ | refine fN_i ?_ | refine op1_i ?_ | refine neg_i ?_ | refine drop_i ?_ | refine mtd_i ?_ | refine tNot_i ?_ | refine tAnd_i ?_ | refine tOr_i ?_ | refine tYes_i ?_ | refine and_i ?_ | refine or_i ?_ | refine not_i ?_ | refine for_i ?_ | refine iseq_i ?_ | refine range1_i ?_ | refine range2_i ?_ | refine rcomp_i ?_ | refine rcompN_i ?_ | refine par_i ?_ | refine addA_i ?_ | refine gcons_i ?_ | refine gnil_i ?_ | refine dict_i ?_ | refine dget_i ?_ | refine din_i ?_ | refine dnotin_i ?_ | refine dput_i ?_ | refine setItem_i ?_ | refine oNone_i ?_ | refine oSome_i ?_ | refine onO_i ?_ | refine slice_i ?_ | refine sliceN_i ?_ | refine onSl_tup ?_ | refine onSl_old ?_ | refine onSl_lst ?_ | refine max2_i ?_ | refine min2_i ?_ | refine abs_i ?_ | refine eqS_i ?_ | refine neS_i ?_ | refine eqB_i ?_ | refine retN_i ?_ | refine skip_i ?_ | refine isN_i ?_ | refine isNI_i ?_ | refine isNT_i ?_ | refine isNS_i ?_ | refine chain_i ?_ | refine onB3_i ?_ | refine asg2_i ?_) | ((with_reducible apply var_i); exact rfl) | ((with_reducible apply seqE_i); exact rfl) | ((with_reducible apply srcE_i); exact rfl) | ((with_reducible apply list_i); exact rfl) | ((with_reducible apply rev_i); exact rfl) | ((with_reducible apply tuple_i); exact rfl) | ((with_reducible apply len_i); exact rfl) | ((with_reducible apply ix_i); exact rfl; exact rfl) | ((with_reducible apply aug_i); exact rfl) | ((with_reducible apply gtup_i); exact rfl))
    refine ⟨n, j, 40, rfl, dk7, by decide, by decide, fun b m8 b0 b1 dk8 sb8 => ?_⟩
    repeat (first | (with_reducible first | refine seq_i ?_ | refine asg_i ?_ | refine c_i ?_ | refine op2_i ?_ | refine gname_i ?_ | refine cons_i ?_ | refine nil_i ?_ | refine add_i ?_ | refine sub_i ?_ | refine lt_i ?_ | refine le_i ?_ | refine gt_i ?_ | refine ge_i ?_ | refine eq_i ?_ | refine ne_i ?_ | refine onBl_i ?_ | refine tB_i ?_ | refine sif_i ?_ | refine rif_i ?_ | refine call_i ?_ | refine callK_i ?_ | refine ret_i ?_ | refine tup_i ?_ | refine lst_i ?_ | refine lstN_i ?_ | refine opN_i ?_ | refine f_i ?_ | refine fN_i ?_ | refine op1_i ?_ | refine neg_i ?_ | refine drop_i ?_ | refine mtd_i ?_ | refine tNot_i ?_ | refine tAnd_i ?_ | refine tOr_i ?_ | refine tYes_i ?_ | refine and_i ?_ | refine or_i ?_ | refine not_i ?_ | refine for_i ?_ | refine iseq_i ?_ | refine range1_i ?_ | refine range2_i ?_ | refine rcomp_i ?_ | refine rcompN_i ?_ | refine par_i ?_ | refine addA_i ?_ | refine gcons_i ?_ | refine gnil_i ?_ | refine dict_i ?_ | refine dget_i ?_ | refine din_i ?_ | refine dnotin_i ?_ | refine dput_i ?_ | refine setItem_i ?_ | refine oNone_i ?_ | refine oSome_i ?_ | refine onO_i ?_ | refine slice_i ?_ | refine sliceN_i ?_ | refine onSl_tup ?_ | refine onSl_old ?_ | refine onSl_lst ?_ | refine max2_i ?_ | refine min2_i ?_ | refine abs_i ?_ | refine eqS_i ?_ | refine neS_i ?_ | refine eqB_i ?_ | refine retN_i ?_ | refine skip_i ?_ | refine isN_i ?_ | refine isNI_i ?_ | refine isNT_i ?_ | refine isNS_i ?_ | refine chain_i ?_ | refine onB3_i ?_ | refine asg2_i ?_) | ((with_reducible apply var_i); exact rfl) | ((with_reducible apply seqE_i); exact rfl) | ((with_reducible apply srcE_i); exact rfl) | ((with_reducible apply list_i); exact rfl) | ((with_reducible apply rev_i); exact rfl) | ((with_reducible apply tuple_i); exact rfl) | ((with_reducible apply len_i); exact rfl) | ((with_reducible apply ix_i); exact rfl; exact rfl) | ((with_reducible apply aug_i); exact rfl) | ((with_reducible apply gtup_i); exact rfl))
    have hc8 : m8[m4.length]? = some (.lst [.int (p * p), .int (p * q), .int g, .int g2, .int z]) := ((sb8.at_ _ (by omega) (by omega)).trans (sb7.at_ _ (by omega) (by omega))).trans hc6
    refine ⟨_, _, _, _, rfl, items0_cell hc8, rfl, by show 5 + 3 ≤ 100000; omega, ?_⟩
    repeat (first | (with_reducible first | refine seq_i ?_ | refine asg_i ?_ | refine c_i ?_ | refine op2_i ?_ | refine gname_i ?_ | refine cons_i ?_ | refine nil_i ?_ | refine add_i ?_ | refine sub_i ?_ | refine lt_i ?_ | refine le_i ?_ | refine gt_i ?_ | refine ge_i ?_ | refine eq_i ?_ | refine ne_i ?_ | refine onBl_i ?_ | refine tB_i ?_ | refine sif_i ?_ | refine rif_i ?_ | refine call_i ?_ | refine callK_i ?_ | refine ret_i ?_ | refine tup_i ?_ | refine lst_i ?_ | refine lstN_i ?_ | refine opN_i ?_ | refine f_i ?_ | refine fN_i ?_ | refine op1_i ?_ | refine neg_i ?_ | refine drop_i ?_ | refine mtd_i ?_ | refine tNot_i ?_ | refine tAnd_i ?_ | refine tOr_i ?_ | refine tYes_i ?_ | refine and_i ?_ | refine or_i ?_ | refine not_i ?_ | refine for_i ?_ | refine iseq_i ?_ | refine range1_i ?_ | refine range2_i ?_ | refine rcomp_i ?_ | refine rcompN_i ?_ | refine par_i ?_ | refine addA_i ?_ | refine gcons_i ?_ | refine gnil_i ?_ | refine dict_i ?_ | refine dget_i ?_ | refine din_i ?_ | refine dnotin_i ?_ | refine dput_i ?_ | refine setItem_i ?_ | refine oNone_i ?_ | refine oSome_i ?_ | refine onO_i ?_ | refine slice_i ?_ | refine sliceN_i ?_ | refine onSl_tup ?_ | refine onSl_old ?_ | refine onSl_lst ?_ | refine max2_i ?_ | refine min2_i ?_ | refine abs_i ?_ | refine eqS_i ?_ | refine neS_i ?_ | refine eqB_i ?_ | refine retN_i ?_ | refine skip_i ?_ | refine isN_i ?_ | refine isNI_i ?_ | refine isNT_i ?_ | refine isNS_i ?_ | refine chain_i ?_ | refine onB3_i ?_ | refine asg2_i ?_) | ((with_reducible apply var_i); exact rfl) | ((with_reducible apply seqE_i); exact rfl) | ((with_reducible apply srcE_i); exact rfl) | ((with_reducible apply list_i); exact rfl) | ((with_reducible apply rev_i); exact rfl) | ((with_reducible apply tuple_i); exact rfl) | ((with_reducible apply len_i); exact rfl) | ((with_reducible apply ix_i); exact rfl; exact rfl) | ((with_reducible apply aug_i); exact rfl) | ((with_reducible apply gtup_i); exact rfl))
    have fin : ∀ v : Int, 2 ≤ v → v ≤ 1000000 → outK m K (.int v) m8 := fun v v0 v1 => outK_deck lt.1 lt.2 (by rw [sb8.len, sb7.len, l6]; omega) dk8 (fun i hi a b => ((sb8.at_ i a b).trans (sb7.at_ i a b)).trans (o6 i hi a b)) rfl fun m2 d s => hK v m2 v0 v1 d s
    have hx : ∃ v : Int, L2.atI ([D.int (p * p), .int (p * q), .int g, .int g2, .int z] ++ [D.int (2 + a), .int 1000000, .int (2 + b)]) way = some (.int v) ∧ 2 ≤ v ∧ v ≤ 1000000 := by
      obtain rfl | rfl | rfl | rfl | rfl | rfl | rfl | rfl : way = 0 ∨ way = 1 ∨ way = 2 ∨ way = 3 ∨ way = 4 ∨ way = 5 ∨ way = 6 ∨ way = 7 := by omega
      all_goals exact ⟨_, rfl, by omega, by omega⟩
    obtain ⟨v, hv, v0, v1⟩ := hx
    exact ix_i rfl hv (fin v v0 v1)
  refine ite_i (fun hg => ?_) fun hg => ?_
  · repeat (first | (with_reducible first | refine seq_i ?_ | refine asg_i ?_ | refine c_i ?_ | refine op2_i ?_ | refine gname_i ?_ | refine cons_i ?_ | refine nil_i ?_ | refine add_i ?_ | refine sub_i ?_ | refine lt_i ?_ | refine le_i ?_ | refine gt_i ?_ | refine ge_i ?_ | refine eq_i ?_ | refine ne_i ?_ | refine onBl_i ?_ | refine tB_i ?_ | refine sif_i ?_ | refine rif_i ?_ | refine call_i ?_ | refine callK_i ?_ | refine ret_i ?_ | refine tup_i ?_ | refine lst_i ?_ | refine lstN_i ?_ | refine opN_i ?_ | refine f_i ?_ | refine fN_i ?_ | refine op1_i ?_ | refine neg_i ?_ | refine drop_i ?_ | refine mtd_i ?_ | refine tNot_i ?_ | refine tAnd_i ?_ | refine tOr_i ?_ | refine tYes_i ?_ | refine and_i ?_ | refine or_i ?_ | refine not_i ?_ | refine for_i ?_ | refine iseq_i ?_ | refine range1_i ?_ | refine range2_i ?_ | refine rcomp_i ?_ | refine rcompN_i ?_ | refine par_i ?_ | refine addA_i ?_ | refine gcons_i ?_ | refine gnil_i ?_ | refine dict_i ?_ | refine dget_i ?_ | refine din_i ?_ | refine dnotin_i ?_ | refine dput_i ?_ | refine setItem_i ?_ | refine oNone_i ?_ | refine oSome_i ?_ | refine onO_i ?_ | refine slice_i ?_ | refine sliceN_i ?_ | refine onSl_tup ?_ | refine onSl_old ?_ | refine onSl_lst ?_ | refine max2_i ?_ | refine min2_i ?_ | refine abs_i ?_ | refine eqS_i ?_ | refine neS_i ?_ | refine eqB_i ?_ | refine retN_i ?_ | refine skip_i ?_ | refine isN_i ?_ | refine isNI_i ?_ | refine isNT_i ?_ | refine isNS_i ?_ | refine chain_i ?_ | refine onB3_i ?_ | refine asg2_i ?_) | ((with_reducible apply var_i); exact rfl) | ((with_reducible apply seqE_i); exact rfl) | ((with_reducible apply srcE_i); exact rfl) | ((with_reducible apply list_i); exact rfl) | ((with_reducible apply rev_i); exact rfl) | ((with_reducible apply tuple_i); exact rfl) | ((with_reducible apply len_i); exact rfl) | ((with_reducible apply ix_i); exact rfl; exact rfl) | ((with_reducible apply aug_i); exact rfl) | ((with_reducible apply gtup_i); exact rfl))
    refine mul_i (mulw (by omega) (by omega)) ?_
    repeat (first | (with_reducible first | refine seq_i ?_ | refine asg_i ?_ | refine c_i ?_ | refine op2_i ?_ | refine gname_i ?_ | refine cons_i ?_ | refine nil_i ?_ | refine add_i ?_ | refine sub_i ?_ | refine lt_i ?_ | refine le_i ?_ | refine gt_i ?_ | refine ge_i ?_ | refine eq_i ?_ | refine ne_i ?_ | refine onBl_i ?_ | refine tB_i ?_ | refine sif_i ?_ | refine rif_i ?_ | refine call_i ?_ | refine callK_i ?_ | refine ret_i ?_ | refine tup_i ?_ | refine lst_i ?_ | refine lstN_i ?_ | refine opN_i ?_ | refine f_i ?_ | refine fN_i ?_ | refine op1_i ?_ | refine neg_i ?_ | refine drop_i ?_ | refine mtd_i ?_ | refine tNot_i ?_ | refine tAnd_i ?_ | refine tOr_i ?_ | refine tYes_i ?_ | refine and_i ?_ | refine or_i ?_ | refine not_i ?_ | refine for_i ?_ | refine iseq_i ?_ | refine range1_i ?_ | refine range2_i ?_ | refine rcomp_i ?_ | refine rcompN_i ?_ | refine par_i ?_ | refine addA_i ?_ | refine gcons_i ?_ | refine gnil_i ?_ | refine dict_i ?_ | refine dget_i ?_ | refine din_i ?_ | refine dnotin_i ?_ | refine dput_i ?_ | refine setItem_i ?_ | refine oNone_i ?_ | refine oSome_i ?_ | refine onO_i ?_ | refine slice_i ?_ | refine sliceN_i ?_ | refine onSl_tup ?_ | refine onSl_old ?_ | refine onSl_lst ?_ | refine max2_i ?_ | refine min2_i ?_ | refine abs_i ?_ | refine eqS_i ?_ | refine neS_i ?_ | refine eqB_i ?_ | refine retN_i ?_ | refine skip_i ?_ | refine isN_i ?_ | refine isNI_i ?_ | refine isNT_i ?_ | refine isNS_i ?_ | refine chain_i ?_ | refine onB3_i ?_ | refine asg2_i ?_) | ((with_reducible apply var_i); exact rfl) | ((with_reducible apply seqE_i); exact rfl) | ((with_reducible apply srcE_i); exact rfl) | ((with_reducible apply list_i); exact rfl) | ((with_reducible apply rev_i); exact rfl) | ((with_reducible apply tuple_i); exact rfl) | ((with_reducible apply len_i); exact rfl) | ((with_reducible apply ix_i); exact rfl; exact rfl) | ((with_reducible apply aug_i); exact rfl) | ((with_reducible apply gtup_i); exact rfl))
    exact tail (g * 2) (by omega) (by omega) _ rfl
  · repeat (first | (with_reducible first | refine seq_i ?_ | refine asg_i ?_ | refine c_i ?_ | refine op2_i ?_ | refine gname_i ?_ | refine cons_i ?_ | refine nil_i ?_ | refine add_i ?_ | refine sub_i ?_ | refine lt_i ?_ | refine le_i ?_ | refine gt_i ?_ | refine ge_i ?_ | refine eq_i ?_ | refine ne_i ?_ | refine onBl_i ?_ | refine tB_i ?_ | refine sif_i ?_ | refine rif_i ?_ | refine call_i ?_ | refine callK_i ?_ | refine ret_i ?_ | refine tup_i ?_ | refine lst_i ?_ | refine lstN_i ?_ | refine opN_i ?_ | refine f_i ?_ | refine fN_i ?_ | refine op1_i ?_ | refine neg_i ?_ | refine drop_i ?_ | refine mtd_i ?_ | refine tNot_i ?_ | refine tAnd_i ?_ | refine tOr_i ?_ | refine tYes_i ?_ | refine and_i ?_ | refine or_i ?_ | refine not_i ?_ | refine for_i ?_ | refine iseq_i ?_ | refine range1_i ?_ | refine range2_i ?_ | refine rcomp_i ?_ | refine rcompN_i ?_ | refine par_i ?_ | refine addA_i ?_ | refine gcons_i ?_ | refine gnil_i ?_ | refine dict_i ?_ | refine dget_i ?_ | refine din_i ?_ | refine dnotin_i ?_ | refine dput_i ?_ | refine setItem_i ?_ | refine oNone_i ?_ | refine oSome_i ?_ | refine onO_i ?_ | refine slice_i ?_ | refine sliceN_i ?_ | refine onSl_tup ?_ | refine onSl_old ?_ | refine onSl_lst ?_ | refine max2_i ?_ | refine min2_i ?_ | refine abs_i ?_ | refine eqS_i ?_ | refine neS_i ?_ | refine eqB_i ?_ | refine retN_i ?_ | refine skip_i ?_ | refine isN_i ?_ | refine isNI_i ?_ | refine isNT_i ?_ | refine isNS_i ?_ | refine chain_i ?_ | refine onB3_i ?_ | refine asg2_i ?_) | ((with_reducible apply var_i); exact rfl) | ((with_reducible apply seqE_i); exact rfl) | ((with_reducible apply srcE_i); exact rfl) | ((with_reducible apply list_i); exact rfl) | ((with_reducible apply rev_i); exact rfl) | ((with_reducible apply tuple_i); exact rfl) | ((with_reducible apply len_i); exact rfl) | ((with_reducible apply ix_i); exact rfl; exact rfl) | ((with_reducible apply aug_i); exact rfl) | ((with_reducible apply gtup_i); exact rfl))
    exact tail g (by omega) (by omega) _ rfl
end K03

namespace K03
open PySem PySem.Spec PyProof.Rows L2 PL
structure Lm (m : Mem) (ks : List Int) : Prop where
  dk : Deck m 1 0
  at2 : m[2]? = some (.lst (ks.map D.int))
  ok : ∀ k ∈ ks, 2 ≤ k ∧ k ≤ 1000000
def c_law : FnC := fun ds m K _ => ∃ ns : List Int, ds = [.old (ns.map D.int)] ∧ m = [] ∧ ∀ m', K (.bl true) m'
theorem runs_law : Runs N_law.length (B_law c_deck c_m c_right c_bar) c_law := fun ds m K E h => by
  obtain ⟨ns, rfl, rfl, hK⟩ := h
  unfold B_law
  repeat (first | (with_reducible first | refine seq_i ?_ | refine asg_i ?_ | refine c_i ?_ | refine op2_i ?_ | refine gname_i ?_ | refine cons_i ?_ | refine nil_i ?_ | refine add_i ?_ | refine sub_i ?_ | refine lt_i ?_ | refine le_i ?_ | refine gt_i ?_ | refine ge_i ?_ | refine eq_i ?_ | refine ne_i ?_ | refine onBl_i ?_ | refine tB_i ?_ | refine sif_i ?_ | refine rif_i ?_ | refine call_i ?_ | refine callK_i ?_ | refine ret_i ?_ | refine tup_i ?_ | refine lst_i ?_ | refine lstN_i ?_ | refine opN_i ?_ | refine f_i ?_ | refine fN_i ?_ | refine op1_i ?_ | refine neg_i ?_ | refine drop_i ?_ | refine mtd_i ?_ | refine tNot_i ?_ | refine tAnd_i ?_ | refine tOr_i ?_ | refine tYes_i ?_ | refine and_i ?_ | refine or_i ?_ | refine not_i ?_ | refine for_i ?_ | refine iseq_i ?_ | refine range1_i ?_ | refine range2_i ?_ | refine rcomp_i ?_ | refine rcompN_i ?_ | refine par_i ?_ | refine addA_i ?_ | refine gcons_i ?_ | refine gnil_i ?_ | refine dict_i ?_ | refine dget_i ?_ | refine din_i ?_ | refine dnotin_i ?_ | refine dput_i ?_ | refine setItem_i ?_ | refine oNone_i ?_ | refine oSome_i ?_ | refine onO_i ?_ | refine slice_i ?_ | refine sliceN_i ?_ | refine onSl_tup ?_ | refine onSl_old ?_ | refine onSl_lst ?_ | refine max2_i ?_ | refine min2_i ?_ | refine abs_i ?_ | refine eqS_i ?_ | refine neS_i ?_ | refine eqB_i ?_ | refine retN_i ?_ | refine skip_i ?_ | refine isN_i ?_ | refine isNI_i ?_ | refine isNT_i ?_ | refine isNS_i ?_ | refine chain_i ?_ | refine onB3_i ?_ | refine asg2_i ?_) | ((with_reducible apply var_i); exact rfl) | ((with_reducible apply seqE_i); exact rfl) | ((with_reducible apply srcE_i); exact rfl) | ((with_reducible apply list_i); exact rfl) | ((with_reducible apply rev_i); exact rfl) | ((with_reducible apply tuple_i); exact rfl) | ((with_reducible apply len_i); exact rfl) | ((with_reducible apply ix_i); exact rfl; exact rfl) | ((with_reducible apply aug_i); exact rfl) | ((with_reducible apply gtup_i); exact rfl))
  refine ⟨ns, rfl, rfl, fun l s hl => ?_⟩
  repeat (first | (with_reducible first | refine seq_i ?_ | refine asg_i ?_ | refine c_i ?_ | refine op2_i ?_ | refine gname_i ?_ | refine cons_i ?_ | refine nil_i ?_ | refine add_i ?_ | refine sub_i ?_ | refine lt_i ?_ | refine le_i ?_ | refine gt_i ?_ | refine ge_i ?_ | refine eq_i ?_ | refine ne_i ?_ | refine onBl_i ?_ | refine tB_i ?_ | refine sif_i ?_ | refine rif_i ?_ | refine call_i ?_ | refine callK_i ?_ | refine ret_i ?_ | refine tup_i ?_ | refine lst_i ?_ | refine lstN_i ?_ | refine opN_i ?_ | refine f_i ?_ | refine fN_i ?_ | refine op1_i ?_ | refine neg_i ?_ | refine drop_i ?_ | refine mtd_i ?_ | refine tNot_i ?_ | refine tAnd_i ?_ | refine tOr_i ?_ | refine tYes_i ?_ | refine and_i ?_ | refine or_i ?_ | refine not_i ?_ | refine for_i ?_ | refine iseq_i ?_ | refine range1_i ?_ | refine range2_i ?_ | refine rcomp_i ?_ | refine rcompN_i ?_ | refine par_i ?_ | refine addA_i ?_ | refine gcons_i ?_ | refine gnil_i ?_ | refine dict_i ?_ | refine dget_i ?_ | refine din_i ?_ | refine dnotin_i ?_ | refine dput_i ?_ | refine setItem_i ?_ | refine oNone_i ?_ | refine oSome_i ?_ | refine onO_i ?_ | refine slice_i ?_ | refine sliceN_i ?_ | refine onSl_tup ?_ | refine onSl_old ?_ | refine onSl_lst ?_ | refine max2_i ?_ | refine min2_i ?_ | refine abs_i ?_ | refine eqS_i ?_ | refine neS_i ?_ | refine eqB_i ?_ | refine retN_i ?_ | refine skip_i ?_ | refine isN_i ?_ | refine isNI_i ?_ | refine isNT_i ?_ | refine isNS_i ?_ | refine chain_i ?_ | refine onB3_i ?_ | refine asg2_i ?_) | ((with_reducible apply var_i); exact rfl) | ((with_reducible apply seqE_i); exact rfl) | ((with_reducible apply srcE_i); exact rfl) | ((with_reducible apply list_i); exact rfl) | ((with_reducible apply rev_i); exact rfl) | ((with_reducible apply tuple_i); exact rfl) | ((with_reducible apply len_i); exact rfl) | ((with_reducible apply ix_i); exact rfl; exact rfl) | ((with_reducible apply aug_i); exact rfl) | ((with_reducible apply gtup_i); exact rfl))
  refine onR1_i (by decide) ?_
  refine for_inv (fun i e m => ∃ (ks : List Int) (o3 o4 : Option D), Lm m ks ∧ ks.length = i ∧ e = [some (.old (ns.map D.int)), some (.cell 1), some (.cell 2), o3, o4]) (fun _ _ _ _ _ => trivial) (fun i x e m N hx hI hN => ?_)
    ⟨[], _, _, ⟨⟨by decide, l, s, 0, hl, rfl, rfl⟩, rfl, fun _ h => nomatch h⟩, rfl, rfl⟩ fun e m hI => ?_
  · obtain ⟨ks, o3, o4, lm, hl, rfl⟩ := hI
    obtain ⟨rfl, hi⟩ := upto_get _ _ _ _ hx
    have hi : i < 30 := hi
    repeat (first | (with_reducible first | refine seq_i ?_ | refine asg_i ?_ | refine c_i ?_ | refine op2_i ?_ | refine gname_i ?_ | refine cons_i ?_ | refine nil_i ?_ | refine add_i ?_ | refine sub_i ?_ | refine lt_i ?_ | refine le_i ?_ | refine gt_i ?_ | refine ge_i ?_ | refine eq_i ?_ | refine ne_i ?_ | refine onBl_i ?_ | refine tB_i ?_ | refine sif_i ?_ | refine rif_i ?_ | refine call_i ?_ | refine callK_i ?_ | refine ret_i ?_ | refine tup_i ?_ | refine lst_i ?_ | refine lstN_i ?_ | refine opN_i ?_ | refine f_i ?_ | refine fN_i ?_ | refine op1_i ?_ | refine neg_i ?_ | refine drop_i ?_ | refine mtd_i ?_ | refine tNot_i ?_ | refine tAnd_i ?_ | refine tOr_i ?_ | refine tYes_i ?_ | refine and_i ?_ | refine or_i ?_ | refine not_i ?_ | refine for_i ?_ | refine iseq_i ?_ | refine range1_i ?_ | refine range2_i ?_ | refine rcomp_i ?_ | refine rcompN_i ?_ | refine par_i ?_ | refine addA_i ?_ | refine gcons_i ?_ | refine gnil_i ?_ | refine dict_i ?_ | refine dget_i ?_ | refine din_i ?_ | refine dnotin_i ?_ | refine dput_i ?_ | refine setItem_i ?_ | refine oNone_i ?_ | refine oSome_i ?_ | refine onO_i ?_ | refine slice_i ?_ | refine sliceN_i ?_ | refine onSl_tup ?_ | refine onSl_old ?_ | refine onSl_lst ?_ | refine max2_i ?_ | refine min2_i ?_ | refine abs_i ?_ | refine eqS_i ?_ | refine neS_i ?_ | refine eqB_i ?_ | refine retN_i ?_ | refine skip_i ?_ | refine isN_i ?_ | refine isNI_i ?_ | refine isNT_i ?_ | refine isNS_i ?_ | refine chain_i ?_ | refine onB3_i ?_ | refine asg2_i ?_) | ((with_reducible apply var_i); exact rfl) | ((with_reducible apply seqE_i); exact rfl) | ((with_reducible apply srcE_i); exact rfl) | ((with_reducible apply list_i); exact rfl) | ((with_reducible apply rev_i); exact rfl) | ((with_reducible apply tuple_i); exact rfl) | ((with_reducible apply len_i); exact rfl) | ((with_reducible apply ix_i); exact rfl; exact rfl) | ((with_reducible apply aug_i); exact rfl) | ((with_reducible apply gtup_i); exact rfl))
    refine ⟨1, 0, rfl, lm.dk, fun v m1 v0 v1 dk1 sb1 => ?_⟩
    have at2 := (sb1.at_ 2 (by decide) (by decide)).trans lm.at2
    repeat (first | (with_reducible first | refine seq_i ?_ | refine asg_i ?_ | refine c_i ?_ | refine op2_i ?_ | refine gname_i ?_ | refine cons_i ?_ | refine nil_i ?_ | refine add_i ?_ | refine sub_i ?_ | refine lt_i ?_ | refine le_i ?_ | refine gt_i ?_ | refine ge_i ?_ | refine eq_i ?_ | refine ne_i ?_ | refine onBl_i ?_ | refine tB_i ?_ | refine sif_i ?_ | refine rif_i ?_ | refine call_i ?_ | refine callK_i ?_ | refine ret_i ?_ | refine tup_i ?_ | refine lst_i ?_ | refine lstN_i ?_ | refine opN_i ?_ | refine f_i ?_ | refine fN_i ?_ | refine op1_i ?_ | refine neg_i ?_ | refine drop_i ?_ | refine mtd_i ?_ | refine tNot_i ?_ | refine tAnd_i ?_ | refine tOr_i ?_ | refine tYes_i ?_ | refine and_i ?_ | refine or_i ?_ | refine not_i ?_ | refine for_i ?_ | refine iseq_i ?_ | refine range1_i ?_ | refine range2_i ?_ | refine rcomp_i ?_ | refine rcompN_i ?_ | refine par_i ?_ | refine addA_i ?_ | refine gcons_i ?_ | refine gnil_i ?_ | refine dict_i ?_ | refine dget_i ?_ | refine din_i ?_ | refine dnotin_i ?_ | refine dput_i ?_ | refine setItem_i ?_ | refine oNone_i ?_ | refine oSome_i ?_ | refine onO_i ?_ | refine slice_i ?_ | refine sliceN_i ?_ | refine onSl_tup ?_ | refine onSl_old ?_ | refine onSl_lst ?_ | refine max2_i ?_ | refine min2_i ?_ | refine abs_i ?_ | refine eqS_i ?_ | refine neS_i ?_ | refine eqB_i ?_ | refine retN_i ?_ | refine skip_i ?_ | refine isN_i ?_ | refine isNI_i ?_ | refine isNT_i ?_ | refine isNS_i ?_ | refine chain_i ?_ | refine onB3_i ?_ | refine asg2_i ?_) | ((with_reducible apply var_i); exact rfl) | ((with_reducible apply seqE_i); exact rfl) | ((with_reducible apply srcE_i); exact rfl) | ((with_reducible apply list_i); exact rfl) | ((with_reducible apply rev_i); exact rfl) | ((with_reducible apply tuple_i); exact rfl) | ((with_reducible apply len_i); exact rfl) | ((with_reducible apply ix_i); exact rfl; exact rfl) | ((with_reducible apply aug_i); exact rfl) | ((with_reducible apply gtup_i); exact rfl))
    refine ⟨v, rfl, v0, v1, ?_⟩
    repeat (first | (with_reducible first | refine seq_i ?_ | refine asg_i ?_ | refine c_i ?_ | refine op2_i ?_ | refine gname_i ?_ | refine cons_i ?_ | refine nil_i ?_ | refine add_i ?_ | refine sub_i ?_ | refine lt_i ?_ | refine le_i ?_ | refine gt_i ?_ | refine ge_i ?_ | refine eq_i ?_ | refine ne_i ?_ | refine onBl_i ?_ | refine tB_i ?_ | refine sif_i ?_ | refine rif_i ?_ | refine call_i ?_ | refine callK_i ?_ | refine ret_i ?_ | refine tup_i ?_ | refine lst_i ?_ | refine lstN_i ?_ | refine opN_i ?_ | refine f_i ?_ | refine fN_i ?_ | refine op1_i ?_ | refine neg_i ?_ | refine drop_i ?_ | refine mtd_i ?_ | refine tNot_i ?_ | refine tAnd_i ?_ | refine tOr_i ?_ | refine tYes_i ?_ | refine and_i ?_ | refine or_i ?_ | refine not_i ?_ | refine for_i ?_ | refine iseq_i ?_ | refine range1_i ?_ | refine range2_i ?_ | refine rcomp_i ?_ | refine rcompN_i ?_ | refine par_i ?_ | refine addA_i ?_ | refine gcons_i ?_ | refine gnil_i ?_ | refine dict_i ?_ | refine dget_i ?_ | refine din_i ?_ | refine dnotin_i ?_ | refine dput_i ?_ | refine setItem_i ?_ | refine oNone_i ?_ | refine oSome_i ?_ | refine onO_i ?_ | refine slice_i ?_ | refine sliceN_i ?_ | refine onSl_tup ?_ | refine onSl_old ?_ | refine onSl_lst ?_ | refine max2_i ?_ | refine min2_i ?_ | refine abs_i ?_ | refine eqS_i ?_ | refine neS_i ?_ | refine eqB_i ?_ | refine retN_i ?_ | refine skip_i ?_ | refine isN_i ?_ | refine isNI_i ?_ | refine isNT_i ?_ | refine isNS_i ?_ | refine chain_i ?_ | refine onB3_i ?_ | refine asg2_i ?_) | ((with_reducible apply var_i); exact rfl) | ((with_reducible apply seqE_i); exact rfl) | ((with_reducible apply srcE_i); exact rfl) | ((with_reducible apply list_i); exact rfl) | ((with_reducible apply rev_i); exact rfl) | ((with_reducible apply tuple_i); exact rfl) | ((with_reducible apply len_i); exact rfl) | ((with_reducible apply ix_i); exact rfl; exact rfl) | ((with_reducible apply aug_i); exact rfl) | ((with_reducible apply gtup_i); exact rfl))
    refine iteB_i (fun h => nomatch h) fun _ => ?_
    repeat (first | (with_reducible first | refine seq_i ?_ | refine asg_i ?_ | refine c_i ?_ | refine op2_i ?_ | refine gname_i ?_ | refine cons_i ?_ | refine nil_i ?_ | refine add_i ?_ | refine sub_i ?_ | refine lt_i ?_ | refine le_i ?_ | refine gt_i ?_ | refine ge_i ?_ | refine eq_i ?_ | refine ne_i ?_ | refine onBl_i ?_ | refine tB_i ?_ | refine sif_i ?_ | refine rif_i ?_ | refine call_i ?_ | refine callK_i ?_ | refine ret_i ?_ | refine tup_i ?_ | refine lst_i ?_ | refine lstN_i ?_ | refine opN_i ?_ | refine f_i ?_ | refine fN_i ?_ | refine op1_i ?_ | refine neg_i ?_ | refine drop_i ?_ | refine mtd_i ?_ | refine tNot_i ?_ | refine tAnd_i ?_ | refine tOr_i ?_ | refine tYes_i ?_ | refine and_i ?_ | refine or_i ?_ | refine not_i ?_ | refine for_i ?_ | refine iseq_i ?_ | refine range1_i ?_ | refine range2_i ?_ | refine rcomp_i ?_ | refine rcompN_i ?_ | refine par_i ?_ | refine addA_i ?_ | refine gcons_i ?_ | refine gnil_i ?_ | refine dict_i ?_ | refine dget_i ?_ | refine din_i ?_ | refine dnotin_i ?_ | refine dput_i ?_ | refine setItem_i ?_ | refine oNone_i ?_ | refine oSome_i ?_ | refine onO_i ?_ | refine slice_i ?_ | refine sliceN_i ?_ | refine onSl_tup ?_ | refine onSl_old ?_ | refine onSl_lst ?_ | refine max2_i ?_ | refine min2_i ?_ | refine abs_i ?_ | refine eqS_i ?_ | refine neS_i ?_ | refine eqB_i ?_ | refine retN_i ?_ | refine skip_i ?_ | refine isN_i ?_ | refine isNI_i ?_ | refine isNT_i ?_ | refine isNS_i ?_ | refine chain_i ?_ | refine onB3_i ?_ | refine asg2_i ?_) | ((with_reducible apply var_i); exact rfl) | ((with_reducible apply seqE_i); exact rfl) | ((with_reducible apply srcE_i); exact rfl) | ((with_reducible apply list_i); exact rfl) | ((with_reducible apply rev_i); exact rfl) | ((with_reducible apply tuple_i); exact rfl) | ((with_reducible apply len_i); exact rfl) | ((with_reducible apply ix_i); exact rfl; exact rfl) | ((with_reducible apply aug_i); exact rfl) | ((with_reducible apply gtup_i); exact rfl))
    refine ⟨⟨_, items_cell at2⟩, ?_⟩
    repeat (first | (with_reducible first | refine seq_i ?_ | refine asg_i ?_ | refine c_i ?_ | refine op2_i ?_ | refine gname_i ?_ | refine cons_i ?_ | refine nil_i ?_ | refine add_i ?_ | refine sub_i ?_ | refine lt_i ?_ | refine le_i ?_ | refine gt_i ?_ | refine ge_i ?_ | refine eq_i ?_ | refine ne_i ?_ | refine onBl_i ?_ | refine tB_i ?_ | refine sif_i ?_ | refine rif_i ?_ | refine call_i ?_ | refine callK_i ?_ | refine ret_i ?_ | refine tup_i ?_ | refine lst_i ?_ | refine lstN_i ?_ | refine opN_i ?_ | refine f_i ?_ | refine fN_i ?_ | refine op1_i ?_ | refine neg_i ?_ | refine drop_i ?_ | refine mtd_i ?_ | refine tNot_i ?_ | refine tAnd_i ?_ | refine tOr_i ?_ | refine tYes_i ?_ | refine and_i ?_ | refine or_i ?_ | refine not_i ?_ | refine for_i ?_ | refine iseq_i ?_ | refine range1_i ?_ | refine range2_i ?_ | refine rcomp_i ?_ | refine rcompN_i ?_ | refine par_i ?_ | refine addA_i ?_ | refine gcons_i ?_ | refine gnil_i ?_ | refine dict_i ?_ | refine dget_i ?_ | refine din_i ?_ | refine dnotin_i ?_ | refine dput_i ?_ | refine setItem_i ?_ | refine oNone_i ?_ | refine oSome_i ?_ | refine onO_i ?_ | refine slice_i ?_ | refine sliceN_i ?_ | refine onSl_tup ?_ | refine onSl_old ?_ | refine onSl_lst ?_ | refine max2_i ?_ | refine min2_i ?_ | refine abs_i ?_ | refine eqS_i ?_ | refine neS_i ?_ | refine eqB_i ?_ | refine retN_i ?_ | refine skip_i ?_ | refine isN_i ?_ | refine isNI_i ?_ | refine isNT_i ?_ | refine isNS_i ?_ | refine chain_i ?_ | refine onB3_i ?_ | refine asg2_i ?_) | ((with_reducible apply var_i); exact rfl) | ((with_reducible apply seqE_i); exact rfl) | ((with_reducible apply srcE_i); exact rfl) | ((with_reducible apply list_i); exact rfl) | ((with_reducible apply rev_i); exact rfl) | ((with_reducible apply tuple_i); exact rfl) | ((with_reducible apply len_i); exact rfl) | ((with_reducible apply ix_i); exact rfl; exact rfl) | ((with_reducible apply aug_i); exact rfl) | ((with_reducible apply gtup_i); exact rfl))
    refine ⟨2, _, .int v, rfl, rfl, at2, by rw [List.length_map]; omega, ?_⟩
    exact hN _ _ ⟨ks ++ [v], _, _, ⟨dk1.setO (by decide) (by decide), by rw [set_same (get_lt at2), List.map_append]; rfl, fun k hk => by
      rcases List.mem_append.mp hk with hk | hk
      · exact lm.ok k hk
      · rw [List.mem_singleton.mp hk]; exact ⟨v0, v1⟩⟩, by rw [List.length_append, hl]; rfl, rfl⟩
  · obtain ⟨ks, o3, o4, lm, hl, rfl⟩ := hI
    repeat (first | (with_reducible first | refine seq_i ?_ | refine asg_i ?_ | refine c_i ?_ | refine op2_i ?_ | refine gname_i ?_ | refine cons_i ?_ | refine nil_i ?_ | refine add_i ?_ | refine sub_i ?_ | refine lt_i ?_ | refine le_i ?_ | refine gt_i ?_ | refine ge_i ?_ | refine eq_i ?_ | refine ne_i ?_ | refine onBl_i ?_ | refine tB_i ?_ | refine sif_i ?_ | refine rif_i ?_ | refine call_i ?_ | refine callK_i ?_ | refine ret_i ?_ | refine tup_i ?_ | refine lst_i ?_ | refine lstN_i ?_ | refine opN_i ?_ | refine f_i ?_ | refine fN_i ?_ | refine op1_i ?_ | refine neg_i ?_ | refine drop_i ?_ | refine mtd_i ?_ | refine tNot_i ?_ | refine tAnd_i ?_ | refine tOr_i ?_ | refine tYes_i ?_ | refine and_i ?_ | refine or_i ?_ | refine not_i ?_ | refine for_i ?_ | refine iseq_i ?_ | refine range1_i ?_ | refine range2_i ?_ | refine rcomp_i ?_ | refine rcompN_i ?_ | refine par_i ?_ | refine addA_i ?_ | refine gcons_i ?_ | refine gnil_i ?_ | refine dict_i ?_ | refine dget_i ?_ | refine din_i ?_ | refine dnotin_i ?_ | refine dput_i ?_ | refine setItem_i ?_ | refine oNone_i ?_ | refine oSome_i ?_ | refine onO_i ?_ | refine slice_i ?_ | refine sliceN_i ?_ | refine onSl_tup ?_ | refine onSl_old ?_ | refine onSl_lst ?_ | refine max2_i ?_ | refine min2_i ?_ | refine abs_i ?_ | refine eqS_i ?_ | refine neS_i ?_ | refine eqB_i ?_ | refine retN_i ?_ | refine skip_i ?_ | refine isN_i ?_ | refine isNI_i ?_ | refine isNT_i ?_ | refine isNS_i ?_ | refine chain_i ?_ | refine onB3_i ?_ | refine asg2_i ?_) | ((with_reducible apply var_i); exact rfl) | ((with_reducible apply seqE_i); exact rfl) | ((with_reducible apply srcE_i); exact rfl) | ((with_reducible apply list_i); exact rfl) | ((with_reducible apply rev_i); exact rfl) | ((with_reducible apply tuple_i); exact rfl) | ((with_reducible apply len_i); exact rfl) | ((with_reducible apply ix_i); exact rfl; exact rfl) | ((with_reducible apply aug_i); exact rfl) | ((with_reducible apply gtup_i); exact rfl))
    refine seqE_i (seq_cell lm.at2) ?_
    refine comp_inv (fun i acc m' => m' = m ∧ acc = []) (fun i acc m' _ hI => ?_) (fun i x acc m' N hx hI hN => ?_) ⟨rfl, rfl⟩ fun acc m' hI => ?_
    · rw [hI.1]; exact seq_cell lm.at2
    · obtain ⟨rfl, rfl⟩ := hI
      rw [List.getElem?_map] at hx
      obtain ⟨v, hz, rfl⟩ := Option.map_eq_some_iff.mp hx
      obtain ⟨v0, v1⟩ := lm.ok v (List.mem_of_getElem? hz)
      repeat (first | (with_reducible first | refine seq_i ?_ | refine asg_i ?_ | refine c_i ?_ | refine op2_i ?_ | refine gname_i ?_ | refine cons_i ?_ | refine nil_i ?_ | refine add_i ?_ | refine sub_i ?_ | refine lt_i ?_ | refine le_i ?_ | refine gt_i ?_ | refine ge_i ?_ | refine eq_i ?_ | refine ne_i ?_ | refine onBl_i ?_ | refine tB_i ?_ | refine sif_i ?_ | refine rif_i ?_ | refine call_i ?_ | refine callK_i ?_ | refine ret_i ?_ | refine tup_i ?_ | refine lst_i ?_ | refine lstN_i ?_ | refine opN_i ?_ | refine f_i ?_ | refine fN_i ?_ | refine op1_i ?_ | refine neg_i ?_ | refine drop_i ?_ | refine mtd_i ?_ | refine tNot_i ?_ | refine tAnd_i ?_ | refine tOr_i ?_ | refine tYes_i ?_ | refine and_i ?_ | refine or_i ?_ | refine not_i ?_ | refine for_i ?_ | refine iseq_i ?_ | refine range1_i ?_ | refine range2_i ?_ | refine rcomp_i ?_ | refine rcompN_i ?_ | refine par_i ?_ | refine addA_i ?_ | refine gcons_i ?_ | refine gnil_i ?_ | refine dict_i ?_ | refine dget_i ?_ | refine din_i ?_ | refine dnotin_i ?_ | refine dput_i ?_ | refine setItem_i ?_ | refine oNone_i ?_ | refine oSome_i ?_ | refine onO_i ?_ | refine slice_i ?_ | refine sliceN_i ?_ | refine onSl_tup ?_ | refine onSl_old ?_ | refine onSl_lst ?_ | refine max2_i ?_ | refine min2_i ?_ | refine abs_i ?_ | refine eqS_i ?_ | refine neS_i ?_ | refine eqB_i ?_ | refine retN_i ?_ | refine skip_i ?_ | refine isN_i ?_ | refine isNI_i ?_ | refine isNT_i ?_ | refine isNS_i ?_ | refine chain_i ?_ | refine onB3_i ?_ | refine asg2_i ?_) | ((with_reducible apply var_i); exact rfl) | ((with_reducible apply seqE_i); exact rfl) | ((with_reducible apply srcE_i); exact rfl) | ((with_reducible apply list_i); exact rfl) | ((with_reducible apply rev_i); exact rfl) | ((with_reducible apply tuple_i); exact rfl) | ((with_reducible apply len_i); exact rfl) | ((with_reducible apply ix_i); exact rfl; exact rfl) | ((with_reducible apply aug_i); exact rfl) | ((with_reducible apply gtup_i); exact rfl))
      refine ⟨v, rfl, v0, v1, ?_⟩
      repeat (first | (with_reducible first | refine seq_i ?_ | refine asg_i ?_ | refine c_i ?_ | refine op2_i ?_ | refine gname_i ?_ | refine cons_i ?_ | refine nil_i ?_ | refine add_i ?_ | refine sub_i ?_ | refine lt_i ?_ | refine le_i ?_ | refine gt_i ?_ | refine ge_i ?_ | refine eq_i ?_ | refine ne_i ?_ | refine onBl_i ?_ | refine tB_i ?_ | refine sif_i ?_ | refine rif_i ?_ | refine call_i ?_ | refine callK_i ?_ | refine ret_i ?_ | refine tup_i ?_ | refine lst_i ?_ | refine lstN_i ?_ | refine opN_i ?_ | refine f_i ?_ | refine fN_i ?_ | refine op1_i ?_ | refine neg_i ?_ | refine drop_i ?_ | refine mtd_i ?_ | refine tNot_i ?_ | refine tAnd_i ?_ | refine tOr_i ?_ | refine tYes_i ?_ | refine and_i ?_ | refine or_i ?_ | refine not_i ?_ | refine for_i ?_ | refine iseq_i ?_ | refine range1_i ?_ | refine range2_i ?_ | refine rcomp_i ?_ | refine rcompN_i ?_ | refine par_i ?_ | refine addA_i ?_ | refine gcons_i ?_ | refine gnil_i ?_ | refine dict_i ?_ | refine dget_i ?_ | refine din_i ?_ | refine dnotin_i ?_ | refine dput_i ?_ | refine setItem_i ?_ | refine oNone_i ?_ | refine oSome_i ?_ | refine onO_i ?_ | refine slice_i ?_ | refine sliceN_i ?_ | refine onSl_tup ?_ | refine onSl_old ?_ | refine onSl_lst ?_ | refine max2_i ?_ | refine min2_i ?_ | refine abs_i ?_ | refine eqS_i ?_ | refine neS_i ?_ | refine eqB_i ?_ | refine retN_i ?_ | refine skip_i ?_ | refine isN_i ?_ | refine isNI_i ?_ | refine isNT_i ?_ | refine isNS_i ?_ | refine chain_i ?_ | refine onB3_i ?_ | refine asg2_i ?_) | ((with_reducible apply var_i); exact rfl) | ((with_reducible apply seqE_i); exact rfl) | ((with_reducible apply srcE_i); exact rfl) | ((with_reducible apply list_i); exact rfl) | ((with_reducible apply rev_i); exact rfl) | ((with_reducible apply tuple_i); exact rfl) | ((with_reducible apply len_i); exact rfl) | ((with_reducible apply ix_i); exact rfl; exact rfl) | ((with_reducible apply aug_i); exact rfl) | ((with_reducible apply gtup_i); exact rfl))
      refine iteB_i (fun h => nomatch h) fun _ => ?_
      exact hN _ _ ⟨rfl, rfl⟩
    · obtain ⟨rfl, rfl⟩ := hI
      repeat (first | (with_reducible first | refine seq_i ?_ | refine asg_i ?_ | refine c_i ?_ | refine op2_i ?_ | refine gname_i ?_ | refine cons_i ?_ | refine nil_i ?_ | refine add_i ?_ | refine sub_i ?_ | refine lt_i ?_ | refine le_i ?_ | refine gt_i ?_ | refine ge_i ?_ | refine eq_i ?_ | refine ne_i ?_ | refine onBl_i ?_ | refine tB_i ?_ | refine sif_i ?_ | refine rif_i ?_ | refine call_i ?_ | refine callK_i ?_ | refine ret_i ?_ | refine tup_i ?_ | refine lst_i ?_ | refine lstN_i ?_ | refine opN_i ?_ | refine f_i ?_ | refine fN_i ?_ | refine op1_i ?_ | refine neg_i ?_ | refine drop_i ?_ | refine mtd_i ?_ | refine tNot_i ?_ | refine tAnd_i ?_ | refine tOr_i ?_ | refine tYes_i ?_ | refine and_i ?_ | refine or_i ?_ | refine not_i ?_ | refine for_i ?_ | refine iseq_i ?_ | refine range1_i ?_ | refine range2_i ?_ | refine rcomp_i ?_ | refine rcompN_i ?_ | refine par_i ?_ | refine addA_i ?_ | refine gcons_i ?_ | refine gnil_i ?_ | refine dict_i ?_ | refine dget_i ?_ | refine din_i ?_ | refine dnotin_i ?_ | refine dput_i ?_ | refine setItem_i ?_ | refine oNone_i ?_ | refine oSome_i ?_ | refine onO_i ?_ | refine slice_i ?_ | refine sliceN_i ?_ | refine onSl_tup ?_ | refine onSl_old ?_ | refine onSl_lst ?_ | refine max2_i ?_ | refine min2_i ?_ | refine abs_i ?_ | refine eqS_i ?_ | refine neS_i ?_ | refine eqB_i ?_ | refine retN_i ?_ | refine skip_i ?_ | refine isN_i ?_ | refine isNI_i ?_ | refine isNT_i ?_ | refine isNS_i ?_ | refine chain_i ?_ | refine onB3_i ?_ | refine asg2_i ?_) | ((with_reducible apply var_i); exact rfl) | ((with_reducible apply seqE_i); exact rfl) | ((with_reducible apply srcE_i); exact rfl) | ((with_reducible apply list_i); exact rfl) | ((with_reducible apply rev_i); exact rfl) | ((with_reducible apply tuple_i); exact rfl) | ((with_reducible apply len_i); exact rfl) | ((with_reducible apply ix_i); exact rfl; exact rfl) | ((with_reducible apply aug_i); exact rfl) | ((with_reducible apply gtup_i); exact rfl))
      refine ⟨.list [], .list [], rfl, rfl, by decide, by decide, ?_⟩
      repeat (first | (with_reducible first | refine seq_i ?_ | refine asg_i ?_ | refine c_i ?_ | refine op2_i ?_ | refine gname_i ?_ | refine cons_i ?_ | refine nil_i ?_ | refine add_i ?_ | refine sub_i ?_ | refine lt_i ?_ | refine le_i ?_ | refine gt_i ?_ | refine ge_i ?_ | refine eq_i ?_ | refine ne_i ?_ | refine onBl_i ?_ | refine tB_i ?_ | refine sif_i ?_ | refine rif_i ?_ | refine call_i ?_ | refine callK_i ?_ | refine ret_i ?_ | refine tup_i ?_ | refine lst_i ?_ | refine lstN_i ?_ | refine opN_i ?_ | refine f_i ?_ | refine fN_i ?_ | refine op1_i ?_ | refine neg_i ?_ | refine drop_i ?_ | refine mtd_i ?_ | refine tNot_i ?_ | refine tAnd_i ?_ | refine tOr_i ?_ | refine tYes_i ?_ | refine and_i ?_ | refine or_i ?_ | refine not_i ?_ | refine for_i ?_ | refine iseq_i ?_ | refine range1_i ?_ | refine range2_i ?_ | refine rcomp_i ?_ | refine rcompN_i ?_ | refine par_i ?_ | refine addA_i ?_ | refine gcons_i ?_ | refine gnil_i ?_ | refine dict_i ?_ | refine dget_i ?_ | refine din_i ?_ | refine dnotin_i ?_ | refine dput_i ?_ | refine setItem_i ?_ | refine oNone_i ?_ | refine oSome_i ?_ | refine onO_i ?_ | refine slice_i ?_ | refine sliceN_i ?_ | refine onSl_tup ?_ | refine onSl_old ?_ | refine onSl_lst ?_ | refine max2_i ?_ | refine min2_i ?_ | refine abs_i ?_ | refine eqS_i ?_ | refine neS_i ?_ | refine eqB_i ?_ | refine retN_i ?_ | refine skip_i ?_ | refine isN_i ?_ | refine isNI_i ?_ | refine isNT_i ?_ | refine isNS_i ?_ | refine chain_i ?_ | refine onB3_i ?_ | refine asg2_i ?_) | ((with_reducible apply var_i); exact rfl) | ((with_reducible apply seqE_i); exact rfl) | ((with_reducible apply srcE_i); exact rfl) | ((with_reducible apply list_i); exact rfl) | ((with_reducible apply rev_i); exact rfl) | ((with_reducible apply tuple_i); exact rfl) | ((with_reducible apply len_i); exact rfl) | ((with_reducible apply ix_i); exact rfl; exact rfl) | ((with_reducible apply aug_i); exact rfl) | ((with_reducible apply gtup_i); exact rfl))
      refine iteB_i (fun h => nomatch h) fun _ => ?_
      repeat (first | (with_reducible first | refine seq_i ?_ | refine asg_i ?_ | refine c_i ?_ | refine op2_i ?_ | refine gname_i ?_ | refine cons_i ?_ | refine nil_i ?_ | refine add_i ?_ | refine sub_i ?_ | refine lt_i ?_ | refine le_i ?_ | refine gt_i ?_ | refine ge_i ?_ | refine eq_i ?_ | refine ne_i ?_ | refine onBl_i ?_ | refine tB_i ?_ | refine sif_i ?_ | refine rif_i ?_ | refine call_i ?_ | refine callK_i ?_ | refine ret_i ?_ | refine tup_i ?_ | refine lst_i ?_ | refine lstN_i ?_ | refine opN_i ?_ | refine f_i ?_ | refine fN_i ?_ | refine op1_i ?_ | refine neg_i ?_ | refine drop_i ?_ | refine mtd_i ?_ | refine tNot_i ?_ | refine tAnd_i ?_ | refine tOr_i ?_ | refine tYes_i ?_ | refine and_i ?_ | refine or_i ?_ | refine not_i ?_ | refine for_i ?_ | refine iseq_i ?_ | refine range1_i ?_ | refine range2_i ?_ | refine rcomp_i ?_ | refine rcompN_i ?_ | refine par_i ?_ | refine addA_i ?_ | refine gcons_i ?_ | refine gnil_i ?_ | refine dict_i ?_ | refine dget_i ?_ | refine din_i ?_ | refine dnotin_i ?_ | refine dput_i ?_ | refine setItem_i ?_ | refine oNone_i ?_ | refine oSome_i ?_ | refine onO_i ?_ | refine slice_i ?_ | refine sliceN_i ?_ | refine onSl_tup ?_ | refine onSl_old ?_ | refine onSl_lst ?_ | refine max2_i ?_ | refine min2_i ?_ | refine abs_i ?_ | refine eqS_i ?_ | refine neS_i ?_ | refine eqB_i ?_ | refine retN_i ?_ | refine skip_i ?_ | refine isN_i ?_ | refine isNI_i ?_ | refine isNT_i ?_ | refine isNS_i ?_ | refine chain_i ?_ | refine onB3_i ?_ | refine asg2_i ?_) | ((with_reducible apply var_i); exact rfl) | ((with_reducible apply seqE_i); exact rfl) | ((with_reducible apply srcE_i); exact rfl) | ((with_reducible apply list_i); exact rfl) | ((with_reducible apply rev_i); exact rfl) | ((with_reducible apply tuple_i); exact rfl) | ((with_reducible apply len_i); exact rfl) | ((with_reducible apply ix_i); exact rfl; exact rfl) | ((with_reducible apply aug_i); exact rfl) | ((with_reducible apply gtup_i); exact rfl))
      refine ⟨_, rfl, .inr ⟨.inl rfl, ?_⟩⟩
      repeat (first | (with_reducible first | refine seq_i ?_ | refine asg_i ?_ | refine c_i ?_ | refine op2_i ?_ | refine gname_i ?_ | refine cons_i ?_ | refine nil_i ?_ | refine add_i ?_ | refine sub_i ?_ | refine lt_i ?_ | refine le_i ?_ | refine gt_i ?_ | refine ge_i ?_ | refine eq_i ?_ | refine ne_i ?_ | refine onBl_i ?_ | refine tB_i ?_ | refine sif_i ?_ | refine rif_i ?_ | refine call_i ?_ | refine callK_i ?_ | refine ret_i ?_ | refine tup_i ?_ | refine lst_i ?_ | refine lstN_i ?_ | refine opN_i ?_ | refine f_i ?_ | refine fN_i ?_ | refine op1_i ?_ | refine neg_i ?_ | refine drop_i ?_ | refine mtd_i ?_ | refine tNot_i ?_ | refine tAnd_i ?_ | refine tOr_i ?_ | refine tYes_i ?_ | refine and_i ?_ | refine or_i ?_ | refine not_i ?_ | refine for_i ?_ | refine iseq_i ?_ | refine range1_i ?_ | refine range2_i ?_ | refine rcomp_i ?_ | refine rcompN_i ?_ | refine par_i ?_ | refine addA_i ?_ | refine gcons_i ?_ | refine gnil_i ?_ | refine dict_i ?_ | refine dget_i ?_ | refine din_i ?_ | refine dnotin_i ?_ | refine dput_i ?_ | refine setItem_i ?_ | refine oNone_i ?_ | refine oSome_i ?_ | refine onO_i ?_ | refine slice_i ?_ | refine sliceN_i ?_ | refine onSl_tup ?_ | refine onSl_old ?_ | refine onSl_lst ?_ | refine max2_i ?_ | refine min2_i ?_ | refine abs_i ?_ | refine eqS_i ?_ | refine neS_i ?_ | refine eqB_i ?_ | refine retN_i ?_ | refine skip_i ?_ | refine isN_i ?_ | refine isNI_i ?_ | refine isNT_i ?_ | refine isNS_i ?_ | refine chain_i ?_ | refine onB3_i ?_ | refine asg2_i ?_) | ((with_reducible apply var_i); exact rfl) | ((with_reducible apply seqE_i); exact rfl) | ((with_reducible apply srcE_i); exact rfl) | ((with_reducible apply list_i); exact rfl) | ((with_reducible apply rev_i); exact rfl) | ((with_reducible apply tuple_i); exact rfl) | ((with_reducible apply len_i); exact rfl) | ((with_reducible apply ix_i); exact rfl; exact rfl) | ((with_reducible apply aug_i); exact rfl) | ((with_reducible apply gtup_i); exact rfl))
      refine iteB_i (fun _ => ?_) fun h => nomatch h
      repeat (first | (with_reducible first | refine seq_i ?_ | refine asg_i ?_ | refine c_i ?_ | refine op2_i ?_ | refine gname_i ?_ | refine cons_i ?_ | refine nil_i ?_ | refine add_i ?_ | refine sub_i ?_ | refine lt_i ?_ | refine le_i ?_ | refine gt_i ?_ | refine ge_i ?_ | refine eq_i ?_ | refine ne_i ?_ | refine onBl_i ?_ | refine tB_i ?_ | refine sif_i ?_ | refine rif_i ?_ | refine call_i ?_ | refine callK_i ?_ | refine ret_i ?_ | refine tup_i ?_ | refine lst_i ?_ | refine lstN_i ?_ | refine opN_i ?_ | refine f_i ?_ | refine fN_i ?_ | refine op1_i ?_ | refine neg_i ?_ | refine drop_i ?_ | refine mtd_i ?_ | refine tNot_i ?_ | refine tAnd_i ?_ | refine tOr_i ?_ | refine tYes_i ?_ | refine and_i ?_ | refine or_i ?_ | refine not_i ?_ | refine for_i ?_ | refine iseq_i ?_ | refine range1_i ?_ | refine range2_i ?_ | refine rcomp_i ?_ | refine rcompN_i ?_ | refine par_i ?_ | refine addA_i ?_ | refine gcons_i ?_ | refine gnil_i ?_ | refine dict_i ?_ | refine dget_i ?_ | refine din_i ?_ | refine dnotin_i ?_ | refine dput_i ?_ | refine setItem_i ?_ | refine oNone_i ?_ | refine oSome_i ?_ | refine onO_i ?_ | refine slice_i ?_ | refine sliceN_i ?_ | refine onSl_tup ?_ | refine onSl_old ?_ | refine onSl_lst ?_ | refine max2_i ?_ | refine min2_i ?_ | refine abs_i ?_ | refine eqS_i ?_ | refine neS_i ?_ | refine eqB_i ?_ | refine retN_i ?_ | refine skip_i ?_ | refine isN_i ?_ | refine isNI_i ?_ | refine isNT_i ?_ | refine isNS_i ?_ | refine chain_i ?_ | refine onB3_i ?_ | refine asg2_i ?_) | ((with_reducible apply var_i); exact rfl) | ((with_reducible apply seqE_i); exact rfl) | ((with_reducible apply srcE_i); exact rfl) | ((with_reducible apply list_i); exact rfl) | ((with_reducible apply rev_i); exact rfl) | ((with_reducible apply tuple_i); exact rfl) | ((with_reducible apply len_i); exact rfl) | ((with_reducible apply ix_i); exact rfl; exact rfl) | ((with_reducible apply aug_i); exact rfl) | ((with_reducible apply gtup_i); exact rfl))
      refine ⟨_, rfl, .inr ⟨.inr rfl, ?_⟩⟩
      repeat (first | (with_reducible first | refine seq_i ?_ | refine asg_i ?_ | refine c_i ?_ | refine op2_i ?_ | refine gname_i ?_ | refine cons_i ?_ | refine nil_i ?_ | refine add_i ?_ | refine sub_i ?_ | refine lt_i ?_ | refine le_i ?_ | refine gt_i ?_ | refine ge_i ?_ | refine eq_i ?_ | refine ne_i ?_ | refine onBl_i ?_ | refine tB_i ?_ | refine sif_i ?_ | refine rif_i ?_ | refine call_i ?_ | refine callK_i ?_ | refine ret_i ?_ | refine tup_i ?_ | refine lst_i ?_ | refine lstN_i ?_ | refine opN_i ?_ | refine f_i ?_ | refine fN_i ?_ | refine op1_i ?_ | refine neg_i ?_ | refine drop_i ?_ | refine mtd_i ?_ | refine tNot_i ?_ | refine tAnd_i ?_ | refine tOr_i ?_ | refine tYes_i ?_ | refine and_i ?_ | refine or_i ?_ | refine not_i ?_ | refine for_i ?_ | refine iseq_i ?_ | refine range1_i ?_ | refine range2_i ?_ | refine rcomp_i ?_ | refine rcompN_i ?_ | refine par_i ?_ | refine addA_i ?_ | refine gcons_i ?_ | refine gnil_i ?_ | refine dict_i ?_ | refine dget_i ?_ | refine din_i ?_ | refine dnotin_i ?_ | refine dput_i ?_ | refine setItem_i ?_ | refine oNone_i ?_ | refine oSome_i ?_ | refine onO_i ?_ | refine slice_i ?_ | refine sliceN_i ?_ | refine onSl_tup ?_ | refine onSl_old ?_ | refine onSl_lst ?_ | refine max2_i ?_ | refine min2_i ?_ | refine abs_i ?_ | refine eqS_i ?_ | refine neS_i ?_ | refine eqB_i ?_ | refine retN_i ?_ | refine skip_i ?_ | refine isN_i ?_ | refine isNI_i ?_ | refine isNT_i ?_ | refine isNS_i ?_ | refine chain_i ?_ | refine onB3_i ?_ | refine asg2_i ?_) | ((with_reducible apply var_i); exact rfl) | ((with_reducible apply seqE_i); exact rfl) | ((with_reducible apply srcE_i); exact rfl) | ((with_reducible apply list_i); exact rfl) | ((with_reducible apply rev_i); exact rfl) | ((with_reducible apply tuple_i); exact rfl) | ((with_reducible apply len_i); exact rfl) | ((with_reducible apply ix_i); exact rfl; exact rfl) | ((with_reducible apply aug_i); exact rfl) | ((with_reducible apply gtup_i); exact rfl))
      refine iteB_i (fun _ => ?_) fun h => nomatch h
      repeat (first | (with_reducible first | refine seq_i ?_ | refine asg_i ?_ | refine c_i ?_ | refine op2_i ?_ | refine gname_i ?_ | refine cons_i ?_ | refine nil_i ?_ | refine add_i ?_ | refine sub_i ?_ | refine lt_i ?_ | refine le_i ?_ | refine gt_i ?_ | refine ge_i ?_ | refine eq_i ?_ | refine ne_i ?_ | refine onBl_i ?_ | refine tB_i ?_ | refine sif_i ?_ | refine rif_i ?_ | refine call_i ?_ | refine callK_i ?_ | refine ret_i ?_ | refine tup_i ?_ | refine lst_i ?_ | refine lstN_i ?_ | refine opN_i ?_ | refine f_i ?_ | refine fN_i ?_ | refine op1_i ?_ | refine neg_i ?_ | refine drop_i ?_ | refine mtd_i ?_ | refine tNot_i ?_ | refine tAnd_i ?_ | refine tOr_i ?_ | refine tYes_i ?_ | refine and_i ?_ | refine or_i ?_ | refine not_i ?_ | refine for_i ?_ | refine iseq_i ?_ | refine range1_i ?_ | refine range2_i ?_ | refine rcomp_i ?_ | refine rcompN_i ?_ | refine par_i ?_ | refine addA_i ?_ | refine gcons_i ?_ | refine gnil_i ?_ | refine dict_i ?_ | refine dget_i ?_ | refine din_i ?_ | refine dnotin_i ?_ | refine dput_i ?_ | refine setItem_i ?_ | refine oNone_i ?_ | refine oSome_i ?_ | refine onO_i ?_ | refine slice_i ?_ | refine sliceN_i ?_ | refine onSl_tup ?_ | refine onSl_old ?_ | refine onSl_lst ?_ | refine max2_i ?_ | refine min2_i ?_ | refine abs_i ?_ | refine eqS_i ?_ | refine neS_i ?_ | refine eqB_i ?_ | refine retN_i ?_ | refine skip_i ?_ | refine isN_i ?_ | refine isNI_i ?_ | refine isNT_i ?_ | refine isNS_i ?_ | refine chain_i ?_ | refine onB3_i ?_ | refine asg2_i ?_) | ((with_reducible apply var_i); exact rfl) | ((with_reducible apply seqE_i); exact rfl) | ((with_reducible apply srcE_i); exact rfl) | ((with_reducible apply list_i); exact rfl) | ((with_reducible apply rev_i); exact rfl) | ((with_reducible apply tuple_i); exact rfl) | ((with_reducible apply len_i); exact rfl) | ((with_reducible apply ix_i); exact rfl; exact rfl) | ((with_reducible apply aug_i); exact rfl) | ((with_reducible apply gtup_i); exact rfl))
      refine ⟨_, rfl, .inl ⟨2, rfl, by decide, by decide, fun v hv => ?_⟩⟩
      have e : v = 2 := by have := hv.two; have := hv.le; omega
      rw [if_pos e]
      repeat (first | (with_reducible first | refine seq_i ?_ | refine asg_i ?_ | refine c_i ?_ | refine op2_i ?_ | refine gname_i ?_ | refine cons_i ?_ | refine nil_i ?_ | refine add_i ?_ | refine sub_i ?_ | refine lt_i ?_ | refine le_i ?_ | refine gt_i ?_ | refine ge_i ?_ | refine eq_i ?_ | refine ne_i ?_ | refine onBl_i ?_ | refine tB_i ?_ | refine sif_i ?_ | refine rif_i ?_ | refine call_i ?_ | refine callK_i ?_ | refine ret_i ?_ | refine tup_i ?_ | refine lst_i ?_ | refine lstN_i ?_ | refine opN_i ?_ | refine f_i ?_ | refine fN_i ?_ | refine op1_i ?_ | refine neg_i ?_ | refine drop_i ?_ | refine mtd_i ?_ | refine tNot_i ?_ | refine tAnd_i ?_ | refine tOr_i ?_ | refine tYes_i ?_ | refine and_i ?_ | refine or_i ?_ | refine not_i ?_ | refine for_i ?_ | refine iseq_i ?_ | refine range1_i ?_ | refine range2_i ?_ | refine rcomp_i ?_ | refine rcompN_i ?_ | refine par_i ?_ | refine addA_i ?_ | refine gcons_i ?_ | refine gnil_i ?_ | refine dict_i ?_ | refine dget_i ?_ | refine din_i ?_ | refine dnotin_i ?_ | refine dput_i ?_ | refine setItem_i ?_ | refine oNone_i ?_ | refine oSome_i ?_ | refine onO_i ?_ | refine slice_i ?_ | refine sliceN_i ?_ | refine onSl_tup ?_ | refine onSl_old ?_ | refine onSl_lst ?_ | refine max2_i ?_ | refine min2_i ?_ | refine abs_i ?_ | refine eqS_i ?_ | refine neS_i ?_ | refine eqB_i ?_ | refine retN_i ?_ | refine skip_i ?_ | refine isN_i ?_ | refine isNI_i ?_ | refine isNT_i ?_ | refine isNS_i ?_ | refine chain_i ?_ | refine onB3_i ?_ | refine asg2_i ?_) | ((with_reducible apply var_i); exact rfl) | ((with_reducible apply seqE_i); exact rfl) | ((with_reducible apply srcE_i); exact rfl) | ((with_reducible apply list_i); exact rfl) | ((with_reducible apply rev_i); exact rfl) | ((with_reducible apply tuple_i); exact rfl) | ((with_reducible apply len_i); exact rfl) | ((with_reducible apply ix_i); exact rfl; exact rfl) | ((with_reducible apply aug_i); exact rfl) | ((with_reducible apply gtup_i); exact rfl))
      exact outK_same (hK _)
end K03

namespace K03
open PySem PySem.Spec PyProof.Rows L2 PL
def fn : List He.DefD := [d__law_deck, d__law_draw, d__law_pick, d__law_m, d__law_least, d_rests, d_bar_of, d_divisor_of, d_in_lowest, d_multiplied, d__law_is_gone, d__law_right, d_law]
def fa : List He.Fa := [.glo "_law_deck", .glo "_law_draw", .glo "_law_pick", .glo "_law_m", .glo "_law_least", .glo "rests", .glo "bar_of", .glo "divisor_of", .glo "in_lowest", .glo "multiplied", .glo "_law_is_gone", .glo "_law_right", .glo "law", .free "abs", .free "len", .free "list", .free "range", .free "repr", .free "sum", .glo "PARTS", .glo "WHOLE"]
abbrev R : PySem.W.OpenRow := PySem.W.OpenLaw.row PySem.Challenge.rw_polyways_k03_bars_of_rests
def ex (K : PySem.W.Frag) : Bool := (He.tupB K "PARTS" [(.str "parts")] && (He.tupB K "WHOLE" [(.str "whole")] && true))
abbrev hk : PySem.W.Hook := He.hookX 4 fa fn [] [] ex
def ob (s : PySem.W.SharedT) : He.AlX := He.obsX 4 fa fn [] [] ex (HandSHeadRun.getT s)
theorem ob_eq (s : PySem.W.SharedT) : ob s = hk.obs s.abs := He.obsX_eq (HandSHeadRun.getT_eq s)
theorem run (w : World) : HandSHeadRun.RunEq R (PySem.W.view R.prog [16]) hk ob 1500 ["WHOLE", "PARTS", "rests", "divisor_of", "in_lowest", "multiplied", "bar_of", "_law_deck", "_law_draw", "_law_pick", "_law_least", "_law_m", "_law_right", "_law_is_gone"] w := by
  intro os
  kernel_rfl
theorem facts {P : Program} {w : World} {K : PySem.W.Frag} {h : Heap} {mg : Str → Option Value} {f : Addr} (X : K.In h) (G : h.Ns mainGlobals mg) (hfa : mg ("law" : Str) = some (.ref f)) (c : He.SaysD fa fn K) (cx : ex K = true) :
    ∃ fd : FuncData, (∀ (s : Shared) (v : Value), BindsTo s fd ⟨[v], []⟩ [("_law_script", v)]) ∧ ∀ base : Heap, K.In base → base.Ns mainGlobals mg → FnG P w K mg base 6 f fd ps_law c_law := by
  have t_PARTS := (Bool.and_eq_true_iff.mp (show ex K = true from cx))
  have t_WHOLE := (Bool.and_eq_true_iff.mp t_PARTS.2)
  obtain ⟨fd__law_deck, F__law_deck⟩ := c.def_ 0 (d := d__law_deck) rfl
  have F__law_deck : K03.F__law_deck K _ fd__law_deck := F__law_deck
  have g__law_deck := He.glo_ok X G (c.fact 0 (f := .glo "_law_deck") rfl)
  obtain ⟨fd__law_draw, F__law_draw⟩ := c.def_ 1 (d := d__law_draw) rfl
  have F__law_draw : K03.F__law_draw K _ fd__law_draw := F__law_draw
  have g__law_draw := He.glo_ok X G (c.fact 1 (f := .glo "_law_draw") rfl)
  obtain ⟨fd__law_pick, F__law_pick⟩ := c.def_ 2 (d := d__law_pick) rfl
  have F__law_pick : K03.F__law_pick K _ fd__law_pick := F__law_pick
  have g__law_pick := He.glo_ok X G (c.fact 2 (f := .glo "_law_pick") rfl)
  obtain ⟨fd__law_m, F__law_m⟩ := c.def_ 3 (d := d__law_m) rfl
  have F__law_m : K03.F__law_m K _ fd__law_m := F__law_m
  have g__law_m := He.glo_ok X G (c.fact 3 (f := .glo "_law_m") rfl)
  obtain ⟨fd__law_least, F__law_least⟩ := c.def_ 4 (d := d__law_least) rfl
  have F__law_least : K03.F__law_least K _ fd__law_least := F__law_least
  have g__law_least := He.glo_ok X G (c.fact 4 (f := .glo "_law_least") rfl)
  obtain ⟨fd_rests, F_rests⟩ := c.def_ 5 (d := d_rests) rfl
  have F_rests : K03.F_rests K _ fd_rests := F_rests
  have g_rests := He.glo_ok X G (c.fact 5 (f := .glo "rests") rfl)
  obtain ⟨fd_bar_of, F_bar_of⟩ := c.def_ 6 (d := d_bar_of) rfl
  have F_bar_of : K03.F_bar_of K _ fd_bar_of := F_bar_of
  have g_bar_of := He.glo_ok X G (c.fact 6 (f := .glo "bar_of") rfl)
  obtain ⟨fd_divisor_of, F_divisor_of⟩ := c.def_ 7 (d := d_divisor_of) rfl
  have F_divisor_of : K03.F_divisor_of K _ fd_divisor_of := F_divisor_of
  have g_divisor_of := He.glo_ok X G (c.fact 7 (f := .glo "divisor_of") rfl)
  obtain ⟨fd_in_lowest, F_in_lowest⟩ := c.def_ 8 (d := d_in_lowest) rfl
  have F_in_lowest : K03.F_in_lowest K _ fd_in_lowest := F_in_lowest
  have g_in_lowest := He.glo_ok X G (c.fact 8 (f := .glo "in_lowest") rfl)
  obtain ⟨fd_multiplied, F_multiplied⟩ := c.def_ 9 (d := d_multiplied) rfl
  have F_multiplied : K03.F_multiplied K _ fd_multiplied := F_multiplied
  have g_multiplied := He.glo_ok X G (c.fact 9 (f := .glo "multiplied") rfl)
  obtain ⟨fd__law_is_gone, F__law_is_gone⟩ := c.def_ 10 (d := d__law_is_gone) rfl
  have F__law_is_gone : K03.F__law_is_gone K _ fd__law_is_gone := F__law_is_gone
  have g__law_is_gone := He.glo_ok X G (c.fact 10 (f := .glo "_law_is_gone") rfl)
  obtain ⟨fd__law_right, F__law_right⟩ := c.def_ 11 (d := d__law_right) rfl
  have F__law_right : K03.F__law_right K _ fd__law_right := F__law_right
  have g__law_right := He.glo_ok X G (c.fact 11 (f := .glo "_law_right") rfl)
  obtain ⟨fd_law, F_law⟩ := c.def_ 12 (d := d_law) rfl
  have F_law : K03.F_law K _ fd_law := F_law
  have g_law := He.glo_ok X G (c.fact 12 (f := .glo "law") rfl)
  have z_abs := He.free_ok X G (c.fact 13 (f := .free "abs") rfl)
  have z_len := He.free_ok X G (c.fact 14 (f := .free "len") rfl)
  have z_list := He.free_ok X G (c.fact 15 (f := .free "list") rfl)
  have z_range := He.free_ok X G (c.fact 16 (f := .free "range") rfl)
  have z_repr := He.free_ok X G (c.fact 17 (f := .free "repr") rfl)
  have z_sum := He.free_ok X G (c.fact 18 (f := .free "sum") rfl)
  have k_PARTS := cn_tup (ds := [(.str "parts")]) (He.glo_ok X G (c.fact 19 (f := .glo "PARTS") rfl)) t_PARTS.1 (fun _ _ => (.cons (.str _) .nil))
  have k_WHOLE := cn_tup (ds := [(.str "whole")]) (He.glo_ok X G (c.fact 20 (f := .glo "WHOLE") rfl)) t_WHOLE.1 (fun _ _ => (.cons (.str _) .nil))
  have e := hfa.symm.trans g_law
  cases e
  have b := FunD.bindsA (ps := ps_law) F_law fun _ _ _ _ _ _ us hl => match us, hl with | [_], _ => rfl
  refine ⟨fd_law, fun s v => b s [v] rfl, fun base _ _ => ?_⟩
  have Q__law_deck : FnG P w K mg base 1 _ fd__law_deck ps__law_deck c_deck := F__law_deck.okG orc__law_deck sc__law_deck (fun _ _ _ _ ⟨_, h, _⟩ => by rw [h]; rfl) (tabOk fns_nil cns_nil (fre_cons z_len (fre_cons z_list (fre_cons z_sum fre_nil)))) (hB__law_deck ) runs_deck
  have O__law_deck := fok g__law_deck F__law_deck.kp Q__law_deck (shs_cons (bnd__law_deck_0 F__law_deck) shs_nil)
  have Q__law_draw : FnG P w K mg base 1 _ fd__law_draw ps__law_draw c_draw := F__law_draw.okG orc__law_draw sc__law_draw (fun _ _ _ _ ⟨_, _, _, h, _⟩ => by rw [h]; rfl) (tabOk fns_nil cns_nil fre_nil) (hB__law_draw ) runs_draw
  have O__law_draw := fok g__law_draw F__law_draw.kp Q__law_draw (shs_cons (bnd__law_draw_0 F__law_draw) shs_nil)
  have Q__law_pick : FnG P w K mg base 2 _ fd__law_pick ps__law_pick c_pick := F__law_pick.okG orc__law_pick sc__law_pick (fun _ _ _ _ ⟨_, _, _, h, _⟩ => by rw [h]; rfl) (tabOk (fns_cons (O__law_draw.mono (by omega)) fns_nil) cns_nil (fre_cons z_len fre_nil)) (hB__law_pick c_draw) runs_pick
  have O__law_pick := fok g__law_pick F__law_pick.kp Q__law_pick (shs_cons (bnd__law_pick_0 F__law_pick) shs_nil)
  have Q__law_m : FnG P w K mg base 3 _ fd__law_m ps__law_m c_m := F__law_m.okG orc__law_m sc__law_m (fun _ _ _ _ ⟨_, _, h, _⟩ => by rw [h]; rfl) (tabOk (fns_cons (O__law_draw.mono (by omega)) (fns_cons (O__law_pick.mono (by omega)) fns_nil)) cns_nil fre_nil) (hB__law_m c_draw c_pick) runs_m
  have O__law_m := fok g__law_m F__law_m.kp Q__law_m (shs_cons (bnd__law_m_0 F__law_m) shs_nil)
  have Q__law_least : FnG P w K mg base 1 _ fd__law_least ps__law_least c_least := F__law_least.okG orc__law_least sc__law_least (fun _ _ _ _ ⟨_, h, _⟩ => by rw [h]; rfl) (tabOk fns_nil cns_nil fre_nil) (hB__law_least ) runs_least
  have O__law_least := fok g__law_least F__law_least.kp Q__law_least (shs_cons (bnd__law_least_0 F__law_least) shs_nil)
  have Q_rests : FnG P w K mg base 1 _ fd_rests ps_rests c_rests := F_rests.okG orc_rests sc_rests (fun _ _ _ _ ⟨_, h, _⟩ => by rw [h]; rfl) (tabOk fns_nil cns_nil fre_nil) (hB_rests ) runs_rests
  have O_rests := fok g_rests F_rests.kp Q_rests (shs_cons (bnd_rests_0 F_rests) shs_nil)
  have Q_bar_of : FnG P w K mg base 1 _ fd_bar_of ps_bar_of c_bar := F_bar_of.okG orc_bar_of sc_bar_of (fun _ _ _ _ ⟨_, h, _⟩ => by rw [h]; rfl) (tabOk fns_nil (cns_cons k_PARTS (cns_cons k_WHOLE cns_nil)) fre_nil) (hB_bar_of ) runs_bar
  have O_bar_of := fok g_bar_of F_bar_of.kp Q_bar_of (shs_cons (bnd_bar_of_0 F_bar_of) (shs_cons (bnd_bar_of_1 F_bar_of) shs_nil))
  have Q_divisor_of : FnG P w K mg base 1 _ fd_divisor_of ps_divisor_of c_no := F_divisor_of.okG orc_divisor_of sc_divisor_of (fun _ _ _ _ h => False.elim h) (tabOk fns_nil cns_nil (fre_cons z_abs fre_nil)) (hB_divisor_of ) runs_divisor
  have O_divisor_of := fok g_divisor_of F_divisor_of.kp Q_divisor_of (shs_cons (bnd_divisor_of_0 F_divisor_of) shs_nil)
  have Q_in_lowest : FnG P w K mg base 2 _ fd_in_lowest ps_in_lowest c_no := F_in_lowest.okG orc_in_lowest sc_in_lowest (fun _ _ _ _ h => False.elim h) (tabOk (fns_cons (O_divisor_of.mono (by omega)) fns_nil) cns_nil fre_nil) (hB_in_lowest c_no) runs_lowest
  have O_in_lowest := fok g_in_lowest F_in_lowest.kp Q_in_lowest (shs_cons (bnd_in_lowest_0 F_in_lowest) shs_nil)
  have Q_multiplied : FnG P w K mg base 3 _ fd_multiplied ps_multiplied c_mult := F_multiplied.okG orc_multiplied sc_multiplied (fun _ _ _ _ ⟨_, _, _, h, _⟩ => by rw [h]; rfl) (tabOk (fns_cons (O_in_lowest.mono (by omega)) fns_nil) (cns_cons k_WHOLE (cns_cons k_PARTS cns_nil)) fre_nil) (hB_multiplied c_no) runs_mult
  have O_multiplied := fok g_multiplied F_multiplied.kp Q_multiplied (shs_cons (bnd_multiplied_0 F_multiplied) shs_nil)
  have Q__law_is_gone : FnG P w K mg base 4 _ fd__law_is_gone ps__law_is_gone c_gone := F__law_is_gone.okG orc__law_is_gone sc__law_is_gone (fun _ _ _ _ ⟨_, _, h, _⟩ => by rw [h]; rfl) (tabOk (fns_cons (O_multiplied.mono (by omega)) (fns_cons (O_rests.mono (by omega)) fns_nil)) cns_nil fre_nil) (hB__law_is_gone c_mult c_rests) runs_gone
  have O__law_is_gone := fok g__law_is_gone F__law_is_gone.kp Q__law_is_gone (shs_cons (bnd__law_is_gone_0 F__law_is_gone) shs_nil)
  have Q__law_right : FnG P w K mg base 5 _ fd__law_right ps__law_right c_right := F__law_right.okG orc__law_right sc__law_right (fun _ _ _ _ ⟨_, h, _⟩ => by rw [h]; rfl) (tabOk (fns_cons (O__law_least.mono (by omega)) (fns_cons (O_rests.mono (by omega)) (fns_cons (O_bar_of.mono (by omega)) (fns_cons (O__law_is_gone.mono (by omega)) (fns_cons (O_multiplied.mono (by omega)) fns_nil))))) cns_nil (fre_cons z_repr fre_nil)) (hB__law_right c_least c_rests c_bar c_gone c_mult) runs_right
  have O__law_right := fok g__law_right F__law_right.kp Q__law_right (shs_cons (bnd__law_right_0 F__law_right) shs_nil)
  have Q_law : FnG P w K mg base 6 _ fd_law ps_law c_law := F_law.okG orc_law sc_law (fun _ _ _ _ ⟨_, h, _⟩ => by rw [h]; rfl) (tabOk (fns_cons (O__law_deck.mono (by omega)) (fns_cons (O__law_m.mono (by omega)) (fns_cons (O__law_right.mono (by omega)) (fns_cons (O_bar_of.mono (by omega)) fns_nil)))) cns_nil (fre_cons z_range fre_nil)) (hB_law c_deck c_m c_right c_bar) runs_law
  exact Q_law
end K03
open PySem PySem.W PySem.Calls PyProof.Rows
theorem PySem.Challenge.cw_polyways_k03_bars_of_rests_holds : PySem.Challenge.rw_polyways_k03_bars_of_rests.Holds := by
  w_on; o_law
  refine HandSHeadRun.head_any (r := OpenLaw.row PySem.Challenge.rw_polyways_k03_bars_of_rests) (q := view (OpenLaw.row PySem.Challenge.rw_polyways_k03_bars_of_rests).prog [16]) (H := K03.hk) (ob := K03.ob) (M := 1500) (loose := ["WHOLE", "PARTS", "rests", "divisor_of", "in_lowest", "multiplied", "bar_of", "_law_deck", "_law_draw", "_law_pick", "_law_least", "_law_m", "_law_right", "_law_is_gone"]) (d := HandSHeadRun.topDef (OpenLaw.row PySem.Challenge.rw_polyways_k03_bars_of_rests).prog 16) (kwd := []) K03.ob_eq
    (by kernel_rfl) (fun s => by kernel_rfl) K03.run (by kernel_rfl) (by kernel_rfl) (by kernel_rfl) (by rfl) (by first | assumption | decide +kernel) (by decide +kernel) ⟨rfl, rfl, rfl, rfl, rfl, by decide +kernel⟩ ?hw ?hc
  case hw => w_witness2
  case hc =>
    refine PL.walkG (l := PySem.Challenge.rw_polyways_k03_bars_of_rests) (n := 63) (k := 6) (x := "_law_script") rfl (by decide) (by kernel_rfl) ⟨rfl, by decide, by decide⟩ ?F
    intro w mg fa h Y G hmg0
    obtain ⟨K, KX, c⟩ := Y
    have hmg : mg ("law" : PySem.Str) = some (.ref fa) := by
      have e : (HandSHeadRun.topDef (OpenLaw.row PySem.Challenge.rw_polyways_k03_bars_of_rests).prog 16).name = ("law" : PySem.Str) := by kernel_rfl
      rw [← e]
      exact hmg0
    obtain ⟨fd, hb, hF⟩ := K03.facts (P := (PySem.Challenge.rw_polyways_k03_bars_of_rests).prog) (w := w) KX G hmg c.t.d c.more
    exact ⟨K, fd, K03.c_law, KX, hb, fun ns hl => ⟨ns, rfl, rfl, fun _ => rfl⟩, hF⟩

