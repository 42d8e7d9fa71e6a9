import PyProof.Rows.All
import Wide.All
import OpenK.AllK
import Wide.FinOn
import PyProof.P3Statements
import PyProof.ReprReads
import HandS.ForMost
import HandS.ForExc
import KE.KeyNested
import KE.KDictKeyed
import HandS.Lambda
import HandS.TupAny
import HandS.TupMul
import HandS.Deep
import HandS.IsInst
import HandS.SortInts
import HandS.Zip
import KE.GoesMore
import HandS.WordsExc
import HandS.SuiteRaise
import KE.KNest
import PyProof.ReprRoads
import PyProof.ReprLen
import HandS.Strs
import HandS.SetFor
import KE.KExcSuper
import KE.KExcLine
import HandS.ExcInit
import HandS.TryMany
import HandS.ExcField
import PyProof.ListMulAny
import HandS.Conv
import KE.KStar
import HandS.Star
import HandS.SortOrd
import PyProof.DictTable
import HandS.TupLe
import HandS.TupSets
import HandS.Style
import PySem.Challenge.RW_guardkeeps_k03_whole_answers
section SMpA
set_option Elab.async false
set_option linter.all false
open PySem
namespace Mp
/-! data, a store, outcomes -/
inductive D where
  | non | bl (b : Bool) | int (i : Int) | str (x : Str) | tup (xs : List D) | lst (xs : List D) | loc (n : Nat) | dct (t : Bool) (ks vs : List D) | clo (k : Nat) (cs : List D)
mutual
def D.beq : D → D → Bool
  | .non, .non => true
  | .bl a, .bl b => a == b
  | .int a, .int b => a == b
  | .str a, .str b => a == b
  | .tup a, .tup b => D.beqL a b
  | .lst a, .lst b => D.beqL a b
  | .loc a, .loc b => a == b
  | .dct t a b, .dct u c d => t == u && (D.beqL a c && D.beqL b d)
  | .clo a b, .clo c d => a == c && D.beqL b d
  | _, _ => false
def D.beqL : List D → List D → Bool
  | [], [] => true
  | a :: as, b :: bs => D.beq a b && D.beqL as bs
  | _, _ => false
end
mutual
theorem D.beq_iff : ∀ a b : D, D.beq a b = true ↔ a = b
  | .non, b => by cases b <;> simp [D.beq]
  | .bl _, b => by cases b <;> simp [D.beq]
  | .int _, b => by cases b <;> simp [D.beq]
  | .str _, b => by cases b <;> simp [D.beq]
  | .tup xs, b => by cases b <;> simp [D.beq, D.beqL_iff xs]
  | .lst xs, b => by cases b <;> simp [D.beq, D.beqL_iff xs]
  | .loc _, b => by cases b <;> simp [D.beq]
  | .dct _ xs ys, b => by cases b <;> simp [D.beq, D.beqL_iff xs, D.beqL_iff ys]
  | .clo _ xs, b => by cases b <;> simp [D.beq, D.beqL_iff xs]
theorem D.beqL_iff : ∀ a b : List D, D.beqL a b = true ↔ a = b
  | [], b => by cases b <;> simp [D.beqL]
  | x :: xs, b => by cases b <;> simp [D.beqL, D.beq_iff x, D.beqL_iff xs]
end
instance : DecidableEq D := fun a b => decidable_of_iff _ (D.beq_iff a b)

inductive O where
  | list (xs : List D) | dict (kvs : List (D × D)) | map (lk : Bool) (kvs : List (D × D)) | inst (c : Str) (fs : List (Str × D))
  deriving DecidableEq
abbrev Sto := List O
abbrev Ev := List (Option D)
structure Exn where
  cls : Str
  fs : List (Str × D)
inductive Out (α : Type) where
  | ok (a : α) (S : Sto) | exc (x : Exn) (e : Ev) (S : Sto) | bad
def Out.bind {α β : Type} (o : Out α) (f : α → Sto → Out β) : Out β := match o with
  | .ok a S => f a S
  | .exc x e S => .exc x e S
  | .bad => .bad
@[simp] theorem bind_ok {α β : Type} (a : α) (S : Sto) (f : α → Sto → Out β) : (Out.ok a S).bind f = f a S := rfl
@[simp] theorem bind_exc {α β : Type} (x : Exn) (e : Ev) (S : Sto) (f : α → Sto → Out β) : (Out.exc x e S : Out α).bind f = .exc x e S := rfl
@[simp] theorem bind_bad {α β : Type} (f : α → Sto → Out β) : (Out.bad : Out α).bind f = .bad := rfl
/-- an exception may not leave a comprehension -/
def calm {α : Type} (o : Out α) : Out α := match o with
  | .exc _ _ _ => .bad
  | o => o
@[simp] theorem calm_ok {α : Type} (a : α) (S : Sto) : calm (.ok a S) = .ok a S := rfl
abbrev MEx := Ev → Sto → Out D
abbrev MTs := Ev → Sto → Out Bool
abbrev MAs := Ev → Sto → Out (List D)
inductive Fl where
  | nx (e : Ev) | rt (d : D) | bk (e : Ev) | ct (e : Ev)
abbrev MSt := Ev → Sto → Out Fl
/-- a def -/
abbrev Dn := List D → Sto → Out D

/-! what a value is -/
mutual
def toP : D → PyData
  | .non => .none
  | .bl b => .bool b
  | .int i => .int i
  | .str x => .str x
  | .tup xs => .tuple (toPs xs)
  | .lst xs => .list (toPs xs)
  | .loc _ => .dict []
  | .dct _ _ _ => .dict []
  | .clo _ _ => .dict []
def toPs : List D → List PyData
  | [] => []
  | x :: xs => toP x :: toPs xs
end
theorem toPs_map : ∀ xs, toPs xs = xs.map toP
  | [] => by simp [toPs]
  | x :: xs => by simp [toPs, toPs_map xs]
/-! data of at most so many floors, no locations, texts that are right -/
mutual
def fin : Nat → D → Bool
  | _, .non => true
  | _, .bl _ => true
  | _, .int _ => true
  | _, .str x => PyData.strOk x
  | n, .tup xs => match n with | 0 => false | n + 1 => finL n xs
  | n, .lst xs => match n with | 0 => false | n + 1 => finL n xs
  | _, .loc _ => false
  | _, .dct _ _ _ => false
  | _, .clo _ _ => false
def finL : Nat → List D → Bool
  | _, [] => true
  | n, x :: xs => fin n x && finL n xs
end
theorem finL_all (n : Nat) : ∀ xs, finL n xs = xs.all (fin n)
  | [] => by simp [finL]
  | x :: xs => by simp [finL, finL_all n xs]
/-! no closures within -/
mutual
def noClo : D → Bool
  | .clo _ _ => false
  | .tup xs => noCloL xs
  | .lst xs => noCloL xs
  | .dct _ ks vs => noCloL ks && noCloL vs
  | _ => true
def noCloL : List D → Bool
  | [] => true
  | x :: xs => noClo x && noCloL xs
end
/-! no location within from n0 on -/
mutual
def old (n0 : Nat) : D → Bool
  | .loc n => decide (n < n0)
  | .tup xs => oldL n0 xs
  | .lst xs => oldL n0 xs
  | .dct _ ks vs => oldL n0 ks && oldL n0 vs
  | .clo _ cs => oldL n0 cs
  | _ => true
def oldL (n0 : Nat) : List D → Bool
  | [] => true
  | x :: xs => old n0 x && oldL n0 xs
end
/-! what is returned: what was made since is frozen -/
mutual
def frzD (n0 : Nat) (g : Nat → Option D) : D → Option D
  | .loc n => if n < n0 then some (.loc n) else g n
  | .tup xs => (frzL n0 g xs).map .tup
  | .lst xs => (frzL n0 g xs).map .lst
  | .dct t ks vs => (frzL n0 g ks).bind fun ks => (frzL n0 g vs).map fun vs => .dct t ks vs
  | .clo k cs => if oldL n0 cs = true then some (.clo k cs) else none
  | d => some d
def frzL (n0 : Nat) (g : Nat → Option D) : List D → Option (List D)
  | [] => some []
  | x :: xs => (frzD n0 g x).bind fun x => (frzL n0 g xs).map fun xs => x :: xs
end
/-- the list at a location, as data -/
def rs (S : Sto) : D → D
  | .loc n => match S[n]? with
    | some (.list xs) => .lst xs
    | _ => .loc n
  | d => d
def lstOf (S : Sto) : D → Option (List D)
  | .lst xs => some xs
  | .loc n => match S[n]? with
    | some (.list xs) => some xs
    | _ => none
  | _ => none
def seqOf (S : Sto) : D → Option (List D)
  | .tup xs => some xs
  | d => lstOf S d
/-- == of data -/
def eqP (x y : D) : Bool := PyData.eqv (toP x) (toP y)
def deepN : Nat := 60
/-- a result that may lack; the store stays -/
def oo {α : Type} (S : Sto) : Option α → Out α
  | some a => .ok a S
  | none => .bad
@[simp] theorem oo_some {α : Type} (S : Sto) (a : α) : oo S (some a) = .ok a S := rfl
@[simp] theorem oo_none {α : Type} (S : Sto) : oo S (none : Option α) = .bad := rfl
def isStr : D → Bool
  | .str _ => true
  | _ => false
def oEq (S : Sto) (x y : D) : Option Bool := if isStr x = true ∧ isStr y = true then some (eqP x y) else if fin deepN (rs S x) = true ∧ fin deepN (rs S y) = true then some (eqP (rs S x) (rs S y)) else none
/-- the frozen thing at a location -/
def lookF (n0 : Nat) (S : Sto) : Nat → Nat → Option D
  | 0, _ => none
  | f + 1, n => match S[n]? with
    | some (.list xs) => (frzL n0 (lookF n0 S f) xs).map .lst
    | some (.dict kvs) => (frzL n0 (lookF n0 S f) (kvs.map (·.2))).map fun vs => .dct false (kvs.map (·.1)) vs
    | some (.map _ kvs) => if oldL n0 (kvs.map (·.1)) = true then (frzL n0 (lookF n0 S f) (kvs.map (·.2))).map fun vs => .dct true (kvs.map (·.1)) vs else none
    | _ => none
def frz (n0 : Nat) (S : Sto) (d : D) : Option D := frzD n0 (lookF n0 S 6) d
def truth (S : Sto) : D → Option Bool
  | .non => some false
  | .bl b => some b
  | .int i => some (i != 0)
  | .str x => if x.length ≤ sizeLine then some ((x.length : Int) != 0) else none
  | .tup xs => some (!xs.isEmpty)
  | .lst xs => some (!xs.isEmpty)
  | .loc n => match S[n]? with
    | some (.list xs) => some (!xs.isEmpty)
    | _ => none
  | _ => none

/-! keys of dicts: tuples, nested, of whole numbers, texts, None -/
mutual
def kOk : Nat → D → Bool
  | _, .non => true
  | _, .int _ => true
  | _, .str _ => true
  | n, .tup xs => match n with | 0 => false | n + 1 => kOkL n xs
  | _, _ => false
def kOkL : Nat → List D → Bool
  | _, [] => true
  | n, x :: xs => kOk n x && kOkL n xs
end
def keyOk : D → Bool
  | .tup xs => kOk 8 (.tup xs)
  | _ => false
/-! operators, by values -/
abbrev Op2 := Sto → D → D → Option D
def small (i : Int) : Prop := -(2 ^ 64) < i ∧ i < 2 ^ 64
instance (i : Int) : Decidable (small i) := inferInstanceAs (Decidable (_ ∧ _))
def oAdd : Op2 := fun S x y => match x, y with
  | .int i, .int j => some (.int (i + j))
  | .str a, .str b => if a.length + b.length ≤ sizeLine then some (.str (a ++ b)) else none
  | .tup a, .tup b => if a.length + b.length ≤ sizeLine then some (.tup (a ++ b)) else none
  | x, y => match lstOf S x, lstOf S y with
    | some a, some b => if a.length + b.length ≤ sizeLine then some (.lst (a ++ b)) else none
    | _, _ => none
def oSub : Op2 := fun _ x y => match x, y with
  | .int i, .int j => some (.int (i - j))
  | _, _ => none
def oMul : Op2 := fun _ x y => match x, y with
  | .int i, .int j => if small i ∨ small j then some (.int (i * j)) else none
  | .tup a, .int k => if a ≠ [] ∧ 2 ≤ k ∧ k ≤ 1000 ∧ a.length ≤ 1000 then some (.tup (List.replicate k.toNat a).flatten) else none
  | _, _ => none
def oFdiv : Op2 := fun _ x y => match x, y with
  | .int i, .int j => if 0 < j ∧ j < 1073741824 then some (.int (i / j)) else none
  | _, _ => none
def oMod : Op2 := fun _ x y => match x, y with
  | .int i, .int j => if 0 < j then some (.int (i % j)) else none
  | _, _ => none
def oPow : Op2 := fun _ x y => match x, y with
  | .int i, .int j => if 0 ≤ j ∧ j ≤ 1000000 ∧ i.natAbs < 2 ^ 64 then some (.int (i ^ j.toNat)) else none
  | _, _ => none
def cEq : Op2 := fun S x y => (oEq S x y).map .bl
def cNe : Op2 := fun S x y => (oEq S x y).map fun b => .bl (!b)
def cLt : Op2 := fun _ x y => match x, y with
  | .int i, .int j => some (.bl (decide (i < j)))
  | _, _ => none
def cLe : Op2 := fun _ x y => match x, y with
  | .int i, .int j => some (.bl (decide (i ≤ j)))
  | _, _ => none
def cGt : Op2 := fun _ x y => match x, y with
  | .int i, .int j => some (.bl (decide (j < i)))
  | _, _ => none
def cGe : Op2 := fun _ x y => match x, y with
  | .int i, .int j => some (.bl (decide (j ≤ i)))
  | _, _ => none
def flatD : D → Bool
  | .non => true
  | .bl _ => true
  | .int _ => true
  | .str _ => true
  | _ => false
def mapOf (S : Sto) : D → Option (List (D × D))
  | .dct true ks vs => some (ks.zip vs)
  | .loc n => match S[n]? with
    | some (.map _ kvs) => some kvs
    | _ => none
  | _ => none
def dctOf (S : Sto) : D → Option (List (D × D))
  | .dct false ks vs => some (ks.zip vs)
  | .loc n => match S[n]? with
    | some (.dict kvs) => some kvs
    | _ => none
  | _ => none
def isKey : D → Bool
  | .int _ => true
  | .str _ => true
  | _ => false
/-- x in a list of data, a tuple of flat things, a dict -/
def oIn (S : Sto) (x y : D) : Option Bool := match y with
  | .tup ys => if flatD x = true ∧ ys.all flatD = true then some (ys.any fun z => eqP z x) else none
  | y => match lstOf S y with
    | some ys => if fin deepN x = true ∧ finL deepN ys = true then some (ys.any fun z => eqP z x) else none
    | none => match mapOf S y with
      | some kvs => if keyOk x = true then some (kvs.any fun p => decide (p.1 = x)) else none
      | none => none
def cIn : Op2 := fun S x y => (oIn S x y).map .bl
def cNotIn : Op2 := fun S x y => (oIn S x y).map fun b => .bl (!b)
def cIsN : Op2 := fun _ x y => match y with
  | .non => some (.bl (decide (x = .non)))
  | _ => none
def cNotN : Op2 := fun _ x y => match y with
  | .non => some (.bl (!decide (x = .non)))
  | _ => none

/-! expressions -/
def mVar (i : Nat) : MEx := fun e S => match e[i]? with
  | some (some d) => .ok d S
  | _ => .bad
def mC (d : D) : MEx := fun _ S => .ok d S
def mOp (f : Op2) (a b : MEx) : MEx := fun e S => (a e S).bind fun x S => (b e S).bind fun y S => oo S (f S x y)
def mNeg (a : MEx) : MEx := fun e S => (a e S).bind fun x S => match x with
  | .int i => .ok (.int (-i)) S
  | _ => .bad
/-- a f b g c -/
def mChain (f g : Op2) (a b c : MEx) : MEx := fun e S => (a e S).bind fun x S => (b e S).bind fun y S => (oo S (f S x y)).bind fun r S => match r with
  | .bl true => (c e S).bind fun z S => oo S (g S y z)
  | .bl false => .ok (.bl false) S
  | _ => .bad
def mtVal (a : MEx) : MTs := fun e S => (a e S).bind fun x S => match x with
  | .bl b => .ok b S
  | _ => .bad
def mtTruth (a : MEx) : MTs := fun e S => (a e S).bind fun x S => match truth S x with
  | some b => .ok b S
  | none => .bad
def mtAnd (a b : MTs) : MTs := fun e S => (a e S).bind fun x S => if x = true then b e S else .ok false S
def mtOr (a b : MTs) : MTs := fun e S => (a e S).bind fun x S => if x = true then .ok true S else b e S
def mtNot (a : MTs) : MTs := fun e S => (a e S).bind fun x S => .ok (!x) S
def mAnd (a b : MEx) : MEx := fun e S => (a e S).bind fun x S => match x with
  | .bl true => b e S
  | .bl false => .ok (.bl false) S
  | _ => .bad
def mOr (a b : MEx) : MEx := fun e S => (a e S).bind fun x S => match x with
  | .bl true => .ok (.bl true) S
  | .bl false => b e S
  | _ => .bad
def mNot (a : MEx) : MEx := fun e S => (a e S).bind fun x S => match x with
  | .bl b => .ok (.bl (!b)) S
  | _ => .bad
def mIf (t : MTs) (a b : MEx) : MEx := fun e S => (t e S).bind fun x S => if x = true then a e S else b e S
def aNil : MAs := fun _ S => .ok [] S
def aCons (a : MEx) (r : MAs) : MAs := fun e S => (a e S).bind fun x S => (r e S).bind fun xs S => .ok (x :: xs) S
def aOf : List MEx → MAs
  | [] => aNil
  | m :: r => aCons m (aOf r)
def mTup (a : MAs) : MEx := fun e S => (a e S).bind fun xs S => if xs.length ≤ sizeLine then .ok (.tup xs) S else .bad
/-! new lists: their items; frozen (never changed again), or at a location of their own -/
def mFrz (l : MAs) : MEx := fun e S => (l e S).bind fun xs S => .ok (.lst xs) S
def mNew (l : MAs) : MEx := fun e S => (l e S).bind fun xs S => if noCloL xs = true then .ok (.loc S.length) (S ++ [.list xs]) else .bad
def lDisp (a : MAs) : MAs := fun e S => (a e S).bind fun xs S => if xs.length ≤ sizeLine then .ok xs S else .bad
def lCat (a b : MEx) : MAs := fun e S => (a e S).bind fun x S => (b e S).bind fun y S => match lstOf S x, lstOf S y with
  | some a, some b => if a.length + b.length ≤ sizeLine then .ok (a ++ b) S else .bad
  | _, _ => .bad
/-- a new list by a built-in -/
abbrev Ln := Sto → List D → Option (List D)
def lB (f : Ln) (a : MAs) : MAs := fun e S => (a e S).bind fun xs S => oo S (f S xs)
def fList : Ln := fun S xs => match xs with
  | [x] => seqOf S x
  | _ => none
/-- items by places -/
def ixN (n : Nat) (i : Int) : Option Nat :=
  if i < 0 then (if -(n : Int) ≤ i then some (i + n).toNat else none)
  else if i < n then some i.toNat else none
def dget (k : D) : List (D × D) → Option D
  | [] => none
  | (a, v) :: r => if a = k then some v else dget k r
def dput (k v : D) (kvs : List (D × D)) : List (D × D) :=
  if (kvs.any fun p => decide (p.1 = k)) = true then kvs.map (fun p => if p.1 = k then (p.1, v) else p) else kvs ++ [(k, v)]
def oIx : Op2 := fun S x y => match x with
  | .dct false _ _ => none
  | .dct true ks vs => if keyOk y = true then dget y (ks.zip vs) else none
  | .loc n => match S[n]? with
    | some (.dict kvs) => dget y kvs
    | some (.map _ kvs) => if keyOk y = true then dget y kvs else none
    | some (.list xs) => match y with
      | .int i => (ixN xs.length i).bind fun j => xs[j]?
      | _ => none
    | _ => none
  | x => match seqOf S x, y with
    | some xs, .int i => (ixN xs.length i).bind fun j => xs[j]?
    | _, _ => none
def mIx (a b : MEx) : MEx := mOp oIx a b
/-- where a slice's bound lies among n places; d: where none is told -/
def sIx (n d : Nat) (v : Option Int) : Nat := match v with
  | none => d
  | some v => if 0 ≤ v then min v.toNat n else (v + n).toNat
def cut (xs : List D) (lo hi : Option Int) : List D := (xs.drop (sIx xs.length 0 lo)).take (sIx xs.length xs.length hi - sIx xs.length 0 lo)
/-- an optional int -/
abbrev MOp := Ev → Sto → Out (Option Int)
def pNone : MOp := fun _ S => .ok none S
def pSome (a : MEx) : MOp := fun e S => (a e S).bind fun x S => match x with
  | .int i => .ok (some i) S
  | _ => .bad
def lSlice (a : MEx) (lo hi : MOp) : MAs := fun e S => (a e S).bind fun x S => (lo e S).bind fun l S => (hi e S).bind fun h S => match lstOf S x with
  | some xs => .ok (cut xs l h) S
  | none => .bad
/-- of a tuple -/
def mSlT (a : MEx) (lo hi : MOp) : MEx := fun e S => (a e S).bind fun x S => (lo e S).bind fun l S => (hi e S).bind fun h S => match x with
  | .tup xs => .ok (.tup (cut xs l h)) S
  | _ => .bad
/-- of a tuple or a list -/
def mSlA (a : MEx) (lo hi : MOp) : MEx := fun e S => (a e S).bind fun x S => (lo e S).bind fun l S => (hi e S).bind fun h S => match x with
  | .tup xs => .ok (.tup (cut xs l h)) S
  | x => match lstOf S x with
    | some xs => .ok (.lst (cut xs l h)) S
    | none => .bad
/-! calls -/
def mCall (f : Dn) (a : MAs) : MEx := fun e S => (a e S).bind fun xs S => match f xs S with
  | .ok d S => .ok d S
  | .exc x _ S => .exc x e S
  | .bad => .bad
abbrev Bn := Sto → List D → Option D
def mB (f : Bn) (a : MAs) : MEx := fun e S => (a e S).bind fun xs S => oo S (f S xs)
def bLen : Bn := fun S xs => match xs with
  | [.str x] => if x.length ≤ sizeLine then some (.int x.length) else none
  | [.loc n] => match S[n]? with
    | some (.list ys) => some (.int ys.length)
    | _ => none
  | [.tup ys] => some (.int ys.length)
  | [.lst ys] => some (.int ys.length)
  | _ => none
def boolsD : List D → Option (List Bool)
  | [] => some []
  | .bl b :: r => (boolsD r).map (b :: ·)
  | _ => none
def intsD : List D → Option (List Int)
  | [] => some []
  | .int b :: r => (intsD r).map (b :: ·)
  | _ => none
theorem boolsD_map : ∀ bs : List Bool, boolsD (bs.map .bl) = some bs
  | [] => rfl
  | b :: bs => by simp [boolsD, boolsD_map bs]
theorem intsD_map : ∀ bs : List Int, intsD (bs.map .int) = some bs
  | [] => rfl
  | b :: bs => by simp [intsD, intsD_map bs]
theorem intsD_some : ∀ {ds : List D} {bs : List Int}, intsD ds = some bs → ds = bs.map .int
  | [], bs, h => by simp [intsD] at h; subst h; rfl
  | d :: ds, bs, h => by
    cases d <;> simp [intsD] at h
    obtain ⟨r, h1, h2⟩ := h
    subst h2
    rw [intsD_some h1]; rfl
theorem boolsD_some : ∀ {ds : List D} {bs : List Bool}, boolsD ds = some bs → ds = bs.map .bl
  | [], bs, h => by simp [boolsD] at h; subst h; rfl
  | d :: ds, bs, h => by
    cases d <;> simp [boolsD] at h
    obtain ⟨r, h1, h2⟩ := h
    subst h2
    rw [boolsD_some h1]; rfl
def bAll : Bn := fun S xs => match xs with
  | [x] => ((lstOf S x).bind boolsD).map fun bs => .bl (bs.all id)
  | _ => none
def bAny : Bn := fun S xs => match xs with
  | [x] => ((lstOf S x).bind boolsD).map fun bs => .bl (bs.any id)
  | _ => none
def bTuple : Bn := fun S xs => match xs with
  | [x] => (seqOf S x).map .tup
  | _ => none
def sortI (ns : List Int) : List Int := ns.mergeSort (fun a b => decide (a ≤ b))
def fSortI : Ln := fun S xs => match xs with
  | [x] => ((lstOf S x).bind intsD).map fun ns => (sortI ns).map .int
  | _ => none
/-- each once -/
def once : List Int → List Int
  | [] => []
  | x :: xs => if x ∈ xs then once xs else x :: once xs
/-- sorted(set(x)) -/
def fSortSet : Ln := fun S xs => match xs with
  | [x] => match (lstOf S x).bind intsD with
    | some ns => if ns.length < 64 then some ((sortI (once ns)).map .int) else none
    | none => none
  | _ => none
def bInt : Bn := fun _ xs => match xs with
  | [.int i] => some (.int i)
  | _ => none
def bMin2 : Bn := fun _ xs => match xs with
  | [.int i, .int j] => some (.int (if j < i then j else i))
  | _ => none
def bMax2 : Bn := fun _ xs => match xs with
  | [.int i, .int j] => some (.int (if j > i then j else i))
  | _ => none
/-! repr of small data -/
mutual
def intsOk : D → Bool
  | .int i => decide (i.natAbs < 10 ^ 12)
  | .tup xs => intsOkL xs
  | .lst xs => intsOkL xs
  | _ => true
def intsOkL : List D → Bool
  | [] => true
  | x :: xs => intsOk x && intsOkL xs
end
mutual
def wt : D → Nat
  | .int _ => 41
  | .str x => x.cps.size
  | .tup xs => wtL xs
  | .lst xs => wtL xs
  | _ => 0
def wtL : List D → Nat
  | [] => 0
  | x :: xs => wt x + 1 + wtL xs
end
def shR (d : D) : Bool := fin deepN d && intsOk d && decide (wt d ≤ 100000)
def bRepr : Bn := fun S xs => match xs with
  | [x] => if shR (rs S x) = true then some (.str (toP (rs S x)).shown) else none
  | _ => none
/-- the built-in class of a value -/
def tyD (S : Sto) (x : D) : Option String := match x with
  | .non => some "NoneType"
  | .bl _ => some "bool"
  | .int _ => some "int"
  | .str _ => some "str"
  | .tup _ => some "tuple"
  | .lst _ => some "list"
  | .dct _ _ _ => none
  | .clo _ _ => none
  | .loc n => match S[n]? with
    | some (.list _) => some "list"
    | some (.dict _) => some "dict"
    | _ => none
def isAB (t c : String) : Bool := t == c || (t == "bool" && c == "int")
def isA (S : Sto) (x : D) (c : String) : Option Bool := (tyD S x).map fun t => isAB t c
def mIsA (c : String) (a : MEx) : MEx := fun e S => (a e S).bind fun x S => oo S ((isA S x c).map .bl)

/-! what is walked -/
structure Src where
  items : List D
  at_ : Option Nat
abbrev MSrc := Ev → Sto → Out Src
/-- the list that is walked stands as it was -/
def chk (r : Src) (S : Sto) : Bool := match r.at_ with
  | none => true
  | some n => decide (S[n]? = some (.list r.items))
def wSeq (a : MEx) : MSrc := fun e S => (a e S).bind fun x S => match x with
  | .tup xs => .ok ⟨xs, none⟩ S
  | .lst xs => .ok ⟨xs, none⟩ S
  | .loc n => match S[n]? with
    | some (.list xs) => .ok ⟨xs, some n⟩ S
    | _ => .bad
  | _ => .bad
def rng (lo : Int) (n : Nat) : List D := (List.range n).map fun (k : Nat) => .int (lo + (k : Int))
def wRng1 (a : MEx) : MSrc := fun e S => (a e S).bind fun x S => match x with
  | .int j => if -(2 ^ 62) ≤ j ∧ j < 2 ^ 62 then .ok ⟨rng 0 j.toNat, none⟩ S else .bad
  | _ => .bad
def wRng2 (a b : MEx) : MSrc := fun e S => (a e S).bind fun x S => (b e S).bind fun y S => match x, y with
  | .int i, .int j => if (-(2 ^ 62) ≤ i ∧ i < 2 ^ 62) ∧ (-(2 ^ 62) ≤ j ∧ j < 2 ^ 62) then .ok ⟨rng i (j - i).toNat, none⟩ S else .bad
  | _, _ => .bad
/-- enumerate -/
def enumD (xs : List D) : List D := (xs.zipIdx).map fun p => .tup [.int p.2, p.1]
def wEnum (a : MEx) : MSrc := fun e S => (a e S).bind fun x S => match x with
  | .tup xs => .ok ⟨enumD xs, none⟩ S
  | .lst xs => .ok ⟨enumD xs, none⟩ S
  | _ => .bad
def zipD (xs ys : List D) : List D := (xs.zip ys).map fun p => .tup [p.1, p.2]
def wZip (a b : MEx) : MSrc := fun e S => (a e S).bind fun x S => (b e S).bind fun y S => match x, y with
  | .tup xs, .tup ys => .ok ⟨zipD xs ys, none⟩ S
  | .lst xs, .lst ys => .ok ⟨zipD xs ys, none⟩ S
  | _, _ => .bad
/-! targets -/
inductive Pat where
  | nm (i : Nat) | tp (ps : List Pat)
mutual
def bindP : Pat → D → Ev → Option Ev
  | .nm i, d, e => some (e.set i (some d))
  | .tp ps, .tup ds, e => bindPs ps ds e
  | .tp _, _, _ => none
def bindPs : List Pat → List D → Ev → Option Ev
  | [], [], e => some e
  | p :: ps, d :: ds, e => match bindP p d e with
    | some e => bindPs ps ds e
    | none => none
  | _, _, _ => none
end
/-- the slots of a comprehension's own names are empty at each turn -/
def wipeE (e : Ev) : List Nat → Ev
  | [] => e
  | i :: r => (wipeE e r).set i none
def compGo (r : Src) (e : Ev) (p : Pat) (t : MTs) (f : MEx) : List D → Sto → Out (List D)
  | [], S => if chk r S = true then .ok [] S else .bad
  | x :: xs, S => if chk r S = true then match bindP p x e with
    | none => .bad
    | some e1 => (t e1 S).bind fun b S => if b = true then (f e1 S).bind fun y S => (compGo r e p t f xs S).bind fun ys S => .ok (y :: ys) S else compGo r e p t f xs S
    else .bad
def tYes : MTs := fun _ S => .ok true S
def lComp (s : MSrc) (own : List Nat) (p : Pat) (t : MTs) (f : MEx) : MAs := fun e S => (s e S).bind fun r S => if r.items.length < sizeLine then calm (compGo r (wipeE e own) p t f r.items S) else .bad
/-! statements -/
def sPass : MSt := fun e S => .ok (.nx e) S
def sSeq (a b : MSt) : MSt := fun e S => (a e S).bind fun f S => match f with
  | .nx e => b e S
  | f => .ok f S
def sAsg (p : Pat) (a : MEx) : MSt := fun e S => (a e S).bind fun d S => match bindP p d e with
  | some e => .ok (.nx e) S
  | none => .bad
def sEx (a : MEx) : MSt := fun e S => (a e S).bind fun _ S => .ok (.nx e) S
def sRet (a : MEx) : MSt := fun e S => (a e S).bind fun d S => .ok (.rt d) S
def sIf (t : MTs) (a b : MSt) : MSt := fun e S => (t e S).bind fun x S => if x = true then a e S else b e S
def oSet (S : Sto) (o i v : D) : Option Sto := if noClo v = true then match o with
  | .loc n => match S[n]? with
    | some (.list xs) => match i with
      | .int i => (ixN xs.length i).map fun j => S.set n (.list (xs.set j v))
      | _ => none
    | some (.dict kvs) => match i with
      | .str _ => if kvs.length < sizeLine then some (S.set n (.dict (dput i v kvs))) else none
      | .int _ => if kvs.length < sizeLine then some (S.set n (.dict (dput i v kvs))) else none
      | _ => none
    | some (.map false kvs) => if keyOk i = true ∧ kvs.length < sizeLine then some (S.set n (.map false (dput i v kvs))) else none
    | _ => none
  | _ => none
  else none
/-- o[i] = v -/
def sSet (o i v : MEx) : MSt := fun e S => (v e S).bind fun v S => (o e S).bind fun o S => (i e S).bind fun i S => match oSet S o i v with
  | some S => .ok (.nx e) S
  | none => .bad
/-- x op= e -/
def sAug (i : Nat) (f : Op2) (a : MEx) : MSt := fun e S => match e[i]? with
  | some (some x) => (a e S).bind fun y S => match f S x y with
    | some d => .ok (.nx (e.set i (some d))) S
    | none => .bad
  | _ => .bad
/-- o.append(v), as a value -/
def mAppend (o v : MEx) : MEx := fun e S => (o e S).bind fun o S => match lstOf S o with
  | none => .bad
  | some _ => (v e S).bind fun v S => match o with
    | .loc n => match S[n]? with
      | some (.list xs) => if xs.length < sizeLine ∧ noClo v = true then .ok .non (S.set n (.list (xs ++ [v]))) else .bad
      | _ => .bad
    | _ => .bad
def forGo (r : Src) (p : Pat) (b : MSt) : List D → Ev → Sto → Out Fl
  | [], e, S => if chk r S = true then .ok (.nx e) S else .bad
  | x :: xs, e, S => if chk r S = true then match bindP p x e with
    | none => .bad
    | some e1 => (b e1 S).bind fun f S => match f with
      | .nx e => forGo r p b xs e S
      | .ct e => forGo r p b xs e S
      | .bk e => .ok (.nx e) S
      | .rt d => .ok (.rt d) S
    else .bad
def sFor (s : MSrc) (p : Pat) (b : MSt) : MSt := fun e S => (s e S).bind fun r S => forGo r p b r.items e S
def whileGo (t : MTs) (b : MSt) : Nat → Ev → Sto → Out Fl
  | 0, _, _ => .bad
  | n + 1, e, S => (t e S).bind fun c S => if c = true then (b e S).bind fun f S => match f with
      | .nx e => whileGo t b n e S
      | .ct e => whileGo t b n e S
      | .bk e => .ok (.nx e) S
      | .rt d => .ok (.rt d) S
    else .ok (.nx e) S
def fuel : Nat := 1000000
def sWhile (t : MTs) (b : MSt) : MSt := fun e S => whileGo t b fuel e S
def sNever : MSt := fun _ _ => .bad
/-- a def of k parameters and n names besides -/
def mDef (k n : Nat) (b : MSt) : Dn := fun ds S => if ds.length = k then (b (ds.map some ++ List.replicate n none) S).bind fun f S => match f with
  | .rt d => .ok d S
  | .nx _ => .ok .non S
  | _ => .bad
  else .bad
/-- what a def's end leaves: what was made in it is frozen, or forgotten -/
def shut (n0 : Nat) (S0 : Sto) (d : D) (S : Sto) : Out D := if S.take n0 = S0 then match frz n0 S d with
    | some d => .ok d S0
    | none => .bad
  else .bad
/-- a def that changes nothing that stood -/
def mDefP (k n : Nat) (b : MSt) : Dn := fun ds S => if ds.length = k then match b (ds.map some ++ List.replicate n none) S with
    | .ok (.rt d) S' => shut S.length S d S'
    | .ok (.nx _) S' => shut S.length S .non S'
    | .exc x _ S' => if S'.take S.length = S ∧ oldL S.length (x.fs.map (·.2)) = true then .exc x [] S else .bad
    | _ => .bad
  else .bad
/-! exceptions -/
/-- raise c(a), kept under the name f (or not at all) -/
def sRaise (c : Str) (f : Option Str) (a : MEx) : MSt := fun e S => (a e S).bind fun d S => .exc ⟨c, match f with | some f => [(f, d)] | none => []⟩ e S
/-- the clauses: classes, suite, the name's slot -/
structure Hd where
  cs : List Str
  as_ : Option Nat
  m : Exn → MSt
def unE (i : Option Nat) (e : Ev) : Ev := match i with
  | some i => e.set i none
  | none => e
def hdGo (x : Exn) (e : Ev) (S : Sto) : List Hd → Out Fl
  | [] => .exc x e S
  | h :: r => if x.cls ∈ h.cs then (calm (h.m x (unE h.as_ e) S)).bind fun f S => match f with
      | .nx e => .ok (.nx (unE h.as_ e)) S
      | .bk e => .ok (.bk (unE h.as_ e)) S
      | .ct e => .ok (.ct (unE h.as_ e)) S
      | .rt d => .ok (.rt d) S
    else hdGo x e S r
/-- known: the classes of which it is known what they are -/
def sTry (known : List Str) (b : MSt) (hs : List Hd) : MSt := fun e S => match b e S with
  | .exc x e S => if x.cls ∈ known then hdGo x e S hs else .bad
  | o => o
/-- e.f of what was caught -/
def mFld (x : Exn) (f : Str) : MEx := fun _ S => oo S (x.fs.lookup f)
/-! closures -/
/-- what the names hold that a lambda takes along -/
def capE (e : Ev) : List Nat → Option (List D)
  | [] => some []
  | i :: r => match e[i]? with
    | some (some d) => (capE e r).map (d :: ·)
    | _ => none
/-- a lambda as an argument -/
def aLam (k : Nat) (caps : List Nat) (r : MAs) : MAs := fun e S => (r e S).bind fun xs S => match capE e caps with
  | some cs => if noCloL cs = true then .ok (.clo k cs :: xs) S else .bad
  | none => .bad
/-- x(e, ..) where x holds a closure -/
def mCallC (tab : Nat → Dn) (i : Nat) (a : MAs) : MEx := fun e S => match e[i]? with
  | some (some (.clo k cs)) => (a e S).bind fun xs S => if noCloL xs = true then (match tab k (cs ++ xs) S with
      | .ok d S => .ok d S
      | .exc x _ S => .exc x e S
      | .bad => .bad)
    else .bad
  | _ => .bad
/-- f(e, ..), lambdas among the arguments: no closure comes back -/
def mCallL (f : Dn) (a : MAs) : MEx := fun e S => (a e S).bind fun xs S => match f xs S with
  | .ok d S => if noClo d = true then .ok d S else .bad
  | .exc x _ S => if noCloL (x.fs.map (·.2)) = true then .exc x e S else .bad
  | .bad => .bad
/-- {k: v, ..} with texts as keys -/
def dictOf : List D → List (D × D)
  | k :: v :: r => (k, v) :: dictOf r
  | _ => []
def mDict (ks : List Str) (a : MAs) : MEx := fun e S => (calm (a e S)).bind fun vs S => if vs.length = ks.length ∧ ks.Nodup ∧ ks.length ≤ 15 ∧ noCloL vs = true then .ok (.loc S.length) (S ++ [.dict ((ks.map D.str).zip vs)]) else .bad
def oAddI : Op2 := fun _ x y => match x, y with
  | .int i, .int j => some (.int (i + j))
  | _, _ => none
end Mp
end SMpA

section SMpB
set_option Elab.async false
set_option linter.all false
set_option maxRecDepth 100000
open PySem PySem.Spec PyProof.Rows L2
namespace Mp
/-! ### how data stand in the heap -/
/-- a lambda of the text -/
structure LamC where
  params : Arguments
  body : Expr
  scope : Scope
  qual : Str
  caps : List Str
  ps : List Str
  more : List Str
structure Kw where
  f : PySem.W.Frag
  w : World
  tb : List (Addr × Str)
  lam : Nat → LamC
/-- the law's lambdas: the tables of their makers' code objects, by the written part and the module's names; the lambdas -/
class Lt where
  tabs : PySem.W.Frag → (Str → Option Value) → List (Addr × Str)
  lam : Nat → LamC
abbrev kwOf [Lt] (K : PySem.W.Frag) (w : World) (mg : Str → Option Value) : Kw := ⟨K, w, Lt.tabs K mg, Lt.lam⟩
end Mp
namespace L2
abbrev Cx.kw [Mp.Lt] (X : Cx) : Mp.Kw := Mp.kwOf X.K X.w X.mg
end L2
namespace Mp
def isTb : HO → Bool
  | .tbl _ => true
  | _ => false
def FunO (f : Addr) (o : Obj) : HO := .ext fun h => h.get? f = some o
/-- a cell that holds v -/
def CellH (H : Hp) (c : Addr) (v : V) : Prop := ∃ (o : Obj) (u : Value), H c = some (FunO c o) ∧ o.data = .cell (some u) ∧ RelV v u
/-- the cells of a closure -/
structure Cells (r z : List Addr) (H : Hp) (cl : List (Str × Addr)) (caps : List Str) (vs : List V) : Prop where
  inj x y c : cl.lookup x = some c → cl.lookup y = some c → x = y
  only : ∀ x c, cl.lookup x = some c → x ∈ caps
  len : caps.length = vs.length
  at_ : ∀ (i : Nat) (x : Str) (v : V), caps[i]? = some x → vs[i]? = some v → ∃ c, cl.lookup x = some c ∧ c ∉ r ∧ c ∉ z ∧ CellH H c v
def CloF (r z : List Addr) (H : Hp) (L : LamC) (cl : List (Str × Addr)) (f : Addr) : Prop := ∃ (c' : Addr) (pm ctv : Value), f ∉ r ∧ f ∉ z ∧ c' ∉ r ∧ c' ∉ z ∧
  H f = some (FunO f (PySem.W.kla_obj "<lambda>" L.qual L.params L.body L.scope cl pm c' ctv)) ∧ H c' = some (LamX.CodeO c' L.qual)
def FT (K : Kw) (r z : List Addr) (H : Hp) (a : Addr) (xs : List V) : Prop :=
  (Rd H a (.tup xs) ∧ a ∉ r ∧ a ∉ z) ∨ ∃ (o : Obj) (its : Array Value) (n : Nat), K.f.lookup a = some o ∧ o.cls = .type "tuple" ∧ o.data = .seq its n ∧ its.size ≤ sizeLine ∧ Vals xs its.toList
def FL (K : Kw) (r z : List Addr) (H : Hp) (a : Addr) (xs : List V) : Prop :=
  (Rd H a (.lst xs) ∧ a ∉ r ∧ a ∉ z) ∨ ∃ (o : Obj) (its : Array Value) (n : Nat), K.f.lookup a = some o ∧ o.cls = .type "list" ∧ o.dict = none ∧ o.data = .seq its n ∧ its.size ≤ sizeLine ∧ Vals xs its.toList
theorem FT.sq {K : Kw} {r z : List Addr} {H : Hp} {a : Addr} {xs : List V} (h : FT K r z H a xs) : SqT K.f H a xs := by
  rcases h with ⟨h, _⟩ | h
  · exact .inl h
  · exact .inr h
theorem FL.sq {K : Kw} {r z : List Addr} {H : Hp} {a : Addr} {xs : List V} (h : FL K r z H a xs) : SqL K.f H a xs := by
  rcases h with ⟨h, _⟩ | h
  · exact .inl h
  · exact .inr h
def keyD : Key → D
  | .inl i => .int i
  | .inr x => .str x
/-! dicts with tuple keys -/
mutual
def nk : D → NestedKey
  | .int i => .num i
  | .str x => .text x
  | .tup xs => .tup (nks xs)
  | _ => .none
def nks : List D → List NestedKey
  | [] => []
  | x :: xs => nk x :: nks xs
end
def entN (w : World) (x : NestedKey × Addr × Value) : DictEntry := ⟨x.1.hash w, .ref x.2.1, x.2.2⟩
def RelN (p : NestedKey × Addr × V) (q : NestedKey × Addr × Value) : Prop := p.1 = q.1 ∧ p.2.1 = q.2.1 ∧ RelV p.2.2 q.2.2
def NdIn (w : World) (a : Addr) (xs : List (NestedKey × Addr × V)) (h : Heap) : Prop := xs.length ≤ sizeLine ∧ (a == sysModules) = false ∧
  ∃ us : List (NestedKey × Addr × Value), Paired RelN xs us ∧ ∃ o es ep, h.get? a = some o ∧ o.ExactDict ∧ o.data = .dict es ep ∧ es.toList = us.map (entN w) ∧ (us.map (·.1)).Nodup
def ndO (w : World) (a : Addr) (xs : List (NestedKey × Addr × V)) : HO := .ext (NdIn w a xs)
mutual
def Rep (K : Kw) (r z : List Addr) (H : Hp) : D → V → Prop
  | .non, v => v = .non
  | .bl b, v => v = .bl b
  | .int i, v => v = .int i
  | .str x, v => v = .str x
  | .tup ds, v => ∃ a xs, v = .ref a ∧ FT K r z H a xs ∧ RepL K r z H ds xs
  | .lst ds, v => ∃ a xs, v = .ref a ∧ FL K r z H a xs ∧ RepL K r z H ds xs
  | .loc n, v => ∃ a, r[n]? = some a ∧ v = .ref a
  | .dct false ks vs, v => ∃ a o l xs, v = .ref a ∧ a ∉ r ∧ a ∉ z ∧ H a = some (.frz o (.dK l)) ∧ ks = l.map (fun p => keyD p.1) ∧ xs = l.map (·.2) ∧ RepL K r z H vs xs
  | .dct true ks vs, v => ∃ a o l bs xs, v = .ref a ∧ a ∉ r ∧ a ∉ z ∧ H a = some (.frz o (ndO K.w a l)) ∧ ks.all keyOk = true ∧ l.map (·.1) = ks.map nk ∧ bs = l.map (fun p => V.ref p.2.1) ∧ xs = l.map (·.2.2) ∧ RepL K r z H ks bs ∧ RepL K r z H vs xs
  | .clo k cs, v => ∃ f cl vs, v = .ref f ∧ noCloL cs = true ∧ CloF r z H (K.lam k) cl f ∧ Cells r z H cl (K.lam k).caps vs ∧ RepL K r z H cs vs
def RepL (K : Kw) (r z : List Addr) (H : Hp) : List D → List V → Prop
  | [], vs => vs = []
  | d :: ds, vs => ∃ v vs', vs = v :: vs' ∧ Rep K r z H d v ∧ RepL K r z H ds vs'
end
def RepD (K : Kw) (r z : List Addr) (H : Hp) : List (D × D) → List (Key × V) → Prop
  | [], l => l = []
  | p :: ps, l => ∃ k v l', l = (k, v) :: l' ∧ p.1 = keyD k ∧ Rep K r z H p.2 v ∧ RepD K r z H ps l'
def RepM (K : Kw) (r z : List Addr) (H : Hp) : List (D × D) → List (NestedKey × Addr × V) → Prop
  | [], l => l = []
  | p :: ps, l => ∃ b v l', l = (nk p.1, b, v) :: l' ∧ keyOk p.1 = true ∧ Rep K r z H p.1 (.ref b) ∧ Rep K r z H p.2 v ∧ RepM K r z H ps l'
def NdAt (w : World) (H : Hp) (a : Addr) (lk : Bool) (xs : List (NestedKey × Addr × V)) : Prop := if lk = true then ∃ o, H a = some (.frz o (ndO w a xs)) else H a = some (ndO w a xs)
/-- what stands at a location -/
def RepO (K : Kw) (r z : List Addr) (H : Hp) (a : Addr) : O → Prop
  | .list ds => noCloL ds = true ∧ ∃ xs, H a = some (.lst xs) ∧ RepL K r z H ds xs
  | .dict kvs => noCloL (kvs.map (·.2)) = true ∧ ∃ l, H a = some (.dK l) ∧ RepD K r z H kvs l
  | .map lk kvs => noCloL (kvs.map (·.2)) = true ∧ ∃ xs, NdAt K.w H a lk xs ∧ RepM K r z H kvs xs
  | .inst _ _ => False
/-- the tables of code objects -/
def TabR (r z : List Addr) (H : Hp) (P : Addr) (q : Str) : Prop := ∃ ps : Array Value, H P = some (.tbl ps) ∧ P ∉ r ∧ P ∉ z ∧ TriplesOk ps.toList ∧ ∀ (pos : Pos) (cv : Value), codeAmong pos ps.toList = some cv → ∃ c, cv = .ref c ∧ c ∉ r ∧ c ∉ z ∧ H c = some (LamX.CodeO c q)
structure RepS (K : Kw) (r z : List Addr) (H : Hp) (S : Sto) : Prop where
  len : r.length = S.length
  nd : r.Nodup
  ap : ∀ a ∈ r, a ∉ z
  zz : ∀ a ∈ z, H a ≠ none
  tb : ∀ p ∈ K.tb, TabR r z H p.1 p.2
  ob : ∀ (n : Nat) (o : O), S[n]? = some o → ∃ a, r[n]? = some a ∧ RepO K r z H a o
def RepE (K : Kw) (r z : List Addr) (H : Hp) (σ : L2.St) (e : Ev) : Prop :=
  σ.length = e.length ∧ ∀ (i : Nat) (d : D), e[i]? = some (some d) → ∃ v, σ[i]? = some (some v) ∧ Rep K r z H d v
structure All (K : Kw) (r z : List Addr) (H : Hp) (σ : L2.St) (e : Ev) (S : Sto) : Prop where
  s : RepS K r z H S
  e : RepE K r z H σ e
structure Step (r : List Addr) (H : Hp) (r' : List Addr) (H' : Hp) : Prop where
  keep : ∀ a o, H a = some o → a ∉ r → isTb o = false → H' a = some o
  more : ∃ l, r' = r ++ l ∧ ∀ a ∈ l, H a = none
  dom : ∀ a, H a ≠ none → H' a ≠ none
  frz : ∀ a o u, H a = some (.frz o u) → H' a = some (.frz o u)
theorem Step.refl (r : List Addr) (H : Hp) : Step r H r H := ⟨fun _ _ e _ _ => e, ⟨[], by simp, by simp⟩, fun _ h => h, fun _ _ _ h => h⟩
theorem Step.trans {r r1 r2 : List Addr} {H H1 H2 : Hp} (a : Step r H r1 H1) (b : Step r1 H1 r2 H2) : Step r H r2 H2 := by
  obtain ⟨l, rfl, hl⟩ := a.more
  obtain ⟨l2, rfl, hl2⟩ := b.more
  refine ⟨fun x o e n t => b.keep x o (a.keep x o e n t) (fun m => ?_) t, ⟨l ++ l2, by simp, fun x m => ?_⟩, fun x h => b.dom x (a.dom x h), fun x o u h => b.frz x o u (a.frz x o u h)⟩
  · rcases List.mem_append.mp m with m | m
    · exact n m
    · rw [hl x m] at e; cases e
  · rcases List.mem_append.mp m with m | m
    · exact hl x m
    · cases q : H x with
      | none => rfl
      | some o => exact absurd (hl2 x m) (a.dom x (by rw [q]; exact fun z => nomatch z))
section
variable {K : Kw} {r r' z : List Addr} {H H' : Hp}
theorem Step.pre (st : Step r H r' H') {n : Nat} {a : Addr} (h : r[n]? = some a) : r'[n]? = some a := by
  obtain ⟨l, rfl, _⟩ := st.more
  have := (List.getElem?_eq_some_iff.mp h).1
  rw [List.getElem?_append_left this]; exact h
theorem Step.out (st : Step r H r' H') {a : Addr} {o : HO} (h : H a = some o) (n : a ∉ r) : a ∉ r' := by
  obtain ⟨l, rfl, hl⟩ := st.more
  intro m
  rcases List.mem_append.mp m with m | m
  · exact n m
  · rw [hl a m] at h; cases h
theorem FT.step {a : Addr} {xs : List V} (st : Step r H r' H') (h : FT K r z H a xs) : FT K r' z H' a xs := by
  rcases h with ⟨h, n1, n2⟩ | h
  · rcases h with h | ⟨o, h⟩
    · exact .inl ⟨.inl (st.keep _ _ h n1 rfl), st.out h n1, n2⟩
    · exact .inl ⟨.inr ⟨o, st.keep _ _ h n1 rfl⟩, st.out h n1, n2⟩
  · exact .inr h
theorem FL.step {a : Addr} {xs : List V} (st : Step r H r' H') (h : FL K r z H a xs) : FL K r' z H' a xs := by
  rcases h with ⟨h, n1, n2⟩ | h
  · rcases h with h | ⟨o, h⟩
    · exact .inl ⟨.inl (st.keep _ _ h n1 rfl), st.out h n1, n2⟩
    · exact .inl ⟨.inr ⟨o, st.keep _ _ h n1 rfl⟩, st.out h n1, n2⟩
  · exact .inr h
theorem CloF.step {L : LamC} {cl : List (Str × Addr)} {f : Addr} (st : Step r H r' H') (h : CloF r z H L cl f) : CloF r' z H' L cl f := by
  obtain ⟨c', pm, ctv, n1, n2, n3, n4, h1, h2⟩ := h
  exact ⟨c', pm, ctv, st.out h1 n1, n2, st.out h2 n3, n4, st.keep _ _ h1 n1 rfl, st.keep _ _ h2 n3 rfl⟩
theorem Cells.step {cl : List (Str × Addr)} {caps : List Str} {vs : List V} (st : Step r H r' H') (h : Cells r z H cl caps vs) : Cells r' z H' cl caps vs :=
  ⟨h.inj, h.only, h.len, fun i x v e1 e2 => by
    obtain ⟨c, h1, h2, h3, o, u, h4, h5⟩ := h.at_ i x v e1 e2
    exact ⟨c, h1, st.out h4 h2, h3, o, u, st.keep _ _ h4 h2 rfl, h5⟩⟩
mutual
theorem Rep.step (st : Step r H r' H') : ∀ (d : D) (v : V), Rep K r z H d v → Rep K r' z H' d v
  | .non, v, h => by rw [Rep] at h ⊢; exact h
  | .bl b, v, h => by rw [Rep] at h ⊢; exact h
  | .int i, v, h => by rw [Rep] at h ⊢; exact h
  | .str x, v, h => by rw [Rep] at h ⊢; exact h
  | .tup ds, v, h => by
    rw [Rep] at h ⊢
    obtain ⟨a, xs, e, f, l⟩ := h
    exact ⟨a, xs, e, f.step st, RepL.step st ds xs l⟩
  | .lst ds, v, h => by
    rw [Rep] at h ⊢
    obtain ⟨a, xs, e, f, l⟩ := h
    exact ⟨a, xs, e, f.step st, RepL.step st ds xs l⟩
  | .loc n, v, h => by
    rw [Rep] at h ⊢
    obtain ⟨a, e, q⟩ := h
    exact ⟨a, st.pre e, q⟩
  | .dct false ks vs, v, h => by
    rw [Rep] at h ⊢
    obtain ⟨a, o, l, xs, e, n1, n2, h1, h2, h3, h4⟩ := h
    exact ⟨a, o, l, xs, e, st.out h1 n1, n2, st.keep _ _ h1 n1 rfl, h2, h3, RepL.step st vs xs h4⟩
  | .dct true ks vs, v, h => by
    rw [Rep] at h ⊢
    obtain ⟨a, o, l, bs, xs, e, n1, n2, h1, h2, h3, h4, h5, h6, h7⟩ := h
    exact ⟨a, o, l, bs, xs, e, st.out h1 n1, n2, st.keep _ _ h1 n1 rfl, h2, h3, h4, h5, RepL.step st ks bs h6, RepL.step st vs xs h7⟩
  | .clo k cs, v, h => by
    rw [Rep] at h ⊢
    obtain ⟨f, cl, vs, e, h0, h1, h2, h3⟩ := h
    exact ⟨f, cl, vs, e, h0, h1.step st, h2.step st, RepL.step st cs vs h3⟩
theorem RepL.step (st : Step r H r' H') : ∀ (ds : List D) (vs : List V), RepL K r z H ds vs → RepL K r' z H' ds vs
  | [], vs, h => by rw [RepL] at h ⊢; exact h
  | d :: ds, vs, h => by
    rw [RepL] at h ⊢
    obtain ⟨v, vs', e, h1, h2⟩ := h
    exact ⟨v, vs', e, Rep.step st d v h1, RepL.step st ds vs' h2⟩
end
theorem RepD.step (st : Step r H r' H') : ∀ {kvs : List (D × D)} {l : List (Key × V)}, RepD K r z H kvs l → RepD K r' z H' kvs l
  | [], l, h => h
  | p :: ps, l, h => by
    obtain ⟨k, v, l', e, h1, h2, h3⟩ := h
    exact ⟨k, v, l', e, h1, Rep.step st _ _ h2, RepD.step st h3⟩
theorem RepM.step (st : Step r H r' H') : ∀ {kvs : List (D × D)} {l : List (NestedKey × Addr × V)}, RepM K r z H kvs l → RepM K r' z H' kvs l
  | [], l, h => h
  | p :: ps, l, h => by
    obtain ⟨b, v, l', e, h1, h2, h3, h4⟩ := h
    exact ⟨b, v, l', e, h1, Rep.step st _ _ h2, Rep.step st _ _ h3, RepM.step st h4⟩
theorem RepE.step {σ : L2.St} {e : Ev} (st : Step r H r' H') (h : RepE K r z H σ e) : RepE K r' z H' σ e :=
  ⟨h.1, fun i d q => let ⟨v, h1, h2⟩ := h.2 i d q; ⟨v, h1, h2.step st⟩⟩
theorem RepE.set {σ : L2.St} {e : Ev} {d : D} {v : V} (h : RepE K r z H σ e) (i : Nat) (q : Rep K r z H d v) : RepE K r z H (σ.set i (some v)) (e.set i (some d)) := by
  refine ⟨by simp [h.1], fun j d' hj => ?_⟩
  by_cases hi : i = j
  · subst hi
    have hl : i < e.length := by
      have := (List.getElem?_eq_some_iff.mp hj).1
      simpa using this
    rw [List.getElem?_set_self hl] at hj
    cases hj
    exact ⟨v, List.getElem?_set_self (by rw [h.1]; exact hl), q⟩
  · rw [List.getElem?_set_ne hi] at hj
    obtain ⟨w, h1, h2⟩ := h.2 j d' hj
    exact ⟨w, by rw [List.getElem?_set_ne hi]; exact h1, h2⟩
theorem RepE.none {σ : L2.St} {e : Ev} (h : RepE K r z H σ e) (i : Nat) (o : Option V) : RepE K r z H (σ.set i o) (e.set i none) := by
  refine ⟨by simp [h.1], fun j d' hj => ?_⟩
  by_cases hi : i = j
  · subst hi
    have hl : i < e.length := by
      have := (List.getElem?_eq_some_iff.mp hj).1
      simpa using this
    rw [List.getElem?_set_self hl] at hj
    cases hj
  · rw [List.getElem?_set_ne hi] at hj
    obtain ⟨w, h1, h2⟩ := h.2 j d' hj
    exact ⟨w, by rw [List.getElem?_set_ne hi]; exact h1, h2⟩
theorem RepL.length : ∀ {ds : List D} {vs : List V}, RepL K r z H ds vs → ds.length = vs.length
  | [], vs, h => by rw [RepL] at h; subst h; rfl
  | d :: ds, vs, h => by
    rw [RepL] at h
    obtain ⟨v, vs', rfl, _, h2⟩ := h
    simp [RepL.length h2]
theorem RepL.get : ∀ {ds : List D} {vs : List V} {i : Nat} {v : V}, RepL K r z H ds vs → vs[i]? = some v → ∃ d, ds[i]? = some d ∧ Rep K r z H d v
  | [], vs, i, v, h, e => by rw [RepL] at h; subst h; simp at e
  | d :: ds, vs, i, v, h, e => by
    rw [RepL] at h
    obtain ⟨w, vs', rfl, h1, h2⟩ := h
    cases i with
    | zero => simp at e; subst e; exact ⟨d, by simp, h1⟩
    | succ i =>
      obtain ⟨d', q1, q2⟩ := RepL.get (i := i) (v := v) h2 (by simpa using e)
      exact ⟨d', by simpa using q1, q2⟩
theorem RepL.got : ∀ {ds : List D} {vs : List V} {i : Nat} {d : D}, RepL K r z H ds vs → ds[i]? = some d → ∃ v, vs[i]? = some v ∧ Rep K r z H d v
  | [], vs, i, v, h, e => by simp at e
  | d :: ds, vs, i, d', h, e => by
    rw [RepL] at h
    obtain ⟨w, vs', rfl, h1, h2⟩ := h
    cases i with
    | zero => simp at e; subst e; exact ⟨w, by simp, h1⟩
    | succ i =>
      obtain ⟨v', q1, q2⟩ := RepL.got (i := i) (d := d') h2 (by simpa using e)
      exact ⟨v', by simpa using q1, q2⟩
theorem RepL.cons {d : D} {ds : List D} {v : V} {vs : List V} (h1 : Rep K r z H d v) (h2 : RepL K r z H ds vs) : RepL K r z H (d :: ds) (v :: vs) := by
  rw [RepL]; exact ⟨v, vs, rfl, h1, h2⟩
theorem RepL.nil : RepL K r z H [] [] := by rw [RepL]
theorem RepL.append : ∀ {ds es : List D} {vs ws : List V}, RepL K r z H ds vs → RepL K r z H es ws → RepL K r z H (ds ++ es) (vs ++ ws)
  | [], es, vs, ws, h, q => by rw [RepL] at h; subst h; exact q
  | d :: ds, es, vs, ws, h, q => by
    rw [RepL] at h
    obtain ⟨w, vs', rfl, h1, h2⟩ := h
    exact (h2.append q).cons h1
theorem RepL.take : ∀ {ds : List D} {vs : List V} (n : Nat), RepL K r z H ds vs → RepL K r z H (ds.take n) (vs.take n)
  | _, _, 0, _ => by simp; exact RepL.nil
  | [], vs, n + 1, h => by rw [RepL] at h; subst h; simp; exact RepL.nil
  | d :: ds, vs, n + 1, h => by
    rw [RepL] at h
    obtain ⟨w, vs', rfl, h1, h2⟩ := h
    exact (h2.take n).cons h1
theorem RepL.drop : ∀ {ds : List D} {vs : List V} (n : Nat), RepL K r z H ds vs → RepL K r z H (ds.drop n) (vs.drop n)
  | _, _, 0, h => h
  | [], vs, n + 1, h => by rw [RepL] at h; subst h; simp; exact RepL.nil
  | d :: ds, vs, n + 1, h => by
    rw [RepL] at h
    obtain ⟨w, vs', rfl, h1, h2⟩ := h
    exact h2.drop n
theorem RepL.set : ∀ {ds : List D} {vs : List V} {d : D} {v : V} (n : Nat), RepL K r z H ds vs → Rep K r z H d v → RepL K r z H (ds.set n d) (vs.set n v)
  | [], vs, d, v, n, h, q => by rw [RepL] at h; subst h; simp; exact RepL.nil
  | d' :: ds, vs, d, v, 0, h, q => by
    rw [RepL] at h
    obtain ⟨w, vs', rfl, h1, h2⟩ := h
    exact h2.cons q
  | d' :: ds, vs, d, v, n + 1, h, q => by
    rw [RepL] at h
    obtain ⟨w, vs', rfl, h1, h2⟩ := h
    exact (h2.set n q).cons h1
theorem repI (i : Int) : Rep K r z H (.int i) (.int i) := by rw [Rep]
theorem repB (b : Bool) : Rep K r z H (.bl b) (.bl b) := by rw [Rep]
theorem repS (x : Str) : Rep K r z H (.str x) (.str x) := by rw [Rep]
theorem repN : Rep K r z H .non .non := by rw [Rep]
end
end Mp
end SMpB

section SMpC
set_option Elab.async false
set_option linter.all false
set_option maxRecDepth 100000
open PySem PySem.Spec PyProof.Rows L2
namespace Mp
variable [Lt]
/-- an exception, its class, its own dict -/
def RepX (K : Kw) (G : Str → Option Value) (r z : List Addr) (H : Hp) (x : Exn) (cls : Value) (d : Option Addr) : Prop :=
  ∃ C, G x.cls = some (.ref C) ∧ cls = .ref C ∧ ((x.fs = [] ∧ d = none) ∨ ∃ p vs, d = some p ∧ p ∉ r ∧ p ∉ z ∧ H p = some (.xd ((x.fs.map (·.1)).zip vs)) ∧ RepL K r z H (x.fs.map (·.2)) vs)
abbrev KP (β : Type) := List Addr → Hp → β → Sto → Prop
abbrev XP := List Addr → Hp → Exn → Ev → Sto → Prop
def Fin {β : Type} (r : List Addr) (H : Hp) (o : Out β) (kp : KP β) (xp : XP) : Prop := match o with
  | .ok b S => ∀ r' H', Step r H r' H' → kp r' H' b S
  | .exc x e S => ∀ r' H', Step r H r' H' → xp r' H' x e S
  | .bad => False
theorem Fin.step {β : Type} {r r' : List Addr} {H H' : Hp} {o : Out β} {kp : KP β} {xp : XP} (st : Step r H r' H') (h : Fin r H o kp xp) : Fin r' H' o kp xp := by
  cases o with
  | ok b S => exact fun r2 H2 st2 => h r2 H2 (st.trans st2)
  | exc x e S => exact fun r2 H2 st2 => h r2 H2 (st.trans st2)
  | bad => exact h
def xpG (K : Kw) (G : Str → Option Value) (z : List Addr) (W : WX) : XP := fun r H x e S => ∀ σ cls d, All K r z H σ e S → RepX K G r z H x cls d → W cls d σ H
def kE (K : Kw) (z : List Addr) (Q : VK) : KP D := fun r H d S => RepS K r z H S → ∀ v, Rep K r z H d v → Q v H
def kB (K : Kw) (z : List Addr) (Q : Bool → Hp → Prop) : KP Bool := fun r H b S => RepS K r z H S → Q b H
def kA (K : Kw) (z : List Addr) (Q : List V → Hp → Prop) : KP (List D) := fun r H ds S => RepS K r z H S → ∀ vs, RepL K r z H ds vs → Q vs H
def kS (K : Kw) (z : List Addr) (D : Ends) : KP Fl := fun r H f S => match f with
  | .nx e => ∀ σ, All K r z H σ e S → D.nx σ H
  | .bk e => ∀ σ, All K r z H σ e S → D.bk σ H
  | .ct e => ∀ σ, All K r z H σ e S → D.ct σ H
  | .rt d => RepS K r z H S → ∀ v, Rep K r z H d v → D.rt v H
def tM (K : Kw) (G : Str → Option Value) (W : WX) (m : MEx) : TE := fun σ H Q => ∃ r z e S, All K r z H σ e S ∧ Fin r H (m e S) (kE K z Q) (xpG K G z W)
def ttM (K : Kw) (G : Str → Option Value) (W : WX) (m : MTs) : TT := fun σ H Q => ∃ r z e S, All K r z H σ e S ∧ Fin r H (m e S) (kB K z Q) (xpG K G z W)
def taM (K : Kw) (G : Str → Option Value) (W : WX) (m : MAs) : TA := fun σ H Q => ∃ r z e S, All K r z H σ e S ∧ Fin r H (m e S) (kA K z Q) (xpG K G z W)
def tsM (K : Kw) (G : Str → Option Value) (W : WX) (m : MSt) : TS := fun D σ H => ∃ r z e S, All K r z H σ e S ∧ Fin r H (m e S) (kS K z D) (xpG K G z W)
def PEv (X : Cx) (W : WX) (ex : Expr) (m : MEx) : Prop := PE X ex (tM X.kw X.mg W m)
def PTv (X : Cx) (W : WX) (ex : Expr) (m : MTs) : Prop := PT X ex (ttM X.kw X.mg W m)
def PWv (X : Cx) (W : WX) (ex : Expr) (m : MTs) : Prop := PW X ex (ttM X.kw X.mg W m)
def PAv (X : Cx) (W : WX) (es : List Expr) (m : MAs) : Prop := PA X es (taM X.kw X.mg W m)
def PSv (X : Cx) (W : WX) (st : Stmt) (m : MSt) : Prop := PS X st (tsM X.kw X.mg W m)
def PSsv (X : Cx) (W : WX) (st : List Stmt) (m : MSt) : Prop := PSs X st (tsM X.kw X.mg W m)
section
variable {X : Cx} {W : WX} {β : Type} {pins : List (Addr × Obj)} {s : Shared} {σ : L2.St} {H : Hp} {r z : List Addr} {e : Ev} {S : Sto} {kp : KP β}
theorem PEv.go {ex : Expr} {m : MEx} (h : PEv X W ex m) {f : D → Sto → Out β} {Post : Value → Shared → Prop} (I : Inv X pins σ H s) (A : All X.kw r z H σ e S) (F : Fin r H ((m e S).bind f) kp (xpG X.kw X.mg z W))
    (k : ∀ u v r1 H1 s1 d S1, Step r H r1 H1 → Inv X pins σ H1 s1 → RelV v u → All X.kw r1 z H1 σ e S1 → Rep X.kw r1 z H1 d v → Fin r1 H1 (f d S1) kp (xpG X.kw X.mg z W) → Post u s1) :
    wpAny (model X.prog X.w) X.A (eval ex X.env) Post X.xe s := by
  refine thn (h.run pins s σ H (fun v H1 => ∃ r1 d S1, Step r H r1 H1 ∧ All X.kw r1 z H1 σ e S1 ∧ Rep X.kw r1 z H1 d v ∧ Fin r1 H1 (f d S1) kp (xpG X.kw X.mg z W)) I ⟨r, z, e, S, A, ?_⟩) ?_
  · cases q : m e S with
    | ok d S1 =>
      rw [q] at F
      exact fun r1 H1 st rs v rv => ⟨r1, d, S1, st, ⟨rs, A.e.step st⟩, rv, Fin.step st F⟩
    | exc x e' S1 => rw [q] at F; exact F
    | bad => rw [q] at F; exact F
  · rintro u s1 ⟨v, H1, I1, rv, r1, d, S1, st, A1, R1, F1⟩
    exact k u v r1 H1 s1 d S1 st I1 rv A1 R1 F1
theorem PTv.go {ex : Expr} {m : MTs} (h : PTv X W ex m) {f : Bool → Sto → Out β} {Post : Bool → Shared → Prop} (I : Inv X pins σ H s) (A : All X.kw r z H σ e S) (F : Fin r H ((m e S).bind f) kp (xpG X.kw X.mg z W))
    (k : ∀ b r1 H1 s1 S1, Step r H r1 H1 → Inv X pins σ H1 s1 → All X.kw r1 z H1 σ e S1 → Fin r1 H1 (f b S1) kp (xpG X.kw X.mg z W) → Post b s1) :
    wpAny (model X.prog X.w) X.A (isTrue ex X.env (eval ex X.env)) Post X.xe s := by
  refine thn (h.run pins s σ H (fun b H1 => ∃ r1 S1, Step r H r1 H1 ∧ All X.kw r1 z H1 σ e S1 ∧ Fin r1 H1 (f b S1) kp (xpG X.kw X.mg z W)) I ⟨r, z, e, S, A, ?_⟩) ?_
  · cases q : m e S with
    | ok d S1 =>
      rw [q] at F
      exact fun r1 H1 st rs => ⟨r1, S1, st, ⟨rs, A.e.step st⟩, Fin.step st F⟩
    | exc x e' S1 => rw [q] at F; exact F
    | bad => rw [q] at F; exact F
  · rintro b s1 ⟨H1, I1, r1, S1, st, A1, F1⟩
    exact k b r1 H1 s1 S1 st I1 A1 F1
theorem PWv.go {ex : Expr} {m : MTs} (h : PWv X W ex m) {f : Bool → Sto → Out β} {Post : Bool → Shared → Prop} {wh : Sem Value} (I : Inv X pins σ H s) (A : All X.kw r z H σ e S) (F : Fin r H ((m e S).bind f) kp (xpG X.kw X.mg z W))
    (k : ∀ b r1 H1 s1 S1, Step r H r1 H1 → Inv X pins σ H1 s1 → All X.kw r1 z H1 σ e S1 → Fin r1 H1 (f b S1) kp (xpG X.kw X.mg z W) → Post b s1) :
    wpAny (model X.prog X.w) X.A (isTrue ex X.env wh) Post X.xe s := by
  refine thn (h.run wh pins s σ H (fun b H1 => ∃ r1 S1, Step r H r1 H1 ∧ All X.kw r1 z H1 σ e S1 ∧ Fin r1 H1 (f b S1) kp (xpG X.kw X.mg z W)) I ⟨r, z, e, S, A, ?_⟩) ?_
  · cases q : m e S with
    | ok d S1 =>
      rw [q] at F
      exact fun r1 H1 st rs => ⟨r1, S1, st, ⟨rs, A.e.step st⟩, Fin.step st F⟩
    | exc x e' S1 => rw [q] at F; exact F
    | bad => rw [q] at F; exact F
  · rintro b s1 ⟨H1, I1, r1, S1, st, A1, F1⟩
    exact k b r1 H1 s1 S1 st I1 A1 F1
theorem PAv.go {es : List Expr} {m : MAs} (h : PAv X W es m) {pos : Pos} {f : List D → Sto → Out β} {Post : List Value → Shared → Prop} (I : Inv X pins σ H s) (A : All X.kw r z H σ e S) (F : Fin r H ((m e S).bind f) kp (xpG X.kw X.mg z W))
    (k : ∀ us vs r1 H1 s1 ds S1, Step r H r1 H1 → Inv X pins σ H1 s1 → Vals vs us → All X.kw r1 z H1 σ e S1 → RepL X.kw r1 z H1 ds vs → Fin r1 H1 (f ds S1) kp (xpG X.kw X.mg z W) → Post us s1) :
    wpAny (model X.prog X.w) X.A (spliced (backTo pos (starEach es X.env))) Post X.xe s := by
  refine thn (h.run pos pins s σ H (fun vs H1 => ∃ r1 ds S1, Step r H r1 H1 ∧ All X.kw r1 z H1 σ e S1 ∧ RepL X.kw r1 z H1 ds vs ∧ Fin r1 H1 (f ds S1) kp (xpG X.kw X.mg z W)) I ⟨r, z, e, S, A, ?_⟩) ?_
  · cases q : m e S with
    | ok d S1 =>
      rw [q] at F
      exact fun r1 H1 st rs v rv => ⟨r1, d, S1, st, ⟨rs, A.e.step st⟩, rv, Fin.step st F⟩
    | exc x e' S1 => rw [q] at F; exact F
    | bad => rw [q] at F; exact F
  · rintro u s1 ⟨v, H1, I1, rv, r1, d, S1, st, A1, R1, F1⟩
    exact k u v r1 H1 s1 d S1 st I1 rv A1 R1 F1
theorem fin_E {Q : VK} {d : D} {v : V} {u : Value} (I : Inv X pins σ H s) (rs : RepS X.kw r z H S) (rv : Rep X.kw r z H d v) (ru : RelV v u) {xp : XP} (F : Fin r H (.ok d S) (kE X.kw z Q) xp) : EP X pins σ Q u s :=
  ⟨v, H, I, ru, F r H (Step.refl r H) rs v rv⟩
/-! names, constants -/
theorem pev_var (i : Nat) {x : Str} {pos : Pos} (hN : X.N[i]? = some x := by rfl) (hv : Vis X.env.scope x := by first | exact Or.inl rfl | exact Or.inr (Or.inl rfl) | exact Or.inr (Or.inr rfl)) (hd : (x == ("__debug__" : Str)) = false := by decide)
    (hcd : (x == ("__classdict__" : Str)) = false := by decide) : PEv X W (.Name x pos) (mVar i) := by
  refine ⟨fun pins s σ H Q I ⟨r, z, e, S, A, F⟩ => ?_⟩
  refine (pe_var hN hv hd hcd).run pins s σ H Q I ?_
  unfold mVar at F
  cases q : e[i]? with
  | none => rw [q] at F; exact F.elim
  | some o =>
    cases o with
    | none => rw [q] at F; exact F.elim
    | some d =>
      rw [q] at F
      obtain ⟨v, h1, h2⟩ := A.e.2 i d q
      exact ⟨v, h1, F r H (Step.refl r H) A.s v h2⟩
theorem pev_c {ex : Expr} {v : V} {d : D} (h : PE X ex (tC v)) (hr : ∀ r z H, Rep X.kw r z H d v) : PEv X W ex (mC d) :=
  ⟨fun pins s σ H Q I ⟨r, z, e, S, A, F⟩ => h.run pins s σ H Q I (F r H (Step.refl r H) A.s v (hr r z H))⟩
theorem pev_int {i j pos} : PEv X W (.Constant (.int i) j pos) (mC (.int i)) := pev_c pe_int fun _ _ _ => repI i
theorem pev_bl {i j pos} : PEv X W (.Constant (.bool i) j pos) (mC (.bl i)) := pev_c pe_bl fun _ _ _ => repB i
theorem pev_str {i j pos} : PEv X W (.Constant (.str i) j pos) (mC (.str i)) := pev_c pe_str fun _ _ _ => repS i
theorem pev_non {j pos} : PEv X W (.Constant .none j pos) (mC .non) := pev_c pe_non fun _ _ _ => repN
/-- a module's constant int -/
theorem pev_gint {x : Str} {i : Int} {t : Tok} {pos : Pos} (hg : Gl X x) (hm : X.mg x = some (.int i t)) (hd : (x == ("__debug__" : Str)) = false := by decide) : PEv X W (.Name x pos) (mC (.int i)) :=
  pev_c (v := .int i) (pe_glob hg hm ⟨_, rfl⟩ hd) fun _ _ _ => repI i
theorem pev_gstr {x : Str} {i : Str} {t : Tok} {pos : Pos} (hg : Gl X x) (hm : X.mg x = some (.str i t)) (hd : (x == ("__debug__" : Str)) = false := by decide) : PEv X W (.Name x pos) (mC (.str i)) :=
  pev_c (v := .str i) (pe_glob hg hm ⟨_, rfl⟩ hd) fun _ _ _ => repS i
end
/-! ### new objects -/
section
variable {K : Kw} {r z : List Addr} {H : Hp} {S : Sto} {p : Addr} {o : HO}
theorem Step.upd (h : H p = none) : Step r H r (L2.upd H p o) :=
  ⟨fun a x e _ _ => by rw [upd_ne (ne_of_none e h)]; exact e, ⟨[], by simp, by simp⟩, fun a q => by
    by_cases e : a = p
    · subst e; exact absurd h q
    · rw [upd_ne e]; exact q, fun a x u e => by rw [upd_ne (ne_of_none e h)]; exact e⟩
theorem NdAt.some {w : World} {H : Hp} {a : Addr} {lk : Bool} {xs : List (NestedKey × Addr × V)} (h : NdAt w H a lk xs) : H a ≠ none := by
  unfold NdAt at h
  split at h
  · obtain ⟨o, e⟩ := h; rw [e]; exact fun q => nomatch q
  · rw [h]; exact fun q => nomatch q
theorem NdAt.eq {w : World} {H H' : Hp} {a : Addr} {lk : Bool} {xs : List (NestedKey × Addr × V)} (h : NdAt w H a lk xs) (e : H' a = H a) : NdAt w H' a lk xs := by
  unfold NdAt at h ⊢
  rw [e]; exact h
theorem RepS.some (rs : RepS K r z H S) {a : Addr} (h : a ∈ r) : H a ≠ none := by
  obtain ⟨n, hn, e⟩ := List.getElem_of_mem h
  have hS : n < S.length := by rw [← rs.len]; exact hn
  obtain ⟨b, hb, ro⟩ := rs.ob n S[n] (by simp [hS])
  have eb : a = b := by
    rw [List.getElem?_eq_getElem hn, e] at hb
    exact Option.some.inj hb
  subst eb
  intro q
  cases hO : S[n] with
  | list ds => rw [hO] at ro; obtain ⟨_, _, e1, _⟩ := ro; rw [e1] at q; cases q
  | dict kvs => rw [hO] at ro; obtain ⟨_, _, e1, _⟩ := ro; rw [e1] at q; cases q
  | map lk kvs => rw [hO] at ro; obtain ⟨_, _, e1, _⟩ := ro; exact e1.some q
  | inst c fs => rw [hO] at ro; exact ro.elim
theorem RepS.fresh (rs : RepS K r z H S) (h : H p = none) : p ∉ r ∧ p ∉ z := ⟨fun m => rs.some m h, fun m => rs.zz p m h⟩
theorem RepO.step {r' : List Addr} {H' : Hp} {a : Addr} {ob : O} (st : Step r H r' H') (e : H' a = H a) (h : RepO K r z H a ob) : RepO K r' z H' a ob := by
  cases ob with
  | list ds => obtain ⟨c, xs, h1, h2⟩ := h; exact ⟨c, xs, e.trans h1, h2.step st⟩
  | dict kvs => obtain ⟨c, l, h1, h2⟩ := h; exact ⟨c, l, e.trans h1, h2.step st⟩
  | map lk kvs => obtain ⟨c, l, h1, h2⟩ := h; exact ⟨c, l, h1.eq e, h2.step st⟩
  | inst c fs => exact h
theorem TabR.ext {r' : List Addr} {H' : Hp} {P : Addr} {q : Str} (t : TabR r z H P q) (e : ∀ b o, H b = some o → b ∉ r → H' b = some o) (hr : ∀ b, H b ≠ none → b ∉ r → b ∉ r') : TabR r' z H' P q := by
  obtain ⟨ps, h1, h2, h3, h4, h5⟩ := t
  refine ⟨ps, e _ _ h1 h2, hr _ (by rw [h1]; exact fun z => nomatch z) h2, h3, h4, fun pos cv hc => ?_⟩
  obtain ⟨c, e1, e2, e3, e4⟩ := h5 pos cv hc
  exact ⟨c, e1, hr _ (by rw [e4]; exact fun z => nomatch z) e2, e3, e _ _ e4 e2⟩
theorem RepS.upd (rs : RepS K r z H S) (h : H p = none) : RepS K r z (L2.upd H p o) S := by
  refine ⟨rs.len, rs.nd, rs.ap, fun a m => (Step.upd (r := r) h).dom a (rs.zz a m), fun p hp => (rs.tb p hp).ext (fun b o e _ => by rw [upd_ne (ne_of_none e h)]; exact e) (fun _ _ n => n), fun n ob e => ?_⟩
  obtain ⟨a, h1, h2⟩ := rs.ob n ob e
  refine ⟨a, h1, h2.step (Step.upd h) (upd_ne fun q => ?_)⟩
  subst q
  exact rs.some (List.mem_of_getElem? h1) h
theorem Rep.newT (rs : RepS K r z H S) (h : H p = none) {ds : List D} {xs : List V} (l : RepL K r z H ds xs) : Rep K r z (L2.upd H p (.tup xs)) (.tup ds) (.ref p) := by
  rw [Rep]
  exact ⟨p, xs, rfl, .inl ⟨.inl upd_same, rs.fresh h⟩, l.step (Step.upd h)⟩
theorem Rep.newL (rs : RepS K r z H S) (h : H p = none) {ds : List D} {xs : List V} (l : RepL K r z H ds xs) : Rep K r z (L2.upd H p (.lst xs)) (.lst ds) (.ref p) := by
  rw [Rep]
  exact ⟨p, xs, rfl, .inl ⟨.inl upd_same, rs.fresh h⟩, l.step (Step.upd h)⟩
theorem Step.new (h : H p = none) : Step r H (r ++ [p]) (L2.upd H p o) :=
  ⟨(Step.upd (r := r) h).keep, ⟨[p], rfl, fun a m => (List.mem_singleton.mp m).symm ▸ h⟩, (Step.upd (r := r) h).dom, (Step.upd (r := r) h).frz⟩
theorem RepS.new (rs : RepS K r z H S) (h : H p = none) {ob : O} (hob : RepO K (r ++ [p]) z (L2.upd H p o) p ob) : RepS K (r ++ [p]) z (L2.upd H p o) (S ++ [ob]) := by
  have fr := rs.fresh h
  refine ⟨by simp [rs.len], ?_, fun a m => ?_, fun a m => (Step.upd (r := r) h).dom a (rs.zz a m), fun p' hp => (rs.tb p' hp).ext (fun b o e _ => by rw [upd_ne (ne_of_none e h)]; exact e) (fun b nb n m => ?_), fun n ob' e => ?_⟩
  · rw [List.nodup_append]
    refine ⟨rs.nd, by simp, fun a ha b hb => ?_⟩
    have e : b = p := by simpa using hb
    subst e
    exact fun q => fr.1 (q ▸ ha)
  · rcases List.mem_append.mp m with m | m
    · exact rs.ap a m
    · have e : a = p := by simpa using m
      subst e; exact fr.2
  · rcases List.mem_append.mp m with m | m
    · exact n m
    · have e : b = p := by simpa using m
      subst e; exact nb h
  · by_cases hn : n < S.length
    · rw [List.getElem?_append_left hn] at e
      obtain ⟨a, h1, h2⟩ := rs.ob n ob' e
      refine ⟨a, by rw [List.getElem?_append_left (by rw [rs.len]; exact hn)]; exact h1, h2.step (Step.new h) (upd_ne fun q => ?_)⟩
      subst q
      exact fr.1 (List.mem_of_getElem? h1)
    · have e2 : n = S.length := by
        have := (List.getElem?_eq_some_iff.mp e).1
        simp at this; omega
      subst e2
      have : ob = ob' := by simpa using e
      subst this
      exact ⟨p, by rw [← rs.len]; simp, hob⟩
theorem rep_lst {x : D} {v : V} {ds : List D} (rs : RepS K r z H S) (h : Rep K r z H x v) (e : lstOf S x = some ds) : ∃ a xs, v = .ref a ∧ SqL K.f H a xs ∧ RepL K r z H ds xs := by
  cases x with
  | lst l =>
    rw [Rep] at h
    obtain ⟨a, xs, e1, f, q⟩ := h
    simp [lstOf] at e; subst e
    exact ⟨a, xs, e1, f.sq, q⟩
  | loc n =>
    rw [Rep] at h
    obtain ⟨a, h1, e1⟩ := h
    cases hl : S[n]? with
    | none => simp [lstOf, hl] at e
    | some ob =>
      cases ob with
      | list l =>
        have e2 : l = ds := by simpa [lstOf, hl] using e
        subst e2
        obtain ⟨b, h2, _, xs, h3, h4⟩ := rs.ob n _ hl
        rw [h1] at h2; cases h2
        exact ⟨a, xs, e1, .of h3, h4⟩
      | dict _ => simp [lstOf, hl] at e
      | map _ _ => simp [lstOf, hl] at e
      | inst _ _ => simp [lstOf, hl] at e
  | _ => cases e
theorem rep_seq {x : D} {v : V} {ds : List D} (rs : RepS K r z H S) (h : Rep K r z H x v) (e : seqOf S x = some ds) : ∃ a xs, v = .ref a ∧ (SqL K.f H a xs ∨ SqT K.f H a xs) ∧ RepL K r z H ds xs := by
  cases x with
  | tup l =>
    rw [Rep] at h
    obtain ⟨a, xs, e1, f, q⟩ := h
    simp [seqOf] at e; subst e
    exact ⟨a, xs, e1, .inr f.sq, q⟩
  | lst l => obtain ⟨a, xs, h1, h2, h3⟩ := rep_lst rs h e; exact ⟨a, xs, h1, .inl h2, h3⟩
  | loc l => obtain ⟨a, xs, h1, h2, h3⟩ := rep_lst rs h e; exact ⟨a, xs, h1, .inl h2, h3⟩
  | _ => cases e
end
/-! ### operators -/
section
variable {X : Cx} {W : WX} {β : Type} {pins : List (Addr × Obj)} {s : Shared} {σ : L2.St} {H : Hp} {r z : List Addr} {e : Ev} {S : Sto} {kp : KP β}
def OpV (X : Cx) (f : Value → Value → Sem Value) (op : Op2) : Prop :=
  ∀ (pins : List (Addr × Obj)) (s : Shared) (σ : L2.St) (H : Hp) (r z : List Addr) (S : Sto) (x y d : D) (v w : V) (u t : Value) (Q : VK), Inv X pins σ H s → RepS X.kw r z H S → Rep X.kw r z H x v → Rep X.kw r z H y w → RelV v u → RelV w t →
    op S x y = some d → (∀ H' v', Step r H r H' → RepS X.kw r z H' S → Rep X.kw r z H' d v' → Q v' H') → wpAny (model X.prog X.w) X.A (f u t) (EP X pins σ Q) X.xe s
theorem fin_oo {o : Option β} {xp : XP} (F : Fin r H (oo S o) kp xp) : ∃ d, o = some d ∧ ∀ r' H', Step r H r' H' → kp r' H' d S := by
  cases o with
  | none => exact F.elim
  | some d => exact ⟨d, rfl, F⟩
theorem pev_op {op : Operator} {f : Op2} {a b : Expr} {ma mb : MEx} {pos : Pos} (ho : OpV X (binaryOp op) f) (ha : PEv X W a ma) (hb : PEv X W b mb) : PEv X W (.BinOp a op b pos) (mOp f ma mb) := by
  refine ⟨fun pins s σ H Q I ⟨r, z, e, S, A, F⟩ => wpAny_BinOp ?_⟩
  refine ha.go I A F fun u v r1 H1 s1 d S1 st1 I1 ru A1 R1 F1 => ?_
  refine hb.go I1 A1 F1 fun u2 v2 r2 H2 s2 d2 S2 st2 I2 ru2 A2 R2 F2 => ?_
  obtain ⟨d3, e3, F3⟩ := fin_oo F2
  exact ho pins s2 σ H2 r2 z S2 d d2 d3 v v2 u u2 Q I2 A2.s (R1.step st2) R2 ru ru2 e3 fun H' v' st rs rv => F3 r2 H' st rs v' rv
theorem ov_int {f : Value → Value → Sem Value} {op : Op2} {g : Int → Int → V} {gd : Int → Int → D} {C : Int → Int → Prop} (h : OpR X f (rI C g)) (hg : ∀ K r z H i j, Rep K r z H (gd i j) (g i j))
    (ho : ∀ S x y d, op S x y = some d → ∃ i j, x = .int i ∧ y = .int j ∧ C i j ∧ d = gd i j) : OpV X f op := by
  intro pins s σ H r z S x y d v w u t Q I rs rx ry ru rt eo k
  obtain ⟨i, j, rfl, rfl, hc, rfl⟩ := ho S x y d eo
  rw [Rep] at rx ry
  subst rx; subst ry
  exact h pins s σ H _ _ u t Q I ru rt ⟨i, j, rfl, rfl, hc, k H _ (Step.refl r H) rs (hg _ _ _ _ i j)⟩
theorem ov_int0 {f : Value → Value → Sem Value} {op : Op2} {g : Int → Int → V} {gd : Int → Int → D} (h : OpR X f (rI0 g)) (hg : ∀ K r z H i j, Rep K r z H (gd i j) (g i j))
    (ho : ∀ S x y d, op S x y = some d → ∃ i j, x = .int i ∧ y = .int j ∧ d = gd i j) : OpV X f op := by
  intro pins s σ H r z S x y d v w u t Q I rs rx ry ru rt eo k
  obtain ⟨i, j, rfl, rfl, rfl⟩ := ho S x y d eo
  rw [Rep] at rx ry
  subst rx; subst ry
  exact h pins s σ H _ _ u t Q I ru rt ⟨i, j, rfl, rfl, k H _ (Step.refl r H) rs (hg _ _ _ _ i j)⟩
theorem ov_sub : OpV X (binaryOp .Sub) oSub := ov_int0 (gd := fun i j => .int (i - j)) op_sub (fun _ _ _ _ i j => repI _) fun S x y d h => by
  unfold oSub at h
  split at h
  · exact ⟨_, _, rfl, rfl, (Option.some.inj h).symm⟩
  · cases h
theorem ov_fdiv : OpV X (binaryOp .FloorDiv) oFdiv := ov_int (gd := fun i j => .int (i / j)) op_fdiv (fun _ _ _ _ i j => repI _) fun S x y d h => by
  unfold oFdiv at h
  split at h
  · split at h
    · rename_i c
      exact ⟨_, _, rfl, rfl, c, (Option.some.inj h).symm⟩
    · cases h
  · cases h
theorem ov_mod : OpV X (binaryOp .Mod) oMod := ov_int (gd := fun i j => .int (i % j)) op_mod (fun _ _ _ _ i j => repI _) fun S x y d h => by
  unfold oMod at h
  split at h
  · split at h
    · rename_i c
      exact ⟨_, _, rfl, rfl, c, (Option.some.inj h).symm⟩
    · cases h
  · cases h
theorem ov_pow : OpV X (binaryOp .Pow) oPow := ov_int (gd := fun i j => .int (i ^ j.toNat)) op_pow (fun _ _ _ _ i j => repI _) fun S x y d h => by
  unfold oPow at h
  split at h
  · split at h
    · rename_i c
      exact ⟨_, _, rfl, rfl, c, (Option.some.inj h).symm⟩
    · cases h
  · cases h
theorem ov_lt : OpV X (compareOp .Lt) cLt := ov_int0 (gd := fun i j => .bl (decide (i < j))) op_lt (fun _ _ _ _ i j => repB _) fun S x y d h => by
  unfold cLt at h
  split at h
  · exact ⟨_, _, rfl, rfl, (Option.some.inj h).symm⟩
  · cases h
theorem ov_le : OpV X (compareOp .LtE) cLe := ov_int0 (gd := fun i j => .bl (decide (i ≤ j))) op_le (fun _ _ _ _ i j => repB _) fun S x y d h => by
  unfold cLe at h
  split at h
  · exact ⟨_, _, rfl, rfl, (Option.some.inj h).symm⟩
  · cases h
theorem ov_gt : OpV X (compareOp .Gt) cGt := ov_int0 (gd := fun i j => .bl (decide (j < i))) op_gt (fun _ _ _ _ i j => repB _) fun S x y d h => by
  unfold cGt at h
  split at h
  · exact ⟨_, _, rfl, rfl, (Option.some.inj h).symm⟩
  · cases h
theorem ov_ge : OpV X (compareOp .GtE) cGe := ov_int0 (gd := fun i j => .bl (decide (j ≤ i))) op_ge (fun _ _ _ _ i j => repB _) fun S x y d h => by
  unfold cGe at h
  split at h
  · exact ⟨_, _, rfl, rfl, (Option.some.inj h).symm⟩
  · cases h
end
end Mp
end SMpC

section SMpO
set_option Elab.async false
set_option linter.all false
set_option maxRecDepth 100000
open PySem PySem.Spec PyProof.Rows L2
namespace Mp
variable [Lt]
/-! ### keys of dicts that are tuples -/
mutual
theorem nk_inj : ∀ (n m : Nat) (a b : D), kOk n a = true → kOk m b = true → nk a = nk b → a = b
  | n, m, .non, b, ha, hb, h => by cases b <;> simp [kOk] at hb <;> simp [nk] at h ⊢
  | n, m, .int i, b, ha, hb, h => by cases b <;> simp [kOk] at hb <;> simp [nk] at h ⊢ <;> exact h
  | n, m, .str i, b, ha, hb, h => by cases b <;> simp [kOk] at hb <;> simp [nk] at h ⊢ <;> exact h
  | 0, m, .tup xs, b, ha, hb, h => by simp [kOk] at ha
  | n + 1, m, .tup xs, b, ha, hb, h => by
    cases b <;> simp [kOk] at hb <;> simp [nk] at h ⊢
    cases m with
    | zero => simp at hb
    | succ m => exact nks_inj n m xs _ (by simpa [kOk] using ha) (by simpa using hb) h
  | _, _, .bl _, _, ha, _, _ => by simp [kOk] at ha
  | _, _, .lst _, _, ha, _, _ => by simp [kOk] at ha
  | _, _, .loc _, _, ha, _, _ => by simp [kOk] at ha
  | _, _, .dct _ _ _, _, ha, _, _ => by simp [kOk] at ha
  | _, _, .clo _ _, _, ha, _, _ => by simp [kOk] at ha
theorem nks_inj : ∀ (n m : Nat) (a b : List D), kOkL n a = true → kOkL m b = true → nks a = nks b → a = b
  | n, m, [], b, _, _, h => by cases b <;> simp [nks] at h ⊢
  | n, m, x :: xs, b, ha, hb, h => by
    cases b with
    | nil => simp [nks] at h
    | cons y ys =>
      simp [kOkL] at ha hb
      simp [nks] at h
      rw [nk_inj n m x y ha.1 hb.1 h.1, nks_inj n m xs ys ha.2 hb.2 h.2]
end
theorem keyOk_k {d : D} (h : keyOk d = true) : kOk 8 d = true := by cases d <;> simp [keyOk] at h <;> exact h
theorem key_inj {a b : D} (ha : keyOk a = true) (hb : keyOk b = true) (h : nk a = nk b) : a = b := nk_inj 8 8 a b (keyOk_k ha) (keyOk_k hb) h
mutual
theorem nk_depth : ∀ (n : Nat) (d : D), kOk n d = true → (nk d).depth ≤ n
  | n, .non, _ => by simp [nk, NestedKey.depth]
  | n, .int i, _ => by simp [nk, NestedKey.depth]
  | n, .str i, _ => by simp [nk, NestedKey.depth]
  | 0, .tup xs, h => by simp [kOk] at h
  | n + 1, .tup xs, h => by
    have := nks_depth n xs (by simpa [kOk] using h)
    simp [nk, NestedKey.depth]; omega
  | _, .bl _, h => by simp [kOk] at h
  | _, .lst _, h => by simp [kOk] at h
  | _, .loc _, h => by simp [kOk] at h
  | _, .dct _ _ _, h => by simp [kOk] at h
  | _, .clo _ _, h => by simp [kOk] at h
theorem nks_depth : ∀ (n : Nat) (d : List D), kOkL n d = true → NestedKey.depthAll (nks d) ≤ n
  | n, [], _ => by simp [nks, NestedKey.depthAll]
  | n, x :: xs, h => by
    simp [kOkL] at h
    have h1 := nk_depth n x h.1
    have h2 := nks_depth n xs h.2
    simp [nks, NestedKey.depthAll]; omega
end
section
variable {P : Program} {w : World} {K : Kw} {r z : List Addr} {H : Hp} {h : Heap}
theorem tup_at {a : Addr} {xs : List V} (ok : HOk P w H h) (kin : K.f.In h) (f : FT K r z H a xs) : ∃ (o : Obj) (its : Array Value) (n : Nat), h.get? a = some o ∧ o.cls = .type "tuple" ∧ o.data = .seq its n ∧ Vals xs its.toList := by
  rcases f with ⟨f, _⟩ | ⟨o, its, n, h1, h2, h3, _, h4⟩
  · obtain ⟨_, its, hv, o, h1, h2, n, h3⟩ := f.ok ok
    exact ⟨o, its.toArray, n, h1, h2, h3, by simpa using hv⟩
  · exact ⟨o, its, n, kin _ _ h1, h2, h3, h4⟩
mutual
theorem nk_is (ok : HOk P w H h) (kin : K.f.In h) : ∀ (n : Nat) (d : D) (v : V) (u : Value), kOk n d = true → Rep K r z H d v → RelV v u → NestedIs h (nk d) u
  | n, .non, v, u, _, hr, ru => by rw [Rep] at hr; subst hr; cases (show u = Value.none from ru); exact .none
  | n, .int i, v, u, _, hr, ru => by rw [Rep] at hr; subst hr; obtain ⟨t, rfl⟩ := ru; exact .int i t
  | n, .str i, v, u, _, hr, ru => by rw [Rep] at hr; subst hr; obtain ⟨t, rfl⟩ := ru; exact .text i t
  | 0, .tup xs, v, u, hk, _, _ => by simp [kOk] at hk
  | n + 1, .tup xs, v, u, hk, hr, ru => by
    rw [Rep] at hr
    obtain ⟨a, ys, rfl, f, l⟩ := hr
    cases (show u = Value.ref a from ru)
    obtain ⟨o, its, m, h1, h2, h3, h4⟩ := tup_at ok kin f
    exact .tup h1 h2 h3 (nks_is ok kin n xs ys its.toList (by simpa [kOk] using hk) l h4)
  | _, .bl _, _, _, hk, _, _ => by simp [kOk] at hk
  | _, .lst _, _, _, hk, _, _ => by simp [kOk] at hk
  | _, .loc _, _, _, hk, _, _ => by simp [kOk] at hk
  | _, .dct _ _ _, _, _, hk, _, _ => by simp [kOk] at hk
  | _, .clo _ _, _, _, hk, _, _ => by simp [kOk] at hk
theorem nks_is (ok : HOk P w H h) (kin : K.f.In h) : ∀ (n : Nat) (ds : List D) (vs : List V) (us : List Value), kOkL n ds = true → RepL K r z H ds vs → Vals vs us → NestedAll h (nks ds) us
  | n, [], vs, us, _, hr, ru => by rw [RepL] at hr; subst hr; cases ru; exact .nil
  | n, d :: ds, vs, us, hk, hr, ru => by
    rw [RepL] at hr
    obtain ⟨v, vs', rfl, h1, h2⟩ := hr
    simp [kOkL] at hk
    cases ru with
    | cons r1 r2 => exact .cons (nk_is ok kin n d v _ hk.1 h1 r1) (nks_is ok kin n ds vs' _ hk.2 h2 r2)
end
theorem key_is (ok : HOk P w H h) (kin : K.f.In h) {d : D} {b : Addr} (hk : keyOk d = true) (hr : Rep K r z H d (.ref b)) : (nestedKind P w).is h (nk d) b :=
  ⟨nk_is ok kin 8 d _ _ (keyOk_k hk) hr rfl, nk_depth 8 d (keyOk_k hk)⟩
theorem NdAt.rd {a : Addr} {lk : Bool} {xs : List (NestedKey × Addr × V)} (e : NdAt w H a lk xs) (ok : HOk P w H h) : NdIn w a xs h := by
  unfold NdAt at e
  split at e
  · obtain ⟨o, e⟩ := e
    obtain ⟨_, z, _⟩ := ok a _ e
    exact z
  · obtain ⟨z, _⟩ := ok a _ e
    exact z
/-- the dict in the heap -/
theorem nd_of (ok : HOk P K.w H h) (kin : K.f.In h) {a : Addr} {lk : Bool} {kvs : List (D × D)} {xs : List (NestedKey × Addr × V)} (e : NdAt K.w H a lk xs) (hr : RepM K r z H kvs xs) :
    xs.length ≤ sizeLine ∧ (a == sysModules) = false ∧ ∃ us, Paired RelN xs us ∧ h.DictOfH (nestedKind P K.w) a us := by
  obtain ⟨z1, z2, us, pr, o, es, ep, h1, h2, h3, h4, h5⟩ := e.rd ok
  refine ⟨z1, z2, us, pr, o, es, ep, h1, h2, h3, h4, fun x hx => ?_, h5⟩
  have all : ∀ {kvs : List (D × D)} {l : List (NestedKey × Addr × V)} {m : List (NestedKey × Addr × Value)}, RepM K r z H kvs l → Paired RelN l m → ∀ x ∈ m, (nestedKind P K.w).is h x.1 x.2.1 := by
    intro kvs
    induction kvs with
    | nil =>
      intro l m hr q x hx
      cases hr
      cases q
      exact nomatch hx
    | cons p ps ih =>
      intro l m hr q x hx
      obtain ⟨b, v, l', rfl, k1, k2, k3, k4⟩ := hr
      cases q with
      | cons q1 q2 =>
        rcases List.mem_cons.mp hx with e | hx
        · subst e
          obtain ⟨e1, e2, e3⟩ := q1
          rw [← e1, ← e2]
          exact key_is ok kin k1 k2
        · exact ih k4 q2 x hx
  exact all hr pr x hx
theorem nd_get {d : D} (hk : keyOk d = true) : ∀ {kvs : List (D × D)} {xs : List (NestedKey × Addr × V)} {us : List (NestedKey × Addr × Value)}, RepM K r z H kvs xs → Paired RelN xs us →
    (dget d kvs = none ∧ atKey us (nk d) = none) ∨ ∃ y v p u, dget d kvs = some y ∧ atKey us (nk d) = some (p, u) ∧ Rep K r z H y v ∧ RelV v u
  | [], xs, us, hr, q => by cases hr; cases q; exact .inl ⟨rfl, rfl⟩
  | (k, y) :: ps, xs, us, hr, q => by
    obtain ⟨b, v, l', rfl, k1, k2, k3, k4⟩ := hr
    cases q with
    | @cons _ c _ cs q1 q2 =>
      obtain ⟨ck, cb, cv⟩ := c
      obtain ⟨e1, e2, e3⟩ := q1
      simp only at e1 e2 e3
      subst e1 e2
      by_cases hd : k = d
      · subst hd
        exact .inr ⟨y, v, _, _, by simp [dget], by simp [atKey]; rfl, k3, e3⟩
      · have hn : nk k ≠ nk d := fun e => hd (key_inj k1 hk e)
        rcases nd_get hk k4 q2 with ⟨g1, g2⟩ | ⟨y', v', p', u', g1, g2, g3, g4⟩
        · exact .inl ⟨by simp [dget, hd, g1], by simpa [atKey, List.find?_cons, hn] using g2⟩
        · exact .inr ⟨y', v', p', u', by simp [dget, hd, g1], by simpa [atKey, List.find?_cons, hn] using g2, g3, g4⟩
theorem dget_any (d : D) : ∀ kvs : List (D × D), (kvs.any fun p => decide (p.1 = d)) = (dget d kvs).isSome
  | [] => rfl
  | (k, y) :: ps => by
    by_cases hd : k = d
    · simp [dget, hd]
    · simp [dget, hd, dget_any d ps]
theorem repM_of {K : Kw} {r z : List Addr} {H : Hp} : ∀ {ks vs : List D} {l : List (NestedKey × Addr × V)}, ks.all keyOk = true → l.map (·.1) = ks.map nk → RepL K r z H ks (l.map (fun p => V.ref p.2.1)) → RepL K r z H vs (l.map (·.2.2)) → RepM K r z H (ks.zip vs) l
  | [], vs, [], _, _, _, _ => rfl
  | [], vs, _ :: _, _, h, _, _ => by simp at h
  | _ :: _, vs, [], _, h, _, _ => by simp at h
  | k :: ks, vs, (nk', b, v) :: l, hk, h, h1, h2 => by
    rw [List.map_cons, RepL] at h1
    obtain ⟨v1, l1, e1, r1, r2⟩ := h1
    cases e1
    cases vs with
    | nil => rw [List.map_cons, RepL] at h2; cases h2
    | cons y vs =>
      rw [List.map_cons, RepL] at h2
      obtain ⟨v2, l2, e2, r3, r4⟩ := h2
      cases e2
      simp only [List.all_cons, Bool.and_eq_true, List.map_cons, List.cons.injEq] at hk h
      obtain ⟨rfl, h⟩ := h
      exact ⟨b, v, l, rfl, hk.1, r1, r3, repM_of hk.2 h r2 r4⟩
theorem rep_map {S : Sto} {y : D} {v : V} {kvs : List (D × D)} (rs : RepS K r z H S) (hr : Rep K r z H y v) (e : mapOf S y = some kvs) : ∃ a lk xs, v = .ref a ∧ NdAt K.w H a lk xs ∧ RepM K r z H kvs xs := by
  cases y with
  | dct t ks vs =>
    cases t with
    | false => simp [mapOf] at e
    | true =>
      have e2 : ks.zip vs = kvs := by simpa [mapOf] using e
      rw [Rep] at hr
      obtain ⟨a, o, l, bs, xs, rfl, n1, n2, h1, h2, h3, rfl, rfl, h6, h7⟩ := hr
      subst e2
      exact ⟨a, true, l, rfl, by unfold NdAt; rw [if_pos rfl]; exact ⟨o, h1⟩, repM_of h2 h3 h6 h7⟩
  | loc n =>
    rw [Rep] at hr
    obtain ⟨a, h1, e1⟩ := hr
    cases hl : S[n]? with
    | none => simp [mapOf, hl] at e
    | some ob =>
      cases ob with
      | map lk l =>
        have e2 : l = kvs := by simpa [mapOf, hl] using e
        subst e2
        obtain ⟨b, h2, _, xs, h3, h4⟩ := rs.ob n _ hl
        rw [h1] at h2; cases h2
        exact ⟨a, lk, xs, e1, h3, h4⟩
      | _ => simp [mapOf, hl] at e
  | _ => simp [mapOf] at e
end
section
variable {X : Cx} {pins : List (Addr × Obj)} {s : Shared} {σ : L2.St} {H : Hp} {r z : List Addr} {S : Sto}
theorem nroom (hu : X.A.units + 65 < cLine) : (nestedKind X.prog X.w).room X.A.in1 := by
  show X.A.units + 1 + 8 < cLine
  omega
/-- a dict with tuple keys, in the heap -/
theorem map_at {y : D} {v : V} {u : Value} {kvs : List (D × D)} (I : Inv X pins σ H s) (rs : RepS X.kw r z H S) (hr : Rep X.kw r z H y v) (ru : RelV v u) (e : mapOf S y = some kvs) :
    ∃ a xs us, u = .ref a ∧ RepM X.kw r z H kvs xs ∧ xs.length ≤ sizeLine ∧ (a == sysModules) = false ∧ Paired RelN xs us ∧ s.heap.DictOfH (nestedKind X.prog X.w) a us := by
  obtain ⟨a, lk, xs, rfl, h1, h2⟩ := rep_map rs hr e
  obtain ⟨z1, z2, us, h3, h4⟩ := nd_of (P := X.prog) I.hok I.kIn h1 h2
  exact ⟨a, xs, us, ru, h2, z1, z2, h3, h4⟩
theorem key_at {x : D} {v : V} {u : Value} (I : Inv X pins σ H s) (hk : keyOk x = true) (hr : Rep X.kw r z H x v) (ru : RelV v u) : ∃ b, v = .ref b ∧ u = .ref b ∧ (nestedKind X.prog X.w).is s.heap (nk x) b := by
  cases x <;> simp [keyOk] at hk
  rename_i xs
  have hr' := hr
  rw [Rep] at hr'
  obtain ⟨a, ys, rfl, _, _⟩ := hr'
  exact ⟨a, rfl, ru, key_is I.hok I.kIn (by simpa [keyOk] using hk) hr⟩
end
end Mp
end SMpO

section SMpD
set_option Elab.async false
set_option linter.all false
set_option maxRecDepth 100000
open PySem PySem.Spec PyProof.Rows L2
namespace Mp
variable [Lt]
/-! ### data at any depth -/
section
variable {K : Kw} {r z : List Addr} {H : Hp} {S : Sto}
mutual
theorem rep_dp : ∀ (n : Nat) (d : D) (v : V), fin n d = true → Rep K r z H d v → Dp K.f H v (toP d)
  | _, .non, v, _, h => by rw [Rep] at h; subst h; rw [toP]; exact .non
  | _, .bl b, v, _, h => by rw [Rep] at h; subst h; rw [toP]; exact .bl b
  | _, .int b, v, _, h => by rw [Rep] at h; subst h; rw [toP]; exact .int b
  | _, .str b, v, _, h => by rw [Rep] at h; subst h; rw [toP]; exact .str b
  | 0, .tup ds, v, f, h => by simp [fin] at f
  | 0, .lst ds, v, f, h => by simp [fin] at f
  | n + 1, .tup ds, v, f, h => by
    rw [Rep] at h
    obtain ⟨a, xs, rfl, q, l⟩ := h
    rw [toP]
    exact .tup q.sq (rep_dps n ds xs (by simpa [fin] using f) l)
  | n + 1, .lst ds, v, f, h => by
    rw [Rep] at h
    obtain ⟨a, xs, rfl, q, l⟩ := h
    rw [toP]
    exact .lst q.sq (rep_dps n ds xs (by simpa [fin] using f) l)
  | _, .loc k, v, f, h => by simp [fin] at f
theorem rep_dps : ∀ (n : Nat) (ds : List D) (vs : List V), finL n ds = true → RepL K r z H ds vs → DpAll K.f H vs (toPs ds)
  | _, [], vs, _, h => by rw [RepL] at h; subst h; rw [toPs]; exact .nil
  | n, d :: ds, vs, f, h => by
    rw [RepL] at h
    obtain ⟨v, vs', rfl, h1, h2⟩ := h
    simp [finL] at f
    rw [toPs]
    exact .cons (rep_dp n d v f.1 h1) (rep_dps n ds vs' f.2 h2)
end
mutual
theorem fin_shape : ∀ (n : Nat) (d : D), fin n d = true → (toP d).canLay0 = true ∧ (toP d).depth ≤ n
  | n, .non, f => by simp [toP, PyData.canLay0, PyData.depth]
  | n, .bl b, f => by simp [toP, PyData.canLay0, PyData.depth]
  | n, .int b, f => by simp [toP, PyData.canLay0, PyData.depth]
  | n, .str b, f => by simp [toP, PyData.canLay0, PyData.depth]; simpa [fin] using f
  | 0, .tup ds, f => by simp [fin] at f
  | 0, .lst ds, f => by simp [fin] at f
  | n + 1, .tup ds, f => by
    have := fin_shapes n ds (by simpa [fin] using f)
    simp [toP, PyData.canLay0, PyData.depth]; exact this
  | n + 1, .lst ds, f => by
    have := fin_shapes n ds (by simpa [fin] using f)
    simp [toP, PyData.canLay0, PyData.depth]; exact this
  | n, .loc k, f => by simp [fin] at f
theorem fin_shapes : ∀ (n : Nat) (ds : List D), finL n ds = true → PyData.canLayAll0 (toPs ds) = true ∧ PyData.depthAll (toPs ds) ≤ n
  | n, [], f => by simp [toPs, PyData.canLayAll0, PyData.depthAll]
  | n, d :: ds, f => by
    simp [finL] at f
    have h1 := fin_shape n d f.1
    have h2 := fin_shapes n ds f.2
    simp [toPs, PyData.canLayAll0, PyData.depthAll, h1, h2]
    omega
end
theorem fin_shaped {n : Nat} {d : D} (f : fin n d = true) (hn : n ≤ 64) : SeqAt.shaped (toP d) = true := by
  have h := fin_shape n d f
  unfold SeqAt.shaped
  simp [h.1]; omega
theorem rep_rs {d : D} {v : V} (rs_ : RepS K r z H S) (h : Rep K r z H d v) (n : Nat) (f : fin n (rs S d) = true) : Dp K.f H v (toP (rs S d)) := by
  cases d with
  | loc k =>
    cases hl : S[k]? with
    | none => simp [rs, hl, fin] at f
    | some ob =>
      cases ob with
      | list l =>
        have e : lstOf S (.loc k) = some l := by simp [lstOf, hl]
        obtain ⟨a, xs, rfl, q, w⟩ := rep_lst rs_ h e
        have e2 : rs S (.loc k) = .lst l := by simp [rs, hl]
        rw [e2] at f ⊢
        rw [toP]
        cases n with
        | zero => simp [fin] at f
        | succ n => exact .lst q (rep_dps n l xs (by simpa [fin] using f) w)
      | dict _ => simp [rs, hl, fin] at f
      | map _ _ => simp [rs, hl, fin] at f
      | inst _ _ => simp [rs, hl, fin] at f
  | _ => exact rep_dp n _ _ f h
theorem rep_flat {d : D} {v : V} (h : Rep K r z H d v) (f : flatD d = true) : flatV v = true := by
  cases d <;> simp [flatD] at f <;> (rw [Rep] at h; subst h; rfl)
theorem rep_eqV {d d' : D} {v v' : V} (h : Rep K r z H d v) (h' : Rep K r z H d' v') (f : flatD d = true) (f' : flatD d' = true) : eqV v v' = eqP d d' := by
  cases d <;> simp [flatD] at f <;> cases d' <;> simp [flatD] at f' <;> (simp only [Rep] at h h'; subst h; subst h'; simp [eqV, eqP, toP, PyData.eqv])
theorem rep_flats : ∀ {ds : List D} {vs : List V}, RepL K r z H ds vs → ds.all flatD = true → vs.all flatV = true
  | [], vs, h, _ => by rw [RepL] at h; subst h; rfl
  | d :: ds, vs, h, f => by
    rw [RepL] at h
    obtain ⟨v, vs', rfl, h1, h2⟩ := h
    simp at f
    simp [rep_flat h1 f.1]
    simpa using rep_flats h2 (by simpa using f.2)
theorem rep_inV {d : D} {v : V} (h : Rep K r z H d v) (f : flatD d = true) : ∀ {ds : List D} {vs : List V}, RepL K r z H ds vs → ds.all flatD = true → inV v vs = ds.any fun x => eqP x d
  | [], vs, h, _ => by rw [RepL] at h; subst h; rfl
  | d' :: ds, vs, q, f' => by
    rw [RepL] at q
    obtain ⟨v', vs', rfl, h1, h2⟩ := q
    simp at f'
    have := rep_inV h f h2 (by simpa using f'.2)
    unfold inV at this ⊢
    simp [rep_eqV h1 h f'.1 f, this]
end
section
variable {X : Cx} {W : WX} {pins : List (Addr × Obj)} {s : Shared} {σ : L2.St} {H : Hp} {r z : List Addr} {e : Ev} {S : Sto}
theorem ov_eq (hu : X.A.units + 65 < cLine) : OpV X (compareOp .Eq) cEq := by
  intro pins s σ H r z S x y d v w u t Q I rs_ rx ry ru rt eo k
  unfold cEq oEq at eo
  split at eo
  · rename_i c
    cases x <;> simp [isStr] at c
    cases y <;> simp [isStr] at c
    rename_i a b
    have ea : eqP (.str a) (.str b) = decide (V.str a = V.str b) := by
      rw [dec_str]; simp [eqP, toP, PyData.eqv]
    rw [ea] at eo
    cases eo
    rw [Rep] at rx ry
    subst rx; subst ry
    exact op_eq pins s σ H _ _ u t Q I ru rt ⟨rfl, k H _ (Step.refl r H) rs_ (repB _)⟩
  split at eo
  · rename_i c
    cases eo
    exact op_eqD (by omega) pins s σ H v w u t Q I ru rt ⟨_, _, rep_rs rs_ rx _ c.1, rep_rs rs_ ry _ c.2, fin_shaped c.1 (by decide), fin_shaped c.2 (by decide), k H _ (Step.refl r H) rs_ (repB _)⟩
  · cases eo
theorem ov_ne (hu : X.A.units + 65 < cLine) : OpV X (compareOp .NotEq) cNe := by
  intro pins s σ H r z S x y d v w u t Q I rs_ rx ry ru rt eo k
  unfold cNe oEq at eo
  split at eo
  · rename_i c
    cases x <;> simp [isStr] at c
    cases y <;> simp [isStr] at c
    rename_i a b
    have ea : eqP (.str a) (.str b) = decide (V.str a = V.str b) := by
      rw [dec_str]; simp [eqP, toP, PyData.eqv]
    rw [ea] at eo
    cases eo
    rw [Rep] at rx ry
    subst rx; subst ry
    exact op_ne pins s σ H _ _ u t Q I ru rt ⟨rfl, k H _ (Step.refl r H) rs_ (repB _)⟩
  split at eo
  · rename_i c
    cases eo
    exact op_neD (by omega) pins s σ H v w u t Q I ru rt ⟨_, _, rep_rs rs_ rx _ c.1, rep_rs rs_ ry _ c.2, fin_shaped c.1 (by decide), fin_shaped c.2 (by decide), k H _ (Step.refl r H) rs_ (repB _)⟩
  · cases eo
theorem any_toP (x : D) : ∀ ds : List D, ((toPs ds).any fun z => PyData.eqv z (toP x)) = ds.any fun z => eqP z x
  | [] => by simp [toPs]
  | d :: ds => by simp [toPs, any_toP x ds, eqP]
theorem in_cases {S : Sto} {x y : D} {k : Bool} (h : oIn S x y = some k) :
    (∃ ys, y = .tup ys ∧ flatD x = true ∧ ys.all flatD = true ∧ k = ys.any fun z => eqP z x) ∨ (∃ ys, lstOf S y = some ys ∧ fin deepN x = true ∧ finL deepN ys = true ∧ k = ys.any fun z => eqP z x) ∨ (∃ kvs, mapOf S y = some kvs ∧ keyOk x = true ∧ k = (dget x kvs).isSome) := by
  have gen : ∀ o q, lstOf S y = o → mapOf S y = q → (match o with | some ys => if fin deepN x = true ∧ finL deepN ys = true then some (ys.any fun z => eqP z x) else none | none => match q with | some kvs => if keyOk x = true then some (kvs.any fun p => decide (p.1 = x)) else none | none => none) = some k →
      (∃ ys, lstOf S y = some ys ∧ fin deepN x = true ∧ finL deepN ys = true ∧ k = ys.any fun z => eqP z x) ∨ (∃ kvs, mapOf S y = some kvs ∧ keyOk x = true ∧ k = (dget x kvs).isSome) := by
    intro o q ho hq h1
    cases o with
    | none =>
      cases q with
      | none => cases h1
      | some kvs =>
        dsimp only at h1
        split at h1
        · rename_i c
          exact .inr ⟨kvs, hq, c, by rw [← dget_any]; exact (Option.some.inj h1).symm⟩
        · cases h1
    | some ys =>
      dsimp only at h1
      split at h1
      · rename_i c
        exact .inl ⟨ys, ho, c.1, c.2, (Option.some.inj h1).symm⟩
      · cases h1
  cases y with
  | tup ys =>
    have h : (if flatD x = true ∧ ys.all flatD = true then some (ys.any fun z => eqP z x) else none) = some k := h
    split at h
    · rename_i c
      exact .inl ⟨ys, rfl, c.1, c.2, (Option.some.inj h).symm⟩
    · cases h
  | _ => exact .inr (gen _ _ rfl rfl h)
theorem ov_in (hu : X.A.units + 65 < cLine) : OpV X (compareOp .In) cIn := by
  intro pins s σ H r z S x y d v w u t Q I rs_ rx ry ru rt eo k
  obtain ⟨kb, ek, rfl⟩ := Option.map_eq_some_iff.mp eo
  rcases in_cases ek with ⟨ys, rfl, f1, f2, rfl⟩ | ⟨ys, hl, f1, f2, rfl⟩ | ⟨kvs, hm, hk, rfl⟩
  · rw [Rep] at ry
    obtain ⟨a, xs, rfl, q, l⟩ := ry
    refine op_in_seq pins s σ H v _ u t Q I ru rt ⟨a, xs, rfl, .inr q.sq, rep_flat rx f1, rep_flats l f2, ?_⟩
    rw [rep_inV rx f1 l f2]
    exact k H _ (Step.refl r H) rs_ (repB _)
  · obtain ⟨a, xs, rfl, q, l⟩ := rep_lst rs_ ry hl
    refine op_inD hu pins s σ H v _ u t Q I ru rt ⟨toP x, toPs ys, rep_dp _ _ _ f1 rx, .lst q (rep_dps _ _ _ f2 l), fin_shaped f1 (by decide), ?_, ?_⟩
    · exact fin_shaped (n := deepN + 1) (d := .lst ys) (by simpa [fin] using f2) (by decide)
    · rw [any_toP]; exact k H _ (Step.refl r H) rs_ (repB _)
  · obtain ⟨a, xs, us, rfl, hM, hz, hs, hp, hd⟩ := map_at I rs_ ry rt hm
    obtain ⟨b, rfl, rfl, hb⟩ := key_at I hk rx ru
    have e : (atKey us (nk x)).isSome = (dget x kvs).isSome := by
      rcases nd_get hk hM hp with ⟨e1, e2⟩ | ⟨_, _, _, _, e1, e2, _, _⟩ <;> rw [e1, e2] <;> rfl
    refine wpAny_in_heap (nroom hu) hb hs hd ?_
    rw [e]
    exact ⟨.bl _, H, I.tok _, rfl, k H _ (Step.refl r H) rs_ (repB _)⟩
theorem ov_notIn (hu : X.A.units + 65 < cLine) : OpV X (compareOp .NotIn) cNotIn := by
  intro pins s σ H r z S x y d v w u t Q I rs_ rx ry ru rt eo k
  obtain ⟨kb, ek, rfl⟩ := Option.map_eq_some_iff.mp eo
  rcases in_cases ek with ⟨ys, rfl, f1, f2, rfl⟩ | ⟨ys, hl, f1, f2, rfl⟩ | ⟨kvs, hm, hk, rfl⟩
  · rw [Rep] at ry
    obtain ⟨a, xs, rfl, q, l⟩ := ry
    refine op_notIn_seq pins s σ H v _ u t Q I ru rt ⟨a, xs, rfl, .inr q.sq, rep_flat rx f1, rep_flats l f2, ?_⟩
    rw [rep_inV rx f1 l f2]
    exact k H _ (Step.refl r H) rs_ (repB _)
  · obtain ⟨a, xs, rfl, q, l⟩ := rep_lst rs_ ry hl
    refine op_notInD hu pins s σ H v _ u t Q I ru rt ⟨toP x, toPs ys, rep_dp _ _ _ f1 rx, .lst q (rep_dps _ _ _ f2 l), fin_shaped f1 (by decide), ?_, ?_⟩
    · exact fin_shaped (n := deepN + 1) (d := .lst ys) (by simpa [fin] using f2) (by decide)
    · rw [any_toP]; exact k H _ (Step.refl r H) rs_ (repB _)
  · obtain ⟨a, xs, us, rfl, hM, hz, hs, hp, hd⟩ := map_at I rs_ ry rt hm
    obtain ⟨b, rfl, rfl, hb⟩ := key_at I hk rx ru
    have e : (atKey us (nk x)).isSome = (dget x kvs).isSome := by
      rcases nd_get hk hM hp with ⟨e1, e2⟩ | ⟨_, _, _, _, e1, e2, _, _⟩ <;> rw [e1, e2] <;> rfl
    show wpAny _ _ (do return Value.bool (!(← contains (.ref a) (.ref b)))) _ _ s
    refine wpAny_bind (wpAny_contains_heap (nroom hu) hb hs hd (wpAny_pure ?_))
    rw [e]
    exact ⟨.bl _, H, I.tok _, rfl, k H _ (Step.refl r H) rs_ (repB _)⟩
theorem rep_non {K : Kw} {x : D} {v : V} (h : Rep K r z H x v) : decide (v = .non) = decide (x = .non) := by
  cases x with
  | dct t ks vs => cases t <;> rw [Rep] at h <;> first
    | (obtain ⟨a, o, l, xs, rfl, _⟩ := h; simp; done)
    | (obtain ⟨a, o, l, bs, xs, rfl, _⟩ := h; simp; done)
  | clo k cs => rw [Rep] at h; obtain ⟨a, _, _, rfl, _⟩ := h; simp
  | _ => rw [Rep] at h; first
    | (subst h; simp; done)
    | (obtain ⟨a, xs, rfl, _⟩ := h; simp; done)
    | (obtain ⟨a, _, rfl⟩ := h; simp; done)
theorem ov_isN : OpV X (compareOp .Is) cIsN := by
  intro pins s σ H r z S x y d v w u t Q I rs_ rx ry ru rt eo k
  cases y with
  | non =>
    cases eo
    rw [Rep] at ry; subst ry
    refine op_isN pins s σ H v _ u t Q I ru rt ⟨rfl, ?_⟩
    rw [rep_non rx]
    exact k H _ (Step.refl r H) rs_ (repB _)
  | _ => cases eo
theorem ov_notN : OpV X (compareOp .IsNot) cNotN := by
  intro pins s σ H r z S x y d v w u t Q I rs_ rx ry ru rt eo k
  cases y with
  | non =>
    cases eo
    rw [Rep] at ry; subst ry
    refine op_notN pins s σ H v _ u t Q I ru rt ⟨rfl, ?_⟩
    rw [rep_non rx]
    exact k H _ (Step.refl r H) rs_ (repB _)
  | _ => cases eo
/-- list + list, whatever lists -/
theorem op_catS : OpR X (binaryOp .Add) (fun x y H Q => ∃ l b xs zs, x = .ref l ∧ y = .ref b ∧ SqL X.K H l xs ∧ SqL X.K H b zs ∧ xs.length + zs.length ≤ sizeLine ∧ ∀ p, H p = none → Q (.ref p) (L2.upd H p (.lst (xs ++ zs)))) := by
  rintro pins s σ H _ _ _ _ Q I ru rt ⟨l, b, xs, zs, rfl, rfl, hH, hB, hz, q⟩
  cases ru; cases rt
  obtain ⟨vs, r, p1, _⟩ := I.list hH
  obtain ⟨ws, r2, p2, _⟩ := I.list hB
  have hl1 := r.length
  have hl2 := r2.length
  obtain ⟨⟨cls, dd, data, sl⟩, ho, hc, n, hd⟩ := p1.isList
  obtain ⟨⟨cls2, dd2, data2, sl2⟩, ho2, hc2, n2, hd2⟩ := p2.isList
  simp only at hc hd hc2 hd2
  subst hc hd hc2 hd2
  refine concat_meets ⟨_, ho, rfl⟩ ⟨_, ho2, rfl⟩ noFill_list_add seq_list_add PySem.F.slot_list_add PySem.F.entry_list_add (PySem.F.args_list_add_2 _ _) (list_addW l b vs.toArray ws.toArray n n2 dd dd2 sl sl2 (by simp; omega)) ⟨ho, ho2, ?_⟩
  have both := I.lnew (t' := s.toks) (r.append r2) (Nat.le_trans (Nat.le_of_eq List.length_append) hz)
  rw [show (vs ++ ws).toArray = vs.toArray ++ ws.toArray by simp] at both
  exact ⟨.ref _, _, both, rfl, q _ I.fresh⟩
theorem ov_add : OpV X (binaryOp .Add) oAdd := by
  intro pins s σ H r z S x y d v w u t Q I rs_ rx ry ru rt eo k
  have gen : (∀ i j, ¬ (x = .int i ∧ y = .int j)) → (∀ i j, ¬ (x = .str i ∧ y = .str j)) → (∀ i j, ¬ (x = .tup i ∧ y = .tup j)) → wpAny (model X.prog X.w) X.A (binaryOp .Add u t) (EP X pins σ Q) X.xe s := by
    intro h1 h2 h3
    unfold oAdd at eo
    split at eo
    · exact absurd ⟨rfl, rfl⟩ (h1 _ _)
    · exact absurd ⟨rfl, rfl⟩ (h2 _ _)
    · exact absurd ⟨rfl, rfl⟩ (h3 _ _)
    · split at eo
      · rename_i a b ha hb
        split at eo
        · rename_i c
          cases eo
          obtain ⟨p, xs, rfl, q1, l1⟩ := rep_lst rs_ rx ha
          obtain ⟨p2, ys, rfl, q2, l2⟩ := rep_lst rs_ ry hb
          have e1 := l1.length
          have e2 := l2.length
          exact op_catS pins s σ H _ _ u t Q I ru rt ⟨p, p2, xs, ys, rfl, rfl, q1, q2, by omega, fun n hn => k _ _ (Step.upd hn) (rs_.upd hn) (Rep.newL rs_ hn (l1.append l2))⟩
        · cases eo
      · cases eo
  cases x with
  | int i =>
    cases y with
    | int j =>
      cases eo
      rw [Rep] at rx ry; subst rx; subst ry
      exact op_add pins s σ H _ _ u t Q I ru rt ⟨i, j, rfl, rfl, k H _ (Step.refl r H) rs_ (repI _)⟩
    | _ => exact gen (by simp) (by simp) (by simp)
  | str i =>
    cases y with
    | str j =>
      rw [Rep] at rx ry; subst rx; subst ry
      have eo : (if i.length + j.length ≤ sizeLine then some (.str (i ++ j)) else none) = some d := eo
      split at eo
      · rename_i c
        cases eo
        exact op_add_str pins s σ H _ _ u t Q I ru rt ⟨i, j, rfl, rfl, c, k H _ (Step.refl r H) rs_ (repS _)⟩
      · cases eo
    | _ => exact gen (by simp) (by simp) (by simp)
  | tup i =>
    cases y with
    | tup j =>
      rw [Rep] at rx ry
      obtain ⟨p, xs, rfl, q1, l1⟩ := rx
      obtain ⟨p2, ys, rfl, q2, l2⟩ := ry
      have eo : (if i.length + j.length ≤ sizeLine then some (D.tup (i ++ j)) else none) = some d := eo
      have e1 := l1.length
      have e2 := l2.length
      split at eo
      · rename_i c
        cases eo
        refine op_catA pins s σ H _ _ u t Q I ru rt ⟨p, p2, xs, ys, rfl, rfl, q1.sq, q2.sq, by omega, fun h => ?_, fun h h' => ?_, fun h h' n hn => ?_⟩
        · subst h
          have : i = [] := List.eq_nil_of_length_eq_zero (by simpa using e1)
          subst this
          exact k H _ (Step.refl r H) rs_ (by rw [Rep]; exact ⟨p2, ys, rfl, q2, l2⟩)
        · subst h'
          have : j = [] := List.eq_nil_of_length_eq_zero (by simpa using e2)
          subst this
          exact k H _ (Step.refl r H) rs_ (by rw [Rep, List.append_nil]; exact ⟨p, xs, rfl, q1, l1⟩)
        · exact k _ _ (Step.upd hn) (rs_.upd hn) (Rep.newT rs_ hn (l1.append l2))
      · cases eo
    | _ => exact gen (by simp) (by simp) (by simp)
  | _ => exact gen (by simp) (by simp) (by simp)
theorem repL_rep {K : Kw} {ds : List D} {vs : List V} (h : RepL K r z H ds vs) : ∀ n, RepL K r z H (List.replicate n ds).flatten (List.replicate n vs).flatten
  | 0 => by simp; exact RepL.nil
  | n + 1 => by rw [List.replicate_succ, List.replicate_succ, List.flatten_cons, List.flatten_cons]; exact h.append (repL_rep h n)
theorem ov_mul : OpV X (binaryOp .Mult) oMul := by
  intro pins s σ H r z S x y d v w u t Q I rs_ rx ry ru rt eo k
  cases x with
  | int i =>
    cases y with
    | int j =>
      rw [Rep] at rx ry; subst rx; subst ry
      have eo : (if small i ∨ small j then some (D.int (i * j)) else none) = some d := eo
      split at eo
      · rename_i c
        cases eo
        exact op_mul pins s σ H _ _ u t Q I ru rt ⟨i, j, rfl, rfl, c, k H _ (Step.refl r H) rs_ (repI _)⟩
      · cases eo
    | _ => cases eo
  | tup a =>
    cases y with
    | int n =>
      rw [Rep] at rx
      rw [Rep] at ry
      subst ry
      obtain ⟨p, xs, rfl, q1, l1⟩ := rx
      have eo : (if a ≠ [] ∧ 2 ≤ n ∧ n ≤ 1000 ∧ a.length ≤ 1000 then some (D.tup (List.replicate n.toNat a).flatten) else none) = some d := eo
      have e1 := l1.length
      split at eo
      · rename_i c
        cases eo
        refine op_repT pins s σ H _ _ u t Q I ru rt ⟨p, n, xs, rfl, rfl, q1.sq, fun h => ?_, c.2.1, c.2.2.1, by omega, fun m hm => ?_⟩
        · subst h
          exact c.1 (List.eq_nil_of_length_eq_zero (by simpa using e1))
        · exact k _ _ (Step.upd hm) (rs_.upd hm) (Rep.newT rs_ hm (repL_rep l1 _))
      · cases eo
    | _ => cases eo
  | _ => cases eo
end
end Mp
end SMpD

section SMpE
set_option Elab.async false
set_option linter.all false
set_option maxRecDepth 100000
open PySem PySem.Spec PyProof.Rows L2
namespace Mp
variable [Lt]
section
variable {X : Cx} {W : WX} {a b c : Expr} {ma mb mc : MEx} {ta tb : MTs} {pos : Pos}
theorem bind_assoc' {α β γ : Type} (o : Out α) (f : α → Sto → Out β) (g : β → Sto → Out γ) : (o.bind f).bind g = o.bind fun a S => (f a S).bind g := by cases o <;> rfl
theorem OpV.go {f : Value → Value → Sem Value} {op : Op2} {β : Type} {kp : KP β} {xp : XP} {pins : List (Addr × Obj)} {s : Shared} {σ : L2.St} {H : Hp} {r z : List Addr} {e : Ev} {S : Sto} {x y : D} {v w : V} {u t : Value} {g : D → Sto → Out β} {Post : Value → Shared → Prop}
    (ho : OpV X f op) (I : Inv X pins σ H s) (A : All X.kw r z H σ e S) (R1 : Rep X.kw r z H x v) (R2 : Rep X.kw r z H y w) (ru : RelV v u) (rt : RelV w t) (F : Fin r H ((oo S (op S x y)).bind g) kp xp)
    (k : ∀ u' v' H1 s1 d, Step r H r H1 → Inv X pins σ H1 s1 → RelV v' u' → All X.kw r z H1 σ e S → Rep X.kw r z H1 d v' → Fin r H1 (g d S) kp xp → Post u' s1) : wpAny (model X.prog X.w) X.A (f u t) Post X.xe s := by
  cases q : op S x y with
  | none => rw [q] at F; exact F.elim
  | some d =>
    rw [q] at F
    refine thn (ho pins s σ H r z S x y d v w u t (fun v' H1 => Step r H r H1 ∧ RepS X.kw r z H1 S ∧ Rep X.kw r z H1 d v') I A.s R1 R2 ru rt q fun H' v' st rs rv => ⟨st, rs, rv⟩) ?_
    rintro u' s1 ⟨v', H1, I1, ru', st, rs, rv⟩
    exact k u' v' H1 s1 d st I1 ru' ⟨rs, A.e.step st⟩ rv (Fin.step st F)
theorem pev_neg (ha : PEv X W a ma) : PEv X W (.UnaryOp .USub a pos) (mNeg ma) := by
  refine ⟨fun pins s σ H Q I ⟨r, z, e, S, A, F⟩ => UnaryOp_ ?_⟩
  refine ha.go I A F fun u v r1 H1 s1 d S1 st1 I1 ru A1 R1 F1 => ?_
  cases d with
  | int i =>
    rw [Rep] at R1; subst R1
    exact un_neg pins s1 σ H1 _ u Q I1 ru ⟨i, rfl, F1 r1 H1 (Step.refl _ _) A1.s _ (repI _)⟩
  | _ => exact (show False from F1).elim
theorem pev_cmp {op : CmpOp} {f : Op2} (ho : OpV X (compareOp op) f) (ha : PEv X W a ma) (hb : PEv X W b mb) (hm : behindInMarks op b = false) : PEv X W (.Compare a [op] [b] pos) (mOp f ma mb) := by
  refine ⟨fun pins s σ H Q I ⟨r, z, e, S, A, F⟩ => wpAny_Compare1 ?_ hm⟩
  refine ha.go I A F fun u v r1 H1 s1 d S1 st1 I1 ru A1 R1 F1 => ?_
  refine hb.go I1 A1 F1 fun u2 v2 r2 H2 s2 d2 S2 st2 I2 ru2 A2 R2 F2 => ?_
  obtain ⟨d3, e3, F3⟩ := fin_oo F2
  exact ho pins s2 σ H2 r2 z S2 d d2 d3 v v2 u u2 Q I2 A2.s (R1.step st2) R2 ru ru2 e3 fun H' v' st rs rv => F3 r2 H' st rs v' rv
/-- any expression whose test is its value's, where the value is a bool -/
theorem ptv_val (ha : PEv X W a ma) (he : ∀ whole, isTrue a X.env whole = (do let v ← whole; standAt a.pos; holding [v] (truthy v))) : PTv X W a (mtVal ma) := by
  refine ⟨fun pins s σ H Q I ⟨r, z, e, S, A, F⟩ => isTrue_plain ?_ (he _)⟩
  refine ha.go I A F fun u v r1 H1 s1 d S1 st1 I1 ru A1 R1 F1 => ?_
  cases d with
  | bl k =>
    rw [Rep] at R1; subst R1
    obtain rfl : u = Value.bool k := ru
    exact wpAny_truthy_bool ⟨H1, I1, F1 r1 H1 (Step.refl _ _) A1.s⟩
  | _ => exact (show False from F1).elim
theorem ptv_cmp {op : CmpOp} {f : Op2} (ho : OpV X (compareOp op) f) (ha : PEv X W a ma) (hb : PEv X W b mb) (hm : behindInMarks op b = false) : PTv X W (.Compare a [op] [b] pos) (mtVal (mOp f ma mb)) := by
  refine ⟨fun pins s σ H Q I ⟨r, z, e, S, A, F⟩ => wpAny_isTrue_Compare1 ?_ hm⟩
  have F' : Fin r H ((ma e S).bind fun x S => (mb e S).bind fun y S => (oo S (f S x y)).bind fun x S => match x with | .bl b => .ok b S | _ => .bad) (kB X.kw z Q) (xpG X.kw X.mg z W) := by
    have e1 : (mtVal (mOp f ma mb)) e S = ((ma e S).bind fun x S => (mb e S).bind fun y S => (oo S (f S x y)).bind fun x S => match x with | .bl b => .ok b S | _ => .bad) := by
      unfold mtVal mOp
      rw [bind_assoc']
      congr 1
      funext x S1
      rw [bind_assoc']
      try rfl
    rw [← e1]; exact F
  refine ha.go I A F' fun u v r1 H1 s1 d S1 st1 I1 ru A1 R1 F1 => ?_
  refine hb.go I1 A1 F1 fun u2 v2 r2 H2 s2 d2 S2 st2 I2 ru2 A2 R2 F2 => ?_
  refine ho.go I2 A2 (R1.step st2) R2 ru ru2 F2 fun u3 v3 H3 s3 d3 st3 I3 ru3 A3 R3 F3 => ?_
  cases d3 with
  | bl k =>
    rw [Rep] at R3; subst R3
    obtain rfl : u3 = Value.bool k := ru3
    exact wpAny_truthy_bool ⟨H3, I3, F3 r2 H3 (Step.refl _ _) A3.s⟩
  | _ => exact (show False from F3).elim
theorem rep_truth {K : Kw} {r z : List Addr} {H : Hp} {S : Sto} {d : D} {v : V} {k : Bool} (rs_ : RepS K r z H S) (h : Rep K r z H d v) (e : truth S d = some k) : TruV K.f v H k := by
  cases d with
  | non => rw [Rep] at h; subst h; cases e; rfl
  | bl b => rw [Rep] at h; subst h; cases e; rfl
  | int b => rw [Rep] at h; subst h; cases e; rfl
  | str b =>
    rw [Rep] at h; subst h
    have e : (if b.length ≤ sizeLine then some ((b.length : Int) != 0) else none) = some k := e
    split at e
    · rename_i c; cases e; exact ⟨c, rfl⟩
    · cases e
  | tup ds =>
    rw [Rep] at h
    obtain ⟨a, xs, rfl, q, l⟩ := h
    cases e
    refine .inr (.inl ⟨xs, q.sq, ?_⟩)
    have := l.length
    cases ds <;> cases xs <;> first | rfl | simp at this
  | lst ds =>
    rw [Rep] at h
    obtain ⟨a, xs, rfl, q, l⟩ := h
    cases e
    refine .inl ⟨xs, q.sq, ?_⟩
    have := l.length
    cases ds <;> cases xs <;> first | rfl | simp at this
  | dct _ _ _ => cases e
  | clo _ _ => cases e
  | loc n =>
    cases hl : S[n]? with
    | none => simp [truth, hl] at e
    | some ob =>
      cases ob with
      | list ds =>
        have e : some (!ds.isEmpty) = some k := by simpa [truth, hl] using e
        cases e
        obtain ⟨a, xs, rfl, q, l⟩ := rep_lst (ds := ds) rs_ h (by simp [lstOf, hl])
        refine .inl ⟨xs, q, ?_⟩
        have := l.length
        cases ds <;> cases xs <;> first | rfl | simp at this
      | dict _ => simp [truth, hl] at e
      | map _ _ => simp [truth, hl] at e
      | inst _ _ => simp [truth, hl] at e
theorem ptv_truth (ha : PEv X W a ma) (he : ∀ whole, isTrue a X.env whole = (do let v ← whole; standAt a.pos; holding [v] (truthy v))) : PTv X W a (mtTruth ma) := by
  refine ⟨fun pins s σ H Q I ⟨r, z, e, S, A, F⟩ => isTrue_plain ?_ (he _)⟩
  refine ha.go I A F fun u v r1 H1 s1 d S1 st1 I1 ru A1 R1 F1 => ?_
  cases q : truth S1 d with
  | none => rw [q] at F1; exact F1.elim
  | some k =>
    rw [q] at F1
    exact tru_ok pins s1 σ H1 v u Q I1 ru ⟨k, rep_truth A1.s R1 q, F1 r1 H1 (Step.refl _ _) A1.s⟩
theorem ptv_not (ha : PTv X W a ta) : PTv X W (.UnaryOp .Not a pos) (mtNot ta) := by
  refine ⟨fun pins s σ H Q I ⟨r, z, e, S, A, F⟩ => ?_⟩
  refine isTrue_not (ha.go I A F fun b r1 H1 s1 S1 st1 I1 A1 F1 => ⟨H1, I1, F1 r1 H1 (Step.refl _ _) A1.s⟩)
variable {rest : List Expr}
theorem pwv_and1 (ha : PTv X W a ta) : PWv X W (.BoolOp .And [a] pos) ta := pw_and1 ha
theorem pwv_or1 (ha : PTv X W a ta) : PWv X W (.BoolOp .Or [a] pos) ta := pw_or1 ha
theorem pwv_and (ha : PTv X W a ta) (hb : PWv X W (.BoolOp .And (b :: rest) pos) tb) : PWv X W (.BoolOp .And (a :: b :: rest) pos) (mtAnd ta tb) := by
  refine ⟨fun wh pins s σ H Q I ⟨r, z, e, S, A, F⟩ => isTrue_and (ha.go I A F fun c r1 H1 s1 S1 st1 I1 A1 F1 => ?_)⟩
  cases c with
  | true => exact hb.run wh pins s1 σ H1 Q I1 ⟨r1, z, e, S1, A1, F1⟩
  | false => exact ⟨H1, I1, F1 r1 H1 (Step.refl _ _) A1.s⟩
theorem pwv_or (ha : PTv X W a ta) (hb : PWv X W (.BoolOp .Or (b :: rest) pos) tb) : PWv X W (.BoolOp .Or (a :: b :: rest) pos) (mtOr ta tb) := by
  refine ⟨fun wh pins s σ H Q I ⟨r, z, e, S, A, F⟩ => isTrue_or (ha.go I A F fun c r1 H1 s1 S1 st1 I1 A1 F1 => ?_)⟩
  cases c with
  | false => exact hb.run wh pins s1 σ H1 Q I1 ⟨r1, z, e, S1, A1, F1⟩
  | true => exact ⟨H1, I1, F1 r1 H1 (Step.refl _ _) A1.s⟩
theorem PWv.pt (h : PWv X W a ta) : PTv X W a ta := PW.pt h
theorem pev_one {op} (h : PEv X W a ma) : PEv X W (.BoolOp op [a] pos) ma := pe_one h
theorem pev_and (ha : PEv X W a ma) (hb : PEv X W (.BoolOp .And (b :: rest) pos) mb) : PEv X W (.BoolOp .And (a :: b :: rest) pos) (mAnd ma mb) := by
  refine ⟨fun pins s σ H Q I ⟨r, z, e, S, A, F⟩ => BoolOp_and (ha.go I A F fun u v r1 H1 s1 d S1 st1 I1 ru A1 R1 F1 => ?_)⟩
  cases d with
  | bl k =>
    rw [Rep] at R1; subst R1
    obtain rfl : u = Value.bool k := ru
    refine wpAny_truthy_bool ?_
    cases k with
    | true => exact hb.run pins s1 σ H1 Q I1 ⟨r1, z, e, S1, A1, F1⟩
    | false => exact ⟨.bl false, H1, I1, rfl, F1 r1 H1 (Step.refl _ _) A1.s _ (repB _)⟩
  | _ => exact (show False from F1).elim
theorem pev_or (ha : PEv X W a ma) (hb : PEv X W (.BoolOp .Or (b :: rest) pos) mb) : PEv X W (.BoolOp .Or (a :: b :: rest) pos) (mOr ma mb) := by
  refine ⟨fun pins s σ H Q I ⟨r, z, e, S, A, F⟩ => BoolOp_or (ha.go I A F fun u v r1 H1 s1 d S1 st1 I1 ru A1 R1 F1 => ?_)⟩
  cases d with
  | bl k =>
    rw [Rep] at R1; subst R1
    obtain rfl : u = Value.bool k := ru
    refine wpAny_truthy_bool ?_
    cases k with
    | false => exact hb.run pins s1 σ H1 Q I1 ⟨r1, z, e, S1, A1, F1⟩
    | true => exact ⟨.bl true, H1, I1, rfl, F1 r1 H1 (Step.refl _ _) A1.s _ (repB _)⟩
  | _ => exact (show False from F1).elim
theorem pev_not (ha : PEv X W a ma) : PEv X W (.UnaryOp .Not a pos) (mNot ma) := by
  refine ⟨fun pins s σ H Q I ⟨r, z, e, S, A, F⟩ => UnaryOp_ (ha.go I A F fun u v r1 H1 s1 d S1 st1 I1 ru A1 R1 F1 => ?_)⟩
  cases d with
  | bl k =>
    rw [Rep] at R1; subst R1
    obtain rfl : u = Value.bool k := ru
    exact not_of (wpAny_truthy_bool ⟨.bl (!k), H1, I1, rfl, F1 r1 H1 (Step.refl _ _) A1.s _ (repB _)⟩)
  | _ => exact (show False from F1).elim
theorem pev_if (hc : PTv X W c ta) (ha : PEv X W a ma) (hb : PEv X W b mb) : PEv X W (.IfExp c a b pos) (mIf ta ma mb) := by
  refine ⟨fun pins s σ H Q I ⟨r, z, e, S, A, F⟩ => wpAny_IfExp (hc.go I A F fun k r1 H1 s1 S1 st1 I1 A1 F1 => ?_)⟩
  cases k with
  | true => exact ha.run pins s1 σ H1 Q I1 ⟨r1, z, e, S1, A1, F1⟩
  | false => exact hb.run pins s1 σ H1 Q I1 ⟨r1, z, e, S1, A1, F1⟩
theorem pev_chain {op op' : CmpOp} {f g : Op2} (ho : OpV X (compareOp op) f) (ho' : OpV X (compareOp op') g) (ha : PEv X W a ma) (hb : PEv X W b mb) (hc : PEv X W c mc)
    (hm : lastMarks [op, op'] [b, c] = false := by with_unfolding_all rfl) : PEv X W (.Compare a [op, op'] [b, c] pos) (mChain f g ma mb mc) := by
  refine ⟨fun pins s σ H Q I ⟨r, z, e, S, A, F⟩ => ?_⟩
  refine Compare_chain (ha.go I A F fun u v r1 H1 s1 d S1 st1 I1 ru A1 R1 F1 => chain_link (hb.go I1 A1 F1 fun u2 v2 r2 H2 s2 d2 S2 st2 I2 ru2 A2 R2 F2 => ho.go I2 A2 (R1.step st2) R2 ru ru2 F2 fun u3 v3 H3 s3 d3 st3 I3 ru3 A3 R3 F3 => ?_)) hm
  cases d3 with
  | bl k =>
    rw [Rep] at R3; subst R3
    obtain rfl : u3 = Value.bool k := ru3
    refine wpAny_truthy_bool ?_
    cases k with
    | false => exact ite_ff ⟨.bl false, H3, I3, rfl, F3 r2 H3 (Step.refl _ _) A3.s _ (repB _)⟩
    | true =>
      refine ite_tt (chain_last (hc.go I3 A3 F3 fun u4 v4 r4 H4 s4 d4 S4 st4 I4 ru4 A4 R4 F4 => ?_))
      obtain ⟨d5, e5, F5⟩ := fin_oo F4
      exact ho' pins s4 σ H4 r4 z S4 d2 d4 d5 v2 v4 u2 u4 Q I4 A4.s ((R2.step st3).step st4) R4 ru2 ru4 e5 fun H' v' st rs rv => F5 r4 H' st rs v' rv
  | _ => exact (show False from F3).elim
theorem ptv_chain {op op' : CmpOp} {f g : Op2} (ho : OpV X (compareOp op) f) (ho' : OpV X (compareOp op') g) (ha : PEv X W a ma) (hb : PEv X W b mb) (hc : PEv X W c mc)
    (hm : lastMarks [op, op'] [b, c] = false := by with_unfolding_all rfl) : PTv X W (.Compare a [op, op'] [b, c] pos) (mtVal (mChain f g ma mb mc)) := by
  refine ⟨fun pins s σ H Q I ⟨r, z, e, S, A, F⟩ => ?_⟩
  have F' : Fin r H ((ma e S).bind fun x S => (mb e S).bind fun y S => (oo S (f S x y)).bind fun r S => match r with
      | .bl true => (mc e S).bind fun w S => (oo S (g S y w)).bind fun x S => match x with | .bl b => .ok b S | _ => .bad
      | .bl false => .ok false S
      | _ => .bad) (kB X.kw z Q) (xpG X.kw X.mg z W) := by
    have e1 : (mtVal (mChain f g ma mb mc)) e S = ((ma e S).bind fun x S => (mb e S).bind fun y S => (oo S (f S x y)).bind fun r S => match r with
      | .bl true => (mc e S).bind fun w S => (oo S (g S y w)).bind fun x S => match x with | .bl b => .ok b S | _ => .bad
      | .bl false => .ok false S
      | _ => .bad) := by
      unfold mtVal mChain
      rw [bind_assoc']
      congr 1
      funext x S1
      rw [bind_assoc']
      congr 1
      funext y S2
      rw [bind_assoc']
      congr 1
      funext t S3
      cases t with
      | bl k =>
        cases k with
        | true => exact bind_assoc' _ _ _
        | false => rfl
      | _ => rfl
    rw [← e1]; exact F
  refine isTrue_chain (ha.go I A F' fun u v r1 H1 s1 d S1 st1 I1 ru A1 R1 F1 => test_link (hb.go I1 A1 F1 fun u2 v2 r2 H2 s2 d2 S2 st2 I2 ru2 A2 R2 F2 => ho.go I2 A2 (R1.step st2) R2 ru ru2 F2 fun u3 v3 H3 s3 d3 st3 I3 ru3 A3 R3 F3 => ?_)) hm
  cases d3 with
  | bl k =>
    rw [Rep] at R3; subst R3
    obtain rfl : u3 = Value.bool k := ru3
    refine wpAny_truthy_bool ?_
    cases k with
    | false => exact ite_ff ⟨H3, I3, F3 r2 H3 (Step.refl _ _) A3.s⟩
    | true =>
      refine ite_tt (test_last (hc.go I3 A3 F3 fun u4 v4 r4 H4 s4 d4 S4 st4 I4 ru4 A4 R4 F4 => ho'.go I4 A4 ((R2.step st3).step st4) R4 ru2 ru4 F4 fun u5 v5 H5 s5 d5 st5 I5 ru5 A5 R5 F5 => ?_))
      cases d5 with
      | bl k =>
        rw [Rep] at R5; subst R5
        obtain rfl : u5 = Value.bool k := ru5
        exact wpAny_truthy_bool ⟨H5, I5, F5 r4 H5 (Step.refl _ _) A5.s⟩
      | _ => exact (show False from F5).elim
  | _ => exact (show False from F3).elim
/-! ### arguments, displays -/
variable {es : List Expr} {mr : MAs}
theorem pav_nil : PAv X W [] aNil := ⟨fun _ pins s σ H Q I ⟨r, z, e, S, A, F⟩ => Calls.spliced_nil ⟨[], H, I, .nil, F r H (Step.refl _ _) A.s [] RepL.nil⟩⟩
theorem pav_cons (ha : PEv X W a ma) (hr : PAv X W es mr) (hs : starEach (a :: es) X.env = (false, eval a X.env) :: starEach es X.env := by rfl) : PAv X W (a :: es) (aCons ma mr) := by
  refine ⟨fun pos pins s σ H Q I ⟨r, z, e, S, A, F⟩ => ?_⟩
  rw [hs]
  show wpAny _ _ (spliced ((false, eval a X.env) :: backTo pos (starEach es X.env))) _ _ s
  refine Calls.spliced_cons (ha.go I A F fun u v r1 H1 s1 d S1 st1 I1 ru A1 R1 F1 => ?_)
  refine hr.go I1 A1 F1 fun us vs r2 H2 s2 ds S2 st2 I2 rus A2 R2 F2 => ?_
  exact ⟨v :: vs, H2, I2, .cons ru rus, F2 r2 H2 (Step.refl _ _) A2.s _ (R2.cons (R1.step st2))⟩
theorem pev_tup {x1} (h : PAv X W es mr) : PEv X W (.Tuple es x1 pos) (mTup mr) := by
  refine ⟨fun pins s σ H Q I ⟨r, z, e, S, A, F⟩ => ?_⟩
  refine (pe_tup h).run pins s σ H Q I ⟨r, z, e, S, A, ?_⟩
  have F : Fin r H ((mr e S).bind fun xs S => if xs.length ≤ sizeLine then .ok (.tup xs) S else .bad) (kE X.kw z Q) (xpG X.kw X.mg z W) := F
  cases q : mr e S with
  | bad => rw [q] at F; exact F
  | exc x e' S1 => rw [q] at F; exact F
  | ok ds S1 =>
    rw [q] at F
    have F : Fin r H (if ds.length ≤ sizeLine then .ok (.tup ds) S1 else .bad) (kE X.kw z Q) (xpG X.kw X.mg z W) := F
    intro r1 H1 st rs_ vs l
    split at F
    · rename_i c
      refine ⟨by rw [← l.length]; exact c, fun p hp => ?_⟩
      exact F r1 _ (st.trans (Step.upd hp)) (rs_.upd hp) _ (Rep.newT rs_ hp l)
    · exact F.elim
/-! ### new lists -/
def kF (K : Kw) (z : List Addr) (Q : VK) : KP (List D) := fun r H ds S => RepS K r z H S → ∀ vs, RepL K r z H ds vs → ∀ p, H p = none → Q (.ref p) (L2.upd H p (.lst vs))
def tfM (K : Kw) (G : Str → Option Value) (W : WX) (m : MAs) : TE := fun σ H Q => ∃ r z e S, All K r z H σ e S ∧ Fin r H (m e S) (kF K z Q) (xpG K G z W)
def PFv (X : Cx) (W : WX) (ex : Expr) (m : MAs) : Prop := PE X ex (tfM X.kw X.mg W m)
theorem PFv.frz (h : PFv X W a mr) : PEv X W a (mFrz mr) := by
  refine ⟨fun pins s σ H Q I ⟨r, z, e, S, A, F⟩ => h.run pins s σ H Q I ⟨r, z, e, S, A, ?_⟩⟩
  unfold mFrz at F
  cases q : mr e S with
  | bad => rw [q] at F; exact F
  | exc x e' S1 => rw [q] at F; exact F
  | ok ds S1 =>
    rw [q] at F
    exact fun r1 H1 st rs_ vs l p hp => F r1 _ (st.trans (Step.upd hp)) (rs_.upd hp) _ (Rep.newL rs_ hp l)
theorem PFv.new (h : PFv X W a mr) : PEv X W a (mNew mr) := by
  refine ⟨fun pins s σ H Q I ⟨r, z, e, S, A, F⟩ => h.run pins s σ H Q I ⟨r, z, e, S, A, ?_⟩⟩
  unfold mNew at F
  cases q : mr e S with
  | bad => rw [q] at F; exact F
  | exc x e' S1 => rw [q] at F; exact F
  | ok ds S1 =>
    rw [q] at F
    intro r1 H1 st rs_ vs l p hp
    rw [bind_ok] at F
    split at F
    case isFalse => exact F.elim
    rename_i nc
    refine F (r1 ++ [p]) _ (st.trans (Step.new hp)) (rs_.new hp ⟨nc, vs, upd_same, l.step (Step.new hp)⟩) _ ?_
    rw [Rep]
    exact ⟨p, by rw [← rs_.len]; simp, rfl⟩
theorem pfv_lst (h : PAv X W es mr) : PFv X W (.List es pos) (lDisp mr) := by
  refine ⟨fun pins s σ H Q I ⟨r, z, e, S, A, F⟩ => ?_⟩
  refine (pe_lst h).run pins s σ H Q I ⟨r, z, e, S, A, ?_⟩
  unfold lDisp at F
  cases q : mr e S with
  | bad => rw [q] at F; exact F
  | exc x e' S1 => rw [q] at F; exact F
  | ok ds S1 =>
    rw [q] at F
    have F : Fin r H (if ds.length ≤ sizeLine then .ok ds S1 else .bad) (kF X.kw z Q) (xpG X.kw X.mg z W) := F
    intro r1 H1 st rs_ vs l
    split at F
    · rename_i c
      exact ⟨by rw [← l.length]; exact c, fun p hp => F r1 H1 st rs_ vs l p hp⟩
    · exact F.elim
theorem pfv_cat (ha : PEv X W a ma) (hb : PEv X W b mb) : PFv X W (.BinOp a .Add b pos) (lCat ma mb) := by
  refine ⟨fun pins s σ H Q I ⟨r, z, e, S, A, F⟩ => wpAny_BinOp ?_⟩
  refine ha.go I A F fun u v r1 H1 s1 d S1 st1 I1 ru A1 R1 F1 => ?_
  refine hb.go I1 A1 F1 fun u2 v2 r2 H2 s2 d2 S2 st2 I2 ru2 A2 R2 F2 => ?_
  cases q1 : lstOf S2 d with
  | none => rw [q1] at F2; exact F2.elim
  | some xs =>
    cases q2 : lstOf S2 d2 with
    | none => rw [q1, q2] at F2; exact F2.elim
    | some ys =>
      rw [q1, q2] at F2
      have F2 : Fin r2 H2 (if xs.length + ys.length ≤ sizeLine then .ok (xs ++ ys) S2 else .bad) (kF X.kw z Q) (xpG X.kw X.mg z W) := F2
      split at F2
      · rename_i c
        obtain ⟨p, vs, rfl, s1', l1⟩ := rep_lst A2.s (R1.step st2) q1
        obtain ⟨p2, ws, rfl, s2', l2⟩ := rep_lst A2.s R2 q2
        have e1 := l1.length
        have e2 := l2.length
        exact op_catS pins s2 σ H2 _ _ u u2 Q I2 ru ru2 ⟨p, p2, vs, ws, rfl, rfl, s1', s2', by omega, fun n hn => F2 r2 H2 (Step.refl _ _) A2.s _ (l1.append l2) n hn⟩
      · exact F2.elim
/-! ### items, slices -/
def PlainIxE (b : Expr) : Prop := ∀ o i, subscripted b false o i = operate [o, i] (getItem o i)
theorem ixN_eq (n : Nat) (i : Int) : Mp.ixN n i = L2.ixN n i := by
  unfold Mp.ixN L2.ixN
  by_cases a : 0 ≤ i <;> by_cases b : i < n <;> by_cases c : -(n : Int) ≤ i <;> by_cases d : i < 0 <;> simp [a, b, c, d] <;> omega
theorem repL_at {K : Kw} {r z : List Addr} {H : Hp} {ds : List D} {vs : List V} {i : Int} {d : D} (l : RepL K r z H ds vs) (e : ((Mp.ixN ds.length i).bind fun j => ds[j]?) = some d) : ∃ v, atI vs i = some v ∧ Rep K r z H d v := by
  obtain ⟨j, h1, h2⟩ := Option.bind_eq_some_iff.mp e
  obtain ⟨v, h3, h4⟩ := l.got h2
  refine ⟨v, ?_, h4⟩
  unfold atI
  rw [← l.length, ← ixN_eq, h1]
  exact h3
theorem repD_get {K : Kw} {r z : List Addr} {H : Hp} (k : Key) : ∀ {kvs : List (D × D)} {l : List (Key × V)} {d : D}, RepD K r z H kvs l → dget (keyD k) kvs = some d → ∃ v, valV l k = some v ∧ Rep K r z H d v
  | [], l, d, h, e => by cases e
  | p :: ps, l, d, h, e => by
    obtain ⟨k', v, l', rfl, h1, h2, h3⟩ := h
    unfold dget at e
    by_cases q : k' = k
    · subst q
      rw [if_pos h1] at e
      cases e
      exact ⟨v, valV_pos rfl, h2⟩
    · have n : ¬ p.1 = keyD k := by
        rw [h1]
        intro z
        apply q
        cases k' <;> cases k <;> simp [keyD] at z <;> simp [z]
      rw [if_neg n] at e
      obtain ⟨v', e1, e2⟩ := repD_get k h3 e
      exact ⟨v', by rw [valV_neg q]; exact e1, e2⟩
theorem repD_key {K : Kw} {r z : List Addr} {H : Hp} : ∀ {kvs : List (D × D)} {l : List (Key × V)} {k d : D}, RepD K r z H kvs l → dget k kvs = some d → ∃ y, k = keyD y
  | [], l, k, d, h, e => by cases e
  | p :: ps, l, k, d, h, e => by
    obtain ⟨k', v, l', rfl, h1, h2, h3⟩ := h
    unfold dget at e
    split at e
    · rename_i q
      exact ⟨k', q.symm.trans h1⟩
    · exact repD_key h3 e
theorem pev_ix (hu : X.A.units + 65 < cLine) (ha : PEv X W a ma) (hb : PEv X W b mb) (hs : PlainIxE b) : PEv X W (.Subscript a b pos) (mIx ma mb) := by
  refine ⟨fun pins s σ H Q I ⟨r, z, e, S, A, F⟩ => Subscript_ ?_⟩
  refine ha.go I A F fun u v r1 H1 s1 d S1 st1 I1 ru A1 R1 F1 => ?_
  refine hb.go I1 A1 F1 fun u2 v2 r2 H2 s2 d2 S2 st2 I2 ru2 A2 R2 F2 => ?_
  obtain ⟨d3, e3, F3⟩ := fin_oo F2
  have R1 := R1.step st2
  have hp := hs u u2
  have fin : ∀ v', Rep X.kw r2 z H2 d3 v' → Q v' H2 := fun v' rv => F3 r2 H2 (Step.refl _ _) A2.s v' rv
  have maps : ∀ kvs, mapOf S2 d = some kvs → keyOk d2 = true → dget d2 kvs = some d3 → wpAny (model X.prog X.w) X.A (subscriptTail a b u u2) (EP X pins σ Q) X.xe s2 := by
    intro kvs hm hk e3
    obtain ⟨p, xs, us, rfl, hM, hz, hsm, hpd, hd⟩ := map_at I2 A2.s R1 ru hm
    obtain ⟨q, rfl, rfl, hb⟩ := key_at I2 hk R2 ru2
    rcases nd_get hk hM hpd with ⟨e1, _⟩ | ⟨y, v', p', u', e1, e2, e4, e5⟩
    · rw [e3] at e1; cases e1
    · rw [e3] at e1; cases e1
      exact tail_any hd.typeIs PySem.F.slot_dict_getitem.lookup (wpAny_getItem_heap (nroom hu) hb hd e2 ⟨v', H2, I2.tok _, e5, fin v' e4⟩) hp
  cases d with
  | dct t ks vs =>
    cases t with
    | false => cases e3
    | true =>
      have e3 : (if keyOk d2 = true then dget d2 (ks.zip vs) else none) = some d3 := e3
      split at e3
      · rename_i hk
        exact maps _ rfl hk e3
      · cases e3
  | clo _ _ => cases e3
  | loc n =>
    cases hl : S2[n]? with
    | none => simp [oIx, hl] at e3
    | some ob =>
      cases ob with
      | list xs =>
        cases d2 with
        | int i =>
          have e3 : ((Mp.ixN xs.length i).bind fun j => xs[j]?) = some d3 := by simpa [oIx, hl] using e3
          obtain ⟨p, vs, rfl, sq, l⟩ := rep_lst (ds := xs) A2.s R1 (by simp [lstOf, hl])
          rw [Rep] at R2; subst R2
          obtain ⟨v', h1, h2⟩ := repL_at l e3
          exact ix_list a b pins s2 σ H2 _ _ u u2 Q I2 ru ru2 ⟨p, vs, i, v', rfl, rfl, sq, h1, fin v' h2⟩ hp
        | _ => simp [oIx, hl] at e3
      | dict kvs =>
        have e3 : dget d2 kvs = some d3 := by simpa [oIx, hl] using e3
        rw [Rep] at R1
        obtain ⟨p, h1, rfl⟩ := R1
        obtain ⟨p', h2, _, l, h3, h4⟩ := A2.s.ob n _ hl
        rw [h1] at h2; cases h2
        obtain rfl : u = Value.ref p := ru
        have go : ∀ k : Key, d2 = keyD k → v2 = kV k → wpAny (model X.prog X.w) X.A (subscriptTail a b (.ref p) u2) (EP X pins σ Q) X.xe s2 := by
          intro k ed ev
          subst ed; subst ev
          obtain ⟨v', h5, h6⟩ := repD_get k h4 e3
          have g : DGet H2 p (kV k) (some v') := by rw [← h5]; exact DGet.k h3
          exact tail_any (dict_typeIs I2 g) PySem.F.slot_dict_getitem.lookup (d_getItem (by omega) I2 g ru2 fun w' s3 I3 rw' => ⟨v', H2, I3, rw', fin v' h6⟩) hp
        obtain ⟨y, rfl⟩ := repD_key h4 e3
        cases y with
        | inl i => rw [show keyD (.inl i) = .int i from rfl, Rep] at R2; exact go (.inl i) rfl R2
        | inr i => rw [show keyD (.inr i) = .str i from rfl, Rep] at R2; exact go (.inr i) rfl R2
      | map lk kvs =>
        have e3 : (if keyOk d2 = true then dget d2 kvs else none) = some d3 := by simpa [oIx, hl] using e3
        split at e3
        · rename_i hk
          exact maps kvs (by simp [mapOf, hl]) hk e3
        · cases e3
      | inst _ _ => simp [oIx, hl] at e3
  | tup xs =>
    cases d2 with
    | int i =>
      have e3 : ((Mp.ixN xs.length i).bind fun j => xs[j]?) = some d3 := e3
      rw [Rep] at R1
      obtain ⟨p, vs, rfl, sq, l⟩ := R1
      rw [Rep] at R2; subst R2
      obtain ⟨v', h1, h2⟩ := repL_at l e3
      exact ix_tup a b pins s2 σ H2 _ _ u u2 Q I2 ru ru2 ⟨p, vs, i, v', rfl, rfl, sq.sq, h1, fin v' h2⟩ hp
    | _ => cases e3
  | lst xs =>
    cases d2 with
    | int i =>
      have e3 : ((Mp.ixN xs.length i).bind fun j => xs[j]?) = some d3 := e3
      rw [Rep] at R1
      obtain ⟨p, vs, rfl, sq, l⟩ := R1
      rw [Rep] at R2; subst R2
      obtain ⟨v', h1, h2⟩ := repL_at l e3
      exact ix_list a b pins s2 σ H2 _ _ u u2 Q I2 ru ru2 ⟨p, vs, i, v', rfl, rfl, sq.sq, h1, fin v' h2⟩ hp
    | _ => cases e3
  | _ => cases e3
end
end Mp
end SMpE

section SMpF
set_option Elab.async false
set_option linter.all false
set_option maxRecDepth 100000
open PySem PySem.Spec PyProof.Rows L2
namespace Mp
variable [Lt]
section
variable {X : Cx} {W : WX} {a b c : Expr} {ma mb mc : MEx} {ta tb : MTs} {pos p2 p : Pos} {es : List Expr} {mr : MAs} {x : Str} {id T : String}
/-! ### slices -/
def toM (K : Kw) (G : Str → Option Value) (W : WX) (m : MOp) : L2.St → Hp → (Option Int → Hp → Prop) → Prop := fun σ H Q => ∃ r z e S, All K r z H σ e S ∧ Fin r H (m e S) (fun r H o S => RepS K r z H S → Q o H) (xpG K G z W)
def POv (X : Cx) (W : WX) (o : Option Expr) (m : MOp) : Prop := PO X o (toM X.kw X.mg W m)
theorem POv.go {o : Option Expr} {m : MOp} (h : POv X W o m) {β : Type} {pins : List (Addr × Obj)} {s : Shared} {σ : L2.St} {H : Hp} {r z : List Addr} {e : Ev} {S : Sto} {kp : KP β} {f : Option Int → Sto → Out β} {Post : Value → Shared → Prop} (I : Inv X pins σ H s) (A : All X.kw r z H σ e S) (F : Fin r H ((m e S).bind f) kp (xpG X.kw X.mg z W))
    (k : ∀ u i r1 H1 s1 S1, Step r H r1 H1 → Inv X pins σ H1 s1 → IsPart u i → All X.kw r1 z H1 σ e S1 → Fin r1 H1 (f i S1) kp (xpG X.kw X.mg z W) → Post u s1) :
    wpAny (model X.prog X.w) X.A (evalPart o X.env) Post X.xe s := by
  refine thn (h.run pins s σ H (fun i H1 => ∃ r1 S1, Step r H r1 H1 ∧ All X.kw r1 z H1 σ e S1 ∧ Fin r1 H1 (f i S1) kp (xpG X.kw X.mg z W)) I ⟨r, z, e, S, A, ?_⟩) ?_
  · cases q : m e S with
    | ok d S1 =>
      rw [q] at F
      exact fun r1 H1 st rs => ⟨r1, S1, st, ⟨rs, A.e.step st⟩, Fin.step st F⟩
    | exc x e' S1 => rw [q] at F; exact F
    | bad => rw [q] at F; exact F
  · rintro u s1 ⟨i, H1, I1, ip, r1, S1, st, A1, F1⟩
    exact k u i r1 H1 s1 S1 st I1 ip A1 F1
theorem pov_none : POv X W none pNone := ⟨fun pins s σ H Q I ⟨r, z, e, S, A, F⟩ => po_none.run pins s σ H Q I (F r H (Step.refl _ _) A.s)⟩
theorem pov_some (ha : PEv X W a ma) : POv X W (some a) (pSome ma) := by
  refine ⟨fun pins s σ H Q I ⟨r, z, e, S, A, F⟩ => ?_⟩
  rw [evalPart_some]
  refine ha.go I A F fun u v r1 H1 s1 d S1 st1 I1 ru A1 R1 F1 => ?_
  cases d with
  | int i =>
    rw [Rep] at R1; subst R1
    obtain ⟨t, rfl⟩ := ru
    exact ⟨some i, H1, I1, .int i t, F1 r1 H1 (Step.refl _ _) A1.s⟩
  | _ => exact (show False from F1).elim
theorem sIx_eq (n d : Nat) (o : Option Int) : Mp.sIx n d o = HT.sIx n d o := by
  cases o with
  | none => rfl
  | some v => by_cases a : 0 ≤ v <;> by_cases b : v < 0 <;> simp [Mp.sIx, HT.sIx, a, b] <;> omega
theorem cut_eq {K : Kw} {r z : List Addr} {H : Hp} {ds : List D} {vs : List V} (l : RepL K r z H ds vs) (lo hi : Option Int) : RepL K r z H (cut ds lo hi) (cutV vs lo hi) := by
  unfold cut cutV
  have e := sIx_eq
  rw [e, e, ← l.length]
  exact (l.drop _).take _
/-- the part of a slice that is the same for all -/
theorem slice_of {lo hi : Option Expr} {ml mh : MOp} {β : Type} {kp : KP β} {g : D → Option Int → Option Int → Sto → Out β} {pins : List (Addr × Obj)} {s : Shared} {σ : L2.St} {H : Hp} {r z : List Addr} {e : Ev} {S : Sto} {Post : Value → Shared → Prop}
    (ha : PEv X W a ma) (hl : POv X W lo ml) (hh : POv X W hi mh) (I : Inv X pins σ H s) (A : All X.kw r z H σ e S)
    (F : Fin r H ((ma e S).bind fun x S => (ml e S).bind fun l S => (mh e S).bind fun h S => g x l h S) kp (xpG X.kw X.mg z W))
    (k : ∀ u v vl vu l h r1 H1 s1 d S1 sl, Inv X pins σ H1 s1 → RelV v u → s1.heap.IsSliceOf sl vl vu .none → IsPart vl l → IsPart vu h → All X.kw r1 z H1 σ e S1 → Rep X.kw r1 z H1 d v → Fin r1 H1 (g d l h S1) kp (xpG X.kw X.mg z W) →
      ∃ T id, typeLookup (.type T) "__getitem__" = pure (some (.builtin id)) ∧ s1.TypeIs u T ∧ wpAny (model X.prog X.w) X.A (getItem u (.ref sl)) Post X.xe s1) :
    wpAny (model X.prog X.w) X.A (eval (.Subscript a (.Slice lo hi none p2) pos) X.env) Post X.xe s := by
  refine Subscript_ (ha.go I A F fun u v r1 H1 s1 d S1 st1 I1 ru A1 R1 F1 => ?_)
  refine wpAny_Slice (hl.go I1 A1 F1 fun vl l r2 H2 s2 S2 st2 I2 pl A2 F2 => hh.go I2 A2 F2 fun vu h r3 H3 s3 S3 st3 I3 pu A3 F3 => ?_)
  rw [evalPart_none]
  refine wpAny_pure ?_
  have I4 := I3.kept (h' := s3.heap.push { cls := .type "slice", data := .fields #[vl, vu, .none] }) (t' := s3.toks) fun _ _ q => Heap.get?_push_of_some _ q
  obtain ⟨T, id, hT, ht, hg⟩ := k u v vl vu l h r3 H3 { s3 with heap := s3.heap.push { cls := .type "slice", data := .fields #[vl, vu, .none] } } d S3 s3.heap.objs.size I4 ru (Heap.IsSliceOf.new ..) pl pu A3 ((R1.step st2).step st3) F3
  show wpAny (model X.prog X.w) X.A (subscriptTail a (.Slice lo hi none p2) u (.ref s3.heap.objs.size)) Post X.xe { s3 with heap := s3.heap.push { cls := .type "slice", data := .fields #[vl, vu, .none] } }
  exact tail_any (ops := [.ref s3.heap.objs.size, u]) ht hT hg (by with_unfolding_all rfl)
theorem pfv_slice {lo hi : Option Expr} {ml mh : MOp} (ha : PEv X W a ma) (hl : POv X W lo ml) (hh : POv X W hi mh) : PFv X W (.Subscript a (.Slice lo hi none p2) pos) (lSlice ma ml mh) := by
  refine ⟨fun pins s σ H Q I ⟨r, z, e, S, A, F⟩ => slice_of ha hl hh I A F fun u v vl vu l h r1 H1 s1 d S1 sl I1 ru is pl pu A1 R1 F1 => ?_⟩
  cases q : lstOf S1 d with
  | none => rw [q] at F1; exact F1.elim
  | some ds =>
    rw [q] at F1
    obtain ⟨p, vs, rfl, sq, lv⟩ := rep_lst A1.s R1 q
    exact sl_list pins s1 σ H1 _ u vl vu l h sl Q I1 ru is pl pu ⟨p, vs, rfl, sq, fun n hn => F1 r1 H1 (Step.refl _ _) A1.s _ (cut_eq lv l h) n hn⟩
theorem pev_slT {lo hi : Option Expr} {ml mh : MOp} (ha : PEv X W a ma) (hl : POv X W lo ml) (hh : POv X W hi mh) : PEv X W (.Subscript a (.Slice lo hi none p2) pos) (mSlT ma ml mh) := by
  refine ⟨fun pins s σ H Q I ⟨r, z, e, S, A, F⟩ => slice_of ha hl hh I A F fun u v vl vu l h r1 H1 s1 d S1 sl I1 ru is pl pu A1 R1 F1 => ?_⟩
  cases d with
  | tup ds =>
    rw [Rep] at R1
    obtain ⟨p, vs, rfl, sq, lv⟩ := R1
    have e := sIx_eq
    refine sl_tupA pins s1 σ H1 _ u vl vu l h sl Q I1 ru is pl pu ⟨p, vs, rfl, sq.sq, fun hw => ?_, fun hw n hn => ?_⟩
    · refine F1 r1 H1 (Step.refl _ _) A1.s _ ?_
      have ec : cut ds l h = ds := by
        unfold cut
        rw [e, e, lv.length, hw.1, hw.2, ← lv.length]
        simp
      rw [ec, Rep]
      exact ⟨p, vs, rfl, sq, lv⟩
    · exact F1 r1 _ (Step.upd hn) (A1.s.upd hn) _ (Rep.newT A1.s hn (cut_eq lv l h))
  | _ => exact (show False from F1).elim
/-! ### built-ins by their names -/
def BnV (X : Cx) (f : Value) (b : Bn) : Prop :=
  ∀ (pins : List (Addr × Obj)) (s : Shared) (σ : L2.St) (H : Hp) (r z : List Addr) (S : Sto) (ds : List D) (d : D) (vs : List V) (us : List Value) (Q : VK), Inv X pins σ H s → RepS X.kw r z H S → RepL X.kw r z H ds vs → Vals vs us → b S ds = some d →
    (∀ H' v', Step r H r H' → RepS X.kw r z H' S → Rep X.kw r z H' d v' → Q v' H') → wpAny (model X.prog X.w) X.A (call f us) (EP X pins σ Q) X.xe s
def LnV (X : Cx) (f : Value) (b : Ln) : Prop :=
  ∀ (pins : List (Addr × Obj)) (s : Shared) (σ : L2.St) (H : Hp) (r z : List Addr) (S : Sto) (ds ys : List D) (vs : List V) (us : List Value) (Q : VK), Inv X pins σ H s → RepS X.kw r z H S → RepL X.kw r z H ds vs → Vals vs us → b S ds = some ys →
    (∀ ws p, RepL X.kw r z H ys ws → H p = none → Q (.ref p) (L2.upd H p (.lst ws))) → wpAny (model X.prog X.w) X.A (call f us) (EP X pins σ Q) X.xe s
theorem pev_b {f : Bn} (hc : BnV X (.builtin id) f) (hg : Gl X x) (hm : X.mg x = none) (hv : bootBuiltins x = some (.builtin id)) (ha : PAv X W (a :: es) mr) (hn : x ≠ "__name__" := by decide) (hdb : (x == ("__debug__" : Str)) = false := by decide)
    (he : starEach (a :: es) X.env = (false, eval a X.env) :: starEach es X.env := by rfl) (hpl : (backTo pos (starEach es X.env)).any (·.1) = false := by rfl) : PEv X W (.Call (.Name x p) (a :: es) [] pos) (mB f mr) := by
  refine ⟨fun pins s σ H Q I ⟨r, z, e, S, A, F⟩ => wpAny_Call_Name_kw (ld_blt I hg hm hv ?_ hn hdb)⟩
  refine PyProof.Rows.callWith_builtin1 (ha.go I A F fun us vs r1 H1 s1 ds S1 st1 I1 ru A1 R1 F1 => ?_) he hpl
  obtain ⟨d3, e3, F3⟩ := fin_oo F1
  exact hc pins s1 σ H1 r1 z S1 ds d3 vs us Q I1 A1.s R1 ru e3 fun H' v' st rs rv => F3 r1 H' st rs v' rv
theorem pev_bT {f : Bn} (hc : BnV X (.type T) f) (hg : Gl X x) (hm : X.mg x = none) (hv : bootBuiltins x = some (.type T)) (ha : PAv X W (a :: es) mr) (hn : x ≠ "__name__" := by decide) (hdb : (x == ("__debug__" : Str)) = false := by decide)
    (he : starEach (a :: es) X.env = (false, eval a X.env) :: starEach es X.env := by rfl) (hpl : (backTo pos (starEach es X.env)).any (·.1) = false := by rfl) : PEv X W (.Call (.Name x p) (a :: es) [] pos) (mB f mr) := by
  refine ⟨fun pins s σ H Q I ⟨r, z, e, S, A, F⟩ => wpAny_Call_Name_kw (ld_blt I hg hm hv ?_ hn hdb)⟩
  refine PyProof.Rows.callWith_type1 (ha.go I A F fun us vs r1 H1 s1 ds S1 st1 I1 ru A1 R1 F1 => ?_) he hpl
  obtain ⟨d3, e3, F3⟩ := fin_oo F1
  exact hc pins s1 σ H1 r1 z S1 ds d3 vs us Q I1 A1.s R1 ru e3 fun H' v' st rs rv => F3 r1 H' st rs v' rv
theorem pfv_b {f : Ln} (hc : LnV X (.builtin id) f) (hg : Gl X x) (hm : X.mg x = none) (hv : bootBuiltins x = some (.builtin id)) (ha : PAv X W (a :: es) mr) (hn : x ≠ "__name__" := by decide) (hdb : (x == ("__debug__" : Str)) = false := by decide)
    (he : starEach (a :: es) X.env = (false, eval a X.env) :: starEach es X.env := by rfl) (hpl : (backTo pos (starEach es X.env)).any (·.1) = false := by rfl) : PFv X W (.Call (.Name x p) (a :: es) [] pos) (lB f mr) := by
  refine ⟨fun pins s σ H Q I ⟨r, z, e, S, A, F⟩ => wpAny_Call_Name_kw (ld_blt I hg hm hv ?_ hn hdb)⟩
  refine PyProof.Rows.callWith_builtin1 (ha.go I A F fun us vs r1 H1 s1 ds S1 st1 I1 ru A1 R1 F1 => ?_) he hpl
  obtain ⟨d3, e3, F3⟩ := fin_oo F1
  exact hc pins s1 σ H1 r1 z S1 ds d3 vs us Q I1 A1.s R1 ru e3 fun ws n l hn => F3 r1 H1 (Step.refl _ _) A1.s ws l n hn
theorem pfv_bT {f : Ln} (hc : LnV X (.type T) f) (hg : Gl X x) (hm : X.mg x = none) (hv : bootBuiltins x = some (.type T)) (ha : PAv X W (a :: es) mr) (hn : x ≠ "__name__" := by decide) (hdb : (x == ("__debug__" : Str)) = false := by decide)
    (he : starEach (a :: es) X.env = (false, eval a X.env) :: starEach es X.env := by rfl) (hpl : (backTo pos (starEach es X.env)).any (·.1) = false := by rfl) : PFv X W (.Call (.Name x p) (a :: es) [] pos) (lB f mr) := by
  refine ⟨fun pins s σ H Q I ⟨r, z, e, S, A, F⟩ => wpAny_Call_Name_kw (ld_blt I hg hm hv ?_ hn hdb)⟩
  refine PyProof.Rows.callWith_type1 (ha.go I A F fun us vs r1 H1 s1 ds S1 st1 I1 ru A1 R1 F1 => ?_) he hpl
  obtain ⟨d3, e3, F3⟩ := fin_oo F1
  exact hc pins s1 σ H1 r1 z S1 ds d3 vs us Q I1 A1.s R1 ru e3 fun ws n l hn => F3 r1 H1 (Step.refl _ _) A1.s ws l n hn
theorem repL1 {K : Kw} {r z : List Addr} {H : Hp} {d : D} {vs : List V} (h : RepL K r z H [d] vs) : ∃ v, vs = [v] ∧ Rep K r z H d v := by
  rw [RepL] at h
  obtain ⟨v, vs', rfl, h1, h2⟩ := h
  rw [RepL] at h2
  subst h2
  exact ⟨v, rfl, h1⟩
theorem repL2 {K : Kw} {r z : List Addr} {H : Hp} {d d' : D} {vs : List V} (h : RepL K r z H [d, d'] vs) : ∃ v v', vs = [v, v'] ∧ Rep K r z H d v ∧ Rep K r z H d' v' := by
  rw [RepL] at h
  obtain ⟨v, vs', rfl, h1, h2⟩ := h
  obtain ⟨v', rfl, h3⟩ := repL1 h2
  exact ⟨v, v', rfl, h1, h3⟩
theorem rep_ints {K : Kw} {r z : List Addr} {H : Hp} : ∀ {ns : List Int} {vs : List V}, RepL K r z H (ns.map .int) vs → vs = ns.map V.int
  | [], vs, h => by rw [List.map_nil, RepL] at h; exact h
  | n :: ns, vs, h => by
    rw [List.map_cons, RepL] at h
    obtain ⟨v, vs', rfl, h1, h2⟩ := h
    rw [Rep] at h1; subst h1
    rw [rep_ints h2]; rfl
theorem rep_bools {K : Kw} {r z : List Addr} {H : Hp} : ∀ {ns : List Bool} {vs : List V}, RepL K r z H (ns.map .bl) vs → vs = ns.map V.bl
  | [], vs, h => by rw [List.map_nil, RepL] at h; exact h
  | n :: ns, vs, h => by
    rw [List.map_cons, RepL] at h
    obtain ⟨v, vs', rfl, h1, h2⟩ := h
    rw [Rep] at h1; subst h1
    rw [rep_bools h2]; rfl
theorem repI_map {K : Kw} {r z : List Addr} {H : Hp} : ∀ (ns : List Int), RepL K r z H (ns.map .int) (ns.map V.int)
  | [] => RepL.nil
  | n :: ns => (repI_map ns).cons (repI n)
theorem bv_len : BnV X (.builtin "len") bLen := by
  intro pins s σ H r z S ds d vs us Q I rs_ l ru eo k
  have sq : ∀ (x : D) (ys : List D), ds = [x] → seqOf S x = some ys → d = .int ys.length → wpAny (model X.prog X.w) X.A (call (.builtin "len") us) (EP X pins σ Q) X.xe s := by
    intro x ys e1 e2 e3
    subst e1; subst e3
    obtain ⟨v, rfl, rv⟩ := repL1 l
    obtain ⟨p, xs, rfl, q, lv⟩ := rep_seq rs_ rv e2
    refine call_len pins s σ H _ us Q I ru ⟨_, xs.length, rfl, ?_, ?_⟩
    · rcases q with q | q
      · exact .inl ⟨xs, q, rfl⟩
      · exact .inr ⟨xs, q, rfl⟩
    · rw [← lv.length]; exact k H _ (Step.refl r H) rs_ (repI _)
  unfold bLen at eo
  split at eo
  · split at eo
    · rename_i x c
      cases eo
      obtain ⟨v, rfl, rv⟩ := repL1 l
      rw [Rep] at rv; subst rv
      exact call_len pins s σ H _ us Q I ru ⟨_, x.length, rfl, ⟨c, rfl⟩, k H _ (Step.refl r H) rs_ (repI _)⟩
    · cases eo
  · rename_i n
    cases hl : S[n]? with
    | none => simp [hl] at eo
    | some ob =>
      cases ob with
      | list ys =>
        have eo : d = .int ys.length := by simpa [hl] using eo.symm
        exact sq (.loc n) ys rfl (by simp [seqOf, lstOf, hl]) eo
      | dict _ => simp [hl] at eo
      | map _ _ => simp [hl] at eo
      | inst _ _ => simp [hl] at eo
  · rename_i ys
    exact sq (.tup ys) ys rfl rfl (Option.some.inj eo).symm
  · rename_i ys
    exact sq (.lst ys) ys rfl rfl (Option.some.inj eo).symm
  · cases eo
theorem bv_all (hc : X.calm = true) : BnV X (.builtin "all") bAll := by
  intro pins s σ H r z S ds d vs us Q I rs_ l ru eo k
  unfold bAll at eo
  split at eo
  · rename_i x
    obtain ⟨bs, e1, rfl⟩ := Option.map_eq_some_iff.mp eo
    obtain ⟨ys, e2, e3⟩ := Option.bind_eq_some_iff.mp e1
    obtain ⟨v, rfl, rv⟩ := repL1 l
    obtain ⟨p, xs, rfl, q, lv⟩ := rep_lst rs_ rv e2
    rw [boolsD_some e3] at lv
    rw [rep_bools lv] at q
    exact cr_all hc pins s σ H _ us Q I ru ⟨p, bs, rfl, q, k H _ (Step.refl r H) rs_ (repB _)⟩
  · cases eo
theorem bv_any (hc : X.calm = true) : BnV X (.builtin "any") bAny := by
  intro pins s σ H r z S ds d vs us Q I rs_ l ru eo k
  unfold bAny at eo
  split at eo
  · rename_i x
    obtain ⟨bs, e1, rfl⟩ := Option.map_eq_some_iff.mp eo
    obtain ⟨ys, e2, e3⟩ := Option.bind_eq_some_iff.mp e1
    obtain ⟨v, rfl, rv⟩ := repL1 l
    obtain ⟨p, xs, rfl, q, lv⟩ := rep_lst rs_ rv e2
    rw [boolsD_some e3] at lv
    rw [rep_bools lv] at q
    exact cr_any hc pins s σ H _ us Q I ru ⟨p, bs, rfl, q, k H _ (Step.refl r H) rs_ (repB _)⟩
  · cases eo
theorem bv_tuple : BnV X (.type "tuple") bTuple := by
  intro pins s σ H r z S ds d vs us Q I rs_ l ru eo k
  unfold bTuple at eo
  split at eo
  · rename_i x
    obtain ⟨ys, e1, rfl⟩ := Option.map_eq_some_iff.mp eo
    obtain ⟨v, rfl, rv⟩ := repL1 l
    cases x with
    | tup ys' =>
      cases e1
      have rv' := rv
      rw [Rep] at rv
      obtain ⟨p, xs, rfl, q, lv⟩ := rv
      exact call_tuple_of pins s σ H _ us Q I ru ⟨p, xs, rfl, .inr ⟨q.sq, k H _ (Step.refl r H) rs_ rv'⟩⟩
    | lst ys' =>
      obtain ⟨p, xs, rfl, q, lv⟩ := rep_lst rs_ rv e1
      exact call_tuple_of pins s σ H _ us Q I ru ⟨p, xs, rfl, .inl ⟨q, fun n hn => k _ _ (Step.upd hn) (rs_.upd hn) (Rep.newT rs_ hn lv)⟩⟩
    | loc n =>
      obtain ⟨p, xs, rfl, q, lv⟩ := rep_lst rs_ rv e1
      exact call_tuple_of pins s σ H _ us Q I ru ⟨p, xs, rfl, .inl ⟨q, fun n hn => k _ _ (Step.upd hn) (rs_.upd hn) (Rep.newT rs_ hn lv)⟩⟩
    | _ => cases e1
  · cases eo
theorem lv_list : LnV X (.type "list") fList := by
  intro pins s σ H r z S ds ys vs us Q I rs_ l ru eo k
  unfold fList at eo
  split at eo
  · rename_i x
    obtain ⟨v, rfl, rv⟩ := repL1 l
    obtain ⟨p, xs, rfl, q, lv⟩ := rep_seq rs_ rv eo
    exact call_list_of pins s σ H _ us Q I ru ⟨p, xs, rfl, q, fun n hn => k xs n lv hn⟩
  · cases eo
theorem sorted_same : ∀ {xs ys : List Int}, xs.Perm ys → xs.Pairwise (· ≤ ·) → ys.Pairwise (· ≤ ·) → xs = ys := by
  intro xs ys h h1 h2
  exact h.eq_of_pairwise (fun a b _ _ h1 h2 => Int.le_antisymm h1 h2) h1 h2
theorem sortI_perm (ns : List Int) : (sortI ns).Perm ns := List.mergeSort_perm ns _
theorem sortI_sorted (ns : List Int) : (sortI ns).Pairwise (· ≤ ·) := by
  have := List.pairwise_mergeSort (le := fun a b : Int => decide (a ≤ b)) (fun a b c h1 h2 => by simp at *; omega) (fun a b => by simp; omega) ns
  simpa [sortI] using this
theorem lv_sortI : LnV X (.builtin "sorted") fSortI := by
  intro pins s σ H r z S ds ys vs us Q I rs_ l ru eo k
  unfold fSortI at eo
  split at eo
  · rename_i x
    obtain ⟨ns, e1, rfl⟩ := Option.map_eq_some_iff.mp eo
    obtain ⟨ys, e2, e3⟩ := Option.bind_eq_some_iff.mp e1
    obtain ⟨v, rfl, rv⟩ := repL1 l
    obtain ⟨p, xs, rfl, q, lv⟩ := rep_lst rs_ rv e2
    rw [intsD_some e3] at lv
    rw [rep_ints lv] at q
    refine cr_sortedI pins s σ H _ us Q I ru ⟨p, ns, rfl, q, fun ns' n hp hs hn => ?_⟩
    have e : ns' = sortI ns := sorted_same (hp.trans (sortI_perm ns).symm) hs (sortI_sorted ns)
    subst e
    exact k _ n (repI_map _) hn
  · cases eo
theorem bv_int : BnV X (.type "int") bInt := by
  intro pins s σ H r z S ds d vs us Q I rs_ l ru eo k
  unfold bInt at eo
  split at eo
  · rename_i i
    cases eo
    obtain ⟨v, rfl, rv⟩ := repL1 l
    rw [Rep] at rv; subst rv
    exact call_int1 pins s σ H _ us Q I ru (.inl ⟨i, rfl, k H _ (Step.refl r H) rs_ (repI _)⟩)
  · cases eo
theorem bv_min2 (hc : X.calm = true) : BnV X (.builtin "min") bMin2 := by
  intro pins s σ H r z S ds d vs us Q I rs_ l ru eo k
  unfold bMin2 at eo
  split at eo
  · rename_i i j
    cases eo
    obtain ⟨v, v', rfl, rv, rv'⟩ := repL2 l
    rw [Rep] at rv rv'; subst rv; subst rv'
    exact call_min2 hc pins s σ H _ us Q I ru ⟨i, j, rfl, k H _ (Step.refl r H) rs_ (repI _)⟩
  · cases eo
theorem bv_max2 (hc : X.calm = true) : BnV X (.builtin "max") bMax2 := by
  intro pins s σ H r z S ds d vs us Q I rs_ l ru eo k
  unfold bMax2 at eo
  split at eo
  · rename_i i j
    cases eo
    obtain ⟨v, v', rfl, rv, rv'⟩ := repL2 l
    rw [Rep] at rv rv'; subst rv; subst rv'
    exact call_max2 hc pins s σ H _ us Q I ru ⟨i, j, rfl, k H _ (Step.refl r H) rs_ (repI _)⟩
  · cases eo
/-! ### isinstance -/
theorem rep_ty {K : Kw} {r z : List Addr} {H : Hp} {S : Sto} {d : D} {v : V} {t : String} (rs_ : RepS K r z H S) (h : Rep K r z H d v) (e : tyD S d = some t) : TyX K.f H v (.type t) := by
  cases d with
  | non => rw [Rep] at h; subst h; cases e; exact .base .non
  | bl b => rw [Rep] at h; subst h; cases e; exact .base (.bl b)
  | int b => rw [Rep] at h; subst h; cases e; exact .base (.int b)
  | str b => rw [Rep] at h; subst h; cases e; exact .base (.str b)
  | tup ds =>
    rw [Rep] at h
    obtain ⟨a, xs, rfl, q, _⟩ := h
    cases e
    rcases q with ⟨q | ⟨o, q⟩, _⟩ | ⟨o, its, n, q, hc, _⟩
    · exact .base (.tup q)
    · exact .fTuple q
    · exact .kTuple q hc
  | lst ds =>
    rw [Rep] at h
    obtain ⟨a, xs, rfl, q, _⟩ := h
    cases e
    rcases q with ⟨q | ⟨o, q⟩, _⟩ | ⟨o, its, n, q, hc, _⟩
    · exact .base (.lst q)
    · exact .base (.frz q)
    · exact .kList q hc
  | loc n =>
    rw [Rep] at h
    obtain ⟨a, h1, rfl⟩ := h
    cases hl : S[n]? with
    | none => simp [tyD, hl] at e
    | some ob =>
      obtain ⟨b, h2, h3⟩ := rs_.ob n ob hl
      rw [h1] at h2; cases h2
      cases ob with
      | list ys =>
        have e : "list" = t := by simpa [tyD, hl] using e
        subst e
        obtain ⟨_, xs, h4, _⟩ := h3
        exact .base (.lst h4)
      | dict _ =>
        have e : "dict" = t := by simpa [tyD, hl] using e
        subst e
        obtain ⟨_, xs, h4, _⟩ := h3
        exact .base (.dK h4)
      | map _ _ => simp [tyD, hl] at e
      | inst _ _ => simp [tyD, hl] at e
  | dct _ _ _ => cases e
  | clo _ _ => cases e
theorem tyD_mem {S : Sto} {d : D} {t : String} (e : tyD S d = some t) : t ∈ ["NoneType", "bool", "int", "str", "tuple", "list", "dict"] := by
  cases d with
  | loc n =>
    cases hl : S[n]? with
    | none => simp [tyD, hl] at e
    | some ob => cases ob <;> simp [tyD, hl] at e <;> subst e <;> simp
  | dct _ _ _ => cases e
  | clo _ _ => cases e
  | _ => cases e; simp
theorem kit_all : (["NoneType", "bool", "int", "str", "tuple", "list", "dict"].all fun t => ["int", "bool", "str", "tuple", "list", "dict"].all fun c => decide (kitB t c = some (isAB t c))) = true := by decide +kernel
theorem pev_isa {cn : Str} {c : String} {pc : Pos} (hcl : c ∈ ["int", "bool", "str", "tuple", "list", "dict"]) (hg : Gl X "isinstance") (hm : X.mg "isinstance" = none) (hgc : Gl X cn) (hmc : X.mg cn = none) (hvc : bootBuiltins cn = some (.type c)) (ha : PEv X W a ma)
    (hnn : cn ≠ "__name__" := by decide) (hnd : (cn == ("__debug__" : Str)) = false := by decide)
    (he : starEach [a, .Name cn pc] X.env = (false, eval a X.env) :: starEach [.Name cn pc] X.env := by rfl) : PEv X W (.Call (.Name "isinstance" p) [a, .Name cn pc] [] pos) (mIsA c ma) := by
  refine ⟨fun pins s σ H Q I ⟨r, z, e, S, A, F⟩ => ?_⟩
  refine (pe_callB call_isi hg hm (by decide +kernel) (pa_cons ha (pa_cons (pe_bltn (v := .ty c) hgc hmc hvc rfl hnn hnd) pa_nil) he) (he := he)).run pins s σ H Q I ?_
  refine ⟨r, z, e, S, A, ?_⟩
  unfold mIsA at F
  cases q : ma e S with
  | bad => rw [q] at F; exact F
  | exc x e' S1 => rw [q] at F; exact F
  | ok d S1 =>
    rw [q] at F
    intro r1 H1 st rs_ v rv
    obtain ⟨d3, e3, F3⟩ := fin_oo F
    obtain ⟨kb, e4, rfl⟩ := Option.map_eq_some_iff.mp e3
    obtain ⟨t, e5, rfl⟩ := Option.map_eq_some_iff.mp e4
    have hk := kit_all
    rw [List.all_eq_true] at hk
    have hk := hk t (tyD_mem e5)
    rw [List.all_eq_true] at hk
    have hk := of_decide_eq_true (hk c hcl)
    exact ⟨_, _, _, _, _, rfl, .ty c, rep_ty rs_ rv e5, kit_ty hk, F3 r1 H1 st rs_ _ (repB _)⟩
end
end Mp
end SMpF

section SMpG
set_option Elab.async false
set_option linter.all false
set_option maxRecDepth 100000
open PySem PySem.Spec PyProof.Rows L2
namespace Mp
variable [Lt]
section
variable {X : Cx} {W : WX} {a b c : Expr} {ma mb mc : MEx} {ta tb : MTs} {pos p2 p : Pos} {es : List Expr} {mr : MAs} {x : Str} {st : Stmt} {rest body : List Stmt} {m m1 m2 : MSt}
theorem PSsv.go {β : Type} {pins : List (Addr × Obj)} {s : Shared} {σ : L2.St} {H : Hp} {r z : List Addr} {e : Ev} {S : Sto} {kp : KP β} {f : Fl → Sto → Out β} {Post : Flow → Shared → Prop} (h : PSsv X W body m) (I : Inv X pins σ H s) (A : All X.kw r z H σ e S)
    (F : Fin r H ((m e S).bind f) kp (xpG X.kw X.mg z W))
    (kn : ∀ σ1 e1 r1 H1 s1 S1, Step r H r1 H1 → Inv X pins σ1 H1 s1 → All X.kw r1 z H1 σ1 e1 S1 → Fin r1 H1 (f (.nx e1) S1) kp (xpG X.kw X.mg z W) → Post .next s1)
    (kb : ∀ σ1 e1 r1 H1 s1 S1, Step r H r1 H1 → Inv X pins σ1 H1 s1 → All X.kw r1 z H1 σ1 e1 S1 → Fin r1 H1 (f (.bk e1) S1) kp (xpG X.kw X.mg z W) → Post .brk s1)
    (kc : ∀ σ1 e1 r1 H1 s1 S1, Step r H r1 H1 → Inv X pins σ1 H1 s1 → All X.kw r1 z H1 σ1 e1 S1 → Fin r1 H1 (f (.ct e1) S1) kp (xpG X.kw X.mg z W) → Post .cont s1)
    (kr : ∀ σ1 u v d r1 H1 s1 S1, Step r H r1 H1 → Inv X pins σ1 H1 s1 → RelV v u → RepS X.kw r1 z H1 S1 → Rep X.kw r1 z H1 d v → Fin r1 H1 (f (.rt d) S1) kp (xpG X.kw X.mg z W) → Post (.ret u) s1) :
    wpAny (model X.prog X.w) X.A (execs body X.env) Post X.xe s := by
  refine thn (h.run pins s σ H ⟨fun σ1 H1 => ∃ e1 r1 S1, Step r H r1 H1 ∧ All X.kw r1 z H1 σ1 e1 S1 ∧ Fin r1 H1 (f (.nx e1) S1) kp (xpG X.kw X.mg z W),
    fun v H1 => ∃ d r1 S1, Step r H r1 H1 ∧ RepS X.kw r1 z H1 S1 ∧ Rep X.kw r1 z H1 d v ∧ Fin r1 H1 (f (.rt d) S1) kp (xpG X.kw X.mg z W),
    fun σ1 H1 => ∃ e1 r1 S1, Step r H r1 H1 ∧ All X.kw r1 z H1 σ1 e1 S1 ∧ Fin r1 H1 (f (.bk e1) S1) kp (xpG X.kw X.mg z W),
    fun σ1 H1 => ∃ e1 r1 S1, Step r H r1 H1 ∧ All X.kw r1 z H1 σ1 e1 S1 ∧ Fin r1 H1 (f (.ct e1) S1) kp (xpG X.kw X.mg z W)⟩ I ⟨r, z, e, S, A, ?_⟩) ?_
  · cases q : m e S with
    | ok fl S1 =>
      rw [q] at F
      intro r1 H1 st
      cases fl with
      | nx e1 => exact fun σ1 A1 => ⟨e1, r1, S1, st, A1, Fin.step st F⟩
      | bk e1 => exact fun σ1 A1 => ⟨e1, r1, S1, st, A1, Fin.step st F⟩
      | ct e1 => exact fun σ1 A1 => ⟨e1, r1, S1, st, A1, Fin.step st F⟩
      | rt d => exact fun rs v rv => ⟨d, r1, S1, st, rs, rv, Fin.step st F⟩
    | exc x e' S1 => rw [q] at F; exact F
    | bad => rw [q] at F; exact F
  · intro fl s1 hp
    cases fl with
    | next => obtain ⟨σ1, H1, I1, e1, r1, S1, st, A1, F1⟩ := hp; exact kn σ1 e1 r1 H1 s1 S1 st I1 A1 F1
    | brk => obtain ⟨σ1, H1, I1, e1, r1, S1, st, A1, F1⟩ := hp; exact kb σ1 e1 r1 H1 s1 S1 st I1 A1 F1
    | cont => obtain ⟨σ1, H1, I1, e1, r1, S1, st, A1, F1⟩ := hp; exact kc σ1 e1 r1 H1 s1 S1 st I1 A1 F1
    | ret u => obtain ⟨v, σ1, H1, I1, ru, d, r1, S1, st, rs, rv, F1⟩ := hp; exact kr σ1 u v d r1 H1 s1 S1 st I1 ru rs rv F1
theorem pssv_nil : PSsv X W [] sPass := ⟨fun _ _ σ H D I ⟨r, z, e, S, A, F⟩ => wpAny_execs_nil ⟨σ, H, I, F r H (Step.refl _ _) σ A⟩⟩
theorem pssv_one (h : PSv X W st m) : PSsv X W [st] m := pss_one h
theorem tsM_seq {K : Kw} {G : Str → Option Value} {D : Ends} {σ : L2.St} {H : Hp} (h : tsM K G W (sSeq m1 m2) D σ H) : tSeq (tsM K G W m1) (tsM K G W m2) D σ H := by
  obtain ⟨r, z, e, S, A, F⟩ := h
  refine ⟨r, z, e, S, A, ?_⟩
  unfold sSeq at F
  cases q : m1 e S with
  | bad => rw [q] at F; exact F
  | exc x e' S1 => rw [q] at F; exact F
  | ok fl S1 =>
    rw [q] at F
    intro r1 H1 st
    cases fl with
    | nx e1 => exact fun σ1 A1 => ⟨r1, z, e1, S1, A1, Fin.step st F⟩
    | bk e1 => exact F r1 H1 st
    | ct e1 => exact F r1 H1 st
    | rt d => exact F r1 H1 st
theorem pssv_cons (h1 : PSv X W st m1) (h2 : PSsv X W rest m2) : PSsv X W (st :: rest) (sSeq m1 m2) :=
  ⟨fun pins s σ H D I h => (pss_cons h1 h2).run pins s σ H D I (tsM_seq h)⟩
theorem psv_pass : PSv X W (.Pass pos) sPass := ⟨fun _ _ σ H D I ⟨r, z, e, S, A, F⟩ => wpAny_Pass ⟨σ, H, I, F r H (Step.refl _ _) σ A⟩⟩
theorem psv_never : PSv X W st sNever := ⟨fun _ _ _ _ _ _ ⟨_, _, _, _, _, F⟩ => F.elim⟩
theorem psv_expr (ha : PEv X W a ma) (hs : swapsWith a none pos.line X.env = pure false := by rfl) : PSv X W (.Expr a pos) (sEx ma) := by
  refine ⟨fun pins s σ H D I ⟨r, z, e, S, A, F⟩ => wpAny_Expr_any (ha.go I A F fun u v r1 H1 s1 d S1 st1 I1 ru A1 R1 F1 => ?_) I.quiet hs⟩
  exact ⟨σ, H1, I1, F1 r1 H1 (Step.refl _ _) σ A1⟩
theorem psv_ret (ha : PEv X W a ma) : PSv X W (.Return (some a) pos) (sRet ma) := by
  refine ⟨fun pins s σ H D I ⟨r, z, e, S, A, F⟩ => wpAny_Return_some (ha.go I A F fun u v r1 H1 s1 d S1 st1 I1 ru A1 R1 F1 => ?_)⟩
  exact ⟨v, σ, H1, I1, ru, F1 r1 H1 (Step.refl _ _) A1.s v R1⟩
theorem psv_if {c : Expr} {a b : List Stmt} (hc : PTv X W c ta) (ha : PSsv X W a m1) (hb : PSsv X W b m2) : PSv X W (.If c a b pos) (sIf ta m1 m2) := by
  refine ⟨fun pins s σ H D I ⟨r, z, e, S, A, F⟩ => wpAny_If (hc.go I A F fun k r1 H1 s1 S1 st1 I1 A1 F1 => ?_)⟩
  cases k with
  | true => exact ha.run pins s1 σ H1 D I1 ⟨r1, z, e, S1, A1, F1⟩
  | false => exact hb.run pins s1 σ H1 D I1 ⟨r1, z, e, S1, A1, F1⟩
/-! ### targets -/
mutual
def slotsP : Pat → List Nat
  | .nm i => [i]
  | .tp ps => slotsPs ps
def slotsPs : List Pat → List Nat
  | [] => []
  | p :: ps => slotsP p ++ slotsPs ps
end
/-- the slots but those of a target stay -/
def Kept (l : List Nat) (σ σ' : L2.St) : Prop := σ'.length = σ.length ∧ ∀ j, j ∉ l → σ'[j]? = σ[j]?
def gM (K : Kw) (q : Pat) : TG := fun v σ H Q => ∃ r z e S d e', All K r z H σ e S ∧ Rep K r z H d v ∧ bindP q d e = some e' ∧ ∀ σ', All K r z H σ' e' S → Kept (slotsP q) σ σ' → Q σ' H
def gsM (K : Kw) (q : List Pat) : TGs := fun vs σ H Q => ∃ r z e S ds e', All K r z H σ e S ∧ RepL K r z H ds vs ∧ bindPs q ds e = some e' ∧ ∀ σ', All K r z H σ' e' S → Kept (slotsPs q) σ σ' → Q σ' H
def PGv (X : Cx) (t : Expr) (q : Pat) : Prop := PG X t (gM X.kw q)
def PGsv (X : Cx) (t : List Expr) (q : List Pat) : Prop := PGs X t (gsM X.kw q)
theorem pgv_name (i : Nat) (hN : X.N.Nodup) (hi : X.N[i]? = some x := by rfl) (hx : Loc X.env.scope x := by first | exact Or.inl rfl | exact Or.inr rfl) (hf : X.fn x = true ∨ X.env.scope.names.lookup x = some .local := by first | exact .inl rfl | exact .inr rfl | assumption) : PGv X (.Name x pos) (.nm i) := by
  refine ⟨fun pins s σ H v u Q I rv h => ?_⟩
  obtain ⟨r, z, e, S, d, e', A, R, eb, k⟩ := h
  rw [bindP] at eb
  cases eb
  exact (pg_name hN hi hx hf).run pins s σ H v u Q I rv (k _ ⟨A.s, A.e.set i R⟩ ⟨by simp, fun j hj => List.getElem?_set_ne (by rw [slotsP] at hj; simp at hj; omega)⟩)
theorem pgsv_nil : PGsv X [] [] := by
  refine ⟨fun pins s σ H vs us Q I rv h => ?_⟩
  obtain ⟨r, z, e, S, ds, e', A, R, eb, k⟩ := h
  cases ds with
  | nil =>
    rw [bindPs] at eb; cases eb
    rw [RepL] at R; subst R
    exact pgs_nil.run pins s σ H [] us Q I rv ⟨rfl, k σ A ⟨rfl, fun _ _ => rfl⟩⟩
  | cons d ds => simp [bindPs] at eb
theorem pgsv_cons {q : Pat} {qs : List Pat} (h1 : PGv X a q) (h2 : PGsv X es qs) (hs : (assignEach (a :: es) X.env).map (·.2) = assign a X.env :: (assignEach es X.env).map (·.2) := by rfl) : PGsv X (a :: es) (q :: qs) := by
  refine ⟨fun pins s σ H vs us Q I rv h => ?_⟩
  obtain ⟨r, z, e, S, ds, e', A, R, eb, k⟩ := h
  cases ds with
  | nil => simp [bindPs] at eb
  | cons d ds =>
    rw [bindPs] at eb
    cases q1 : bindP q d e with
    | none => rw [q1] at eb; cases eb
    | some e1 =>
      rw [q1] at eb
      rw [RepL] at R
      obtain ⟨v, vs', rfl, R1, R2⟩ := R
      refine (pgs_cons h1 h2 hs).run pins s σ H _ us Q I rv ⟨v, vs', rfl, r, z, e, S, d, e1, A, R1, q1, fun σ1 A1 K1 => ?_⟩
      refine ⟨r, z, e1, S, ds, e', A1, R2, eb, fun σ2 A2 K2 => k σ2 A2 ⟨K2.1.trans K1.1, fun j hj => ?_⟩⟩
      rw [slotsPs, List.mem_append] at hj
      exact (K2.2 j fun h => hj (.inr h)).trans (K1.2 j fun h => hj (.inl h))
theorem pgv_tup {k : Nat} {qs : List Pat} (hc : X.calm = true) (h : PGsv X es qs) (hn : (assignEach es X.env).length = qs.length := by rfl) (hst : (assignEach es X.env).findIdx? (·.1) = none := by rfl) : PGv X (.Tuple es k pos) (.tp qs) := by
  refine ⟨fun pins s σ H v u Q I rv h' => ?_⟩
  obtain ⟨r, z, e, S, d, e', A, R, eb, kk⟩ := h'
  cases d with
  | tup ds =>
    rw [bindP] at eb
    rw [Rep] at R
    obtain ⟨p, xs, rfl, q, l⟩ := R
    have hlen : ∀ (qs : List Pat) (ds : List D) (e e' : Ev), bindPs qs ds e = some e' → ds.length = qs.length := by
      intro qs
      induction qs with
      | nil => intro ds e e' h; cases ds with
        | nil => rfl
        | cons d ds => simp [bindPs] at h
      | cons q qs ih =>
        intro ds e e' h
        cases ds with
        | nil => simp [bindPs] at h
        | cons d ds =>
          rw [bindPs] at h
          cases q1 : bindP q d e with
          | none => rw [q1] at h; cases h
          | some e1 => rw [q1] at h; simp [ih ds e1 e' h]
    refine (pg_tup hc h hn hst).run pins s σ H _ u Q I rv ⟨p, xs, rfl, q.sq, ?_, r, z, e, S, ds, e', A, l, eb, fun σ' A' K' => kk σ' A' (by rw [slotsP]; exact K')⟩
    rw [← l.length]; exact hlen qs ds e e' eb
  | _ => rw [bindP] at eb <;> first | cases eb | (intro q; cases q)
theorem psv_asg {tg : Expr} {q : Pat} (ha : PEv X W a ma) (hg : PGv X tg q) (hs : swapsWithSole [tg] a pos.line X.env = pure false := by rfl) (hw : swappedStores [tg] a X.env = pure none := by rfl)
    (h1 : (assignEach [tg] X.env).map (·.2) = [assign tg X.env] := by rfl) : PSv X W (.Assign [tg] a pos) (sAsg q ma) := by
  refine ⟨fun pins s σ H D I ⟨r, z, e, S, A, F⟩ => wpAny_Assign_stores (ha.go I A F fun u v r1 H1 s1 d S1 st1 I1 ru A1 R1 F1 => ?_) hs hw⟩
  rw [h1]
  cases eb : bindP q d e with
  | none => rw [eb] at F1; exact F1.elim
  | some e1 =>
    rw [eb] at F1
    exact thn (hg.run pins s1 σ H1 v u D.nx I1 ru ⟨r1, z, e, S1, d, e1, A1, R1, eb, fun σ' A' _ => F1 r1 H1 (Step.refl _ _) σ' A'⟩) fun _ s2 q => q
theorem psv_set (i : Nat) {pos' : Pos} (hN : X.N.Nodup) (ha : PEv X W a ma) (hi : X.N[i]? = some x := by rfl) (hx : Loc X.env.scope x := by first | exact Or.inl rfl | exact Or.inr rfl) (hs : swapsWith a (some (.Name x pos')) pos.line X.env = pure false := by rfl) (hf : X.fn x = true ∨ X.env.scope.names.lookup x = some .local := by first | exact .inl rfl | exact .inr rfl | assumption) :
    PSv X W (.Assign [.Name x pos'] a pos) (sAsg (.nm i) ma) := by
  refine ⟨fun pins s σ H D I ⟨r, z, e, S, A, F⟩ => wpAny_Assign_Name (ha.go I A F fun u v r1 H1 s1 d S1 st1 I1 ru A1 R1 F1 => ?_) hs⟩
  rw [bindP] at F1
  exact store_ok I1 hN hi hx ru (fun s2 I2 => ⟨_, H1, I2, F1 r1 H1 (Step.refl _ _) _ ⟨A1.s, A1.e.set i R1⟩⟩) hf
/-- a, b = x, y with two plain locals -/
theorem psv_par {i j : Nat} {x y : Str} {px py pt : Pos} {kt k2 pt2} (hc : X.calm = true) (hN : X.N.Nodup) (hi : X.N[i]? = some x) (hj : X.N[j]? = some y) (hij : i ≠ j)
    (hx : X.env.scope.names.lookup x = some .local) (hy : X.env.scope.names.lookup y = some .local) (ha : PEv X W a ma) (hb : PEv X W b mb) (hw : swappedStores [.Tuple [.Name x px, .Name y py] kt pt] (.Tuple [a, b] k2 pt2) X.env = pure (some [x, y]))
    (hs : swapsWithSole [.Tuple [.Name x px, .Name y py] kt pt] (.Tuple [a, b] k2 pt2) pos.line X.env = pure false := by rfl)
    (hs1 : starEach [a, b] X.env = (false, eval a X.env) :: starEach [b] X.env := by rfl) (hs2 : starEach [b] X.env = (false, eval b X.env) :: starEach [] X.env := by rfl) :
    PSv X W (.Assign [.Tuple [.Name x px, .Name y py] kt pt] (.Tuple [a, b] k2 pt2) pos) (sAsg (.tp [.nm i, .nm j]) (mTup (aCons ma (aCons mb aNil)))) := by
  refine ⟨fun pins s σ H D I ⟨r, z, e, S, A, F⟩ => ?_⟩
  refine (ps_par hc hN hi hj hij hx hy (pav_cons ha (pav_cons hb pav_nil hs2) hs1) hw hs).run pins s σ H D I ⟨r, z, e, S, A, ?_⟩
  unfold sAsg mTup at F
  rw [bind_assoc'] at F
  cases q : (aCons ma (aCons mb aNil)) e S with
  | bad => rw [q] at F; exact F
  | exc x e' S1 => rw [q] at F; exact F
  | ok ds S1 =>
    rw [q] at F
    intro r1 H1 st rs_ vs l
    have l2 : ds.length = 2 := by
      unfold aCons aNil at q
      cases q1 : ma e S with
      | bad => rw [q1] at q; cases q
      | exc x e' S1 => rw [q1] at q; cases q
      | ok d1 S2 =>
        rw [q1] at q
        simp only [bind_ok] at q
        cases q2 : mb e S2 with
        | bad => rw [q2] at q; cases q
        | exc x e' S1 => rw [q2] at q; cases q
        | ok d2 S3 =>
          rw [q2] at q
          simp only [bind_ok] at q
          cases q; rfl
    match ds, l2 with
    | [d1, d2], _ =>
      obtain ⟨v, w, rfl, R1, R2⟩ := repL2 l
      refine ⟨v, w, rfl, ?_⟩
      have hz : [d1, d2].length ≤ sizeLine := by show 2 ≤ sizeLine; decide
      rw [bind_ok, if_pos hz, bind_ok] at F
      have eb : bindP (.tp [.nm i, .nm j]) (.tup [d1, d2]) e = some ((e.set i (some d1)).set j (some d2)) := by simp [bindP, bindPs]
      rw [eb] at F
      exact F r1 H1 st _ ⟨rs_, ((A.e.step st).set i R1).set j R2⟩
end
end Mp
end SMpG

section SMpH
set_option Elab.async false
set_option linter.all false
set_option maxRecDepth 100000
open PySem PySem.Spec PyProof.Rows L2
namespace Mp
variable [Lt]
/-! ### an address put aside, and let go -/
section
variable {K : Kw} {r r1 z : List Addr} {H H1 H2 : Hp} {S : Sto} {p : Addr} {o : HO}
def del (H : Hp) (p : Addr) : Hp := fun a => if a = p then none else H a
theorem del_same : del H p p = none := by simp [del]
theorem del_ne {a : Addr} (h : a ≠ p) : del H p a = H a := by simp [del, h]
theorem upd_del {o : HO} (h : H p = some o) : L2.upd (del H p) p o = H := by
  funext a
  by_cases e : a = p
  · subst e; rw [upd_same, h]
  · rw [upd_ne e, del_ne e]
theorem del_upd : del (L2.upd H p o) p = del H p := by
  funext a
  by_cases e : a = p
  · subst e; rw [del_same, del_same]
  · rw [del_ne e, upd_ne e, del_ne e]
/-- a change of the heap by which all that may be read stays: h, with other lists of what is busy -/
theorem Rep.move {r' z' : List Addr} {H' : Hp} (hr : ∀ (n : Nat) (a : Addr), r[n]? = some a → r'[n]? = some a) (hk : ∀ a o, H a = some o → a ∉ r → a ∉ z → H' a = some o ∧ a ∉ r' ∧ a ∉ z') :
    (∀ (d : D) (v : V), Rep K r z H d v → Rep K r' z' H' d v) ∧ (∀ (ds : List D) (vs : List V), RepL K r z H ds vs → RepL K r' z' H' ds vs) := by
  have ft : ∀ a xs, FT K r z H a xs → FT K r' z' H' a xs := by
    intro a xs h
    rcases h with ⟨h | ⟨ob, h⟩, n1, n2⟩ | h
    · obtain ⟨h1, h2⟩ := hk a _ h n1 n2; exact .inl ⟨.inl h1, h2⟩
    · obtain ⟨h1, h2⟩ := hk a _ h n1 n2; exact .inl ⟨.inr ⟨ob, h1⟩, h2⟩
    · exact .inr h
  have fl : ∀ a xs, FL K r z H a xs → FL K r' z' H' a xs := by
    intro a xs h
    rcases h with ⟨h | ⟨ob, h⟩, n1, n2⟩ | h
    · obtain ⟨h1, h2⟩ := hk a _ h n1 n2; exact .inl ⟨.inl h1, h2⟩
    · obtain ⟨h1, h2⟩ := hk a _ h n1 n2; exact .inl ⟨.inr ⟨ob, h1⟩, h2⟩
    · exact .inr h
  have go : ∀ n, (∀ (d : D) (v : V), sizeOf d ≤ n → Rep K r z H d v → Rep K r' z' H' d v) ∧ (∀ (ds : List D) (vs : List V), sizeOf ds ≤ n → RepL K r z H ds vs → RepL K r' z' H' ds vs) := by
    intro n
    induction n with
    | zero =>
      refine ⟨fun d v hz => ?_, fun ds vs hz => ?_⟩
      · cases d <;> simp at hz
      · cases ds <;> simp at hz
    | succ n ih =>
      refine ⟨fun d v hz h => ?_, fun ds vs hz h => ?_⟩
      · cases d with
        | tup ds =>
          rw [Rep] at h ⊢
          obtain ⟨a, xs, e, f, l⟩ := h
          exact ⟨a, xs, e, ft a xs f, ih.2 ds xs (by simp at hz; omega) l⟩
        | lst ds =>
          rw [Rep] at h ⊢
          obtain ⟨a, xs, e, f, l⟩ := h
          exact ⟨a, xs, e, fl a xs f, ih.2 ds xs (by simp at hz; omega) l⟩
        | loc k =>
          rw [Rep] at h ⊢
          obtain ⟨a, e, q⟩ := h
          exact ⟨a, hr k a e, q⟩
        | dct t ks ds =>
          cases t with
          | false =>
            rw [Rep] at h ⊢
            obtain ⟨a, o, l, xs, e, n1, n2, h1, h2, h3, h4⟩ := h
            obtain ⟨g1, g2⟩ := hk a _ h1 n1 n2
            exact ⟨a, o, l, xs, e, g2.1, g2.2, g1, h2, h3, ih.2 ds xs (by simp at hz; omega) h4⟩
          | true =>
            rw [Rep] at h ⊢
            obtain ⟨a, o, l, bs, xs, e, n1, n2, h1, h2, h3, h4, h5, h6, h7⟩ := h
            obtain ⟨g1, g2⟩ := hk a _ h1 n1 n2
            exact ⟨a, o, l, bs, xs, e, g2.1, g2.2, g1, h2, h3, h4, h5, ih.2 ks bs (by simp at hz; omega) h6, ih.2 ds xs (by simp at hz; omega) h7⟩
        | clo k cs =>
          rw [Rep] at h ⊢
          obtain ⟨f, cl, vs, e, h0, ⟨c', pm, ctv, n1, n2, n3, n4, g1, g2⟩, h2, h3⟩ := h
          obtain ⟨p1, p2⟩ := hk f _ g1 n1 n2
          obtain ⟨q1, q2⟩ := hk c' _ g2 n3 n4
          refine ⟨f, cl, vs, e, h0, ⟨c', pm, ctv, p2.1, p2.2, q2.1, q2.2, p1, q1⟩, ⟨h2.inj, h2.only, h2.len, fun i x v e1 e2 => ?_⟩, ih.2 cs vs (by simp at hz; omega) h3⟩
          obtain ⟨c, a1, a2, a3, o, u, a4, a5⟩ := h2.at_ i x v e1 e2
          obtain ⟨b1, b2⟩ := hk c _ a4 a2 a3
          exact ⟨c, a1, b2.1, b2.2, o, u, b1, a5⟩
        | _ => rw [Rep] at h ⊢; exact h
      · cases ds with
        | nil => rw [RepL] at h ⊢; exact h
        | cons d ds =>
          rw [RepL] at h ⊢
          obtain ⟨v, vs', e, h1, h2⟩ := h
          exact ⟨v, vs', e, ih.1 d v (by simp at hz; omega) h1, ih.2 ds vs' (by simp at hz; omega) h2⟩
  exact ⟨fun d v h => (go _).1 d v (Nat.le_refl _) h, fun ds vs h => (go _).2 ds vs (Nat.le_refl _) h⟩
theorem RepD.move {r' z' : List Addr} {H' : Hp} (mv : ∀ (d : D) (v : V), Rep K r z H d v → Rep K r' z' H' d v) : ∀ {kvs : List (D × D)} {l : List (Key × V)}, RepD K r z H kvs l → RepD K r' z' H' kvs l
  | [], l, h => h
  | q :: qs, l, h => by
    obtain ⟨k, v, l', e, h1, h2, h3⟩ := h
    exact ⟨k, v, l', e, h1, mv _ _ h2, RepD.move mv h3⟩
theorem RepM.move {r' z' : List Addr} {H' : Hp} (mv : ∀ (d : D) (v : V), Rep K r z H d v → Rep K r' z' H' d v) : ∀ {kvs : List (D × D)} {l : List (NestedKey × Addr × V)}, RepM K r z H kvs l → RepM K r' z' H' kvs l
  | [], l, h => h
  | q :: qs, l, h => by
    obtain ⟨b, v, l', e, h1, h2, h3, h4⟩ := h
    exact ⟨b, v, l', e, h1, mv _ _ h2, mv _ _ h3, RepM.move mv h4⟩
theorem RepO.move {r' z' : List Addr} {H' : Hp} {a : Addr} {ob : O} (e : H' a = H a) (mv : ∀ (d : D) (v : V), Rep K r z H d v → Rep K r' z' H' d v) (mvs : ∀ (ds : List D) (vs : List V), RepL K r z H ds vs → RepL K r' z' H' ds vs) (h : RepO K r z H a ob) : RepO K r' z' H' a ob := by
  cases ob with
  | list ds => obtain ⟨c, xs, h1, h2⟩ := h; exact ⟨c, xs, e.trans h1, mvs _ _ h2⟩
  | dict kvs => obtain ⟨c, l, h1, h2⟩ := h; exact ⟨c, l, e.trans h1, h2.move mv⟩
  | map lk kvs => obtain ⟨c, l, h1, h2⟩ := h; exact ⟨c, l, h1.eq e, h2.move mv⟩
  | inst c fs => exact h
theorem TabR.move {r' z' : List Addr} {H' : Hp} {P : Addr} {q : Str} (t : TabR r z H P q) (hk : ∀ a o, H a = some o → a ∉ r → a ∉ z → H' a = some o ∧ a ∉ r' ∧ a ∉ z') : TabR r' z' H' P q := by
  obtain ⟨ps, h1, h2, h3, h4, h5⟩ := t
  obtain ⟨g1, g2, g3⟩ := hk _ _ h1 h2 h3
  refine ⟨ps, g1, g2, g3, h4, fun pos cv hc => ?_⟩
  obtain ⟨c, e1, e2, e3, e4⟩ := h5 pos cv hc
  obtain ⟨g1, g2, g3⟩ := hk _ _ e4 e2 e3
  exact ⟨c, e1, g2, g3, g1⟩
/-- p new and put aside -/
theorem hide_rep (hp : H p = none) : (∀ (d : D) (v : V), Rep K r z H d v → Rep K r (p :: z) (L2.upd H p o) d v) ∧ (∀ (ds : List D) (vs : List V), RepL K r z H ds vs → RepL K r (p :: z) (L2.upd H p o) ds vs) :=
  Rep.move (fun _ _ e => e) fun a ob e n1 n2 => by
    have ne : a ≠ p := ne_of_none e hp
    exact ⟨by rw [upd_ne ne]; exact e, n1, by simp [ne, n2]⟩
theorem hide_S (hp : H p = none) (rs_ : RepS K r z H S) : RepS K r (p :: z) (L2.upd H p o) S := by
  have fr := rs_.fresh hp
  refine ⟨rs_.len, rs_.nd, fun a m => ?_, fun a m => ?_, fun q hq => (rs_.tb q hq).move fun a ob e n1 n2 => by
    have ne : a ≠ p := ne_of_none e hp
    exact ⟨by rw [upd_ne ne]; exact e, n1, by simp [ne, n2]⟩, fun n ob e => ?_⟩
  · have ne : a ≠ p := fun q => fr.1 (q ▸ m)
    simp [ne, rs_.ap a m]
  · rcases List.mem_cons.mp m with rfl | m
    · rw [upd_same]; exact fun q => nomatch q
    · exact (Step.upd (r := r) hp).dom a (rs_.zz a m)
  · obtain ⟨a, h1, h2⟩ := rs_.ob n ob e
    have ne : a ≠ p := fun q => fr.1 (q ▸ List.mem_of_getElem? h1)
    exact ⟨a, h1, h2.move (upd_ne ne) (hide_rep hp).1 (hide_rep hp).2⟩
theorem hide_E {σ : L2.St} {e : Ev} (hp : H p = none) (h : RepE K r z H σ e) : RepE K r (p :: z) (L2.upd H p o) σ e :=
  ⟨h.1, fun i d q => let ⟨v, h1, h2⟩ := h.2 i d q; ⟨v, h1, (hide_rep hp).1 d v h2⟩⟩
/-- what is put aside changes -/
theorem busy_rep (hp : p ∈ z) : (∀ (d : D) (v : V), Rep K r z H d v → Rep K r z (L2.upd H p o) d v) ∧ (∀ (ds : List D) (vs : List V), RepL K r z H ds vs → RepL K r z (L2.upd H p o) ds vs) :=
  Rep.move (fun _ _ e => e) fun a ob e n1 n2 => by
    have ne : a ≠ p := fun q => n2 (q ▸ hp)
    exact ⟨by rw [upd_ne ne]; exact e, n1, n2⟩
theorem busy_S (hp : p ∈ z) (rs_ : RepS K r z H S) : RepS K r z (L2.upd H p o) S := by
  refine ⟨rs_.len, rs_.nd, rs_.ap, fun a m => ?_, fun q hq => (rs_.tb q hq).move fun a ob e n1 n2 => by
    have ne : a ≠ p := fun q => n2 (q ▸ hp)
    exact ⟨by rw [upd_ne ne]; exact e, n1, n2⟩, fun n ob e => ?_⟩
  · by_cases q : a = p
    · subst q; rw [upd_same]; exact fun q => nomatch q
    · rw [upd_ne q]; exact rs_.zz a m
  · obtain ⟨a, h1, h2⟩ := rs_.ob n ob e
    have ne : a ≠ p := fun q => rs_.ap a (List.mem_of_getElem? h1) (q ▸ hp)
    exact ⟨a, h1, h2.move (upd_ne ne) (busy_rep hp).1 (busy_rep hp).2⟩
theorem busy_E {σ : L2.St} {e : Ev} (hp : p ∈ z) (h : RepE K r z H σ e) : RepE K r z (L2.upd H p o) σ e :=
  ⟨h.1, fun i d q => let ⟨v, h1, h2⟩ := h.2 i d q; ⟨v, h1, (busy_rep hp).1 d v h2⟩⟩
/-- .. and is let go -/
theorem show_rep : (∀ (d : D) (v : V), Rep K r (p :: z) H d v → Rep K r z (del H p) d v) ∧ (∀ (ds : List D) (vs : List V), RepL K r (p :: z) H ds vs → RepL K r z (del H p) ds vs) :=
  Rep.move (fun _ _ e => e) fun a ob e n1 n2 => by
    simp at n2
    exact ⟨by rw [del_ne n2.1]; exact e, n1, n2.2⟩
theorem show_S (nz : p ∉ z) (rs_ : RepS K r (p :: z) H S) : RepS K r z (del H p) S := by
  refine ⟨rs_.len, rs_.nd, fun a m => fun q => rs_.ap a m (List.mem_cons_of_mem _ q), fun a m => ?_, fun q hq => (rs_.tb q hq).move fun a ob e n1 n2 => by
    simp at n2
    exact ⟨by rw [del_ne n2.1]; exact e, n1, n2.2⟩, fun n ob e => ?_⟩
  · have ne : a ≠ p := fun q => nz (q ▸ m)
    rw [del_ne ne]; exact rs_.zz a (List.mem_cons_of_mem _ m)
  · obtain ⟨a, h1, h2⟩ := rs_.ob n ob e
    have ne : a ≠ p := fun q => rs_.ap a (List.mem_of_getElem? h1) (q ▸ List.mem_cons_self)
    exact ⟨a, h1, h2.move (del_ne ne) show_rep.1 show_rep.2⟩
/-- the way from before p was made -/
theorem Step.del0 (hp : H p = none) : Step r H r (del (L2.upd H p o) p) := by
  have e : del (L2.upd H p o) p = H := by
    funext a
    by_cases q : a = p
    · subst q; rw [del_same, hp]
    · rw [del_ne q, upd_ne q]
  rw [e]; exact Step.refl r H
theorem Step.del1 {r2 : List Addr} (hp : H p = none) (a : Step r H r1 (del H1 p)) (b : Step r1 H1 r2 H2) : Step r H r2 (del H2 p) := by
  obtain ⟨l, rfl, hl⟩ := a.more
  obtain ⟨l2, rfl, hl2⟩ := b.more
  refine ⟨fun x ob e n t => ?_, ⟨l ++ l2, by simp, fun x m => ?_⟩, fun x h => ?_, ?_⟩
  · have ne : x ≠ p := ne_of_none e hp
    have e1 := a.keep x ob e n t
    rw [del_ne ne] at e1 ⊢
    exact b.keep x ob e1 (a.out e n) t
  · rcases List.mem_append.mp m with m | m
    · exact hl x m
    · cases q : H x with
      | none => rfl
      | some ob =>
        have ne : x ≠ p := ne_of_none q hp
        have := a.dom x (by rw [q]; exact fun z => nomatch z)
        rw [del_ne ne] at this
        exact absurd (hl2 x m) this
  · have ne : x ≠ p := fun q => h (q ▸ hp)
    have := a.dom x h
    rw [del_ne ne] at this ⊢
    exact b.dom x this
  · intro x ob u e
    have ne : x ≠ p := ne_of_none e hp
    have e1 := a.frz x ob u e
    rw [del_ne ne] at e1 ⊢
    exact b.frz x ob u e1
end
/-! ### what is walked -/
structure SrcOk (K : Kw) (src : Src) (J : It) (G : List Addr → List Addr → Hp → Prop) : Prop where
  stay : ∀ r z H r' H', G r z H → Step r H r' H' → G r' z H'
  hide : ∀ r z H p o, G r z H → H p = none → G r (p :: z) (L2.upd H p o)
  busy : ∀ r z H p o, G r z H → p ∈ z → G r z (L2.upd H p o)
  go : ∀ r z H S i d, G r z H → RepS K r z H S → chk src S = true → src.items[i]? = some d → J.go i H ∧ ∀ v H', J.yld i H v H' → Step r H r H' ∧ RepS K r z H' S ∧ Rep K r z H' d v
  stop : ∀ r z H S i, G r z H → RepS K r z H S → chk src S = true → src.items.length ≤ i → J.stop i H
def kI (K : Kw) (z : List Addr) (R : It → Hp → Prop) : KP Src := fun r H src S => RepS K r z H S → ∀ J G, SrcOk K src J G → G r z H → R J H
def tiM (K : Kw) (Gm : Str → Option Value) (W : WX) (w : MSrc) : TI := fun σ H R => ∃ r z e S, All K r z H σ e S ∧ Fin r H (w e S) (kI K z R) (xpG K Gm z W)
def PIv (X : Cx) (W : WX) (tg iter : Expr) (w : MSrc) : Prop := PI X tg iter (tiM X.kw X.mg W w)
section
variable {K : Kw}
theorem src_lst {a : Addr} {ds : List D} {vs : List V} : SrcOk K ⟨ds, none⟩ (Itl K.f a) (fun r z H => FL K r z H a vs ∧ RepL K r z H ds vs) where
  stay := fun r z H r' H' g st => ⟨g.1.step st, g.2.step st⟩
  hide := fun r z H p o g hp => by
    refine ⟨?_, (hide_rep hp).2 _ _ g.2⟩
    rcases g.1 with ⟨h | ⟨ob, h⟩, n1, n2⟩ | h
    · have ne : a ≠ p := ne_of_none h hp
      exact .inl ⟨.inl (by rw [upd_ne ne]; exact h), n1, by simp [ne, n2]⟩
    · have ne : a ≠ p := ne_of_none h hp
      exact .inl ⟨.inr ⟨ob, by rw [upd_ne ne]; exact h⟩, n1, by simp [ne, n2]⟩
    · exact .inr h
  busy := fun r z H p o g hp => by
    refine ⟨?_, (busy_rep hp).2 _ _ g.2⟩
    rcases g.1 with ⟨h | ⟨ob, h⟩, n1, n2⟩ | h
    · have ne : a ≠ p := fun q => n2 (q ▸ hp)
      exact .inl ⟨.inl (by rw [upd_ne ne]; exact h), n1, n2⟩
    · have ne : a ≠ p := fun q => n2 (q ▸ hp)
      exact .inl ⟨.inr ⟨ob, by rw [upd_ne ne]; exact h⟩, n1, n2⟩
    · exact .inr h
  go := fun r z H S i d g rs_ _ hi => by
    obtain ⟨v, h1, h2⟩ := g.2.got hi
    refine ⟨⟨vs, v, g.1.sq, h1⟩, fun v' H' y => ?_⟩
    obtain ⟨rfl, y⟩ := y
    have := y vs g.1.sq
    rw [h1] at this; cases this
    exact ⟨Step.refl _ _, rs_, h2⟩
  stop := fun r z H S i g rs_ _ hi => ⟨vs, g.1.sq, by rw [← g.2.length]; exact hi⟩
theorem src_tup {a : Addr} {ds : List D} {vs : List V} : SrcOk K ⟨ds, none⟩ (Itt K.f a) (fun r z H => FT K r z H a vs ∧ RepL K r z H ds vs) where
  stay := fun r z H r' H' g st => ⟨g.1.step st, g.2.step st⟩
  hide := fun r z H p o g hp => by
    refine ⟨?_, (hide_rep hp).2 _ _ g.2⟩
    rcases g.1 with ⟨h | ⟨ob, h⟩, n1, n2⟩ | h
    · have ne : a ≠ p := ne_of_none h hp
      exact .inl ⟨.inl (by rw [upd_ne ne]; exact h), n1, by simp [ne, n2]⟩
    · have ne : a ≠ p := ne_of_none h hp
      exact .inl ⟨.inr ⟨ob, by rw [upd_ne ne]; exact h⟩, n1, by simp [ne, n2]⟩
    · exact .inr h
  busy := fun r z H p o g hp => by
    refine ⟨?_, (busy_rep hp).2 _ _ g.2⟩
    rcases g.1 with ⟨h | ⟨ob, h⟩, n1, n2⟩ | h
    · have ne : a ≠ p := fun q => n2 (q ▸ hp)
      exact .inl ⟨.inl (by rw [upd_ne ne]; exact h), n1, n2⟩
    · have ne : a ≠ p := fun q => n2 (q ▸ hp)
      exact .inl ⟨.inr ⟨ob, by rw [upd_ne ne]; exact h⟩, n1, n2⟩
    · exact .inr h
  go := fun r z H S i d g rs_ _ hi => by
    obtain ⟨v, h1, h2⟩ := g.2.got hi
    refine ⟨⟨vs, v, g.1.sq, h1⟩, fun v' H' y => ?_⟩
    obtain ⟨rfl, y⟩ := y
    have := y vs g.1.sq
    rw [h1] at this; cases this
    exact ⟨Step.refl _ _, rs_, h2⟩
  stop := fun r z H S i g rs_ _ hi => ⟨vs, g.1.sq, by rw [← g.2.length]; exact hi⟩
theorem src_loc {a : Addr} {n : Nat} {ds : List D} : SrcOk K ⟨ds, some n⟩ (Itl K.f a) (fun r z H => r[n]? = some a) where
  stay := fun r z H r' H' g st => st.pre g
  hide := fun r z H p o g hp => g
  busy := fun r z H p o g hp => g
  go := fun r z H S i d g rs_ hk hi => by
    have hS : S[n]? = some (.list ds) := by simpa [chk] using hk
    obtain ⟨b, h1, _, vs, h2, h3⟩ := rs_.ob n _ hS
    have g : r[n]? = some a := g
    rw [g] at h1; cases h1
    obtain ⟨v, h4, h5⟩ := h3.got hi
    refine ⟨⟨vs, v, .of h2, h4⟩, fun v' H' y => ?_⟩
    obtain ⟨rfl, y⟩ := y
    have := y vs (.of h2)
    rw [h4] at this; cases this
    exact ⟨Step.refl _ _, rs_, h5⟩
  stop := fun r z H S i g rs_ hk hi => by
    have hS : S[n]? = some (.list ds) := by simpa [chk] using hk
    obtain ⟨b, h1, _, vs, h2, h3⟩ := rs_.ob n _ hS
    have g : r[n]? = some a := g
    rw [g] at h1; cases h1
    exact ⟨vs, .of h2, by rw [← h3.length]; exact hi⟩
theorem src_rng {lo : Int} {n : Nat} : SrcOk K ⟨rng lo n, none⟩ (Itr lo n) (fun _ _ _ => True) where
  stay := fun _ _ _ _ _ _ _ => trivial
  hide := fun _ _ _ _ _ _ _ => trivial
  busy := fun _ _ _ _ _ _ _ => trivial
  go := fun r z H S i d _ rs_ _ hi => by
    have hl : i < n := by
      have := (List.getElem?_eq_some_iff.mp hi).1
      simpa [rng] using this
    have ed : d = .int (lo + i) := by
      simp [rng, hl] at hi
      exact hi.symm
    subst ed
    refine ⟨hl, fun v H' y => ?_⟩
    obtain ⟨rfl, rfl⟩ := y
    exact ⟨Step.refl _ _, rs_, repI _⟩
  stop := fun r z H S i _ rs_ _ hi => by
    show n ≤ i
    simpa [rng] using hi
end
section
variable {X : Cx} {W : WX} {tg a b : Expr} {ma mb : MEx} {pos p : Pos}
theorem iter_list {pins : List (Addr × Obj)} {s1 : Shared} {σ : L2.St} {H1 : Hp} {R : It → Hp → Prop} {a : Addr} {xs : List V} (I1 : Inv X pins σ H1 s1) (hq : SqL X.K H1 a xs) (q : R (Itl X.K a) H1) :
    wpAny (model X.prog X.w) X.A (pyIter (.ref a)) (PIE X pins σ tg R) X.xe s1 := by
  have ⟨_, _, lp, _⟩ := I1.list hq
  exact wpAny_pyIter_list lp.isList (pi_one (tk := s1.toks) I1 _ (turn_list a _) ⟨_, Heap.get?_push_size _ rfl, rfl, rfl⟩ q)
theorem iter_tup {pins : List (Addr × Obj)} {s1 : Shared} {σ : L2.St} {H1 : Hp} {R : It → Hp → Prop} {a : Addr} {xs : List V} (I1 : Inv X pins σ H1 s1) (hq : SqT X.K H1 a xs) (q : R (Itt X.K a) H1) :
    wpAny (model X.prog X.w) X.A (pyIter (.ref a)) (PIE X pins σ tg R) X.xe s1 := by
  have ⟨us, _, tp, _⟩ := I1.tuple hq
  exact wpAny_pyIter_tuple (show s1.heap.IsTuple a us.toArray from tp) (pi_one (tk := s1.toks) I1 _ (turn_tuple a _) ⟨_, Heap.get?_push_size _ rfl, rfl, rfl⟩ q)
theorem piv_seq (ha : PEv X W a ma) : PIv X W tg a (wSeq ma) := by
  refine ⟨fun pins s σ H R I ⟨r, z, e, S, A, F⟩ => ha.go I A F fun u v r1 H1 s1 d S1 st1 I1 ru A1 R1 F1 => ?_⟩
  cases d with
  | tup ds =>
    rw [Rep] at R1
    obtain ⟨p, vs, rfl, q, l⟩ := R1
    obtain rfl : u = Value.ref p := ru
    exact iter_tup I1 q.sq (F1 r1 H1 (Step.refl _ _) A1.s _ _ src_tup ⟨q, l⟩)
  | lst ds =>
    rw [Rep] at R1
    obtain ⟨p, vs, rfl, q, l⟩ := R1
    obtain rfl : u = Value.ref p := ru
    exact iter_list I1 q.sq (F1 r1 H1 (Step.refl _ _) A1.s _ _ src_lst ⟨q, l⟩)
  | loc n =>
    cases hl : S1[n]? with
    | none => simp only [hl] at F1; exact F1.elim
    | some ob =>
      cases ob with
      | list ds =>
        simp only [hl] at F1
        rw [Rep] at R1
        obtain ⟨p, h1, rfl⟩ := R1
        obtain rfl : u = Value.ref p := ru
        obtain ⟨b, h2, _, vs, h3, h4⟩ := A1.s.ob n _ hl
        rw [h1] at h2; cases h2
        exact iter_list (xs := vs) I1 (.of h3) (F1 r1 H1 (Step.refl _ _) A1.s _ _ src_loc h1)
      | dict _ => simp only [hl] at F1; exact F1.elim
      | map _ _ => simp only [hl] at F1; exact F1.elim
      | inst _ _ => simp only [hl] at F1; exact F1.elim
  | _ => exact (show False from F1).elim
theorem piv_rng1 (hg : Gl X "range") (hm : X.mg "range" = none) (ha : PEv X W a ma) (hs : starEach [a] X.env = [(false, eval a X.env)] := by rfl) : PIv X W tg (.Call (.Name "range" p) [a] [] pos) (wRng1 ma) := by
  refine ⟨fun pins s σ H R I ⟨r, z, e, S, A, F⟩ => ?_⟩
  refine (pi_range1 hg hm (pa_cons ha pa_nil hs) hs).run pins s σ H R I ⟨r, z, e, S, A, ?_⟩
  unfold wRng1 at F
  cases q : ma e S with
  | bad => rw [q] at F; exact F
  | exc x e' S1 => rw [q] at F; exact F
  | ok d S1 =>
    rw [q] at F
    intro r1 H1 st rs_ v rv
    cases d with
    | int j =>
      have F : Fin r H (if -(2 ^ 62) ≤ j ∧ j < 2 ^ 62 then Out.ok (⟨rng 0 j.toNat, none⟩ : Src) S1 else .bad) (kI X.kw z R) (xpG X.kw X.mg z W) := F
      split at F
      · rename_i c
        rw [Rep] at rv; subst rv
        exact ⟨j, rfl, c.1, c.2, F r1 H1 st rs_ _ _ src_rng trivial⟩
      · exact F.elim
    | _ => exact (show False from F).elim
theorem piv_rng2 (hg : Gl X "range") (hm : X.mg "range" = none) (ha : PEv X W a ma) (hb : PEv X W b mb) (hs : starEach [a, b] X.env = [(false, eval a X.env), (false, eval b X.env)] := by rfl) (hs2 : starEach [b] X.env = [(false, eval b X.env)] := by rfl) : PIv X W tg (.Call (.Name "range" p) [a, b] [] pos) (wRng2 ma mb) := by
  refine ⟨fun pins s σ H R I ⟨r, z, e, S, A, F⟩ => ?_⟩
  refine (pi_range2 hg hm (pa_cons ha (pa_cons hb pa_nil hs2) (by rw [hs, hs2])) hs hs2).run pins s σ H R I ⟨r, z, e, S, A, ?_⟩
  unfold wRng2 at F
  cases q : ma e S with
  | bad => rw [q] at F; exact F
  | exc x e' S1 => rw [q] at F; exact F
  | ok d S1 =>
    rw [q, bind_ok] at F
    intro r1 H1 st rs_ v rv
    refine ⟨r1, z, e, S1, ⟨rs_, A.e.step st⟩, ?_⟩
    cases q2 : mb e S1 with
    | bad => rw [q2] at F; exact F
    | exc x e' S2 => rw [q2] at F; exact Fin.step st F
    | ok d2 S2 =>
      rw [q2] at F
      intro r2 H2 st2 rs2 v2 rv2
      cases d with
      | int i =>
        cases d2 with
        | int j =>
          have F : Fin r H (if (-(2 ^ 62) ≤ i ∧ i < 2 ^ 62) ∧ (-(2 ^ 62) ≤ j ∧ j < 2 ^ 62) then Out.ok (⟨rng i (j - i).toNat, none⟩ : Src) S2 else .bad) (kI X.kw z R) (xpG X.kw X.mg z W) := F
          split at F
          · rename_i c
            rw [Rep] at rv rv2; subst rv; subst rv2
            exact ⟨i, j, rfl, ⟨c.1.1, c.1.2, c.2.1, c.2.2⟩, F r2 H2 (st.trans st2) rs2 _ _ src_rng trivial⟩
          · exact F.elim
        | _ => exact (show False from F).elim
      | _ => exact (show False from F).elim
end
end Mp
end SMpH

section SMpI
set_option Elab.async false
set_option linter.all false
set_option maxRecDepth 100000
namespace PySem
open Sem (wp)
open AutoSeq1 (wpAny_loadPart')
/-- a tuple's iterator at its start -/
abbrev oTi (l : Addr) : Obj := { cls := .type "tuple_iterator", data := .fields #[.ref l, .int 0 0] }
/-- what enumerate makes, over the iterator at i -/
abbrev oEn (i : Addr) : Obj := { cls := .type "enumerate", data := .fields #[.none, .bool false, .ref i, rawInt 0, .none, .none] }
theorem enum_over_tuple (l : Addr) (items : Array Value) : Meets (Builtin.«enumerate.__new__» ⟨[.type "enumerate", .ref l], []⟩) (fun _ R s => s.heap.IsTuple l items ∧
    R (.ok (.ret (.ref (s.heap.push (oTi l)).objs.size))) { s with heap := (s.heap.push (oTi l)).push (oEn s.heap.objs.size) }) := by
  refine .of_wp fun prog w A R s both => ?_
  rcases s with ⟨hp, g, d, tk, os⟩
  rcases both with ⟨tp, after⟩
  have tp2 := tp
  rcases tp with ⟨⟨_, _, _, _⟩, here, rfl, _, rfl⟩
  have := sub_enumerate
  wp_walk using wpAny_loadPart' here
  apply wpAny_stack_any; intro st; apply wpAny_pure
  split
  · rename_i k _ _ _ _ _
    generalize (k == Value.type "enumerate") = own
    cases own <;> (wp_walk using wpAny_loadPart' here, wpAny_pyIter_tuple tp2; exact ⟨_, rfl, after⟩)
  · wp_walk using wpAny_loadPart' here, wpAny_pyIter_tuple tp2
    exact ⟨_, rfl, after⟩
theorem call_enumerate_tuple {prog : Program} {w : World} {A : Around} {E : Value → Shared → Prop} {s : Shared} {l : Addr} {items : Array Value} {Q : Value → Shared → Prop} (tp : s.heap.IsTuple l items)
    (q : ∀ h', IsEnum h' (s.heap.objs.size + 1) s.heap.objs.size 0 .none ∧ h'.IsTupleIter s.heap.objs.size l 0 ∧ (∀ b o, s.heap.get? b = some o → h'.get? b = some o) → Q (.ref (s.heap.objs.size + 1)) { s with heap := h' }) :
    wpAny (model prog w) A (call (.type "enumerate") [.ref l]) Q E s := by
  have sz : (s.heap.push (oTi l)).objs.size = s.heap.objs.size + 1 := Heap.size_push ..
  have top : IsEnum ((s.heap.push (oTi l)).push (oEn s.heap.objs.size)) (s.heap.objs.size + 1) s.heap.objs.size 0 .none := sz ▸ Heap.get?_push_size (s.heap.push (oTi l)) (o := oEn s.heap.objs.size) rfl
  refine callType_new F.called_enumerate (by decide) (F.typeCall_enumerate_1 _) (F.newCall_enumerate_1 _) (fun obj => F.args_object_init_2 obj _) F.entry_enumerate_new (enum_over_tuple l items) ⟨tp, ?_⟩
  rw [sz]
  exact ⟨⟨_, top, rfl⟩, q _ ⟨top, ⟨_, Heap.get?_push_of_some _ (Heap.get?_push_size _ rfl), rfl, rfl⟩, fun b o x => Heap.get?_push_of_some _ (Heap.get?_push_of_some _ x)⟩⟩
end PySem
open PySem PySem.Spec PyProof.Rows L2
namespace Mp
variable [Lt]
/-! ### enumerate(tuple) -/
theorem apart_cls {h : Heap} {a b : Addr} {o o' : Obj} (x : h.get? a = some o) (y : h.get? b = some o') (n : o.cls ≠ o'.cls) : a ≠ b := by
  rintro rfl
  exact n (congrArg Obj.cls (Option.some.inj (x.symm.trans y)))
/-- the tuple at a, each item in a new pair behind its place -/
def IteT (K : PySem.W.Frag) (a : Addr) : It where
  go i H := ∃ (xs : List V) (x : V), SqT K H a xs ∧ xs[i]? = some x
  yld i H v H' := ∃ T x, v = .ref T ∧ H T = none ∧ H' = L2.upd H T (.tup [.int (i : Nat), x]) ∧ ∀ xs, SqT K H a xs → xs[i]? = some x
  stop i H := ∃ xs : List V, SqT K H a xs ∧ xs.length ≤ i
theorem turn_enumT {P : Program} {w : World} {K : PySem.W.Frag} {elts : List Expr} {kk : Nat} {tpos : Pos} (a e it : Addr) :
    Turn P w K (.Tuple elts kk tpos) (IteT K a) [e, it] e (fun i h => (∃ old, IsEnum h e it ((i : Nat) : Int) old) ∧ h.IsTupleIter it a i ∧ e ≠ it) where
  mem := .head _
  obj := by
    rintro i h ⟨⟨_, en⟩, ⟨oi, ti, _, dat⟩, _⟩ b hb
    rcases List.mem_cons.mp hb with rfl | hb
    · exact ⟨_, en, nofun⟩
    · cases List.mem_singleton.mp hb
      exact ⟨oi, ti, fun v z => by rw [dat] at z; exact nomatch z⟩
  keep := by
    rintro i h h' ⟨⟨old, en⟩, ti, ne⟩ k
    exact ⟨⟨old, k _ (.head _) _ en⟩, ti.at fun o z => k _ (.tail _ (.head _)) o z, ne⟩
  item := by
    rintro X rfl rfl rfl calm i pins s σ H E I off ⟨⟨old, en⟩, ti, ne⟩ ⟨xs, x, sq, xi⟩
    obtain ⟨us, vals, tp, _⟩ := I.tuple sq
    obtain ⟨u, ui, ru⟩ := vals.get xi
    replace tp : s.heap.IsTuple a us.toArray := tp
    replace ui : us.toArray[i]? = some u := by simpa using ui
    have ⟨ot, t1, t2, _⟩ := tp
    have ⟨oi, i1, i2, _⟩ := ti
    have a_it : a ≠ it := apart_cls t1 i1 (by rw [t2, i2]; decide +kernel)
    have a_e : a ≠ e := apart_cls t1 (show s.heap.get? e = some _ from en) (by rw [t2]; exact (by decide +kernel : Value.type "tuple" ≠ Value.type "enumerate"))
    have lt_e := Heap.lt_size (show s.heap.get? e = some _ from en)
    have lt_it := Heap.lt_size i1
    refine wpAny_pyNext_enum_itemD (PySem.Draws.tuple (A := X.A.in1) (I.ok.hd calm) it a a_it us.toArray) en ⟨ti, tp⟩ (Array.getElem?_eq_some_iff.mp ui).1 ne (by simp [ne, Ne.symm a_e]) fun y h1 tk hy own ti1 pair _ same => ?_
    cases Option.some.inj (hy.symm.trans ui)
    refine ⟨_, rfl, wpAny_letOwnedTupleGo_enum (s := { s with heap := h1, toks := tk + 1 }) own fun h2 en2 but => ?_⟩
    let N : Hp := L2.upd H s.heap.objs.size (.tup [.int (i : Nat), x])
    have made : ObjOk X.prog X.w N h2 s.heap.objs.size (.tup [.int (i : Nat), x]) := ⟨(by decide : 2 ≤ sizeLine), [.int i tk, u], .cons ⟨tk, rfl⟩ (.cons ru .nil), ⟨_, (but.2 _ (Nat.ne_of_gt lt_e)).trans pair, rfl, _, rfl⟩⟩
    have I2 : Inv X pins σ N { s with heap := h2, toks := tk + 1 } := by
      refine I.turnedNew (ch := [e, it]) (fun b ob out z => ?_) off (Nat.le_refl _) made
      have ⟨b1, b2⟩ : b ≠ e ∧ b ≠ it := by simpa using out
      exact (but.2 b b1).trans (same b ob b1 b2 z)
    refine ⟨.ref s.heap.objs.size, N, I2, rfl, ⟨_, x, rfl, I.hok.fresh (Nat.le_refl _), rfl, fun ys hy => I.tuple_inj hy sq ▸ xi⟩, ⟨⟨u, by simpa using en2⟩, ti1.1.at fun o z => (but.2 it ne.symm).trans z, ne⟩, fun b hb => ?_⟩
    have lt_b : b < s.heap.objs.size := by
      rcases List.mem_cons.mp hb with rfl | hb
      · exact lt_e
      · exact List.mem_singleton.mp hb ▸ lt_it
    exact (upd_ne (Nat.ne_of_lt lt_b)).trans (off b hb).1
  done := by
    rintro X rfl rfl rfl calm i pins s σ H E I off ⟨⟨old, en⟩, ti, ne⟩ ⟨xs, sq, le⟩
    obtain ⟨us, vals, tp, _⟩ := I.tuple sq
    have over : us.toArray[i]? = none := by
      have := vals.length
      simp; omega
    have ty : s.TypeIs (.ref e) "enumerate" := ⟨_, en, rfl⟩
    have ⟨c0, c1, _, c3, c4, c5⟩ := off it (.tail _ (.head _))
    unfold pyNext
    refine wpAny_bind (wpAny_attempt (wpAny_callSpecial?_slot (name := Str.ofString "__next__") ty F.slot_enumerate_next (wpAny_call_entry F.slot_enumerate_next ty F.entry_enumerate_next ?_ (F.args_enumerate_next_1 _))))
    change wpAny _ X.A.in1 (field (.ref e) 2 >>= _) _ _ s
    refine wpAny_bind (wpAny_field en rfl (x := .ref it) rfl (wpAny_bind ?_))
    refine wpAny_nextOf_tuple_end (A := X.A.in1) (I.ok.hd calm) ti (show s.heap.IsTuple a us.toArray from tp) over fun h1 x kept ⟨o, ho, stop⟩ => ?_
    exact wpAny_bind (wpAny_isInstance (T := "StopIteration") (b := true) ⟨o, ho, stop⟩ isSubtype_stop (wpAny_pure ⟨rfl, I.turned (t' := s.toks) (fun b o hb z => kept b o hb z) c0 c1 c3 c4 c5⟩))
  self := by
    rintro A i s Q E ⟨⟨_, en⟩, _⟩ q
    exact wpAny_pyIter_enum en q
section
variable {X : Cx} {W : WX} {a b : Expr} {ma mb : MEx} {pos p tpos : Pos} {elts : List Expr} {kk : Nat}
/-- two new objects lead the walk -/
theorem pie_two {tg : Expr} {pins : List (Addr × Obj)} {s : Shared} {σ : L2.St} {H : Hp} {R : It → Hp → Prop} {J : It} {tn : Nat → Heap → Prop} {h' : Heap} (I : Inv X pins σ H s) (kept : ∀ b o, s.heap.get? b = some o → h'.get? b = some o)
    (T : Turn X.prog X.w X.K tg J [s.heap.objs.size + 1, s.heap.objs.size] (s.heap.objs.size + 1) tn) (st : tn 0 h') (q : R J H) : PIE X pins σ tg R (.ref (s.heap.objs.size + 1)) { s with heap := h' } := by
  refine ⟨_, _, tn, J, H, rfl, I.kept (t' := s.toks) kept, T, st, fun b hb => ?_, q⟩
  have new : s.heap.objs.size ≤ b := by
    rcases List.mem_cons.mp hb with rfl | hb
    · exact Nat.le_succ _
    · exact Nat.le_of_eq (List.mem_singleton.mp hb).symm
  exact I.fpOk new (I.hok.fresh new)
theorem enum_tup {pins : List (Addr × Obj)} {s1 : Shared} {σ : L2.St} {H1 : Hp} {R : It → Hp → Prop} {a : Addr} {xs : List V} (I1 : Inv X pins σ H1 s1) (hq : SqT X.K H1 a xs) (q : R (IteT X.K a) H1) :
    wpAny (model X.prog X.w) X.A (call (.type "enumerate") [.ref a]) (fun v s2 => wpAny (model X.prog X.w) X.A (pyIter v) (PIE X pins σ (.Tuple elts kk tpos) R) X.xe s2) X.xe s1 := by
  have ⟨us, _, tp, _⟩ := I1.tuple hq
  exact call_enumerate_tuple (show s1.heap.IsTuple a us.toArray from tp) fun h' ⟨en, ti, kept⟩ => wpAny_pyIter_enum en (pie_two I1 kept (turn_enumT a _ _) ⟨⟨_, en⟩, ti, Nat.succ_ne_self _⟩ q)
theorem enum_lst {pins : List (Addr × Obj)} {s1 : Shared} {σ : L2.St} {H1 : Hp} {R : It → Hp → Prop} {a : Addr} {xs : List V} (I1 : Inv X pins σ H1 s1) (hq : SqL X.K H1 a xs) (q : R (Ite X.K a) H1) :
    wpAny (model X.prog X.w) X.A (call (.type "enumerate") [.ref a]) (fun v s2 => wpAny (model X.prog X.w) X.A (pyIter v) (PIE X pins σ (.Tuple elts kk tpos) R) X.xe s2) X.xe s1 := by
  have ⟨_, _, lp, _⟩ := I1.list hq
  exact call_enumerate_list lp.isList fun h' en li _ kept => wpAny_pyIter_enum en (pie_two I1 kept (turn_enum a _ _) ⟨⟨_, en⟩, li, Nat.succ_ne_self _⟩ q)
theorem enumD_get {ds : List D} {i : Nat} {d : D} (h : (enumD ds)[i]? = some d) : ∃ x, ds[i]? = some x ∧ d = .tup [.int (i : Nat), x] := by
  unfold enumD at h
  rw [List.getElem?_map] at h
  cases q : ds.zipIdx[i]? with
  | none => rw [q] at h; cases h
  | some y =>
    rw [q] at h
    rw [List.getElem?_zipIdx] at q
    cases q2 : ds[i]? with
    | none => rw [q2] at q; cases q
    | some x =>
      rw [q2] at q
      simp at q
      subst q
      simp at h
      exact ⟨x, rfl, h.symm⟩
theorem src_enumT {K : Kw} {a : Addr} {ds : List D} {vs : List V} : SrcOk K ⟨enumD ds, none⟩ (IteT K.f a) (fun r z H => FT K r z H a vs ∧ RepL K r z H ds vs) where
  stay := src_tup.stay
  hide := src_tup.hide
  busy := src_tup.busy
  go := fun r z H S i d g rs_ _ hi => by
    obtain ⟨x, hx, rfl⟩ := enumD_get hi
    obtain ⟨v, h1, h2⟩ := g.2.got hx
    refine ⟨⟨vs, v, g.1.sq, h1⟩, fun v' H' y => ?_⟩
    obtain ⟨T, x', rfl, hT, rfl, y⟩ := y
    have := y vs g.1.sq
    rw [h1] at this; cases this
    exact ⟨Step.upd hT, rs_.upd hT, Rep.newT rs_ hT ((RepL.nil.cons h2).cons (repI _))⟩
  stop := fun r z H S i g rs_ _ hi => ⟨vs, g.1.sq, by rw [← g.2.length]; simpa [enumD] using hi⟩
theorem src_enumL {K : Kw} {a : Addr} {ds : List D} {vs : List V} : SrcOk K ⟨enumD ds, none⟩ (Ite K.f a) (fun r z H => FL K r z H a vs ∧ RepL K r z H ds vs) where
  stay := src_lst.stay
  hide := src_lst.hide
  busy := src_lst.busy
  go := fun r z H S i d g rs_ _ hi => by
    obtain ⟨x, hx, rfl⟩ := enumD_get hi
    obtain ⟨v, h1, h2⟩ := g.2.got hx
    refine ⟨⟨vs, v, g.1.sq, h1⟩, fun v' H' y => ?_⟩
    obtain ⟨T, x', rfl, hT, rfl, y⟩ := y
    have := y vs g.1.sq
    rw [h1] at this; cases this
    exact ⟨Step.upd hT, rs_.upd hT, Rep.newT rs_ hT ((RepL.nil.cons h2).cons (repI _))⟩
  stop := fun r z H S i g rs_ _ hi => ⟨vs, g.1.sq, by rw [← g.2.length]; simpa [enumD] using hi⟩
theorem piv_enum (hg : Gl X "enumerate") (hm : X.mg "enumerate" = none) (ha : PEv X W a ma) (hs : starEach [a] X.env = [(false, eval a X.env)] := by rfl) :
    PIv X W (.Tuple elts kk tpos) (.Call (.Name "enumerate" p) [a] [] pos) (wEnum ma) := by
  refine ⟨fun pins s σ H R I ⟨r, z, e, S, A, F⟩ => ?_⟩
  have F' : Fin r H (((aCons ma aNil) e S).bind fun xs S => match xs with | [.tup xs] => .ok ⟨enumD xs, none⟩ S | [.lst xs] => .ok ⟨enumD xs, none⟩ S | _ => .bad) (kI X.kw z R) (xpG X.kw X.mg z W) := by
    unfold wEnum at F
    unfold aCons aNil
    cases q : ma e S with
    | ok d S1 => rw [q] at F; cases d <;> exact F
    | bad => rw [q] at F; exact F
    | exc x e' S1 => rw [q] at F; exact F
  refine Call_ (ld_blt I hg hm boot_enumerate (PyProof.Rows.callWith_type1 ((pav_cons ha pav_nil hs).go I A F' fun us vs r1 H1 s1 ds S1 st1 I1 ru A1 R1 F1 => ?_) hs rfl))
  match ds, F1, R1 with
  | [.tup xs], F1, R1 =>
    obtain ⟨v, ev, R2⟩ := repL1 R1
    subst ev
    rw [Rep] at R2
    obtain ⟨p, vs, ev, q, l⟩ := R2
    subst ev
    obtain ⟨u, eu, ru2⟩ := vals1 ru
    subst eu
    obtain rfl : u = Value.ref p := ru2
    exact enum_tup I1 q.sq (F1 r1 H1 (Step.refl _ _) A1.s _ _ src_enumT ⟨q, l⟩)
  | [.lst xs], F1, R1 =>
    obtain ⟨v, ev, R2⟩ := repL1 R1
    subst ev
    rw [Rep] at R2
    obtain ⟨p, vs, ev, q, l⟩ := R2
    subst ev
    obtain ⟨u, eu, ru2⟩ := vals1 ru
    subst eu
    obtain rfl : u = Value.ref p := ru2
    exact enum_lst I1 q.sq (F1 r1 H1 (Step.refl _ _) A1.s _ _ src_enumL ⟨q, l⟩)
  | [], F1, _ => exact (show False from F1).elim
  | [.non], F1, _ => exact (show False from F1).elim
  | [.bl _], F1, _ => exact (show False from F1).elim
  | [.int _], F1, _ => exact (show False from F1).elim
  | [.str _], F1, _ => exact (show False from F1).elim
  | [.loc _], F1, _ => exact (show False from F1).elim
  | x :: y :: zs, F1, _ => cases x <;> exact (show False from F1).elim
/-! ### zip -/
theorem zipD_get {xs ys : List D} {i : Nat} {d : D} (h : (zipD xs ys)[i]? = some d) : ∃ x y, xs[i]? = some x ∧ ys[i]? = some y ∧ d = .tup [x, y] := by
  unfold zipD at h
  rw [List.getElem?_map] at h
  cases q : (xs.zip ys)[i]? with
  | none => rw [q] at h; cases h
  | some y =>
    rw [q] at h
    obtain ⟨h1, h2⟩ := List.getElem?_zip_eq_some.mp q
    simp at h
    exact ⟨y.1, y.2, h1, h2, h.symm⟩
theorem src_zipT {K : Kw} {a b : Addr} {ds es : List D} {vs ws : List V} : SrcOk K ⟨zipD ds es, none⟩ (RZ.ItzT K.f a b) (fun r z H => (FT K r z H a vs ∧ RepL K r z H ds vs) ∧ FT K r z H b ws ∧ RepL K r z H es ws) where
  stay := fun r z H r' H' g st => ⟨src_tup.stay r z H r' H' g.1 st, src_tup.stay r z H r' H' g.2 st⟩
  hide := fun r z H p o g hp => ⟨src_tup.hide r z H p o g.1 hp, src_tup.hide r z H p o g.2 hp⟩
  busy := fun r z H p o g hp => ⟨src_tup.busy r z H p o g.1 hp, src_tup.busy r z H p o g.2 hp⟩
  go := fun r z H S i d g rs_ _ hi => by
    obtain ⟨x, y, hx, hy, rfl⟩ := zipD_get hi
    obtain ⟨v, h1, h2⟩ := g.1.2.got hx
    obtain ⟨w, h3, h4⟩ := g.2.2.got hy
    refine ⟨⟨vs, ws, v, w, g.1.1.sq, g.2.1.sq, h1, h3⟩, fun v' H' yy => ?_⟩
    obtain ⟨T, x', y', rfl, hT, rfl, e1, e2⟩ := yy
    have e1 := e1 vs g.1.1.sq
    have e2 := e2 ws g.2.1.sq
    rw [h1] at e1; cases e1
    rw [h3] at e2; cases e2
    exact ⟨Step.upd hT, rs_.upd hT, Rep.newT rs_ hT ((RepL.nil.cons h4).cons h2)⟩
  stop := fun r z H S i g rs_ _ hi => by
    refine ⟨vs, ws, g.1.1.sq, g.2.1.sq, ?_⟩
    rw [← g.1.2.length, ← g.2.2.length]
    simp [zipD] at hi
    omega
theorem src_zipL {K : Kw} {a b : Addr} {ds es : List D} {vs ws : List V} : SrcOk K ⟨zipD ds es, none⟩ (Itz K.f a b) (fun r z H => (FL K r z H a vs ∧ RepL K r z H ds vs) ∧ FL K r z H b ws ∧ RepL K r z H es ws) where
  stay := fun r z H r' H' g st => ⟨src_lst.stay r z H r' H' g.1 st, src_lst.stay r z H r' H' g.2 st⟩
  hide := fun r z H p o g hp => ⟨src_lst.hide r z H p o g.1 hp, src_lst.hide r z H p o g.2 hp⟩
  busy := fun r z H p o g hp => ⟨src_lst.busy r z H p o g.1 hp, src_lst.busy r z H p o g.2 hp⟩
  go := fun r z H S i d g rs_ _ hi => by
    obtain ⟨x, y, hx, hy, rfl⟩ := zipD_get hi
    obtain ⟨v, h1, h2⟩ := g.1.2.got hx
    obtain ⟨w, h3, h4⟩ := g.2.2.got hy
    refine ⟨⟨vs, ws, v, w, g.1.1.sq, g.2.1.sq, h1, h3⟩, fun v' H' yy => ?_⟩
    obtain ⟨T, x', y', rfl, hT, rfl, e1, e2⟩ := yy
    have e1 := e1 vs g.1.1.sq
    have e2 := e2 ws g.2.1.sq
    rw [h1] at e1; cases e1
    rw [h3] at e2; cases e2
    exact ⟨Step.upd hT, rs_.upd hT, Rep.newT rs_ hT ((RepL.nil.cons h4).cons h2)⟩
  stop := fun r z H S i g rs_ _ hi => by
    refine ⟨vs, ws, g.1.1.sq, g.2.1.sq, ?_⟩
    rw [← g.1.2.length, ← g.2.2.length]
    simp [zipD] at hi
    omega
theorem piv_zip (hg : Gl X "zip") (hm : X.mg "zip" = none) (ha : PEv X W a ma) (hb : PEv X W b mb) (hs : starEach [a, b] X.env = (false, eval a X.env) :: starEach [b] X.env := by rfl) (hs2 : starEach [b] X.env = (false, eval b X.env) :: starEach [] X.env := by rfl)
    (hpl : (backTo pos (starEach [b] X.env)).any (·.1) = false := by rfl) : PIv X W (.Tuple elts kk tpos) (.Call (.Name "zip" p) [a, b] [] pos) (wZip ma mb) := by
  refine ⟨fun pins s σ H R I ⟨r, z, e, S, A, F⟩ => ?_⟩
  refine (RZ.pi_zipA hg hm (pa_cons ha (pa_cons hb pa_nil hs2) hs) hs hpl).run pins s σ H R I ⟨r, z, e, S, A, ?_⟩
  unfold wZip at F
  cases q : ma e S with
  | bad => rw [q] at F; exact F
  | exc x e' S1 => rw [q] at F; exact F
  | ok d S1 =>
    rw [q, bind_ok] at F
    intro r1 H1 st rs_ v rv
    refine ⟨r1, z, e, S1, ⟨rs_, A.e.step st⟩, ?_⟩
    cases q2 : mb e S1 with
    | bad => rw [q2] at F; exact F
    | exc x e' S2 => rw [q2] at F; exact Fin.step st F
    | ok d2 S2 =>
      rw [q2] at F
      intro r2 H2 st2 rs2 v2 rv2
      have rv := rv.step st2
      cases d with
      | tup xs =>
        cases d2 with
        | tup ys =>
          rw [Rep] at rv rv2
          obtain ⟨p1, vs, rfl, q1, l1⟩ := rv
          obtain ⟨p2, ws, rfl, q2, l2⟩ := rv2
          exact ⟨p1, p2, vs, ws, rfl, .inr ⟨q1.sq, q2.sq, F r2 H2 (st.trans st2) rs2 _ _ src_zipT ⟨⟨q1, l1⟩, q2, l2⟩⟩⟩
        | _ => exact (show False from F).elim
      | lst xs =>
        cases d2 with
        | lst ys =>
          rw [Rep] at rv rv2
          obtain ⟨p1, vs, rfl, q1, l1⟩ := rv
          obtain ⟨p2, ws, rfl, q2, l2⟩ := rv2
          exact ⟨p1, p2, vs, ws, rfl, .inl ⟨q1.sq, q2.sq, F r2 H2 (st.trans st2) rs2 _ _ src_zipL ⟨⟨q1, l1⟩, q2, l2⟩⟩⟩
        | _ => exact (show False from F).elim
      | _ => exact (show False from F).elim
end
end Mp
end SMpI

section SMpJ
set_option Elab.async false
set_option linter.all false
set_option maxRecDepth 100000
open PySem PySem.Spec PyProof.Rows L2
namespace Mp
variable [Lt]
section
variable {X : Cx} {W : WX} {tg iter a b c : Expr} {ma mb : MEx} {pos p : Pos} {w : MSrc} {q : Pat} {m : MSt} {t : MTs} {body : List Stmt}
/-! ### for -/
theorem for_reading {K : Kw} {Gm : Str → Option Value} {D : Ends} {σ : L2.St} {H : Hp} (h : tsM K Gm W (sFor w q m) D σ H) : tFor (tiM K Gm W w) (gM K q) (tsM K Gm W m) D σ H := by
  obtain ⟨r, z, e, S, A, F⟩ := h
  refine ⟨r, z, e, S, A, ?_⟩
  unfold sFor at F
  cases qs : w e S with
  | bad => rw [qs] at F; exact F
  | exc x e' S1 => rw [qs] at F; exact F
  | ok src S1 =>
    rw [qs, bind_ok] at F
    intro r1 H1 st rs_ J G ok g
    refine ⟨fun i m' σ' H' => m' = src.items.length - i ∧ i ≤ src.items.length ∧ ∃ r' e' S', G r' z H' ∧ All K r' z H' σ' e' S' ∧ Fin r' H' (forGo src q m (src.items.drop i) e' S') (kS K z D) (xpG K Gm z W),
      ⟨src.items.length, by simp, Nat.zero_le _, r1, e, S1, g, ⟨rs_, A.e.step st⟩, Fin.step st F⟩, ?_⟩
    rintro i m' σ' H' ⟨rfl, hi, r', e', S', g', A', F'⟩
    by_cases hlt : i < src.items.length
    · have hd : src.items.drop i = src.items[i] :: src.items.drop (i + 1) := List.drop_eq_getElem_cons hlt
      rw [hd] at F'
      unfold forGo at F'
      by_cases hc : chk src S' = true
      · rw [if_pos hc] at F'
        obtain ⟨h1, h2⟩ := ok.go r' z H' S' i src.items[i] g' A'.s hc (by simp [hlt])
        refine .inr ⟨h1, fun σ2 H2 => ∃ r2 e2 S2, G r2 z H2 ∧ All K r2 z H2 σ2 e2 S2 ∧ Fin r2 H2 (forGo src q m (src.items.drop (i + 1)) e2 S2) (kS K z D) (xpG K Gm z W),
          fun σ2 H2 ⟨r2, e2, S2, g2, A2, F2⟩ => ⟨src.items.length - (i + 1), by omega, rfl, hlt, r2, e2, S2, g2, A2, F2⟩, fun v H2 y => ?_⟩
        obtain ⟨st2, rs2, rv2⟩ := h2 v H2 y
        cases eb : bindP q src.items[i] e' with
        | none => rw [eb] at F'; exact F'.elim
        | some e1 =>
          rw [eb] at F'
          dsimp only at F'
          refine ⟨r', z, e', S', src.items[i], e1, ⟨rs2, A'.e.step st2⟩, rv2, eb, fun σ3 A3 _ => ⟨r', z, e1, S', A3, ?_⟩⟩
          have F' := Fin.step st2 F'
          cases qb : m e1 S' with
          | bad => rw [qb] at F'; exact F'
          | exc x e'' S2 => rw [qb] at F'; exact F'
          | ok fl S2 =>
            rw [qb, bind_ok] at F'
            intro r3 H3 st3
            have g3 := ok.stay r' z H2 r3 H3 (ok.stay r' z H' r' H2 g' st2) st3
            cases fl with
            | nx e2 => exact fun σ4 A4 => ⟨r3, e2, S2, g3, A4, Fin.step st3 F'⟩
            | ct e2 => exact fun σ4 A4 => ⟨r3, e2, S2, g3, A4, Fin.step st3 F'⟩
            | bk e2 => exact fun σ4 A4 => F' r3 H3 st3 σ4 A4
            | rt d => exact fun rs v rv => F' r3 H3 st3 rs v rv
      · rw [if_neg hc] at F'; exact F'.elim
    · have hd : src.items.drop i = [] := List.drop_eq_nil_of_le (by omega)
      rw [hd] at F'
      unfold forGo at F'
      by_cases hc : chk src S' = true
      · rw [if_pos hc] at F'
        exact .inl ⟨ok.stop r' z H' S' i g' A'.s hc (by omega), F' r' H' (Step.refl _ _) σ' A'⟩
      · rw [if_neg hc] at F'; exact F'.elim
theorem psv_for (hp : PassesOwn (model X.prog X.w) X.A X.env X.xe) (hc : X.calm = true) (hi : PIv X W tg iter w) (hg : PGv X tg q) (hb : PSsv X W body m)
    (hs : ∀ x, foldedSetIterable iter X.env x = pure x := by intro _; rfl) : PSv X W (.For tg iter body [] pos) (sFor w q m) :=
  ⟨fun pins s σ H D I h => (ps_for hp hc hi hg hb hs).run pins s σ H D I (for_reading h)⟩
/-! ### while -/
theorem while_reading {K : Kw} {Gm : Str → Option Value} {D : Ends} {σ : L2.St} {H : Hp} (h : tsM K Gm W (sWhile t m) D σ H) : tWhile (ttM K Gm W t) (tsM K Gm W m) D σ H := by
  obtain ⟨r, z, e, S, A, F⟩ := h
  unfold sWhile at F
  refine ⟨fun n σ' H' => ∃ r' e' S', All K r' z H' σ' e' S' ∧ Fin r' H' (whileGo t m n e' S') (kS K z D) (xpG K Gm z W), ⟨fuel, r, e, S, A, F⟩, ?_⟩
  rintro n σ' H' ⟨r', e', S', A', F'⟩
  cases n with
  | zero => exact F'.elim
  | succ n =>
    unfold whileGo at F'
    refine ⟨r', z, e', S', A', ?_⟩
    cases qt : t e' S' with
    | bad => rw [qt] at F'; exact F'
    | exc x e'' S1 => rw [qt] at F'; exact F'
    | ok k S1 =>
      rw [qt, bind_ok] at F'
      intro r1 H1 st rs_
      have A1 : All K r1 z H1 σ' e' S1 := ⟨rs_, A'.e.step st⟩
      have F1 := Fin.step st F'
      cases k with
      | false => rw [if_neg (by simp)] at F1; rw [if_neg (by simp)]; exact F1 r1 H1 (Step.refl _ _) σ' A1
      | true =>
        rw [if_pos rfl] at F1
        rw [if_pos rfl]
        refine ⟨fun σ2 H2 => ∃ r2 e2 S2, All K r2 z H2 σ2 e2 S2 ∧ Fin r2 H2 (whileGo t m n e2 S2) (kS K z D) (xpG K Gm z W), fun σ2 H2 ⟨r2, e2, S2, A2, F2⟩ => ⟨n, Nat.lt_succ_self n, r2, e2, S2, A2, F2⟩, r1, z, e', S1, A1, ?_⟩
        cases qb : m e' S1 with
        | bad => rw [qb] at F1; exact F1
        | exc x e'' S2 => rw [qb] at F1; exact F1
        | ok fl S2 =>
          rw [qb, bind_ok] at F1
          intro r3 H3 st3
          cases fl with
          | nx e2 => exact fun σ4 A4 => ⟨r3, e2, S2, A4, Fin.step st3 F1⟩
          | ct e2 => exact fun σ4 A4 => ⟨r3, e2, S2, A4, Fin.step st3 F1⟩
          | bk e2 => exact fun σ4 A4 => F1 r3 H3 st3 σ4 A4
          | rt d => exact fun rs v rv => F1 r3 H3 st3 rs v rv
theorem psv_while (hp : PassesOwn (model X.prog X.w) X.A X.env X.xe) (hc : PTv X W c t) (hb : PSsv X W body m) : PSv X W (.While c body [] pos) (sWhile t m) :=
  ⟨fun pins s σ H D I h => (ps_while hp hc hb).run pins s σ H D I (while_reading h)⟩
/-! ### comprehensions -/
theorem wipe_rep {K : Kw} {r z : List Addr} {H : Hp} {σ : L2.St} {e : Ev} (h : RepE K r z H σ e) : ∀ vs, RepE K r z H (wipe σ vs) (wipeE e vs)
  | [] => h
  | v :: vs => (wipe_rep h vs).none v none
theorem wipe_get {σ : L2.St} {i : Nat} : ∀ {vs : List Nat}, i ∈ vs → i < σ.length → (wipe σ vs)[i]? = some none
  | v :: vs, h, hl => by
    unfold wipe
    by_cases e : v = i
    · subst e
      exact List.getElem?_set_self (by rw [wipe_length]; exact hl)
    · rw [List.getElem?_set_ne e]
      exact wipe_get ((List.mem_cons.mp h).resolve_left fun q => e q.symm) hl
theorem wipe_ext {σ σ' : L2.St} {vs : List Nat} (hl : σ'.length = σ.length) (h : ∀ j, j ∉ vs → σ'[j]? = σ[j]?) : wipe σ' vs = wipe σ vs := by
  apply List.ext_getElem?
  intro j
  by_cases hj : j ∈ vs
  · by_cases hb : j < σ.length
    · rw [wipe_get hj hb, wipe_get hj (by omega)]
    · rw [List.getElem?_eq_none (by rw [wipe_length]; omega), List.getElem?_eq_none (by rw [wipe_length]; omega)]
  · rw [wipe_out hj, wipe_out hj, h j hj]
theorem comp_reading {K : Kw} {Gm : Str → Option Value} {own : List Nat} {f : MEx} {σ : L2.St} {H : Hp} {Q : VK} (hsl : ∀ j ∈ slotsP q, j ∈ own) (h : tfM K Gm W (lComp w own q t f) σ H Q) :
    tLc (tiM K Gm W w) (gM K q) (ttM K Gm (fun _ _ _ _ => False) t) (tM K Gm (fun _ _ _ _ => False) f) own σ H Q := by
  obtain ⟨r, z, e, S, A, F⟩ := h
  refine ⟨r, z, e, S, A, ?_⟩
  unfold lComp at F
  cases qs : w e S with
  | bad => rw [qs] at F; exact F
  | exc x e' S1 => rw [qs] at F; exact F
  | ok src S1 =>
    rw [qs, bind_ok] at F
    by_cases hsz : src.items.length < sizeLine
    · rw [if_pos hsz] at F
      intro r1 H1 st rs_ J G ok g
      have F := Fin.step st F
      obtain ⟨T0, hT0⟩ : ∃ T0, calm (compGo src (wipeE e own) q t f src.items S1) = T0 := ⟨_, rfl⟩
      rw [hT0] at F
      intro L hL
      have zL : L ∉ z := (rs_.fresh hL).2
      have A0 : All K r1 (L :: z) (L2.upd H1 L (.lst [])) (wipe σ own) (wipeE e own) S1 := ⟨hide_S hL rs_, hide_E hL (wipe_rep (A.e.step st) own)⟩
      refine ⟨fun i m' H' => m' = src.items.length - i ∧ i ≤ src.items.length ∧ ∃ r' S' acc vs, H' L = some (.lst vs) ∧ G r' (L :: z) H' ∧ All K r' (L :: z) H' (wipe σ own) (wipeE e own) S' ∧ RepL K r' (L :: z) H' acc vs ∧ acc.length ≤ i ∧ Step r1 H1 r' (del H' L) ∧
          T0 = (calm (compGo src (wipeE e own) q t f (src.items.drop i) S')).bind fun ys S2 => .ok (acc ++ ys) S2,
        ⟨src.items.length, by simp, Nat.zero_le _, r1, S1, [], [], upd_same, ok.hide _ _ _ _ _ g hL, A0, RepL.nil, Nat.le_refl _, Step.del0 hL, ?_⟩, ?_⟩
      · rw [List.drop_zero, hT0]
        cases T0 <;> rfl
      rintro i m' H' ⟨rfl, hi, r', S', acc, vs, eL, g', A', la, hacc, stp, eq⟩
      have nb : calm (compGo src (wipeE e own) q t f (src.items.drop i) S') ≠ .bad := fun z => by rw [eq, z] at F; exact F
      by_cases hlt : i < src.items.length
      · have hd : src.items.drop i = src.items[i] :: src.items.drop (i + 1) := List.drop_eq_getElem_cons hlt
        rw [hd] at eq nb
        unfold compGo at eq nb
        by_cases hc : chk src S' = true
        · rw [if_pos hc] at nb
          obtain ⟨h1, h2⟩ := ok.go r' (L :: z) H' S' i src.items[i] g' A'.s hc (by simp [hlt])
          refine .inr ⟨h1, fun H2 => (∃ r2 S2 acc vs, H2 L = some (.lst vs) ∧ G r2 (L :: z) H2 ∧ All K r2 (L :: z) H2 (wipe σ own) (wipeE e own) S2 ∧ RepL K r2 (L :: z) H2 acc vs ∧ acc.length ≤ i + 1 ∧ Step r1 H1 r2 (del H2 L) ∧
              T0 = (calm (compGo src (wipeE e own) q t f (src.items.drop (i + 1)) S2)).bind fun ys S2 => .ok (acc ++ ys) S2),
            fun H2 n2 => ⟨src.items.length - (i + 1), by omega, rfl, hlt, n2⟩, fun v H2 y => ?_⟩
          obtain ⟨st2, rs2, rv2⟩ := h2 v H2 y
          have eL2 : H2 L = some (.lst vs) := st2.keep L _ eL (fun m => A'.s.ap L m List.mem_cons_self) rfl
          cases eb : bindP q src.items[i] (wipeE e own) with
          | none => rw [eb] at nb; exact absurd rfl nb
          | some e1 =>
            have A2 : All K r' (L :: z) H2 (wipe σ own) (wipeE e own) S' := ⟨rs2, A'.e.step st2⟩
            refine ⟨r', L :: z, wipeE e own, S', src.items[i], e1, A2, rv2, eb, fun σ3 A3 K3 => ⟨?_, ?_⟩⟩
            · have e1 : wipe σ3 own = wipe (wipe σ own) own := wipe_ext K3.1 fun j hj => K3.2 j fun h => hj (hsl j h)
              rw [e1]
              exact wipe_ext (wipe_length σ own) fun j hj => wipe_out hj
            · rw [if_pos hc, eb] at eq
              rw [eb] at nb
              simp only at eq nb
              have stp2 : Step r1 H1 r' (del H2 L) := Step.del1 hL stp st2
              refine ⟨r', L :: z, e1, S', A3, ?_⟩
              cases qt : t e1 S' with
              | bad => rw [qt] at nb; exact absurd rfl nb
              | exc x e'' S2 => rw [qt] at nb; exact absurd rfl nb
              | ok k S2 =>
                rw [qt, bind_ok] at eq nb
                intro r3 H3 st3 rs3
                have eL3 : H3 L = some (.lst vs) := st3.keep L _ eL2 (fun m => A2.s.ap L m List.mem_cons_self) rfl
                have stp3 : Step r1 H1 r3 (del H3 L) := Step.del1 hL stp2 st3
                have g3 := ok.stay _ _ _ _ _ (ok.stay _ _ _ _ _ g' st2) st3
                cases k with
                | false =>
                  rw [if_neg (by simp)] at eq
                  rw [if_neg (by simp)]
                  exact ⟨r3, S2, acc, vs, eL3, g3, ⟨rs3, A2.e.step st3⟩, (la.step st2).step st3, by omega, stp3, eq⟩
                | true =>
                  rw [if_pos rfl] at eq nb
                  rw [if_pos rfl]
                  refine ⟨r3, L :: z, e1, S2, ⟨rs3, A3.e.step st3⟩, ?_⟩
                  cases qf : f e1 S2 with
                  | bad => rw [qf] at nb; exact absurd rfl nb
                  | exc x e'' S3 => rw [qf] at nb; exact absurd rfl nb
                  | ok yv S3 =>
                    rw [qf, bind_ok] at eq
                    intro r4 H4 st4 rs4 v4 rv4
                    have eL4 : H4 L = some (.lst vs) := st4.keep L _ eL3 (fun m => rs3.ap L m List.mem_cons_self) rfl
                    have stp4 : Step r1 H1 r4 (del H4 L) := Step.del1 hL stp3 st4
                    have g4 := ok.stay _ _ _ _ _ g3 st4
                    have la4 := ((la.step st2).step st3).step st4
                    have hlen := la4.length
                    refine ⟨vs, eL4, by omega, r4, S3, acc ++ [yv], vs ++ [v4], upd_same, ok.busy _ _ _ _ _ g4 List.mem_cons_self, ⟨busy_S List.mem_cons_self rs4, busy_E List.mem_cons_self ((A2.e.step st3).step st4)⟩,
                      (busy_rep List.mem_cons_self).2 _ _ (la4.append (RepL.nil.cons rv4)), by simp; omega, by rw [del_upd]; exact stp4, ?_⟩
                    rw [eq]
                    cases compGo src (wipeE e own) q t f (src.items.drop (i + 1)) S3 with
                    | ok ys S5 => simp
                    | exc x e'' S5 => rfl
                    | bad => rfl
        · rw [if_neg hc] at nb; exact absurd rfl nb
      · have hd : src.items.drop i = [] := List.drop_eq_nil_of_le (by omega)
        rw [hd] at eq nb
        unfold compGo at eq nb
        by_cases hc : chk src S' = true
        · rw [if_pos hc, calm_ok, bind_ok, List.append_nil] at eq
          rw [eq] at F
          refine .inl ⟨ok.stop r' (L :: z) H' S' i g' A'.s hc (by omega), ?_⟩
          have := F r' (del H' L) stp (show_S zL A'.s) vs (show_rep.2 _ _ la) L del_same
          rw [upd_del eL] at this
          exact this
        · rw [if_neg hc] at nb; exact absurd rfl nb
    · rw [if_neg hsz] at F; exact F.elim
/-- a clause's tests -/
def PTsv (X : Cx) (W : WX) (ifs : List Expr) (m : MTs) : Prop := PTs X ifs (ttM X.kw X.mg W m)
theorem ptsv_nil : PTsv X W [] tYes := ⟨fun pins s σ H Q I ⟨r, z, e, S, A, F⟩ => pts_nil.run pins s σ H Q I (F r H (Step.refl _ _) A.s)⟩
theorem ptsv_one (h : PTv X W c t) : PTsv X W [c] t := pts_one h
abbrev W0 : WX := fun _ _ _ _ => False
theorem pfv_comp {elt : Expr} {ifs : List Expr} {scope : Scope} {own : List (Str × Nat)} {f : MEx} (hc : X.calm = true) (hN : X.N.Nodup) (hi : PIv X W tg iter w) (ok : BlkOk X.N X.env.scope scope own)
    (hg : ∀ (s : Shared) (H : Hp) (C : Addr) (cl : List (Str × Addr)) (fp : List Addr), PGv (X.blk s H scope (compEnvC scope cl C X.env) fp) tg q)
    (ht : ∀ (s : Shared) (H : Hp) (C : Addr) (cl : List (Str × Addr)) (fp : List Addr), PTsv (X.blk s H scope (compEnvC scope cl C X.env) fp) W0 ifs t)
    (he : ∀ (s : Shared) (H : Hp) (C : Addr) (cl : List (Str × Addr)) (fp : List Addr), PEv (X.blk s H scope (compEnvC scope cl C X.env) fp) W0 elt f)
    (hsl : ∀ j ∈ slotsP q, j ∈ own.map (·.2)) (hs : ∀ x, foldedSetIterable iter X.env x = pure x := by intro _; rfl) :
    PFv X W (.ListComp elt [⟨tg, iter, ifs, 0⟩] scope pos) (lComp w (own.map (·.2)) q t f) :=
  ⟨fun pins s σ H Q I h => (pe_lc (g := gM X.kw q) (tt := ttM X.kw X.mg W0 t) (te := tM X.kw X.mg W0 f) hc hN hi ok hg ht he hs).run pins s σ H Q I (comp_reading hsl h)⟩
/-- y = [..] on one line -/
theorem set_reading {K : Kw} {Gm : Str → Option Value} {i : Nat} {mr : MAs} {tl : TE} {D : Ends} {σ : L2.St} {H : Hp} (hl : ∀ Q, tfM K Gm W mr σ H Q → tl σ H Q) (h : tsM K Gm W (sAsg (.nm i) (mFrz mr)) D σ H) : tAsg tl (gName i) D σ H := by
  refine hl _ ?_
  obtain ⟨r, z, e, S, A, F⟩ := h
  refine ⟨r, z, e, S, A, ?_⟩
  unfold sAsg mFrz at F
  rw [bind_assoc'] at F
  cases qr : mr e S with
  | bad => rw [qr] at F; exact F
  | exc x e' S1 => rw [qr] at F; exact F
  | ok ds S1 =>
    rw [qr] at F
    simp only [bind_ok, bindP] at F
    exact fun r1 H1 st rs_ vs l n hn => F r1 _ (st.trans (Step.upd hn)) _ ⟨rs_.upd hn, ((A.e.step st).step (Step.upd hn)).set i (Rep.newL rs_ hn l)⟩
theorem set_readingN {K : Kw} {Gm : Str → Option Value} {i : Nat} {mr : MAs} {tl : TE} {D : Ends} {σ : L2.St} {H : Hp} (hl : ∀ Q, tfM K Gm W mr σ H Q → tl σ H Q) (h : tsM K Gm W (sAsg (.nm i) (mNew mr)) D σ H) : tAsg tl (gName i) D σ H := by
  refine hl _ ?_
  obtain ⟨r, z, e, S, A, F⟩ := h
  refine ⟨r, z, e, S, A, ?_⟩
  unfold sAsg mNew at F
  rw [bind_assoc'] at F
  cases qr : mr e S with
  | bad => rw [qr] at F; exact F
  | exc x e' S1 => rw [qr] at F; exact F
  | ok ds S1 =>
    rw [qr] at F
    simp only [bind_ok, bindP] at F
    intro r1 H1 st rs_ vs l n hn
    by_cases nc : noCloL ds = true
    case neg => rw [if_neg nc] at F; exact F.elim
    rw [if_pos nc] at F
    refine F (r1 ++ [n]) _ (st.trans (Step.new hn)) _ ⟨rs_.new hn ⟨nc, vs, upd_same, l.step (Step.new hn)⟩, ((A.e.step st).step (Step.new hn)).set i ?_⟩
    rw [Rep]; exact ⟨n, by rw [← rs_.len]; simp, rfl⟩
theorem psv_setLc (i : Nat) {y : Str} {py spos : Pos} {elt : Expr} {ifs : List Expr} {scope : Scope} {own : List (Str × Nat)} {f : MEx} (hc : X.calm = true) (hN : X.N.Nodup) (hi : PIv X W tg iter w) (ok : BlkOk X.N X.env.scope scope own)
    (hg : ∀ (s : Shared) (H : Hp) (C : Addr) (cl : List (Str × Addr)) (fp : List Addr), PGv (X.blk s H scope (compEnvC scope cl C X.env) fp) tg q)
    (ht : ∀ (s : Shared) (H : Hp) (C : Addr) (cl : List (Str × Addr)) (fp : List Addr), PTsv (X.blk s H scope (compEnvC scope cl C X.env) fp) W0 ifs t)
    (he : ∀ (s : Shared) (H : Hp) (C : Addr) (cl : List (Str × Addr)) (fp : List Addr), PEv (X.blk s H scope (compEnvC scope cl C X.env) fp) W0 elt f)
    (hsl : ∀ j ∈ slotsP q, j ∈ own.map (·.2)) (hsw : swapsWith (.ListComp elt [⟨tg, iter, ifs, 0⟩] scope pos) (some (.Name y py)) spos.line X.env = pure true)
    (hy : X.N[i]? = some y := by rfl) (hyl : X.env.scope.names.lookup y = some .local := by rfl) (hs : ∀ x, foldedSetIterable iter X.env x = pure x := by intro _; rfl) :
    PSv X W (.Assign [.Name y py] (.ListComp elt [⟨tg, iter, ifs, 0⟩] scope pos) spos) (sAsg (.nm i) (mFrz (lComp w (own.map (·.2)) q t f))) :=
  ⟨fun pins s σ H D I h => (ps_setLc (g := gM X.kw q) (tt := ttM X.kw X.mg W0 t) (te := tM X.kw X.mg W0 f) hc hN hy hyl hsw hi ok hg ht he hs).run pins s σ H D I (set_reading (fun Q h => comp_reading hsl h) h)⟩
theorem psv_setLcN (i : Nat) {y : Str} {py spos : Pos} {elt : Expr} {ifs : List Expr} {scope : Scope} {own : List (Str × Nat)} {f : MEx} (hc : X.calm = true) (hN : X.N.Nodup) (hi : PIv X W tg iter w) (ok : BlkOk X.N X.env.scope scope own)
    (hg : ∀ (s : Shared) (H : Hp) (C : Addr) (cl : List (Str × Addr)) (fp : List Addr), PGv (X.blk s H scope (compEnvC scope cl C X.env) fp) tg q)
    (ht : ∀ (s : Shared) (H : Hp) (C : Addr) (cl : List (Str × Addr)) (fp : List Addr), PTsv (X.blk s H scope (compEnvC scope cl C X.env) fp) W0 ifs t)
    (he : ∀ (s : Shared) (H : Hp) (C : Addr) (cl : List (Str × Addr)) (fp : List Addr), PEv (X.blk s H scope (compEnvC scope cl C X.env) fp) W0 elt f)
    (hsl : ∀ j ∈ slotsP q, j ∈ own.map (·.2)) (hsw : swapsWith (.ListComp elt [⟨tg, iter, ifs, 0⟩] scope pos) (some (.Name y py)) spos.line X.env = pure true)
    (hy : X.N[i]? = some y := by rfl) (hyl : X.env.scope.names.lookup y = some .local := by rfl) (hs : ∀ x, foldedSetIterable iter X.env x = pure x := by intro _; rfl) :
    PSv X W (.Assign [.Name y py] (.ListComp elt [⟨tg, iter, ifs, 0⟩] scope pos) spos) (sAsg (.nm i) (mNew (lComp w (own.map (·.2)) q t f))) :=
  ⟨fun pins s σ H D I h => (ps_setLc (g := gM X.kw q) (tt := ttM X.kw X.mg W0 t) (te := tM X.kw X.mg W0 f) hc hN hy hyl hsw hi ok hg ht he hs).run pins s σ H D I (set_readingN (fun Q h => comp_reading hsl h) h)⟩
end
end Mp
end SMpJ

section SMpK
set_option Elab.async false
set_option linter.all false
set_option maxRecDepth 100000
open PySem PySem.Spec PyProof.Rows L2
namespace Mp
variable [Lt]
/-! ### a place is written -/
section
variable {K : Kw} {r z : List Addr} {H : Hp} {S : Sto} {a : Addr} {o : HO} {n : Nat}
theorem put_rep (h : a ∈ r) : (∀ (d : D) (v : V), Rep K r z H d v → Rep K r z (L2.upd H a o) d v) ∧ (∀ (ds : List D) (vs : List V), RepL K r z H ds vs → RepL K r z (L2.upd H a o) ds vs) :=
  Rep.move (fun _ _ e => e) fun b ob e n1 n2 => ⟨by rw [upd_ne (show b ≠ a from fun q => n1 (by rw [q]; exact h))]; exact e, n1, n2⟩
def NoF (o : Option HO) : Prop := ∀ ob u, o ≠ some (.frz ob u)
theorem put_step (h : a ∈ r) (ho : NoF (H a)) : Step r H r (L2.upd H a o) :=
  ⟨fun b ob e m _ => by rw [upd_ne (show b ≠ a from fun q => m (by rw [q]; exact h))]; exact e, ⟨[], by simp, by simp⟩, fun b q => by
    by_cases e : b = a
    · rw [e, upd_same]; exact fun q => nomatch q
    · rw [upd_ne e]; exact q, fun b ob u e => by
    rw [upd_ne (show b ≠ a from fun q => ho ob u (by rw [← q]; exact e))]; exact e⟩
theorem put_S (rs_ : RepS K r z H S) (h : r[n]? = some a) (ho : NoF (H a)) {ob : O} (hob : RepO K r z (L2.upd H a o) a ob) : RepS K r z (L2.upd H a o) (S.set n ob) := by
  have hm : a ∈ r := List.mem_of_getElem? h
  refine ⟨by simp [rs_.len], rs_.nd, rs_.ap, fun b m => (put_step hm ho).dom b (rs_.zz b m), fun p hp => (rs_.tb p hp).move fun b ob e n1 n2 => ⟨by rw [upd_ne (show b ≠ a from fun q => n1 (by rw [q]; exact hm))]; exact e, n1, n2⟩, fun k ob' e => ?_⟩
  by_cases q : n = k
  · subst q
    have hl : n < S.length := by rw [← rs_.len]; exact (List.getElem?_eq_some_iff.mp h).1
    rw [List.getElem?_set_self hl] at e
    cases e
    exact ⟨a, h, hob⟩
  · rw [List.getElem?_set_ne q] at e
    obtain ⟨b, h1, h2⟩ := rs_.ob k ob' e
    have ne : b ≠ a := by
      intro z
      subst z
      exact q (nodup_ix' rs_.nd h h1)
    exact ⟨b, h1, h2.move (upd_ne ne) (put_rep hm).1 (put_rep hm).2⟩
where
  nodup_ix' {N : List Addr} (hN : N.Nodup) {i j : Nat} {x : Addr} (a : N[i]? = some x) (b : N[j]? = some x) : i = j := by
    have li : i < N.length := by
      rcases Nat.lt_or_ge i N.length with h | h
      · exact h
      · rw [List.getElem?_eq_none h] at a; exact nomatch a
    exact (List.getElem?_inj li hN).mp (a.trans b.symm)
theorem nof_lst {xs : List V} (h : H a = some (.lst xs)) : NoF (H a) := fun _ _ e => by rw [h] at e; cases e
theorem nof_dK {xs : List (Key × V)} (h : H a = some (.dK xs)) : NoF (H a) := fun _ _ e => by rw [h] at e; cases e
theorem nof_nd {w : World} {xs : List (NestedKey × Addr × V)} (h : H a = some (ndO w a xs)) : NoF (H a) := fun _ _ e => by rw [h] at e; cases e
theorem keyD_inj {k k' : Key} (h : keyD k = keyD k') : k = k' := by
  cases k <;> cases k' <;> simp [keyD] at h <;> simp [h]
theorem repD_any (k : Key) : ∀ {kvs : List (D × D)} {l : List (Key × V)}, RepD K r z H kvs l → (kvs.any fun p => decide (p.1 = keyD k)) = l.any fun kv => decide (kv.1 = k)
  | [], l, h => by subst h; rfl
  | p :: ps, l, h => by
    obtain ⟨k', v, l', rfl, h1, h2, h3⟩ := h
    rw [List.any_cons, List.any_cons, repD_any k h3, h1]
    have : decide (keyD k' = keyD k) = decide (k' = k) := by
      by_cases q : k' = k
      · subst q; simp
      · rw [decide_eq_false q, decide_eq_false fun e => q (keyD_inj e)]
    rw [this]
theorem repD_map (k : Key) {d : D} {v : V} (hv : Rep K r z H d v) : ∀ {kvs : List (D × D)} {l : List (Key × V)}, RepD K r z H kvs l →
    RepD K r z H (kvs.map fun p => if p.1 = keyD k then (p.1, d) else p) (l.map fun kv => if kv.1 = k then (kv.1, v) else kv)
  | [], l, h => by subst h; rfl
  | p :: ps, l, h => by
    obtain ⟨k', v', l', rfl, h1, h2, h3⟩ := h
    rw [List.map_cons, List.map_cons]
    by_cases q : k' = k
    · subst q
      rw [if_pos h1, if_pos rfl]
      exact ⟨k', v, _, rfl, h1, hv, repD_map k' hv h3⟩
    · have n : ¬ p.1 = keyD k := fun e => q (keyD_inj (h1.symm.trans e))
      rw [if_neg n, if_neg q]
      exact ⟨k', v', _, rfl, h1, h2, repD_map k hv h3⟩
theorem repD_app (k : Key) {d : D} {v : V} (hv : Rep K r z H d v) : ∀ {kvs : List (D × D)} {l : List (Key × V)}, RepD K r z H kvs l → RepD K r z H (kvs ++ [(keyD k, d)]) (l ++ [(k, v)])
  | [], l, h => by subst h; exact ⟨k, v, [], rfl, rfl, hv, rfl⟩
  | p :: ps, l, h => by
    obtain ⟨k', v', l', rfl, h1, h2, h3⟩ := h
    exact ⟨k', v', _, rfl, h1, h2, repD_app k hv h3⟩
theorem repD_put (k : Key) {d : D} {v : V} (hv : Rep K r z H d v) {kvs : List (D × D)} {l : List (Key × V)} (h : RepD K r z H kvs l) : RepD K r z H (dput (keyD k) d kvs) (putK l k v) := by
  unfold dput putK
  rw [repD_any k h]
  by_cases c : (l.any fun kv => decide (kv.1 = k)) = true
  · rw [if_pos c, if_pos c]; exact repD_map k hv h
  · rw [if_neg c, if_neg c]; exact repD_app k hv h
theorem repD_len : ∀ {kvs : List (D × D)} {l : List (Key × V)}, RepD K r z H kvs l → kvs.length = l.length
  | [], l, h => by subst h; rfl
  | p :: ps, l, h => by
    obtain ⟨k', v', l', rfl, h1, h2, h3⟩ := h
    simp [repD_len h3]
end
theorem noCloL_all : ∀ xs, noCloL xs = xs.all noClo
  | [] => by simp [noCloL]
  | x :: xs => by simp [noCloL, noCloL_all xs]
theorem noClo_set {xs : List D} {d : D} (h : noCloL xs = true) (hd : noClo d = true) (j : Nat) : noCloL (xs.set j d) = true := by
  rw [noCloL_all, List.all_eq_true] at h ⊢
  intro x hx
  rcases List.mem_or_eq_of_mem_set hx with h1 | h1
  · exact h x h1
  · rw [h1]; exact hd
theorem noClo_put {kvs : List (D × D)} {d : D} (h : noCloL (kvs.map (·.2)) = true) (hd : noClo d = true) (k : D) : noCloL ((dput k d kvs).map (·.2)) = true := by
  rw [noCloL_all, List.all_eq_true] at h ⊢
  intro x hx
  unfold dput at hx
  split at hx
  · rw [List.map_map] at hx
    obtain ⟨p, hp, e⟩ := List.mem_map.mp hx
    simp only [Function.comp_apply] at e
    split at e
    · rw [← e]; exact hd
    · rw [← e]; exact h _ (List.mem_map_of_mem hp)
  · rw [List.map_append, List.mem_append] at hx
    rcases hx with hx | hx
    · exact h x hx
    · simp at hx; rw [hx]; exact hd
theorem noClo_app {xs : List D} {d : D} (h : noCloL xs = true) (hd : noClo d = true) : noCloL (xs ++ [d]) = true := by
  rw [noCloL_all] at h ⊢
  rw [List.all_append, h]
  simp [hd]
/-! ### dicts with tuple keys are written -/
def ndPut (k : NestedKey) (b : Addr) (v : V) (xs : List (NestedKey × Addr × V)) : List (NestedKey × Addr × V) :=
  if (xs.any fun x => decide (x.1 = k)) = true then xs.map (fun x => if x.1 = k then (x.1, x.2.1, v) else x) else xs ++ [(k, b, v)]
section
variable {K : Kw} {r z : List Addr} {H : Hp}
theorem repM_len : ∀ {kvs : List (D × D)} {l : List (NestedKey × Addr × V)}, RepM K r z H kvs l → kvs.length = l.length
  | [], l, h => by cases h; rfl
  | p :: ps, l, h => by
    obtain ⟨b, v, l', rfl, _, _, _, h4⟩ := h
    simp [repM_len h4]
theorem repM_any {d : D} (hk : keyOk d = true) : ∀ {kvs : List (D × D)} {l : List (NestedKey × Addr × V)}, RepM K r z H kvs l → (kvs.any fun p => decide (p.1 = d)) = l.any fun x => decide (x.1 = nk d)
  | [], l, h => by cases h; rfl
  | p :: ps, l, h => by
    obtain ⟨b, v, l', rfl, h1, h2, h3, h4⟩ := h
    rw [List.any_cons, List.any_cons, repM_any hk h4]
    have : decide (p.1 = d) = decide (nk p.1 = nk d) := by
      by_cases q : p.1 = d
      · rw [q]; simp
      · rw [decide_eq_false q, decide_eq_false fun e => q (key_inj h1 hk e)]
    rw [this]
theorem repM_map {d y : D} {v : V} (hk : keyOk d = true) (hv : Rep K r z H y v) : ∀ {kvs : List (D × D)} {l : List (NestedKey × Addr × V)}, RepM K r z H kvs l →
    RepM K r z H (kvs.map fun p => if p.1 = d then (p.1, y) else p) (l.map fun x => if x.1 = nk d then (x.1, x.2.1, v) else x)
  | [], l, h => by cases h; rfl
  | p :: ps, l, h => by
    obtain ⟨b, v', l', rfl, h1, h2, h3, h4⟩ := h
    rw [List.map_cons, List.map_cons]
    by_cases q : p.1 = d
    · rw [if_pos q, if_pos (by rw [q])]
      exact ⟨b, v, _, rfl, h1, h2, hv, repM_map hk hv h4⟩
    · rw [if_neg q, if_neg (show ¬ (nk p.1, b, v').1 = nk d from fun e => q (key_inj h1 hk e))]
      exact ⟨b, v', _, rfl, h1, h2, h3, repM_map hk hv h4⟩
theorem repM_app {d y : D} {b : Addr} {v : V} (hk : keyOk d = true) (hb : Rep K r z H d (.ref b)) (hv : Rep K r z H y v) : ∀ {kvs : List (D × D)} {l : List (NestedKey × Addr × V)}, RepM K r z H kvs l → RepM K r z H (kvs ++ [(d, y)]) (l ++ [(nk d, b, v)])
  | [], l, h => by cases h; exact ⟨b, v, [], rfl, hk, hb, hv, rfl⟩
  | p :: ps, l, h => by
    obtain ⟨b', v', l', rfl, h1, h2, h3, h4⟩ := h
    exact ⟨b', v', _, rfl, h1, h2, h3, repM_app hk hb hv h4⟩
theorem repM_put {d y : D} {b : Addr} {v : V} (hk : keyOk d = true) (hb : Rep K r z H d (.ref b)) (hv : Rep K r z H y v) {kvs : List (D × D)} {l : List (NestedKey × Addr × V)} (h : RepM K r z H kvs l) : RepM K r z H (dput d y kvs) (ndPut (nk d) b v l) := by
  unfold dput ndPut
  rw [repM_any hk h]
  by_cases c : (l.any fun x => decide (x.1 = nk d)) = true
  · rw [if_pos c, if_pos c]; exact repM_map hk hv h
  · rw [if_neg c, if_neg c]; exact repM_app hk hb hv h
end
theorem paired_any {k : NestedKey} : ∀ {xs : List (NestedKey × Addr × V)} {us : List (NestedKey × Addr × Value)}, Paired RelN xs us → (xs.any fun x => decide (x.1 = k)) = (atKey us k).isSome
  | _, _, .nil => rfl
  | _, _, @Paired.cons _ _ _ x u xs us h q => by
    rw [List.any_cons, paired_any q]
    obtain ⟨e1, _, _⟩ := h
    by_cases c : u.1 = k
    · simp [atKey, e1, c]
    · simp [atKey, e1, c]
theorem paired_put {k : NestedKey} {b : Addr} {v : V} {u : Value} (hv : RelV v u) {xs : List (NestedKey × Addr × V)} {us : List (NestedKey × Addr × Value)} (h : Paired RelN xs us) : Paired RelN (ndPut k b v xs) (storedH us k b u) := by
  have mp : ∀ {xs : List (NestedKey × Addr × V)} {us : List (NestedKey × Addr × Value)}, Paired RelN xs us → Paired RelN (xs.map fun x => if x.1 = k then (x.1, x.2.1, v) else x) (us.map (putAt k u)) := by
    intro xs us h
    induction h with
    | nil => exact .nil
    | @cons x y xs ys h q ih =>
      obtain ⟨e1, e2, e3⟩ := h
      rw [List.map_cons, List.map_cons]
      refine .cons ?_ ih
      unfold putAt
      rw [e1]
      by_cases c : y.1 = k
      · rw [if_pos c, if_pos c]; exact ⟨rfl, e2, hv⟩
      · rw [if_neg c, if_neg c]; exact ⟨e1, e2, e3⟩
  have ap : ∀ {xs : List (NestedKey × Addr × V)} {us : List (NestedKey × Addr × Value)}, Paired RelN xs us → Paired RelN (xs ++ [(k, b, v)]) (us ++ [(k, b, u)]) := by
    intro xs us h
    induction h with
    | nil => exact .cons ⟨rfl, rfl, hv⟩ .nil
    | cons h q ih => exact .cons h ih
  unfold ndPut storedH
  rw [paired_any h]
  by_cases c : (atKey us k).isSome = true
  · rw [if_pos c, if_pos c]; exact mp h
  · rw [if_neg c, if_neg c]; exact ap h
theorem ndPut_len (k : NestedKey) (b : Addr) (v : V) (xs : List (NestedKey × Addr × V)) : (ndPut k b v xs).length ≤ xs.length + 1 := by
  unfold ndPut
  split <;> simp
theorem ndO_ok {P : Program} {w : World} {H : Hp} {h : Heap} {a : Addr} {xs : List (NestedKey × Addr × V)} (n : NdIn w a xs h) : ObjOk P w H h a (ndO w a xs) := by
  obtain ⟨z1, z2, us, pr, o, es, ep, h1, h2⟩ := n
  refine ⟨⟨z1, z2, us, pr, o, es, ep, h1, h2⟩, ⟨o, h1⟩, fun h3 h4 n k => ?_⟩
  obtain ⟨z1, z2, us, pr, o, es, ep, h1, h2⟩ := n
  exact ⟨z1, z2, us, pr, o, es, ep, k _ h1, h2⟩
theorem map_set {X : Cx} {pins : List (Addr × Obj)} {s : Shared} {σ : L2.St} {H : Hp} {r z : List Addr} {q b : Addr} {xs : List (NestedKey × Addr × V)} {kvs : List (D × D)} {k : D} {v : V} {u : Value} {Q : Unit → Shared → Prop} {E : Value → Shared → Prop} (hu : X.A.units + 65 < cLine) (I : Inv X pins σ H s) (hq : H q = some (ndO X.w q xs)) (hr : RepM X.kw r z H kvs xs) (hk : keyOk k = true)
    (hb : (nestedKind X.prog X.w).is s.heap (nk k) b) (ru : RelV v u) (hz : xs.length < sizeLine) (h : ∀ s', Inv X pins σ (L2.upd H q (ndO X.w q (ndPut (nk k) b v xs))) s' → Q () s') : wpAny (model X.prog X.w) X.A (setItem (.ref q) (.ref b) u) Q E s := by
  obtain ⟨z1, z2, us, pr, hd⟩ := nd_of (K := X.kw) (P := X.prog) (lk := false) I.hok I.kIn hq hr
  have hl : us.length = xs.length := by
    clear hd hr hq hz z1 h
    induction pr with
    | nil => rfl
    | cons _ _ ih => simp [ih]
  refine wpAny_setItem_heap (nroom hu) hb hd (fun h' hd' hs => h _ ?_) (by omega)
  obtain ⟨o, es, ep, h1, h2, h3, h4, h5, h6⟩ := hd'
  refine I.write (x := q) (e := q) (by rw [hq]; exact True.intro) (.inl rfl) (fun c o' n e => (hs.2 c n).trans e) ⟨o, h1⟩ (ndO_ok ?_)
  exact ⟨by have := ndPut_len (nk k) b v xs; omega, z2, _, paired_put ru pr, o, es, ep, h1, h2, h3, h4, h6⟩
section
variable {X : Cx} {W : WX} {a b c : Expr} {ma mb mc : MEx} {pos p pos' apos : Pos} {es : List Expr} {mr : MAs}
theorem psv_sub (hu : X.A.units + 65 < cLine) (ho : PEv X W a ma) (hi : PEv X W b mb) (hv : PEv X W c mc) (hs : swapsWith c (some (.Subscript a b pos')) pos.line X.env = pure false) :
    PSv X W (.Assign [.Subscript a b pos'] c pos) (sSet ma mb mc) := by
  refine ⟨fun pins s σ H D I ⟨r, z, e, S, A, F⟩ => wpAny_Assign_Subscript (hv.go I A F fun u v r1 H1 s1 d S1 st1 I1 ru A1 R1 F1 => ho.go I1 A1 F1 fun u2 v2 r2 H2 s2 d2 S2 st2 I2 ru2 A2 R2 F2 => hi.go I2 A2 F2 fun u3 v3 r3 H3 s3 d3 S3 st3 I3 ru3 A3 R3 F3 => ?_) hs⟩
  have R1 := (R1.step st2).step st3
  have R2 := R2.step st3
  have nc : noClo d = true := by
    cases hn : noClo d with
    | true => rfl
    | false => simp only [oSet, hn, Bool.false_eq_true, if_false] at F3; exact F3.elim
  simp only [oSet, nc, if_true] at F3
  cases d2 with
  | loc n =>
    rw [Rep] at R2
    obtain ⟨q, h1, rfl⟩ := R2
    obtain rfl : u2 = Value.ref q := ru2
    cases hl : S3[n]? with
    | none => simp only [hl] at F3; exact F3.elim
    | some ob =>
      obtain ⟨q', h2, h3⟩ := A3.s.ob n ob hl
      rw [h1] at h2; cases h2
      have hm : q ∈ r3 := List.mem_of_getElem? h1
      cases ob with
      | list xs =>
        simp only [hl] at F3
        cases d3 with
        | int i =>
          simp only at F3
          obtain ⟨nc0, vs, h4, h5⟩ := h3
          cases hj : Mp.ixN xs.length i with
          | none => simp only [hj, Option.map_none] at F3; exact F3.elim
          | some j =>
            simp only [hj, Option.map_some] at F3
            rw [Rep] at R3; subst R3
            refine thn (set_list pins s3 σ H3 (.ref q) (.int i) v _ u3 u (fun H' => H' = L2.upd H3 q (.lst (vs.set j v))) I3 rfl ru3 ru ⟨q, vs, i, j, rfl, rfl, h4, by rw [← h5.length, ← ixN_eq]; exact hj, rfl⟩) ?_
            rintro _ s4 ⟨H4, I4, rfl⟩
            have st := put_step (o := .lst (vs.set j v)) hm (nof_lst h4)
            exact ⟨σ, _, I4, F3 r3 _ st σ ⟨put_S A3.s h1 (nof_lst h4) ⟨noClo_set nc0 nc j, _, upd_same, (put_rep hm).2 _ _ (h5.set j R1)⟩, A3.e.step st⟩⟩
        | _ => exact F3.elim
      | dict kvs =>
        simp only [hl] at F3
        obtain ⟨nc0, l, h4, h5⟩ := h3
        have go : ∀ k : Key, d3 = keyD k → v3 = kV k → kvs.length < sizeLine → (∀ (r' : List Addr) (H' : Hp), Step r3 H3 r' H' → kS X.kw z D r' H' (.nx e) (S3.set n (.dict (dput d3 d kvs)))) → wpAny (model X.prog X.w) X.A (setItem (.ref q) u3 u) (fun _ => SP X pins D .next) X.xe s3 := by
          intro k ed ev hz F3
          subst ed; subst ev
          refine d_setItem (by omega) I3 (DPut.k (v := v) h4 (by rw [← repD_len h5]; exact hz)) ru3 ru fun s4 I4 => ?_
          have st := put_step (o := .dK (putK l k v)) hm (nof_dK h4)
          exact ⟨σ, _, I4, F3 r3 _ st σ ⟨put_S A3.s h1 (nof_dK h4) ⟨noClo_put nc0 nc _, _, upd_same, (repD_put k R1 h5).move (put_rep hm).1⟩, A3.e.step st⟩⟩
        cases d3 with
        | int i =>
          simp only at F3
          by_cases hz : kvs.length < sizeLine
          · simp only [if_pos hz] at F3
            rw [Rep] at R3
            exact go (.inl i) rfl R3 hz F3
          · simp only [if_neg hz] at F3; exact F3.elim
        | str i =>
          simp only at F3
          by_cases hz : kvs.length < sizeLine
          · simp only [if_pos hz] at F3
            rw [Rep] at R3
            exact go (.inr i) rfl R3 hz F3
          · simp only [if_neg hz] at F3; exact F3.elim
        | _ => exact F3.elim
      | map lk kvs =>
        simp only [hl] at F3
        cases lk with
        | true => exact F3.elim
        | false =>
          simp only at F3
          by_cases hc : keyOk d3 = true ∧ kvs.length < sizeLine
          case neg => simp only [if_neg hc] at F3; exact F3.elim
          simp only [if_pos hc] at F3
          obtain ⟨nc0, xs, h4, h5⟩ := h3
          obtain ⟨b', rfl, rfl, hb⟩ := key_at I3 hc.1 R3 ru3
          have h4' : H3 q = some (ndO X.w q xs) := h4
          refine map_set hu I3 h4' h5 hc.1 hb ru (by have := repM_len h5; omega) fun s4 I4 => ?_
          have st := put_step (o := ndO X.w q (ndPut (nk d3) b' v xs)) hm (nof_nd h4')
          exact ⟨σ, _, I4, F3 r3 _ st σ ⟨put_S A3.s h1 (nof_nd h4') ⟨noClo_put nc0 nc _, _, upd_same, (repM_put hc.1 R3 R1 h5).move (put_rep hm).1⟩, A3.e.step st⟩⟩
      | inst _ _ => simp only [hl] at F3; exact F3.elim
  | _ => exact (show False from F3).elim
theorem pev_append (ho : PEv X W a ma) (ha : PEv X W b mb)
    (hbase : attributeBase a "append" X.env (eval a X.env) = eval a X.env := by rfl) (hfew : ((backTo pos (starEach [b] X.env)).all (fun x => !x.1) && (backToKw pos (keywordEach [] X.env)).all (fun x => x.1.isSome)
      && decide (([b] : List Expr).length + ([] : List Keyword).length + (if ([] : List Keyword).isEmpty then 0 else 1) < 30)) = true := by rfl)
    (hline : (apos.endLine == pos.line) = true := by rfl) (hs : starEach [b] X.env = (false, eval b X.env) :: starEach [] X.env := by rfl) :
    PEv X W (.Call (.Attribute a "append" apos) [b] [] pos) (mAppend ma mb) := by
  refine ⟨fun pins s σ H Q I ⟨r, z, e, S, A, F⟩ => ?_⟩
  refine (pe_bm PySem.F.plainAttrs_list PySem.F.slot_list_append PySem.F.type_list_append mt_append ho (pa_cons ha pa_nil hs) hbase hfew hline hs rfl).run pins s σ H Q I ⟨r, z, e, S, A, ?_⟩
  unfold mAppend at F
  cases qa : ma e S with
  | bad => rw [qa] at F; exact F
  | exc x e' S1 => rw [qa] at F; exact F
  | ok d S1 =>
    rw [qa, bind_ok] at F
    intro r1 H1 st rs_ v rv
    have F := Fin.step st F
    cases ql : lstOf S1 d with
    | none => rw [ql] at F; exact F.elim
    | some ys =>
      rw [ql] at F
      obtain ⟨q, vs, rfl, sq, l⟩ := rep_lst rs_ rv ql
      refine ⟨.inl ⟨rfl, vs, sq⟩, r1, z, e, S1, ⟨rs_, A.e.step st⟩, ?_⟩
      dsimp only at F
      cases qb : mb e S1 with
      | bad => rw [qb] at F; exact F
      | exc x e' S2 => rw [qb] at F; exact F
      | ok d2 S2 =>
        rw [qb, bind_ok] at F
        intro r2 H2 st2 rs2 v2 rv2
        have F := Fin.step st2 F
        cases d with
        | loc n =>
          have rv := rv.step st2
          rw [Rep] at rv
          obtain ⟨q', h1, e1⟩ := rv
          cases e1
          cases hl : S2[n]? with
          | none => simp only [hl] at F; exact F.elim
          | some ob =>
            obtain ⟨q', h2, h3⟩ := rs2.ob n ob hl
            rw [h1] at h2; cases h2
            have hm : q ∈ r2 := List.mem_of_getElem? h1
            cases ob with
            | list xs =>
              simp only [hl] at F
              obtain ⟨nc0, ws, h4, h5⟩ := h3
              split at F
              · rename_i hz
                obtain ⟨hz, nc⟩ := hz
                have stp := put_step (o := .lst (ws ++ [v2])) hm (nof_lst h4)
                exact ⟨q, ws, v2, rfl, rfl, h4, by rw [← h5.length]; exact hz, F r2 _ stp (put_S rs2 h1 (nof_lst h4) ⟨noClo_app nc0 nc, _, upd_same, (put_rep hm).2 _ _ (h5.append (RepL.nil.cons rv2))⟩) _ repN⟩
              · exact F.elim
            | dict _ => simp only [hl] at F; exact F.elim
            | map _ _ => simp only [hl] at F; exact F.elim
            | inst _ _ => simp only [hl] at F; exact F.elim
        | _ => exact (show False from F).elim
end
end Mp
end SMpK

section SMpL
set_option Elab.async false
set_option linter.all false
set_option maxRecDepth 100000
open PySem PySem.Spec PyProof.Rows L2
namespace Mp
variable [Lt]
/-! ### defs and calls: as the hand layer has them, where no repr is under way -/
def spM (K : Kw) (G : Str → Option Value) (f : Dn) : Sp := fun vs H Q E => ∃ r z ds S, RepS K r z H S ∧ RepL K r z H ds vs ∧
  Fin r H (f ds S) (kE K z Q) (fun r' H' x _ S' => RepS K r' z H' S' → ∀ cls d, RepX K G r' z H' x cls d → E cls d H')
structure FnG (P : Program) (w : World) (K : PySem.W.Frag) (mg : Str → Option Value) (base : Heap) (k : Nat) (f : Addr) (fd : FuncData) (ps : List Str) (den : Dn) : Prop where
  len : ∀ ds S, den ds S ≠ .bad → ds.length = ps.length
  run : ∀ (A : Around) (outer : List Env) (s : Shared) (H : Hp) (args : Args) (us : List Value) (vs : List V) (Q : VK) (E : XK), A.guards = some [] → Room k A → Env0 P w K mg base A outer s H → BindsTo s fd args (ps.zip us) → Vals vs us → spM (kwOf K w mg) mg den vs H Q E →
    codeAny (model P w) A (.call (.ref f) args) (CR (L2.CX P w) outer P w H s Q E) s
theorem FnG.mono {P : Program} {w : World} {K : PySem.W.Frag} {mg : Str → Option Value} {base : Heap} {j k : Nat} {f : Addr} {fd : FuncData} {ps : List Str} {den : Dn} (F : FnG P w K mg base j f fd ps den) (h : j ≤ k) : FnG P w K mg base k f fd ps den :=
  ⟨F.len, fun A outer s H args us vs Q E hg hr => F.run A outer s H args us vs Q E hg (hr.mono h)⟩
theorem FnG.lenV {P : Program} {w : World} {K : PySem.W.Frag} {mg : Str → Option Value} {base : Heap} {k : Nat} {f : Addr} {fd : FuncData} {ps : List Str} {den : Dn} (F : FnG P w K mg base k f fd ps den) {vs : List V} {H : Hp} {Q : VK} {E : XK} (h : spM (kwOf K w mg) mg den vs H Q E) : vs.length = ps.length := by
  obtain ⟨r, z, ds, S, rs_, l, fn⟩ := h
  rw [← l.length]
  exact F.len ds S fun q => by rw [q] at fn; exact fn
theorem rep_start {K : Kw} {r z : List Addr} {H : Hp} {ds : List D} {vs : List V} {N : List Str} (l : RepL K r z H ds vs) : RepE K r z H (L2.start N vs) (ds.map some ++ List.replicate (N.length - ds.length) none) := by
  have hl := l.length
  unfold L2.start
  refine ⟨by simp [hl], fun i d h => ?_⟩
  by_cases hi : i < ds.length
  · rw [List.getElem?_append_left (by simpa using hi), List.getElem?_map] at h
    cases q : ds[i]? with
    | none => rw [q] at h; cases h
    | some d' =>
      rw [q] at h; cases h
      obtain ⟨v, h1, h2⟩ := l.got q
      refine ⟨v, ?_, h2⟩
      rw [List.getElem?_append_left (by simp; omega), List.getElem?_map, h1]; rfl
  · rw [List.getElem?_append_right (by simpa using hi), List.getElem?_replicate] at h
    split at h <;> cases h
/-- a call of a def, as far as its body -/
theorem def_enter {P : Program} {w : World} {K : PySem.W.Frag} {mg : Str → Option Value} {base : Heap} {x qual : Str} {st : Stmt} {f : Addr} {fd : FuncData} {N ps : List Str} {A : Around} {outer : List Env} {s : Shared} {H : Hp} {args : Args} {us : List Value} {vs : List V} {R : Result → Shared → Prop} (E : XK)
    (F : Fun K x qual st f fd) (Sc : FnScope N ps (defScope st)) (room : A.depth < recursionLimit) (calm : A.handled = none) (e0 : Env0 P w K mg base A outer s H) (hb : BindsTo s fd args (ps.zip us)) (rel : Vals vs us) (len : vs.length = ps.length)
    (go : ∀ s1, Inv (cxOf (L2.CX P w) P w K mg base N qual (defScope st) f fd.code A outer s H E) [] (L2.start N vs) H s1 → codeAny (model P w) A (.func (defBody st) (envOfC qual (defScope st) s.heap.objs.size f fd.code)) R s1) :
    codeAny (model P w) A (.call (.ref f) args) R s := by
  have ⟨_, _, _, _, _, _, _, _, _, shape, there, code⟩ := F.ex
  subst shape
  have up : ∀ b o, base.get? b = some o → s.heap.get? b = some o := fun b o e => (e0.bs b o e).1
  have kin := e0.mod.kin.keeps up
  refine codeAny_call_function room (kin _ _ there) rfl Sc.co Sc.gen rfl (PySem.W.codeRec_of kin code) (hb _ _ _ _ (wpAny_newFunctionEnv_cells Sc.kind ?_ fun env he s1 made => ?_))
  · rintro ⟨y, v⟩ m
    exact (Sc.par y (List.of_mem_zip m).1).imp_right fun c => ⟨c, PySem.W.cellsFrom_some _ _ _ (.inl c)⟩
  · subst he
    exact ⟨(e0.mod.nolimit.keeps up).keeps made.toInCall.keep, go s1 (inv_start Sc calm e0 len rel made)⟩
theorem def_ok {P : Program} {w : World} {K : PySem.W.Frag} {mg : Str → Option Value} {base : Heap} {x qual : Str} {st : Stmt} {f : Addr} {fd : FuncData} {N ps : List Str} {k : Nat} {m : MSt} (F : Fun K x qual st f fd) (Sc : FnScope N ps (defScope st))
    (hbody : ∀ (cdv : Value) (A : Around) (outer : List Env) (s : Shared) (H : Hp) (E : XK), fd.code = cdv → (A.deeper (envOfC qual (defScope st) s.heap.objs.size f cdv)).guards = some [] → Room k (A.deeper (envOfC qual (defScope st) s.heap.objs.size f cdv)) →
      PSsv (cxOf (L2.CX P w) P w K mg base N qual (defScope st) f cdv A outer s H E) (fun cls d _ H' => E cls d H') (defBody st) m) :
    FnG P w K mg base (k + 1) f fd ps (mDef ps.length (N.length - ps.length) m) := by
  have hlen : ∀ ds S, mDef ps.length (N.length - ps.length) m ds S ≠ .bad → ds.length = ps.length := by
    intro ds S h
    unfold mDef at h
    split at h
    · assumption
    · exact absurd rfl h
  refine ⟨hlen, fun A outer s H args us vs Q E hg hr e0 hb rel hsp => ?_⟩
  obtain ⟨r, z, ds, S, rs_, l, Fm⟩ := hsp
  have dl : ds.length = ps.length := hlen ds S fun q => by rw [q] at Fm; exact Fm
  have hl : vs.length = ps.length := l.length.symm.trans dl
  refine def_enter E F Sc hr.depth hr.hd e0 hb rel hl fun s1 I => codeAny_func ?_
  have body := hbody fd.code A outer s H E rfl hg (hr.deeper _)
  have Fm : Fin r H ((m (ds.map some ++ List.replicate (N.length - ps.length) none) S).bind fun f S => match f with | .rt d => .ok d S | .nx _ => .ok .non S | _ => .bad) (kE (kwOf K w mg) z Q) (fun r' H' x _ S' => RepS (kwOf K w mg) r' z H' S' → ∀ cls d, RepX (kwOf K w mg) mg r' z H' x cls d → E cls d H') := by
    have e : mDef ps.length (N.length - ps.length) m ds S = (m (ds.map some ++ List.replicate (N.length - ps.length) none) S).bind fun f S => match f with | .rt d => .ok d S | .nx _ => .ok .non S | _ => .bad := by
      unfold mDef; rw [if_pos dl]; try rfl
    rw [← e]; exact Fm
  refine wpAny_mono (body.run [] s1 (L2.start N vs) H { nx := fun _ H' => Q .non H', rt := Q } I ⟨r, z, ds.map some ++ List.replicate (N.length - ps.length) none, S, ⟨rs_, by rw [← dl]; exact rep_start l⟩, ?_⟩) (fun fl s' hs => ?_) fun e s' hs => hs
  · cases q : m (ds.map some ++ List.replicate (N.length - ps.length) none) S with
    | bad => rw [q] at Fm; exact Fm
    | exc x e' S1 => rw [q] at Fm; exact fun r' H' stp σ cls d A' rx => Fm r' H' stp A'.s cls d rx
    | ok fl S1 =>
      rw [q] at Fm
      intro r' H' stp
      cases fl with
      | nx e1 => exact fun σ A' => Fm r' H' stp A'.s _ repN
      | rt d => exact fun rs v rv => Fm r' H' stp rs v rv
      | bk e1 => exact (show False from Fm).elim
      | ct e1 => exact (show False from Fm).elim
  · cases fl with
    | ret u => obtain ⟨v, σ', H', J, rv, q⟩ := hs; exact ⟨v, H', J.os, J.bare, J.base, J.hok, rv, q⟩
    | next => obtain ⟨σ', H', J, q⟩ := hs; exact ⟨.non, H', J.os, J.bare, J.base, J.hok, rfl, q⟩
    | brk => obtain ⟨_, _, _, q⟩ := hs; exact q.elim
    | cont => obtain ⟨_, _, _, q⟩ := hs; exact q.elim
section
variable {X : Cx} {W : WX} {a : Expr} {ma : MEx} {pos p : Pos} {es : List Expr} {mr : MAs} {k : Nat} {f : Addr} {fd : FuncData} {ps : List Str} {den : Dn} {x : Str}
theorem pev_call (F : FnG X.prog X.w X.K X.mg X.base k f fd ps den) (hgd : X.A.guards = some []) (hr : Room k X.A) (hg : Gl X x) (hm : X.mg x = some (.ref f)) (hk : PySem.W.keepIn X.K (.ref f) = true) (hb : Binds X.K fd ps []) (tk : Takes X W)
    (ha : PAv X W (a :: es) mr) (hdb : (x == ("__debug__" : Str)) = false := by decide) (he : starEach (a :: es) X.env = (false, eval a X.env) :: starEach es X.env := by rfl) (hpl : (backTo pos (starEach es X.env)).any (·.1) = false := by rfl) :
    PEv X W (.Call (.Name x p) (a :: es) [] pos) (mCall den mr) := by
  refine ⟨fun pins s σ H Q I ⟨r, z, e, S, A, Fm⟩ => wpAny_Call_Name_kw (ld_glob I hg hm ?_ hdb)⟩
  refine PySem.W.callWith_K (h₀ := X.base) I.ok.mod.kin hk (ha.go I A Fm fun us vs r1 H1 s1 ds S1 st1 I1 ru A1 R1 F1 => ⟨I1.kIn, ?_⟩) he hpl
  have sp : spM X.kw X.mg den vs H1 Q (fun cls d H' => W cls d σ H') := by
    refine ⟨r1, z, ds, S1, A1.s, R1, ?_⟩
    cases q : den ds S1 with
    | bad => rw [q] at F1; exact F1
    | ok d S2 => rw [q] at F1; exact F1
    | exc x e' S2 => rw [q] at F1; exact fun r' H' stp rs cls d rx => F1 r' H' stp σ cls d ⟨rs, A1.e.step stp⟩ rx
  have hl : (us ++ []).length = ps.length := by rw [List.append_nil, ← ru.length]; exact F.lenV sp
  have hb2 := hb s1 us I1.kIn hl
  rw [List.append_nil] at hb2
  refine wpAny_call (codeAny_mono (F.run X.A X.stack s1 H1 ⟨us, []⟩ us vs Q _ hgd hr I1.env0 hb2 ru sp) fun res s' hq => ?_)
  cases res with
  | error u => exact tk u s' (XE.of_call I1 (fun _ _ _ h => h) hq)
  | ok fl =>
    cases fl with
    | ret u => exact I1.after hq
    | next => exact False.elim hq
    | brk => exact False.elim hq
    | cont => exact False.elim hq
end
end Mp
end SMpL

section SMpM
set_option Elab.async false
set_option linter.all false
set_option maxRecDepth 100000
open PySem PySem.Spec PyProof.Rows L2
namespace Mp
variable [Lt]
/-! ### {"a": x, ..} -/
def trsOf (K : Kw) (G : Str → Option Value) (W : WX) : List Str → List MEx → List (TE × TE)
  | k :: ks, m :: ms => (tC (.str k), tM K G W m) :: trsOf K G W ks ms
  | _, _ => []
def PDv (X : Cx) (W : WX) (pos : Pos) (keys : List (Option Expr)) (values : List Expr) (ks : List Str) (ms : List MEx) : Prop := ks.length = ms.length ∧ PPs X pos keys values (trsOf X.kw X.mg W ks ms)
theorem pdv_nil {X : Cx} {W : WX} {pos : Pos} : PDv X W pos [] [] [] [] := ⟨rfl, pps_nil⟩
theorem pdv_cons {X : Cx} {W : WX} {pos kp : Pos} {kj : Nat} {k : Str} {v : Expr} {keys : List (Option Expr)} {values : List Expr} {ks : List Str} {ms : List MEx} {m : MEx} (hv : PEv X W v m) (hr : PDv X W pos keys values ks ms) :
    PDv X W pos (some (.Constant (.str k) kj kp) :: keys) (v :: values) (k :: ks) (m :: ms) := ⟨by simp [hr.1], pps_cons pe_str hv hr.2⟩
theorem pairs_reading {K : Kw} {G : Str → Option Value} {W : WX} {β : Type} {kp : KP β} {z : List Addr} {σ : L2.St} {e : Ev} : ∀ (ms : List MEx) (ks : List Str) (r : List Addr) (H : Hp) (S : Sto) (f : List D → Sto → Out β) (Q : List (V × V) → Hp → Prop), ks.length = ms.length → All K r z H σ e S →
    Fin r H ((aOf ms e S).bind f) kp (xpG K G z W) → (∀ r1 H1 ds vs S1, Step r H r1 H1 → All K r1 z H1 σ e S1 → RepL K r1 z H1 ds vs → ds.length = ms.length → Fin r1 H1 (f ds S1) kp (xpG K G z W) → Q ((ks.map V.str).zip vs) H1) → tPairs (trsOf K G W ks ms) σ H Q
  | [], ks, r, H, S, f, Q, hl, A, F, k => by
    cases ks with
    | nil => exact k r H [] [] S (Step.refl _ _) A RepL.nil rfl F
    | cons _ _ => simp at hl
  | m :: ms, ks, r, H, S, f, Q, hl, A, F, k => by
    cases ks with
    | nil => simp at hl
    | cons k0 ks =>
      show tM K G W m σ H _
      refine ⟨r, z, e, S, A, ?_⟩
      have F : Fin r H (((m e S).bind fun x S => (aOf ms e S).bind fun xs S => .ok (x :: xs) S).bind f) kp (xpG K G z W) := F
      rw [bind_assoc'] at F
      cases q : m e S with
      | bad => rw [q] at F; exact F
      | exc x e' S1 => rw [q] at F; exact F
      | ok d S1 =>
        rw [q, bind_ok, bind_assoc'] at F
        intro r1 H1 st rs_ v rv
        have A1 : All K r1 z H1 σ e S1 := ⟨rs_, A.e.step st⟩
        refine pairs_reading ms ks r1 H1 S1 _ _ (by simpa using hl) A1 (Fin.step st F) fun r2 H2 ds vs S2 st2 A2 l hd F2 => ?_
        exact k r2 H2 (d :: ds) (v :: vs) S2 (st.trans st2) A2 (l.cons (rv.step st2)) (by simp [hd]) F2
theorem merge_new : ∀ (more acc : List (Key × V)), ((acc ++ more).map (·.1)).Nodup → mergeK acc more = acc ++ more
  | [], acc, _ => by simp [mergeK]
  | p :: more, acc, h => by
    have hp : putK acc p.1 p.2 = acc ++ [p] := by
      unfold putK
      rw [if_neg]
      simp only [List.any_eq_true, decide_eq_true_eq, not_exists, not_and]
      intro q hq e
      rw [List.map_append, List.map_cons, List.nodup_append] at h
      exact h.2.2 q.1 (List.mem_map_of_mem hq) p.1 (by simp) e
    show mergeK (putK acc p.1 p.2) more = _
    rw [hp, merge_new more (acc ++ [p]) (by simpa using h)]
    simp
theorem repD_zip {K : Kw} {r z : List Addr} {H : Hp} : ∀ {ks : List Str} {ds : List D} {vs : List V}, RepL K r z H ds vs → RepD K r z H ((ks.map D.str).zip ds) ((ks.map (Sum.inr : Str → Key)).zip vs)
  | [], _, _, _ => by simp; rfl
  | k :: ks, [], vs, l => by rw [RepL] at l; subst l; simp; rfl
  | k :: ks, d :: ds, vs, l => by
    rw [RepL] at l
    obtain ⟨v, vs', rfl, h1, h2⟩ := l
    exact ⟨.inr k, v, _, rfl, rfl, h1, repD_zip h2⟩
theorem zip_kV : ∀ (ks : List Str) (vs : List V), (ks.map V.str).zip vs = (((ks.map (Sum.inr : Str → Key)).zip vs).map fun kv => (kV kv.1, kv.2))
  | [], vs => by simp
  | k :: ks, [] => by simp
  | k :: ks, v :: vs => by simp [zip_kV ks vs, kV]
theorem pev_dict {X : Cx} {W : WX} {pos : Pos} {keys : List (Option Expr)} {values : List Expr} {ks : List Str} {ms : List MEx} (h : PDv X W pos keys values ks ms) (hall : keys.all (·.isSome) = true) (hl : keys.length = values.length) (h0 : keys ≠ []) (h15 : keys.length ≤ 15) :
    PEv X W (.Dict keys values pos) (mDict ks (aOf ms)) := by
  refine ⟨fun pins s σ H Q I ⟨r, z, e, S, A, F⟩ => (pe_disp h.2 hall hl h0 h15).run pins s σ H Q I ?_⟩
  intro p hp
  unfold mDict at F
  have zp : p ∉ z := (A.s.fresh hp).2
  have A0 : All X.kw r (p :: z) (L2.upd H p (.dK [])) σ e S := ⟨hide_S hp A.s, hide_E hp A.e⟩
  have step0 : Step r H r (del (L2.upd H p (.dK [])) p) := Step.del0 hp
  -- what the display asks of an end, told over the heap with p put aside
  have F0 : Fin r (L2.upd H p (.dK [])) ((aOf ms e S).bind fun vs S => if vs.length = ks.length ∧ ks.Nodup ∧ ks.length ≤ 15 ∧ noCloL vs = true then .ok (D.loc S.length) (S ++ [.dict ((ks.map D.str).zip vs)]) else .bad)
      (fun r' H' d S' => ∀ S1 ds vs, d = .loc S1.length → S' = S1 ++ [.dict ((ks.map D.str).zip ds)] → RepS X.kw r' (p :: z) H' S1 → RepL X.kw r' (p :: z) H' ds vs → H' p = some (.dK []) → Q (.ref p) (L2.upd H' p (.dK ((ks.map (Sum.inr : Str → Key)).zip vs)))) (xpG X.kw X.mg (p :: z) W) := by
    cases q : aOf ms e S with
    | bad => rw [q] at F; exact F
    | exc x e' S1 =>
      rw [q] at F
      exact F.elim
    | ok ds S1 =>
      rw [q, calm_ok, bind_ok] at F
      rw [bind_ok]
      split at F
      · rename_i c
        rw [if_pos c]
        intro r' H' st S2 ds2 vs ed es rs_ l hpd
        have stp := Step.del1 hp step0 st
        have e1 : S2 = S1 := (List.append_inj' es (by simp)).1.symm
        subst e1
        have e2 : (ks.map D.str).zip ds2 = (ks.map D.str).zip ds := by
          have := (List.append_inj' es (by simp)).2
          simpa using this.symm
        have nw : del H' p p = none := del_same
        have eH : L2.upd H' p (.dK ((ks.map (Sum.inr : Str → Key)).zip vs)) = L2.upd (del H' p) p (.dK ((ks.map (Sum.inr : Str → Key)).zip vs)) := by
          funext b
          by_cases hb : b = p
          · subst hb; rw [upd_same, upd_same]
          · rw [upd_ne hb, upd_ne hb, del_ne hb]
        rw [eH]
        have rs2 := show_S zp rs_
        refine F (r' ++ [p]) _ (stp.trans (Step.new nw)) (rs2.new nw ⟨?_, _, upd_same, ?_⟩) _ ?_
        · have e3 : ((ks.map D.str).zip ds).map (·.2) = ds := by rw [List.map_snd_zip (by simp [c.1])]
          rw [e3]; exact c.2.2.2
        · rw [← e2]; exact (repD_zip (show_rep.2 _ _ l)).step (Step.new nw)
        · rw [Rep]; exact ⟨p, by rw [← rs2.len]; simp, rfl⟩
      · exact F.elim
  refine pairs_reading ms ks r _ S _ _ h.1 A0 F0 fun r1 H1 ds vs S1 st A1 l hd F1 => ?_
  split at F1
  · rename_i c
    have hpz : H1 p = some (.dK []) := st.keep p _ upd_same (fun m => A0.s.ap p m List.mem_cons_self) rfl
    refine ⟨hpz, (ks.map (Sum.inr : Str → Key)).zip vs, zip_kV ks vs, ?_, ?_⟩
    · simp; omega
    · have e : mergeK [] ((ks.map (Sum.inr : Str → Key)).zip vs) = (ks.map (Sum.inr : Str → Key)).zip vs := by
        rw [merge_new _ [] ?_]
        · simp
        · rw [List.nil_append, List.map_fst_zip (by simp [← l.length, c.1])]
          exact List.pairwise_map.mpr (c.2.1.imp fun h q => h (Sum.inr.inj q))
      rw [e]
      exact F1 r1 H1 (Step.refl _ _) S1 ds vs rfl rfl A1.s l hpz
  · exact F1.elim
/-! ### the end of a law -/
/-- what a law begins with: empty tables, and the script, locked, unless the written part holds it -/
def begins (K : PySem.W.Frag) (ts : List Addr) (a : Addr) (ob : Obj) (xs : List V) : Hp := fun b =>
  if b ∈ ts then some (.tbl #[]) else if b = a ∧ K.lookup a = none then some (.frz ob (.lst xs)) else none
section
variable {K : PySem.W.Frag} {ts : List Addr} {a b : Addr} {ob : Obj} {xs : List V} {u : HO}
theorem begins_tab (h : b ∈ ts) : begins K ts a ob xs b = some (.tbl #[]) := if_pos h
theorem begins_cases (h : begins K ts a ob xs b = some u) : b ∈ ts ∧ u = .tbl #[] ∨ b = a ∧ K.lookup a = none ∧ u = .frz ob (.lst xs) := by
  unfold begins at h
  split at h
  · exact .inl ⟨‹_›, (Option.some.inj h).symm⟩
  · split at h
    · have c := ‹b = a ∧ K.lookup a = none›
      exact .inr ⟨c.1, c.2, (Option.some.inj h).symm⟩
    · exact nomatch h
end
/-- the list that a law is given, at a -/
abbrev oList (vs : List Value) : Obj := { cls := .type "list", data := .seq vs.toArray }
/-- where a law is called: the module stands, the tables cs are empty, the script of ns lies at a -/
structure Ground (K : PySem.W.Frag) (mg mb : Str → Option Value) (cs : List (Addr × Addr)) (a : Addr) (vs : List Value) (ns : List Int) (h : Heap) : Prop where
  kin : K.In h
  glob : h.Ns mainGlobals mg
  blt : h.Ns builtinsNs mb
  boot : ∀ x : Str, x ≠ "__name__" → mb x = bootBuiltins x
  lim : h.NoLimit
  tab : ∀ p ∈ cs, h.get? p.2 = some (PySem.W.tabObj #[])
  out : ∀ p ∈ cs, K.lookup p.2 = none
  code : ∀ p ∈ cs, PySem.W.CodeHd h p.1 p.2
  mods : ∃ (m : Addr) (o : Obj), mg "__builtins__" = some (.ref m) ∧ m ≠ builtinsNs ∧ h.get? m = some o ∧ o.cls = .type "module" ∧ o.dict = some builtinsNs ∧ o.data = .plain
  scr : h.get? a = some (oList vs)
  are : IntsAre vs ns
  few : ns.length ≤ sizeLine
namespace Ground
variable {K : PySem.W.Frag} {mg mb : Str → Option Value} {cs : List (Addr × Addr)} {a : Addr} {vs : List Value} {ns : List Int} {h : Heap}
/-- the tracked part at the start -/
abbrev T (_ : Ground K mg mb cs a vs ns h) : Hp := begins K (cs.map (·.2)) a (oList vs) (ns.map V.int)
variable (G : Ground K mg mb cs a vs ns h)
include G
theorem tabAt {b : Addr} (m : b ∈ cs.map (·.2)) : h.get? b = some (PySem.W.tabObj #[]) := by
  rcases List.mem_map.mp m with ⟨p, mp, rfl⟩
  exact G.tab p mp
theorem notTab : a ∉ cs.map (·.2) := fun m => by
  have z := G.scr.symm.trans (G.tabAt m)
  exact nomatch (show Value.type "list" = Value.none from congrArg Obj.cls (Option.some.inj z))
/-- what is neither a list nor an empty table is not tracked -/
theorem free {b : Addr} {o : Obj} (e : h.get? b = some o) (n1 : ∀ xs k, o.data ≠ .seq xs k) (n2 : o.data ≠ .fields #[]) : G.T b = none := by
  match q : G.T b with
  | none => rfl
  | some _ =>
    rcases begins_cases q with ⟨m, _⟩ | ⟨rfl, _⟩
    · cases e.symm.trans (G.tabAt m)
      exact (n2 rfl).elim
    · cases e.symm.trans G.scr
      exact (n1 _ _ rfl).elim
theorem hid {b : Addr} {o : Obj} (e : h.get? b = some o) (n1 : ∀ xs k, o.data ≠ .seq xs k := by simp_all) (n2 : o.data ≠ .fields #[] := by simp_all) : (hidT h G.T).get? b = some o := hidT_get e (G.free e n1 n2)
theorem nsT {b : Addr} {m : Str → Option Value} : h.Ns b m → (hidT h G.T).Ns b m := fun ⟨o, es, ep, e, d, q⟩ => ⟨o, es, ep, G.hid e (by simp [d]) (by simp [d]), d, q⟩
theorem kinT : K.In (hidT h G.T) := fun b o e => hidT_get (G.kin b o e) (by
  match q : G.T b with
  | none => rfl
  | some _ =>
    rcases begins_cases q with ⟨m, _⟩ | ⟨rfl, n, _⟩
    · rcases List.mem_map.mp m with ⟨p, mp, rfl⟩
      exact nomatch (G.out p mp).symm.trans e
    · exact nomatch n.symm.trans e)
theorem mod : Mod K mg (hidT h G.T) := by
  have ⟨mc, l1, l2⟩ := G.lim
  exact ⟨G.kinT, G.nsT G.glob, ⟨mb, G.nsT G.blt, G.boot⟩, mc, G.nsT l1, l2⟩
theorem tabB (p : Addr × Addr) (mp : p ∈ cs) : LamX.TabB (hidT h G.T) mg p.1 p.2 := by
  have ⟨og, es, ep, eg, dg, _⟩ := G.glob
  refine ⟨?_, ?_, fun z => ?_⟩
  · have ⟨o, us, file, tf, fl, tg, inF, text, tt, e, k1, k2, k3, ks⟩ := G.code p mp
    refine ⟨o, us, file, tf, fl, tg, inF, text, tt, G.hid e (by simp [k2]) (fun z => ?_), k1, k2, k3, ks⟩
    cases k2.symm.trans z
    simp at k3
  · have ⟨m, o, m1, m2, e, m4, m5, m6⟩ := G.mods
    refine ⟨m, o, m1, m2, ?_, ?_, G.hid e (by simp [m6]) (by simp [m6]), m4, m5, m6⟩
    · rintro rfl
      cases e.symm.trans eg
      exact nomatch m6.symm.trans dg
    · rintro rfl
      cases e.symm.trans (G.tab p mp)
      exact nomatch m6
  · cases (z ▸ eg).symm.trans (G.tab p mp)
    exact nomatch dg
theorem hok (P : Program) (w : World) : HOk P w G.T h := fun b u q => by
  rcases begins_cases q with ⟨m, rfl⟩ | ⟨rfl, _, rfl⟩
  · exact G.tabAt m
  · exact ⟨G.scr, Nat.le_trans (Nat.le_of_eq (List.length_map V.int)) G.few, vs, _, vals_ints G.are, G.scr⟩
theorem script (w : World) : FL (kwOf K w mg) [] [] G.T a (ns.map V.int) := by
  match q : K.lookup a with
  | none => exact .inl ⟨.inr ⟨oList vs, (if_neg G.notTab).trans (if_pos ⟨rfl, q⟩)⟩, by simp, by simp⟩
  | some o =>
    cases (G.kin a o q).symm.trans G.scr
    exact .inr ⟨_, vs.toArray, _, q, rfl, rfl, rfl, by rw [List.size_toArray, G.are.length]; exact G.few, by simpa using vals_ints G.are⟩
/-- what stood before stays, the tables may grow -/
theorem old {P : Program} {w : World} {H' : Hp} {h' : Heap} (ok : HOk P w H' h') (keep : ∀ b o, h.get? b = some o → G.T b = none → h'.get? b = some o) (frz : ∀ b o t, G.T b = some (.frz o t) → H' b = some (.frz o t)) (grow : ∀ b, G.T b = some (.tbl #[]) → ∃ more, H' b = some (.tbl more)) : OldK h h' := by
  have each : ∀ b o, h.get? b = some o → h'.get? b = some o ∨ b ∈ cs.map (·.2) ∧ o = PySem.W.tabObj #[] ∧ ∃ more, h'.get? b = some (PySem.W.tabObj more) := fun b o e => by
    match q : G.T b with
    | none => exact .inl (keep b o e q)
    | some u =>
      rcases begins_cases q with ⟨m, rfl⟩ | ⟨rfl, _, rfl⟩
      · have ⟨more, z⟩ := grow b q
        exact .inr ⟨m, (Option.some.inj ((G.tabAt m).symm.trans e)).symm, more, ok b _ z⟩
      · cases e.symm.trans G.scr
        exact .inl (ok b _ (frz b _ _ q)).1
  constructor
  · intro b o e
    rcases each b o e with k | ⟨m, rfl, more, k⟩
    · exact .inl k
    · rcases List.mem_map.mp m with ⟨p, mp, rfl⟩
      exact .inr (.inl ⟨((G.code p mp).tab (G.tab p mp)).isCodeTable, rfl, #[], more, rfl, by simpa using k⟩)
  · intro b o e
    rcases each b o e with k | ⟨_, _, more, k⟩
    · exact ⟨o, k⟩
    · exact ⟨_, k⟩
end Ground
/-- cs: the code objects that make lambdas, and their tables -/
theorem law_callG {P : Program} {w : World} {K : PySem.W.Frag} {mg mb : Str → Option Value} {k : Nat} {fa a : Addr} {cs : List (Addr × Addr)} {fd : FuncData} {x : Str} {den : Dn} {s1 : Shared} {vs : List Value} {ns : List Int} {S' : Sto}
    (G : Ground K mg mb cs a vs ns s1.heap) (hg : s1.gens = #[]) (hLt : ∀ p ∈ Lt.tabs K mg, p.1 ∈ cs.map (·.2)) (hr : Room k callerA)
    (F : ∀ base : Heap, K.In base → base.Ns mainGlobals mg → (∀ p ∈ cs, LamX.TabB base mg p.1 p.2) → FnG P w K mg base k fa fd [x] den) (hbind : ∀ (s : Shared) (u : Value), BindsTo s fd ⟨[u], []⟩ [(x, u)])
    (hden : den [.lst (ns.map .int)] [] = .ok (.bl true) S') :
    codeAny (model P w) callerA (.call (.ref fa) ⟨[.ref a], []⟩) (fun r s' => r = .ok (.ret (.bool true)) ∧ OldK s1.heap s'.heap ∧ s'.os = s1.os ∧ AllBare s'.gens) s1 := by
  have e0 : Env0 P w K mg (hidT s1.heap G.T) callerA [] s1 G.T := ⟨rfl, G.mod, fun b o e => of_hidT e, Nat.le_of_eq (hidT_size _ _), trivial, fun b hb => (List.not_mem_nil (show b ∈ ([] : List Addr) from hb)).elim, G.hok P w, .of_eq hg⟩
  have sp : spM (kwOf K w mg) mg den [.ref a] G.T (fun v _ => v = .bl true) (fun _ _ _ => False) := by
    refine ⟨[], [], [.lst (ns.map .int)], [], ⟨rfl, by simp, by simp, by simp, fun p hp => ⟨#[], begins_tab (hLt p hp), by simp, by simp, trivial, fun pos cv hc => ?_⟩, by simp⟩, RepL.nil.cons (by rw [Rep]; exact ⟨a, _, rfl, G.script w, repI_map ns⟩), ?_⟩
    · exact nomatch (show codeAmong pos [] = some cv from hc)
    · rw [hden]
      exact fun r' H' _ _ v h => by rw [Rep] at h; exact h
  refine codeAny_mono ((F _ G.kinT (G.nsT G.glob) G.tabB).run callerA [] s1 G.T ⟨[.ref a], []⟩ [.ref a] [.ref a] _ _ rfl hr e0 (hbind s1 (.ref a)) (.cons rfl .nil) sp) fun res s' h => ?_
  match res, h with
  | .error _, h =>
    obtain ⟨_, _, _, _, _, _, _, _, _, _, _, _, bad⟩ := h
    exact bad.elim
  | .ok (.ret u), h =>
    obtain ⟨v, H', os, bare, un, ok, rel, rfl⟩ := h
    cases (show u = Value.bool true from rel)
    exact ⟨rfl, G.old ok (fun b o e n => un.keep b o e n (fun z => (List.not_mem_nil (show b ∈ ([] : List Addr) from z)).elim) (by simp)) (fun b o t q => un.frzs b o t q) (fun b q => ⟨_, (un.tbls b #[] q).choose_spec⟩), os, bare⟩
  | .ok .next, h | .ok .brk, h | .ok .cont, h => exact False.elim h
/-- what is asked of a law's def at the head's heap h: its code is at fa, and goes by den -/
def LawG (P : Program) (w : World) (K : PySem.W.Frag) (mg : Str → Option Value) (k : Nat) (fa : Addr) (x : Str) (den : Dn) (h : Heap) : Prop :=
  ∃ (fd : FuncData) (cs : List (Addr × Addr)), (∀ p ∈ cs, h.get? p.2 = some { cls := .none, data := .fields #[] }) ∧ (∀ p ∈ cs, K.lookup p.2 = none) ∧ (∀ p ∈ cs, PySem.W.CodeHd h p.1 p.2) ∧ (∀ p ∈ Lt.tabs K mg, p.1 ∈ cs.map (·.2)) ∧
    (∀ (s : Shared) (u : Value), BindsTo s fd ⟨[u], []⟩ [(x, u)]) ∧ ∀ base : Heap, K.In base → base.Ns mainGlobals mg → (∀ p ∈ cs, LamX.TabB base mg p.1 p.2) → FnG P w K mg base k fa fd [x] den
theorem walk_G {l : PySem.W.OpenLaw} {n k : Nat} {q : Program} {loose : List Str} {XP : (Str → Option Value) → Heap → Prop} {YP : World → Heap → Prop} {d : DefRec} {K : Params → PySem.W.Frag} {x : Str} {den : Dn}
    (most : l.most = some n) (few : n ≤ sizeLine) (nodf : d.params.defaults = []) (room : Room k callerA) (hY : ∀ w h, YP w h → (K w.params).In h)
    (F : ∀ w mg fa h, YP w h → (K w.params).In h → h.Ns mainGlobals mg → mg d.name = some (.ref fa) →
      (∀ (x : Str) (d : DefRec) (c P : Addr), (recsOf q).find? (fun e => e.name == x) = some d → PySem.W.tabIn (K w.params) x = some (c, P) → PySem.W.CodeHd h c P ∧ h.get? P = some (PySem.W.tabObj #[])) → LawG l.prog w (K w.params) mg k fa x den h)
    (hden : ∀ ns : List Int, ns.length ≤ n → ∃ S', den [.lst (ns.map .int)] [] = .ok (.bl true) S') : PySem.W.WalkO q loose XP YP l.row.toRowW d [] (fun f us => PySem.call f us) := by
  refine Att.attach_call most nodf fun w s0 s1 mg mb fa o pm cd doc a vs ns G Y ho hd hcd hmg hobj hints hlen hg => ?_
  have kin := hY w _ Y
  have ⟨fd, cs, c1, c2, c3, c4, hb, hF⟩ := F w mg fa _ Y kin G.T.g hmg fun x d c P hr ht => PySem.W.tab_of G.T kin hr ht
  have ⟨S', hS⟩ := hden ns hlen
  exact law_callG ⟨kin, G.T.g, G.T.b, G.T.builtins, G.T.nolimit, c1, c2, c3, G.T.bmain, hobj, hints, Nat.le_trans hlen few⟩ hg c4 room hF hb hS
end Mp
end SMpM

section SMpN
set_option Elab.async false
set_option linter.all false
set_option maxRecDepth 100000
open PySem PySem.Spec PyProof.Rows L2
namespace Mp
variable [Lt]
section
variable {X : Cx} {W : WX} {a b c : Expr} {ma mb mc : MEx} {pos p2 p pos' : Pos} {x : Str}
theorem pev_slice {lo hi : Option Expr} {ml mh : MOp} (ha : PEv X W a ma) (hl : POv X W lo ml) (hh : POv X W hi mh) : PEv X W (.Subscript a (.Slice lo hi none p2) pos) (mSlA ma ml mh) := by
  refine ⟨fun pins s σ H Q I ⟨r, z, e, S, A, F⟩ => slice_of ha hl hh I A F fun u v vl vu l h r1 H1 s1 d S1 sl I1 ru is pl pu A1 R1 F1 => ?_⟩
  have lists : ∀ ds, lstOf S1 d = some ds → Fin r1 H1 (.ok (.lst (cut ds l h)) S1) (kE X.kw z Q) (xpG X.kw X.mg z W) → ∃ T id, typeLookup (.type T) "__getitem__" = pure (some (.builtin id)) ∧ s1.TypeIs u T ∧ wpAny (model X.prog X.w) X.A (getItem u (.ref sl)) (EP X pins σ Q) X.xe s1 := by
    intro ds q F1
    obtain ⟨p, vs, rfl, sq, lv⟩ := rep_lst A1.s R1 q
    exact sl_list pins s1 σ H1 _ u vl vu l h sl Q I1 ru is pl pu ⟨p, vs, rfl, sq, fun n hn => F1 r1 _ (Step.upd hn) (A1.s.upd hn) _ (Rep.newL A1.s hn (cut_eq lv l h))⟩
  cases d with
  | tup ds =>
    rw [Rep] at R1
    obtain ⟨p, vs, rfl, sq, lv⟩ := R1
    have e := sIx_eq
    refine sl_tupA pins s1 σ H1 _ u vl vu l h sl Q I1 ru is pl pu ⟨p, vs, rfl, sq.sq, fun hw => ?_, fun hw n hn => ?_⟩
    · refine F1 r1 H1 (Step.refl _ _) A1.s _ ?_
      have ec : cut ds l h = ds := by
        unfold cut
        rw [e, e, lv.length, hw.1, hw.2, ← lv.length]
        simp
      rw [ec, Rep]
      exact ⟨p, vs, rfl, sq, lv⟩
    · exact F1 r1 _ (Step.upd hn) (A1.s.upd hn) _ (Rep.newT A1.s hn (cut_eq lv l h))
  | lst ds => exact lists ds rfl F1
  | loc n =>
    have F1 : Fin r1 H1 (match lstOf S1 (.loc n) with | some xs => .ok (.lst (cut xs l h)) S1 | none => .bad) (kE X.kw z Q) (xpG X.kw X.mg z W) := F1
    cases q : lstOf S1 (.loc n) with
    | none => rw [q] at F1; exact F1.elim
    | some ds => rw [q] at F1; exact lists ds q F1
  | _ => exact (show False from F1).elim
/-! ### x op= e -/
def IpV (X : Cx) (op : Operator) (f : Op2) : Prop := OpV X (inplaceOp op) f
theorem psv_aug (i : Nat) {op : Operator} {f : Op2} (hN : X.N.Nodup) (ho : OpV X (inplaceOp op) f) (ha : PEv X W a ma) (hi : X.N[i]? = some x := by rfl) (hx : Loc X.env.scope x := by first | exact Or.inl rfl | exact Or.inr rfl) (hf : X.fn x = true ∨ X.env.scope.names.lookup x = some .local := by first | exact .inl rfl | exact .inr rfl | assumption) :
    PSv X W (.AugAssign (.Name x pos') op a pos) (sAug i f ma) := by
  refine ⟨fun pins s σ H D I ⟨r, z, e, S, A, F⟩ => ?_⟩
  have hip : PIp X op (fun v w H1 Q => ∃ r1 S1 d1 d2 d3, RepS X.kw r1 z H1 S1 ∧ Rep X.kw r1 z H1 d1 v ∧ Rep X.kw r1 z H1 d2 w ∧ f S1 d1 d2 = some d3 ∧ ∀ H' v', Step r1 H1 r1 H' → RepS X.kw r1 z H' S1 → Rep X.kw r1 z H' d3 v' → Q v' H') := by
    intro pins s σ H v w u t Q I ru rt ⟨r1, S1, d1, d2, d3, h1, h2, h3, h4, h5⟩
    exact ho pins s σ H r1 z S1 d1 d2 d3 v w u t Q I h1 h2 h3 ru rt h4 h5
  refine (ps_aug hN hi hx ha hip hf).run pins s σ H D I ?_
  unfold sAug at F
  cases q : e[i]? with
  | none => rw [q] at F; exact F.elim
  | some o =>
    cases o with
    | none => rw [q] at F; exact F.elim
    | some d =>
      rw [q] at F
      dsimp only at F
      obtain ⟨v, h1, h2⟩ := A.e.2 i d q
      refine ⟨v, h1, r, z, e, S, A, ?_⟩
      cases q2 : ma e S with
      | bad => rw [q2] at F; exact F
      | exc x e' S1 => rw [q2] at F; exact F
      | ok d2 S1 =>
        rw [q2, bind_ok] at F
        intro r1 H1 st rs_ w rw_
        cases q3 : f S1 d d2 with
        | none => rw [q3] at F; exact F.elim
        | some d3 =>
          rw [q3] at F
          refine ⟨r1, S1, d, d2, d3, rs_, h2.step st, rw_, q3, fun H' v' st' rs' rv' => ?_⟩
          exact F r1 H' (st.trans st') _ ⟨rs', ((A.e.step st).step st').set i rv'⟩
theorem iv_add : OpV X (inplaceOp .Add) oAddI := ov_int0 (gd := fun i j => .int (i + j)) iop_add (fun _ _ _ _ i j => repI _) fun S x y d h => by
  unfold oAddI at h
  split at h
  · exact ⟨_, _, rfl, rfl, (Option.some.inj h).symm⟩
  · cases h
end
/-! ### a def of the text -/
structure DefT (K : PySem.W.Frag) (mg : Str → Option Value) (x : Str) (st : Stmt) (ps : List Str) where
  a : Addr
  fd : FuncData
  g : mg x = some (.ref a)
  f : Fun K x x st a fd
  b : Binds K fd ps []
def defT_mk {K : PySem.W.Frag} {h : Heap} {mg : Str → Option Value} (X : K.In h) (G : h.Ns mainGlobals mg) {x : Str} {st : Stmt} {ps : List Str} {f : Addr} {oc : Value} {od an : Option Addr} {osl : Array (Option Value)} {kV doc pm cdv ct : Value}
    (a1 : PySem.W.nsIn K mainGlobals x = some (some (.ref f))) (l1 : K.lookup f = some ⟨oc, od, .func (PySem.W.fnOf x x (defArgs st) (defBody st) (defScope st) .none kV doc pm an cdv ct), osl⟩)
    (c1 : PySem.W.codeIn K cdv x = true) (k1 : PySem.W.keepIn K (.ref f) = true)
    (hb : ∀ (kV doc pm : Value) (an : Option Addr) (cdv ct : Value) (us : List Value), us.length = ps.length → bindArgs (PySem.W.fnOf x x (defArgs st) (defBody st) (defScope st) .none kV doc pm an cdv ct) ⟨us, []⟩ = pure (ps.zip us)) : DefT K mg x st ps :=
  ⟨f, _, PySem.W.mg_of X G a1, fun_mk l1 c1 k1, (fun_mk l1 c1 k1).binds hb⟩
section
variable {X : Cx} {W : WX} {a : Expr} {pos p : Pos} {es : List Expr} {mr : MAs} {k : Nat} {x : Str} {st : Stmt} {ps : List Str} {den : Dn}
/-- f(e, ..) of a def of the text -/
theorem pev_f (T : DefT X.K X.mg x st ps) (F : FnG X.prog X.w X.K X.mg X.base k T.a T.fd ps den) (hgd : X.A.guards = some []) (hr : Room k X.A) (tk : Takes X W) (ha : PAv X W (a :: es) mr) (hg : Gl X x := by rfl) (hdb : (x == ("__debug__" : Str)) = false := by decide)
    (he : starEach (a :: es) X.env = (false, eval a X.env) :: starEach es X.env := by rfl) (hpl : (backTo pos (starEach es X.env)).any (·.1) = false := by rfl) : PEv X W (.Call (.Name x p) (a :: es) [] pos) (mCall den mr) :=
  pev_call F hgd hr hg T.g T.f.kp T.b tk ha hdb he hpl
end
theorem hu_room {A : Around} {k : Nat} (hr : Room k A) : A.units + 65 < cLine := by
  have := hr.un
  omega
end Mp
end SMpN

section SMpP
set_option Elab.async false
set_option linter.all false
set_option maxRecDepth 100000
open PySem PySem.Spec PyProof.Rows L2
namespace Mp
section
variable {P : Program} {w : World} {A : Around} {E : Value → Shared → Prop} {s : Shared} {l : Addr} {items : Array Value} {ns : List Int}
/-- a new set, with nothing in it -/
abbrev oNew (w : World) : Obj := { cls := .type "set", dict := none, data := .set #[] 0 (.fresh 0 0 (!w.params.followText "set-order")) }
/-- s' is s, with the set of ns at a, and all that stood -/
def Filled (w : World) (ns : List Int) (a : Addr) (s s' : Shared) : Prop :=
  ∃ h tk c, s' = { s with heap := h, toks := tk } ∧ SetR w h a (fun j => decide (j ∈ ns)) c ∧ c ≤ ns.length ∧ ∀ b o, s.heap.get? b = some o → h.get? b = some o
/-- the items of the list go into the new set, one after the other -/
theorem fill_list {R : Result → Shared → Prop} (hh : A.handled = none) (ls : s.heap.IsList l items) (hit : IntsAre items.toList ns) (few : ns.length + 1 < scanBound) (q : ∀ s', Filled w ns s.heap.objs.size s s' → R (.ok (.ret .none)) s') :
    codeAny (model P w) A (.builtin "set.update.loop" ⟨[.ref s.heap.objs.size, .ref (s.heap.push (oNew w)).objs.size], []⟩) R
      { s with heap := (s.heap.push (oNew w)).push { cls := .type "list_iterator", data := .fields #[.ref l, .int 0 0] } } := by
  have sz : (s.heap.push (oNew w)).objs.size = s.heap.objs.size + 1 := Heap.size_push ..
  have lt : l < s.heap.objs.size := have ⟨_, e, _⟩ := ls; Heap.lt_size e
  have cnt : items.size = ns.length := by simpa using hit.length
  have each : ∀ (i : Nat) (v : Value), items[i]? = some v → ∃ k t, ns[i]? = some k ∧ v = .int k t := by
    intro i v at_
    have il : i < ns.length := cnt ▸ (Array.getElem?_eq_some_iff.mp at_).1
    have ⟨t, e⟩ := PyProof.Rows.IntsAre.int_at hit i v (Array.getElem?_toList ▸ at_)
    exact ⟨ns[i], t, by simp [il], by rw [e]; simp [List.getD_eq_getElem?_getD, il]⟩
  have walk := (Walks.list (prog := P) (w := w) (A := A.in1) (by simpa using hh) (s.heap.push (oNew w)).objs.size l (fun z => Nat.ne_of_lt (Nat.lt_succ_of_lt lt) (z.trans sz)) items).toS
  refine set_update_ints walk s.heap.objs.size (fun m => (List.mem_cons.mp m).elim (fun z => Nat.ne_of_lt (Nat.lt_succ_self _) (z.trans sz)) fun m => Nat.ne_of_gt lt (List.mem_singleton.mp m)) ns cnt few each _ 0 _ rfl (Nat.zero_le _) ⟨⟨_, Heap.get?_push_size _ rfl, rfl, rfl⟩, (ls.push _).push _⟩
    ⟨0, Nat.le_refl _, setR_new_at (Heap.get?_push_of_some _ (Heap.get?_push_size _ rfl))⟩ ?_
  rintro ⟨h, g, d, tk, os⟩ c mv hc st
  obtain rfl : g = s.gens := mv.gens
  obtain rfl : d = s.drawn := mv.drawn
  obtain rfl : os = s.os := mv.os
  refine q _ ⟨h, tk, c, rfl, st, cnt ▸ hc, fun b o e => mv.heap b o ?_ (Heap.get?_push_of_some _ (Heap.get?_push_of_some _ e))⟩
  have lb := Heap.lt_size e
  exact fun m => (List.mem_cons.mp m).elim (Nat.ne_of_lt lb) fun m => Nat.ne_of_lt (Nat.lt_succ_of_lt lb) ((List.mem_singleton.mp m).trans sz)
set_option maxHeartbeats 3200000 in
/-- set(xs) of a list of ints -/
theorem call_set_lstI {Q : Value → Shared → Prop} (hh : A.handled = none) (ls : s.heap.IsList l items) (hit : IntsAre items.toList ns) (few : ns.length + 1 < scanBound) (q : ∀ s', Filled w ns s.heap.objs.size s s' → Q (.ref s.heap.objs.size) s') :
    wpAny (model P w) A (call (.type "set") [.ref l]) Q E s := by
  have ⟨_, _, mro⟩ := F.called_set.mro
  have made := F.called_set.made; have sub := F.called_set.sub; have nt := F.called_set.notType; have cc := F.called_set.canCreate; have tc := F.typeCall_set_1 (.ref l)
  refine wpAny_call (codeAny_of_tree (wpAny_pure ⟨Code.quiet_builtin _ (by decide +kernel), codeAny_builtin F.entry_type_call ?_⟩))
  rw [Around.under_plain (weight_type_call_type "set" [.ref l] []) rfl]
  repeat (any_goals (first | assumption | wp_step))
  -- the new set
  refine codeAny_mono (code_set_led1 (.ref l) (E := E) (Q₁ := fun v s1 => v = .ref s.heap.objs.size ∧ s1 = { s with heap := s.heap.push (oNew w) }) ⟨rfl, rfl⟩) ?_
  rintro (e | (_ | _ | _ | v)) s1 new
  · exact new
  · exact False.elim new
  · exact False.elim new
  · exact False.elim new
  rcases new with ⟨rfl, rfl⟩
  have look := F.called_set.init.lookup; have bnd := F.called_set.init.bind (.ref s.heap.objs.size)
  have ty : Shared.TypeIs { s with heap := s.heap.push (oNew w) } (.ref s.heap.objs.size) "set" := ⟨_, Heap.get?_push_size _ rfl, rfl⟩
  repeat (any_goals (first | assumption | wp_step))
  -- it is filled
  refine codeAny_mono (codeAny_call_builtin (R := wants (fun r s2 => r = .none ∧ Filled w ns s.heap.objs.size s s2) E) F.called_set.init.plain F.entry_set_init (check_set_init_1 ty ?_)) ?_
  · have ls1 := ls.push (oNew w)
    have := F.sub_list_set; have := F.sub_list_frozenset; have : (Value.type "list" == Value.type "dict") = false := by decide
    rcases id ls1 with ⟨⟨_, _, _, _⟩, here, rfl, _, rfl⟩
    unfold Builtin.«set.__init__» noKeywords Builtin.Frozenset.updateFrom
    generalize it : pyIter = PI
    wp_walk
    subst it
    exact wpAny_pyIter_list ls1 (wpAny_bind (wpAny_runValue (fill_list (by simp [hh]) ls hit few fun s' full => wpAny_pure (wpAny_pure ⟨rfl, full⟩))))
  · rintro (e | (_ | _ | _ | v)) s2 k
    · exact k
    · exact False.elim k
    · exact False.elim k
    · exact False.elim k
    rcases k with ⟨rfl, full⟩
    repeat (any_goals (first | assumption | wp_step))
    exact q _ full
end
variable [Lt]
/-! ### repr -/
mutual
theorem intsOk_show : ∀ d : D, intsOk d = true → (toP d).showable = true ∧ (toP d).intsShort 13 = true ∧ (toP d).weight ≤ wt d
  | .non, _ => by simp [toP, PyData.showable, PyData.intsShort, PyData.weight, wt]
  | .bl b, _ => by simp [toP, PyData.showable, PyData.intsShort, PyData.weight, wt]
  | .int i, h => by
    have hi : i.natAbs < 10 ^ 12 := by simpa [intsOk] using h
    have l1 : i.natAbs.log2 < 40 := by
      by_cases hz : i.natAbs = 0
      · rw [hz]; decide
      · exact (Nat.log2_lt hz).mpr (Nat.lt_of_lt_of_le hi (by decide))
    refine ⟨?_, ?_, ?_⟩
    · simp [toP, PyData.showable]; omega
    · simpa [toP, PyData.intsShort] using PyData.shown_int_le hi
    · rw [toP, PyData.weight, wt]
      split <;> omega
  | .str x, _ => by simp [toP, PyData.showable, PyData.intsShort, PyData.weight, wt]
  | .tup xs, h => by
    have := intsOk_shows xs (by simpa [intsOk] using h)
    simpa [toP, PyData.showable, PyData.intsShort, PyData.weight, wt] using this
  | .lst xs, h => by
    have := intsOk_shows xs (by simpa [intsOk] using h)
    simpa [toP, PyData.showable, PyData.intsShort, PyData.weight, wt] using this
  | .loc n, _ => by simp [toP, PyData.showable, PyData.showableKv, PyData.intsShort, PyData.weight, PyData.weightKv, wt]
  | .dct _ _ _, _ => by simp [toP, PyData.showable, PyData.showableKv, PyData.intsShort, PyData.weight, PyData.weightKv, wt]
  | .clo _ _, _ => by simp [toP, PyData.showable, PyData.showableKv, PyData.intsShort, PyData.weight, PyData.weightKv, wt]
theorem intsOk_shows : ∀ ds : List D, intsOkL ds = true → PyData.showableAll (toPs ds) = true ∧ PyData.intsShortAll 13 (toPs ds) = true ∧ PyData.weightAll (toPs ds) ≤ wtL ds
  | [], _ => by simp [toPs, PyData.showableAll, PyData.intsShortAll, PyData.weightAll, wtL]
  | d :: ds, h => by
    simp [intsOkL] at h
    have h1 := intsOk_show d h.1
    have h2 := intsOk_shows ds h.2
    simp [toPs, PyData.showableAll, PyData.intsShortAll, PyData.weightAll, wtL, h1, h2]
    omega
end
theorem bv_repr {X : Cx} (hu : X.A.units + 65 < cLine) (hgd : X.A.guards = some []) : BnV X (.builtin "repr") bRepr := by
  intro pins s σ H r z S ds d vs us Q I rs_ l ru eo k
  unfold bRepr at eo
  split at eo
  · rename_i x
    split at eo
    · rename_i hc
      cases eo
      simp only [shR, Bool.and_eq_true, decide_eq_true_eq] at hc
      obtain ⟨⟨hf, hi⟩, hw⟩ := hc
      obtain ⟨v, rfl, rv⟩ := repL1 l
      obtain ⟨u, rfl, ru1⟩ := vals1 ru
      obtain ⟨s1, s2, s3⟩ := intsOk_show _ hi
      have sh := fin_shape _ _ hf
      have lay : PyData.layable0 (toP (rs S x)) = true := by
        unfold PyData.layable0
        simp [sh.1]
        exact ⟨Nat.le_trans sh.2 (by decide), by omega⟩
      have fits : (toP (rs S x)).shown.length ≤ sizeLine := PyData.shown_fits_of_layable0 (B := 13) (by decide) (by decide) lay s2
      have dp := rep_rs rs_ rv _ hf
      have fin_ : ∀ h' u' tk, (∀ b o, s.heap.get? b = some o → h'.get? b = some o) → EP X pins σ Q (.str (toP (rs S x)).shown u') { s with heap := h', toks := tk } := fun h' u' tk hk =>
        ⟨.str (toP (rs S x)).shown, H, I.kept hk, ⟨_, rfl⟩, k H _ (Step.refl r H) rs_ (repS _)⟩
      obtain ⟨as, rd⟩ := Dp.reads I _ v u dp ru1
      generalize hd : toP (rs S x) = pd at *
      cases rd with
      | none => exact PySem.P.repr_of_none (fin_ s.heap s.toks (s.toks + 1) fun _ _ e => e)
      | bool b => exact PySem.P.repr_of_bool (fin_ s.heap s.toks (s.toks + 1) fun _ _ e => e)
      | int i t => exact PySem.P.repr_of_int (by simpa [PyData.showable] using s1) (fin_ s.heap s.toks (s.toks + 1) fun _ _ e => e)
      | str y t => exact PySem.P.repr_of_str (fin_ s.heap s.toks (s.toks + 1) fun _ _ e => e) fits
      | list h1 h2 h3 h4 =>
        exact repr_of_reads' (.list h1 h2 h3 h4) s1 (PyData.noDict_hsm (PyData.hasDict_of_canLay _ sh.1)) hgd (by have := sh.2; simp only [deepN] at this; omega) (fun _ _ e => e) fin_ fits
      | tuple h1 h2 h3 h4 =>
        exact repr_of_reads' (.tuple h1 h2 h3 h4) s1 (PyData.noDict_hsm (PyData.hasDict_of_canLay _ sh.1)) hgd (by have := sh.2; simp only [deepN] at this; omega) (fun _ _ e => e) fin_ fits
      | dict => have := sh.1; simp [PyData.canLay0] at this
    · cases eo
  · cases eo
/-! ### sorted(set(list of intsD)) -/
theorem strict_same {xs ys : List Int} (h1 : xs.Pairwise (· < ·)) (h2 : ys.Pairwise (· < ·)) (h : ∀ k, k ∈ xs ↔ k ∈ ys) : xs = ys := by
  have n1 : xs.Nodup := h1.imp fun h => by omega
  have n2 : ys.Nodup := h2.imp fun h => by omega
  refine sorted_same ?_ (h1.imp fun h => by omega) (h2.imp fun h => by omega)
  exact (List.perm_ext_iff_of_nodup n1 n2).mpr h
theorem once_mem (k : Int) : ∀ ns : List Int, k ∈ once ns ↔ k ∈ ns
  | [] => by simp [once]
  | x :: xs => by
    unfold once
    split
    · rename_i h
      rw [once_mem k xs, List.mem_cons]
      exact ⟨.inr, fun q => q.elim (fun e => e ▸ h) id⟩
    · rw [List.mem_cons, List.mem_cons, once_mem k xs]
theorem once_nodup : ∀ ns : List Int, (once ns).Nodup
  | [] => by simp [once]
  | x :: xs => by
    unfold once
    split
    · exact once_nodup xs
    · rename_i h
      rw [List.nodup_cons, once_mem]
      exact ⟨h, once_nodup xs⟩
theorem sortSet_strict (ns : List Int) : (sortI (once ns)).Pairwise (· < ·) := by
  have h1 := sortI_sorted (once ns)
  have h2 : (sortI (once ns)).Nodup := (sortI_perm (once ns)).nodup_iff.mpr (once_nodup ns)
  exact lt_of_le_nodup _ h1 h2
theorem sortSet_mem (ns : List Int) (k : Int) : k ∈ sortI (once ns) ↔ k ∈ ns := by
  rw [(sortI_perm (once ns)).mem_iff, once_mem]
theorem pfv_sortset {X : Cx} {W : WX} {a : Expr} {ma : MEx} {p p2 q pos : Pos} (hc : X.calm = true) (hg : Gl X "sorted") (hm : X.mg "sorted" = none) (hg2 : Gl X "set") (hm2 : X.mg "set" = none) (ha : PEv X W a ma) (na : starEach [a] X.env = (false, eval a X.env) :: starEach [] X.env := by rfl)
    (nb : starEach [.Call (.Name "set" p2) [a] [] q] X.env = (false, eval (.Call (.Name "set" p2) [a] [] q) X.env) :: starEach [] X.env := by rfl) :
    PFv X W (.Call (.Name "sorted" p) [.Call (.Name "set" p2) [a] [] q] [] pos) (lB fSortSet (aCons ma aNil)) := by
  refine ⟨fun pins s σ H Q I ⟨r, z, e, S, A, F⟩ => ?_⟩
  have F : Fin r H ((ma e S).bind fun x S1 => oo S1 (fSortSet S1 [x])) (kF X.kw z Q) (xpG X.kw X.mg z W) := by
    unfold lB aCons aNil at F
    cases qa : ma e S with
    | bad => rw [qa] at F; exact F
    | exc x e' S1 => rw [qa] at F; exact F
    | ok d S1 => rw [qa] at F; exact F
  refine wpAny_Call_Name_kw (ld_blt I hg hm (show bootBuiltins "sorted" = some (.builtin "sorted") by decide +kernel) ?_)
  refine PyProof.Rows.callWith_builtin1 (PyProof.Rows.args_cons ?_ nb) nb rfl
  refine wpAny_Call_Name_kw (ld_blt I hg2 hm2 boot_set ?_)
  refine PyProof.Rows.callWith_type1 (PyProof.Rows.args_cons (ha.go I A F fun u v r1 H1 s1 d S1 st1 I1 ru A1 R1 F1 => PyProof.Rows.args_nil ?_) na) na rfl
  obtain ⟨ys, e3, F3⟩ := fin_oo F1
  unfold fSortSet at e3
  simp only at e3
  cases q1 : (lstOf S1 d).bind intsD with
  | none => rw [q1] at e3; cases e3
  | some ns =>
    rw [q1] at e3
    simp only at e3
    split at e3
    · rename_i h64
      cases e3
      obtain ⟨ds, e4, e5⟩ := Option.bind_eq_some_iff.mp q1
      obtain ⟨pa, xs, rfl, sq, lv⟩ := rep_lst A1.s R1 e4
      rw [intsD_some e5] at lv
      rw [rep_ints lv] at sq
      obtain rfl : u = Value.ref pa := ru
      obtain ⟨its, rel, pl, hz⟩ := I1.list sq
      refine call_set_lstI (ns := ns) (I1.ok.hd hc) pl.isList (by simpa using intsAre_of rel) (by unfold scanBound; omega) fun s2 full => PyProof.Rows.args_nil ?_
      obtain ⟨h', tk, c, rfl, hS, hcn, hk⟩ := full
      have hn0 : H1 s1.heap.objs.size = none := I1.hok.fresh (Nat.le_refl _)
      have I2 := I1.laid (a := s1.heap.objs.size) (o := SetO X.w s1.heap.objs.size (fun j => decide (j ∈ ns)) c) (t' := tk) hk (Nat.le_refl _) (setO_new hS)
      refine cr_sortedSet hc pins _ σ _ [.ref s1.heap.objs.size] _ Q I2 (.cons rfl .nil) ⟨_, _, c, rfl, upd_same, by omega, fun ns' p' hstr hmem hlen hn => ?_⟩
      have en : ns' = sortI (once ns) := strict_same hstr (sortSet_strict ns) fun k => by rw [hmem k, sortSet_mem]; simp
      subst en
      exact F3 r1 _ (Step.upd hn0) (A1.s.upd hn0) _ (repI_map _) p' hn
    · cases e3
end Mp
end SMpP

section SMpQ
set_option Elab.async false
set_option linter.all false
set_option maxRecDepth 100000
open PySem PySem.Spec PyProof.Rows L2
namespace Mp
variable [Lt]
/-! ### a def that changes nothing that stood: what it made is frozen, or forgotten -/
theorem old_key (n : Nat) (k : Key) : old n (keyD k) = true := by cases k <;> simp [keyD, old]
theorem old_keys (n : Nat) : ∀ l : List (Key × V), oldL n (l.map fun p => keyD p.1) = true
  | [] => by simp [oldL]
  | p :: l => by rw [List.map_cons, oldL, old_key, old_keys n l]; rfl
theorem old_mem {n : Nat} : ∀ {ds : List D}, oldL n ds = true → ∀ d ∈ ds, old n d = true
  | [], _, d, hd => by cases hd
  | x :: xs, h, d, hd => by
    simp [oldL] at h
    rcases List.mem_cons.mp hd with rfl | hd
    · exact h.1
    · exact old_mem h.2 d hd
mutual
theorem frz_old {n0 : Nat} (g : Nat → Option D) : ∀ d : D, old n0 d = true → frzD n0 g d = some d
  | .non, _ => by simp [frzD]
  | .bl _, _ => by simp [frzD]
  | .int _, _ => by simp [frzD]
  | .str _, _ => by simp [frzD]
  | .tup xs, h => by simp [frzD, frz_oldL g xs (by simpa [old] using h)]
  | .lst xs, h => by simp [frzD, frz_oldL g xs (by simpa [old] using h)]
  | .loc n, h => by simp [frzD]; intro q; simp [old] at h; omega
  | .dct t ks vs, h => by
    simp [old] at h
    simp [frzD, frz_oldL g ks h.1, frz_oldL g vs h.2]
  | .clo k cs, h => by simp [frzD]; simpa [old] using h
theorem frz_oldL {n0 : Nat} (g : Nat → Option D) : ∀ ds : List D, oldL n0 ds = true → frzL n0 g ds = some ds
  | [], _ => by simp [frzL]
  | d :: ds, h => by
    simp [oldL] at h
    simp [frzL, frz_old g d h.1, frz_oldL g ds h.2]
end
section
variable {K : Kw} {r r' z : List Addr} {H H' H2 : Hp} {S S' : Sto}
mutual
theorem rep_old : ∀ (d : D) (v : V), Rep K r z H d v → old r.length d = true
  | .non, v, h => by simp [old]
  | .bl _, v, h => by simp [old]
  | .int _, v, h => by simp [old]
  | .str _, v, h => by simp [old]
  | .tup xs, v, h => by rw [Rep] at h; obtain ⟨a, ys, _, _, l⟩ := h; simp [old, rep_oldL xs ys l]
  | .lst xs, v, h => by rw [Rep] at h; obtain ⟨a, ys, _, _, l⟩ := h; simp [old, rep_oldL xs ys l]
  | .loc n, v, h => by rw [Rep] at h; obtain ⟨a, e, _⟩ := h; simp [old]; exact (List.getElem?_eq_some_iff.mp e).1
  | .dct false ks vs, v, h => by
    rw [Rep] at h
    obtain ⟨a, o, l, xs, _, _, _, _, rfl, _, h4⟩ := h
    have := old_keys r.length l
    simp [old, this, rep_oldL vs xs h4]
  | .dct true ks vs, v, h => by
    rw [Rep] at h
    obtain ⟨a, o, l, bs, xs, _, _, _, _, _, _, _, _, h6, h7⟩ := h
    simp [old, rep_oldL ks bs h6, rep_oldL vs xs h7]
  | .clo k cs, v, h => by rw [Rep] at h; obtain ⟨_, _, vs, _, _, _, _, l⟩ := h; simp [old, rep_oldL cs vs l]
theorem rep_oldL : ∀ (ds : List D) (vs : List V), RepL K r z H ds vs → oldL r.length ds = true
  | [], vs, h => by simp [oldL]
  | d :: ds, vs, h => by
    rw [RepL] at h
    obtain ⟨v, vs', _, h1, h2⟩ := h
    simp [oldL, rep_old d v h1, rep_oldL ds vs' h2]
end
/-- H2 is H' behind the end of a def: r' = r ++ l, what was made is frozen -/
structure Shut (K : Kw) (r l z : List Addr) (H' H2 : Hp) (S' : Sto) : Prop where
  out : ∀ a o, H' a = some o → a ∉ r ++ l → H2 a = some o
  lst : ∀ (n : Nat) a ds o, r.length ≤ n → (r ++ l)[n]? = some a → S'[n]? = some (.list ds) → H' a = some o → H2 a = some o
  dic : ∀ (n : Nat) a kvs q, r.length ≤ n → (r ++ l)[n]? = some a → S'[n]? = some (.dict kvs) → H' a = some (.dK q) → ∃ o, H2 a = some (.frz o (.dK q))
  mp : ∀ (n : Nat) a lk kvs q, r.length ≤ n → (r ++ l)[n]? = some a → S'[n]? = some (.map lk kvs) → NdAt K.w H' a lk q → ∃ o, H2 a = some (.frz o (ndO K.w a q))
theorem nodup_app {r l : List Addr} (h : (r ++ l).Nodup) {n : Nat} {a : Addr} (hn : r.length ≤ n) (e : (r ++ l)[n]? = some a) : a ∉ r := by
  intro m
  obtain ⟨i, hi, e2⟩ := List.getElem_of_mem m
  have e3 : (r ++ l)[i]? = some a := by rw [List.getElem?_append_left hi, List.getElem?_eq_getElem hi, e2]
  obtain ⟨h1, e1⟩ := List.getElem?_eq_some_iff.mp e
  obtain ⟨h2, e4⟩ := List.getElem?_eq_some_iff.mp e3
  have := (List.getElem_inj h).mp (e1.trans e4.symm)
  omega
theorem repD_lists : ∀ {kvs : List (D × D)} {l : List (Key × V)}, RepD K r z H kvs l → kvs.map (·.1) = l.map (fun p => keyD p.1) ∧ RepL K r z H (kvs.map (·.2)) (l.map (·.2))
  | [], l, h => by subst h; exact ⟨rfl, RepL.nil⟩
  | p :: ps, l, h => by
    obtain ⟨k, v, l', rfl, h1, h2, h3⟩ := h
    obtain ⟨e, q⟩ := repD_lists h3
    exact ⟨by simp [e, h1], q.cons h2⟩
theorem repM_lists : ∀ {kvs : List (D × D)} {l : List (NestedKey × Addr × V)}, RepM K r z H kvs l → (kvs.map (·.1)).all keyOk = true ∧ l.map (·.1) = (kvs.map (·.1)).map nk ∧ RepL K r z H (kvs.map (·.1)) (l.map (fun p => V.ref p.2.1)) ∧ RepL K r z H (kvs.map (·.2)) (l.map (·.2.2))
  | [], l, h => by cases h; exact ⟨rfl, rfl, RepL.nil, RepL.nil⟩
  | p :: ps, l, h => by
    obtain ⟨b, v, l', rfl, h1, h2, h3, h4⟩ := h
    obtain ⟨e1, e2, e3, e4⟩ := repM_lists h4
    exact ⟨by simp only [List.map_cons, List.all_cons, h1, e1, Bool.and_self], by simp only [List.map_cons, e2], e3.cons h2, e4.cons h3⟩
section
variable {l : List Addr} (sh : Shut K r l z H' H2 S') (rs : RepS K (r ++ l) z H' S')
include sh
mutual
theorem frz_rep1 {g : Nat → Option D} (hg : ∀ (n : Nat) (a : Addr) (d : D), r.length ≤ n → (r ++ l)[n]? = some a → g n = some d → Rep K r z H2 d (.ref a)) : ∀ (d d' : D) (v : V), Rep K (r ++ l) z H' d v → frzD r.length g d = some d' → Rep K r z H2 d' v
  | .non, d', v, h, e => by simp [frzD] at e; subst e; rw [Rep] at h ⊢; exact h
  | .bl _, d', v, h, e => by simp [frzD] at e; subst e; rw [Rep] at h ⊢; exact h
  | .int _, d', v, h, e => by simp [frzD] at e; subst e; rw [Rep] at h ⊢; exact h
  | .str _, d', v, h, e => by simp [frzD] at e; subst e; rw [Rep] at h ⊢; exact h
  | .tup xs, d', v, h, e => by
    rw [Rep] at h
    obtain ⟨a, ys, rfl, f, q⟩ := h
    simp only [frzD] at e
    obtain ⟨xs', e1, rfl⟩ := Option.map_eq_some_iff.mp e
    rw [Rep]
    refine ⟨a, ys, rfl, ?_, frz_rep1L hg xs xs' ys q e1⟩
    rcases f with ⟨f | ⟨o, f⟩, n1, n2⟩ | f
    · exact .inl ⟨.inl (sh.out _ _ f n1), fun m => n1 (List.mem_append_left _ m), n2⟩
    · exact .inl ⟨.inr ⟨o, sh.out _ _ f n1⟩, fun m => n1 (List.mem_append_left _ m), n2⟩
    · exact .inr f
  | .lst xs, d', v, h, e => by
    rw [Rep] at h
    obtain ⟨a, ys, rfl, f, q⟩ := h
    simp only [frzD] at e
    obtain ⟨xs', e1, rfl⟩ := Option.map_eq_some_iff.mp e
    rw [Rep]
    refine ⟨a, ys, rfl, ?_, frz_rep1L hg xs xs' ys q e1⟩
    rcases f with ⟨f | ⟨o, f⟩, n1, n2⟩ | f
    · exact .inl ⟨.inl (sh.out _ _ f n1), fun m => n1 (List.mem_append_left _ m), n2⟩
    · exact .inl ⟨.inr ⟨o, sh.out _ _ f n1⟩, fun m => n1 (List.mem_append_left _ m), n2⟩
    · exact .inr f
  | .loc n, d', v, h, e => by
    rw [Rep] at h
    obtain ⟨a, e1, rfl⟩ := h
    simp only [frzD] at e
    split at e
    · rename_i hn
      cases e
      rw [Rep]
      exact ⟨a, by rw [List.getElem?_append_left hn] at e1; exact e1, rfl⟩
    · rename_i hn
      exact hg n a d' (by omega) e1 e
  | .dct false ks vs, d', v, h, e => by
    rw [Rep] at h
    obtain ⟨a, o, q, xs, rfl, n1, n2, h1, h2, h3, h4⟩ := h
    have eo : frzL r.length g ks = some ks := by
      subst h2
      have := old_keys r.length q
      exact frz_oldL g _ this
    simp only [frzD, eo, Option.bind_some] at e
    obtain ⟨vs', e1, rfl⟩ := Option.map_eq_some_iff.mp e
    rw [Rep]
    exact ⟨a, o, q, xs, rfl, fun m => n1 (List.mem_append_left _ m), n2, sh.out _ _ h1 n1, h2, h3, frz_rep1L hg vs vs' xs h4 e1⟩
  | .dct true ks vs, d', v, h, e => by
    rw [Rep] at h
    obtain ⟨a, o, q, bs, xs, rfl, n1, n2, h1, h2, h3, h4, h5, h6, h7⟩ := h
    have eo : frzL r.length g ks = some ks := by
      refine frz_oldL g _ ?_
      clear h1 h3 h4 h6 e
      have ko : ∀ d, keyOk d = true → old r.length d = true := by
        intro d hk
        have go : ∀ n, (∀ d : D, kOk n d = true → old r.length d = true) ∧ (∀ ds : List D, kOkL n ds = true → oldL r.length ds = true) := by
          intro n
          induction n with
          | zero =>
            have a : ∀ d : D, kOk 0 d = true → old r.length d = true := fun d h => by cases d <;> simp [kOk] at h <;> simp [old]
            refine ⟨a, fun ds => ?_⟩
            induction ds with
            | nil => intro _; simp [oldL]
            | cons d ds ih => intro h; simp [kOkL] at h; simp [oldL, a d h.1, ih h.2]
          | succ n ih =>
            have a : ∀ d : D, kOk (n + 1) d = true → old r.length d = true := fun d h => by
              cases d <;> simp [kOk] at h <;> simp [old]
              exact ih.2 _ h
            refine ⟨a, fun ds => ?_⟩
            induction ds with
            | nil => intro _; simp [oldL]
            | cons d ds ih => intro h; simp [kOkL] at h; simp [oldL, a d h.1, ih h.2]
        exact (go 8).1 d (keyOk_k hk)
      induction ks with
      | nil => simp [oldL]
      | cons k ks ih =>
        simp only [List.all_cons, Bool.and_eq_true] at h2
        simp [oldL, ko k h2.1, ih h2.2]
    simp only [frzD, eo, Option.bind_some] at e
    obtain ⟨vs', e1, rfl⟩ := Option.map_eq_some_iff.mp e
    rw [Rep]
    exact ⟨a, o, q, bs, xs, rfl, fun m => n1 (List.mem_append_left _ m), n2, sh.out _ _ h1 n1, h2, h3, h4, h5, frz_rep1L hg ks ks bs h6 eo, frz_rep1L hg vs vs' xs h7 e1⟩
  | .clo k cs, d', v, h, e => by
    rw [Rep] at h
    obtain ⟨f, cl, vs, rfl, h0, ⟨c', pm, ctv, n1, n2, n3, n4, g1, g2⟩, h2, h3⟩ := h
    simp only [frzD] at e
    split at e
    case isFalse => cases e
    rename_i ho
    cases e
    have e1 := frz_oldL (n0 := r.length) g cs ho
    rw [Rep]
    refine ⟨f, cl, vs, rfl, h0, ⟨c', pm, ctv, fun m => n1 (List.mem_append_left _ m), n2, fun m => n3 (List.mem_append_left _ m), n4, sh.out _ _ g1 n1, sh.out _ _ g2 n3⟩, ⟨h2.inj, h2.only, h2.len, fun i x v a1 a2 => ?_⟩, frz_rep1L hg cs cs vs h3 e1⟩
    obtain ⟨c, b1, b2, b3, o, u, b4, b5⟩ := h2.at_ i x v a1 a2
    exact ⟨c, b1, fun m => b2 (List.mem_append_left _ m), b3, o, u, sh.out _ _ b4 b2, b5⟩
theorem frz_rep1L {g : Nat → Option D} (hg : ∀ (n : Nat) (a : Addr) (d : D), r.length ≤ n → (r ++ l)[n]? = some a → g n = some d → Rep K r z H2 d (.ref a)) : ∀ (ds ds' : List D) (vs : List V), RepL K (r ++ l) z H' ds vs → frzL r.length g ds = some ds' → RepL K r z H2 ds' vs
  | [], ds', vs, h, e => by simp [frzL] at e; subst e; rw [RepL] at h ⊢; exact h
  | d :: ds, ds', vs, h, e => by
    rw [RepL] at h
    obtain ⟨v, vs', rfl, h1, h2⟩ := h
    simp only [frzL] at e
    obtain ⟨d1, e1, e⟩ := Option.bind_eq_some_iff.mp e
    obtain ⟨ds1, e2, rfl⟩ := Option.map_eq_some_iff.mp e
    exact (frz_rep1L hg ds ds1 vs' h2 e2).cons (frz_rep1 hg d d1 v h1 e1)
end
include rs
theorem look_rep : ∀ (f n : Nat) (a : Addr) (d : D), r.length ≤ n → (r ++ l)[n]? = some a → lookF r.length S' f n = some d → Rep K r z H2 d (.ref a)
  | 0, n, a, d, hn, ha, e => by simp [lookF] at e
  | f + 1, n, a, d, hn, ha, e => by
    have nr := nodup_app rs.nd hn ha
    have nz : a ∉ z := rs.ap a (List.mem_of_getElem? ha)
    unfold lookF at e
    cases hS : S'[n]? with
    | none => rw [hS] at e; cases e
    | some ob =>
      obtain ⟨b, hb, ro⟩ := rs.ob n ob hS
      rw [ha] at hb; cases hb
      rw [hS] at e
      cases ob with
      | list xs =>
        obtain ⟨_, ys, h1, h2⟩ := ro
        obtain ⟨xs', e1, rfl⟩ := Option.map_eq_some_iff.mp e
        rw [Rep]
        exact ⟨a, ys, rfl, .inl ⟨.inl (sh.lst n a xs _ hn ha hS h1), nr, nz⟩, frz_rep1L sh (look_rep f) xs xs' ys h2 e1⟩
      | dict kvs =>
        obtain ⟨_, q, h1, h2⟩ := ro
        obtain ⟨vs', e1, rfl⟩ := Option.map_eq_some_iff.mp e
        obtain ⟨k1, k2⟩ := repD_lists h2
        obtain ⟨o, ho⟩ := sh.dic n a kvs q hn ha hS h1
        rw [Rep]
        exact ⟨a, o, q, _, rfl, nr, nz, ho, k1, rfl, frz_rep1L sh (look_rep f) _ vs' _ k2 e1⟩
      | map lk kvs =>
        obtain ⟨_, q, h1, h2⟩ := ro
        simp only at e
        split at e
        · rename_i hold
          obtain ⟨vs', e1, rfl⟩ := Option.map_eq_some_iff.mp e
          obtain ⟨k1, k2, k3, k4⟩ := repM_lists h2
          obtain ⟨o, ho⟩ := sh.mp n a lk kvs q hn ha hS h1
          rw [Rep]
          exact ⟨a, o, q, _, _, rfl, nr, nz, ho, k1, k2, rfl, rfl, frz_rep1L sh (look_rep f) _ _ _ k3 (frz_oldL _ _ hold), frz_rep1L sh (look_rep f) _ vs' _ k4 e1⟩
        · cases e
      | inst _ _ => cases e
theorem shut_rep {d d' : D} {v : V} (h : Rep K (r ++ l) z H' d v) (e : frz r.length S' d = some d') : Rep K r z H2 d' v :=
  frz_rep1 sh (look_rep sh rs 6) d d' v h e
omit rs in
theorem old_rep {d : D} {v : V} (h : Rep K (r ++ l) z H' d v) (o : old r.length d = true) : Rep K r z H2 d v :=
  frz_rep1 sh (g := fun _ => none) (fun _ _ _ _ _ e => by cases e) d d v h (frz_old _ d o)
omit rs in
theorem old_repL {d : List D} {v : List V} (h : RepL K (r ++ l) z H' d v) (o : oldL r.length d = true) : RepL K r z H2 d v :=
  frz_rep1L sh (g := fun _ => none) (fun _ _ _ _ _ e => by cases e) d d v h (frz_oldL _ d o)
omit rs in
theorem repD_shut : ∀ {kvs : List (D × D)} {q : List (Key × V)}, (∀ p ∈ kvs, old r.length p.2 = true) → RepD K (r ++ l) z H' kvs q → RepD K r z H2 kvs q
  | [], _, _, h => h
  | p :: ps, _, o, h => by
    obtain ⟨k, v, l', e, h1, h2, h3⟩ := h
    exact ⟨k, v, l', e, h1, old_rep sh h2 (o p List.mem_cons_self), repD_shut (fun p hp => o p (List.mem_cons_of_mem _ hp)) h3⟩
omit rs in
theorem repM_shut : ∀ {kvs : List (D × D)} {q : List (NestedKey × Addr × V)}, (∀ p ∈ kvs, old r.length p.1 = true ∧ old r.length p.2 = true) → RepM K (r ++ l) z H' kvs q → RepM K r z H2 kvs q
  | [], _, _, h => h
  | p :: ps, _, o, h => by
    obtain ⟨b, v, l', e, h1, h2, h3, h4⟩ := h
    exact ⟨b, v, l', e, h1, old_rep sh h2 (o p List.mem_cons_self).1, old_rep sh h3 (o p List.mem_cons_self).2, repM_shut (fun p hp => o p (List.mem_cons_of_mem _ hp)) h4⟩
/-- the store as it was -/
theorem shut_S (r0 : RepS K r z H S) (hl : r.length = S.length) (e : S'.take S.length = S) (keep : ∀ (n : Nat) a, n < r.length → r[n]? = some a → H2 a = H' a) (zk : ∀ a, H' a ≠ none → H2 a ≠ none) : RepS K r z H2 S := by
  refine ⟨r0.len, r0.nd, r0.ap, fun a m => zk a (rs.zz a m), fun p hp => ?_, fun n ob hS => ?_⟩
  · obtain ⟨ps, h1, h2, h3, h4, h5⟩ := rs.tb p hp
    refine ⟨ps, sh.out _ _ h1 h2, fun m => h2 (List.mem_append_left _ m), h3, h4, fun pos cv hc => ?_⟩
    obtain ⟨c, e1, e2, e3, e4⟩ := h5 pos cv hc
    exact ⟨c, e1, fun m => e2 (List.mem_append_left _ m), e3, sh.out _ _ e4 e2⟩
  · obtain ⟨a, ha, ro⟩ := r0.ob n ob hS
    have hn : n < S.length := (List.getElem?_eq_some_iff.mp hS).1
    have hS' : S'[n]? = some ob := by
      rw [← hS]
      conv => rhs; rw [← e]
      rw [List.getElem?_take_of_lt hn]
    obtain ⟨b, hb, ro'⟩ := rs.ob n ob hS'
    rw [List.getElem?_append_left (by omega), ha] at hb
    cases hb
    have ek := keep n a (by omega) ha
    refine ⟨a, ha, ?_⟩
    cases ob with
    | list ds =>
      obtain ⟨c, xs, h1, h2⟩ := ro'
      obtain ⟨_, ys, _, g2⟩ := ro
      exact ⟨c, xs, ek.trans h1, old_repL sh h2 (rep_oldL _ _ g2)⟩
    | dict kvs =>
      obtain ⟨c, xs, h1, h2⟩ := ro'
      obtain ⟨_, ys, _, g2⟩ := ro
      refine ⟨c, xs, ek.trans h1, repD_shut sh (fun p hp => ?_) h2⟩
      exact old_mem (rep_oldL _ _ (repD_lists g2).2) _ (List.mem_map_of_mem hp)
    | map lk kvs =>
      obtain ⟨c, xs, h1, h2⟩ := ro'
      obtain ⟨_, ys, _, g2⟩ := ro
      refine ⟨c, xs, h1.eq ek, repM_shut sh (fun p hp => ?_) h2⟩
      exact ⟨old_mem (rep_oldL _ _ (repM_lists g2).2.2.1) _ (List.mem_map_of_mem hp), old_mem (rep_oldL _ _ (repM_lists g2).2.2.2) _ (List.mem_map_of_mem hp)⟩
    | inst _ _ => exact ro
end
theorem shut_step {l : List Addr} (sh : Shut K r l z H' H2 S') (st : Step r H (r ++ l) H') (keep : ∀ (n : Nat) a, n < r.length → r[n]? = some a → H2 a = H' a) (zk : ∀ a, H' a ≠ none → H2 a ≠ none) : Step r H r H2 := by
  refine ⟨fun a o e n t => sh.out _ _ (st.keep a o e n t) (st.out e n), ⟨[], by simp, by simp⟩, fun a h => zk a (st.dom a h), fun a o u e => ?_⟩
  have e' := st.frz a o u e
  by_cases m : a ∈ r
  · obtain ⟨i, hi, e2⟩ := List.getElem_of_mem m
    rw [keep i a hi (by rw [List.getElem?_eq_getElem hi, e2])]; exact e'
  · exact sh.out _ _ e' (st.out e m)
end
end Mp
end SMpQ

section SMpR
set_option Elab.async false
set_option linter.all false
set_option maxRecDepth 100000
open PySem PySem.Spec PyProof.Rows L2
namespace Mp
variable [Lt]
/-! ### the end of a def that changes nothing that stood -/
open Classical in
/-- the dicts of L are locked as they stand in h -/
noncomputable def lockH (L : Addr → Prop) (H : Hp) (h : Heap) : Hp := fun b => if L b then (match H b, h.get? b with
  | some u, some o => some (.frz o u)
  | x, _ => x) else H b
def DicO (x : Option HO) : Prop := (∃ q, x = some (.dK q)) ∨ ∃ φ, x = some (.ext φ)
section
variable {P : Program} {w : World} {L : Addr → Prop} {H H0 : Hp} {h h0 : Heap} {fs : List Addr}
theorem lockH_out {b : Addr} (n : ¬ L b) : lockH L H h b = H b := if_neg n
theorem lockH_in {b : Addr} {u : HO} {o : Obj} (l : L b) (e : H b = some u) (eh : h.get? b = some o) : lockH L H h b = some (.frz o u) := by
  unfold lockH
  rw [if_pos l, e, eh]
theorem lock_in (ok : HOk P w H h) (hL : ∀ b, L b → DicO (H b)) {b : Addr} (l : L b) : ∃ u o, H b = some u ∧ h.get? b = some o ∧ lockH L H h b = some (.frz o u) := by
  rcases hL b l with ⟨q, e⟩ | ⟨φ, e⟩
  · obtain ⟨_, _, _, _, o, _, _, eo, _⟩ := ok b _ e
    exact ⟨_, o, e, eo, lockH_in l e eo⟩
  · obtain ⟨_, ⟨o, eo⟩, _⟩ := ok b _ e
    exact ⟨_, o, e, eo, lockH_in l e eo⟩
theorem lock_ne {b : Addr} {u : HO} (hL : ∀ b, L b → DicO (H b)) (e : H b = some u) (n1 : ∀ q, u ≠ .dK q) (n2 : ∀ q, u ≠ .ext q) : ¬ L b := fun l => by
  rcases hL b l with ⟨q, e'⟩ | ⟨φ, e'⟩ <;> rw [e] at e' <;> cases e'
  · exact n1 _ rfl
  · exact n2 _ rfl
theorem lock_hok (ok : HOk P w H h) (hL : ∀ b, L b → DicO (H b)) : HOk P w (lockH L H h) h := by
  have stay : ∀ b u, ObjOk P w H h b u → ObjOk P w (lockH L H h) h b u := fun b u x => x.stay (fun _ _ _ e => e)
    (fun c e => by rw [lockH_out (lock_ne hL e (fun _ z => by cases z) (fun _ z => by cases z))]; exact e)
    (fun c xs e => by rw [lockH_out (lock_ne hL e (fun _ z => by cases z) (fun _ z => by cases z))]; exact e)
  intro b u e
  by_cases l : L b
  · obtain ⟨u', o, e1, e2, e3⟩ := lock_in ok hL l
    rw [e3] at e; cases e
    exact ⟨e2, stay b u' (ok b u' e1)⟩
  · rw [lockH_out l] at e
    exact stay b u (ok b u e)
theorem lock_un (un : Un fs [] H0 H h0 h) (hL : ∀ b, L b → DicO (H b)) : Un fs [] H0 (lockH L H h) h0 h where
  keep := un.keep
  slot := un.slot
  free := fun b o e n x => by
    have := un.free b o e n x
    rw [lockH_out (fun l => by rcases hL b l with ⟨q, e'⟩ | ⟨φ, e'⟩ <;> rw [this] at e' <;> cases e')]; exact this
  there := un.there
  tups := fun b xs e => by
    have := un.tups b xs e
    rw [lockH_out (lock_ne hL this (fun _ z => by cases z) (fun _ z => by cases z))]; exact this
  frzs := fun b o u e => by
    have := un.frzs b o u e
    rw [lockH_out (lock_ne hL this (fun _ z => by cases z) (fun _ z => by cases z))]; exact this
  tbls := fun b ps e => by
    obtain ⟨m, this⟩ := un.tbls b ps e
    exact ⟨m, by rw [lockH_out (lock_ne hL this (fun _ z => by cases z) (fun _ z => by cases z))]; exact this⟩
end
section
variable {P : Program} {w : World} {K : Kw} {r l z : List Addr} {H' : Hp} {S' : Sto} {h : Heap}
def LkAt (r l : List Addr) (S' : Sto) (b : Addr) : Prop := ∃ n, r.length ≤ n ∧ (r ++ l)[n]? = some b ∧ ((∃ kvs, S'[n]? = some (.dict kvs)) ∨ ∃ kvs, S'[n]? = some (.map false kvs))
theorem lk_dic (rs : RepS K (r ++ l) z H' S') : ∀ b, LkAt r l S' b → DicO (H' b) := by
  rintro b ⟨n, hn, hb, ⟨kvs, hS⟩ | ⟨kvs, hS⟩⟩
  · obtain ⟨a, ha, _, q, h1, _⟩ := rs.ob n _ hS
    rw [hb] at ha; cases ha
    exact .inl ⟨q, h1⟩
  · obtain ⟨a, ha, _, q, h1, _⟩ := rs.ob n _ hS
    rw [hb] at ha; cases ha
    exact .inr ⟨_, h1⟩
theorem ix_inj {N : List Addr} (hN : N.Nodup) {i j : Nat} {x : Addr} (a : N[i]? = some x) (b : N[j]? = some x) : i = j := by
  have li : i < N.length := by
    rcases Nat.lt_or_ge i N.length with h | h
    · exact h
    · rw [List.getElem?_eq_none h] at a; exact nomatch a
  exact (List.getElem?_inj li hN).mp (a.trans b.symm)
theorem shut_lock (rs : RepS K (r ++ l) z H' S') (ok : HOk P w H' h) : Shut K r l z H' (lockH (LkAt r l S') H' h) S' where
  out := fun a o e n => by rw [lockH_out (fun ⟨m, _, hm, _⟩ => n (List.mem_of_getElem? hm))]; exact e
  lst := fun n a ds o hn ha hS e => by
    rw [lockH_out (fun ⟨m, _, hm, q⟩ => by
      have := ix_inj rs.nd ha hm
      subst this
      rcases q with ⟨_, q⟩ | ⟨_, q⟩ <;> rw [hS] at q <;> cases q)]
    exact e
  dic := fun n a kvs q hn ha hS e => by
    obtain ⟨u, o, e1, e2, e3⟩ := lock_in (L := LkAt r l S') ok (lk_dic rs) ⟨n, hn, ha, .inl ⟨kvs, hS⟩⟩
    rw [e] at e1; cases e1
    exact ⟨o, e3⟩
  mp := fun n a lk kvs q hn ha hS e => by
    cases lk with
    | true =>
      obtain ⟨o, e⟩ := (show ∃ o, H' a = some (.frz o (ndO K.w a q)) from e)
      refine ⟨o, ?_⟩
      rw [lockH_out (fun ⟨m, _, hm, q⟩ => by
        have := ix_inj rs.nd ha hm
        subst this
        rcases q with ⟨_, q⟩ | ⟨_, q⟩ <;> rw [hS] at q <;> cases q)]
      exact e
    | false =>
      have e : H' a = some (ndO K.w a q) := e
      obtain ⟨u, o, e1, e2, e3⟩ := lock_in (L := LkAt r l S') ok (lk_dic rs) ⟨n, hn, ha, .inr ⟨kvs, hS⟩⟩
      rw [e] at e1; cases e1
      exact ⟨o, e3⟩
theorem lk_keep (rs : RepS K (r ++ l) z H' S') : ∀ (n : Nat) a, n < r.length → r[n]? = some a → lockH (LkAt r l S') H' h a = H' a := fun n a hn ha => lockH_out fun ⟨m, h1, hm, _⟩ => by
  have := ix_inj rs.nd (show (r ++ l)[n]? = some a by rw [List.getElem?_append_left hn]; exact ha) hm
  omega
theorem lk_some (rs : RepS K (r ++ l) z H' S') (ok : HOk P w H' h) : ∀ a, H' a ≠ none → lockH (LkAt r l S') H' h a ≠ none := fun a e => by
  by_cases q : LkAt r l S' a
  · obtain ⟨u, o, _, _, e3⟩ := lock_in (L := LkAt r l S') ok (lk_dic rs) q
    rw [e3]; exact fun z => nomatch z
  · rw [lockH_out q]; exact e
end
theorem def_okP {P : Program} {w : World} {K : PySem.W.Frag} {mg : Str → Option Value} {base : Heap} {x qual : Str} {st : Stmt} {f : Addr} {fd : FuncData} {N ps : List Str} {k : Nat} {m : MSt} (F : Fun K x qual st f fd) (Sc : FnScope N ps (defScope st))
    (hbody : ∀ (cdv : Value) (A : Around) (outer : List Env) (s : Shared) (H : Hp) (E : XK), fd.code = cdv → (A.deeper (envOfC qual (defScope st) s.heap.objs.size f cdv)).guards = some [] → Room k (A.deeper (envOfC qual (defScope st) s.heap.objs.size f cdv)) →
      PSsv (cxOf (L2.CX P w) P w K mg base N qual (defScope st) f cdv A outer s H E) (fun cls d _ H' => E cls d H') (defBody st) m) :
    FnG P w K mg base (k + 1) f fd ps (mDefP ps.length (N.length - ps.length) m) := by
  have hlen : ∀ ds S, mDefP ps.length (N.length - ps.length) m ds S ≠ .bad → ds.length = ps.length := by
    intro ds S h
    unfold mDefP at h
    split at h
    · assumption
    · exact absurd rfl h
  refine ⟨hlen, fun A outer s H args us vs Q E hg hr e0 hb rel hsp => ?_⟩
  obtain ⟨r, z, ds, S, rs_, l, Fm⟩ := hsp
  have dl : ds.length = ps.length := hlen ds S fun q => by rw [q] at Fm; exact Fm
  have hl : vs.length = ps.length := l.length.symm.trans dl
  refine def_enter E F Sc hr.depth hr.hd e0 hb rel hl fun s1 I => codeAny_func ?_
  -- what is wanted of an end, by the store that it leaves
  let EndW : D → Sto → V → Hp → Prop := fun d S' v H' => ∃ l' : List Addr, Step r H (r ++ l') H' ∧ RepS (kwOf K w mg) (r ++ l') z H' S' ∧ Rep (kwOf K w mg) (r ++ l') z H' d v
  have body := hbody fd.code A outer s H E rfl hg (hr.deeper _)
  have e : mDefP ps.length (N.length - ps.length) m ds S = match m (ds.map some ++ List.replicate (N.length - ps.length) none) S with
      | .ok (.rt d) S' => shut S.length S d S'
      | .ok (.nx _) S' => shut S.length S .non S'
      | .exc x _ S' => if S'.take S.length = S ∧ oldL S.length (x.fs.map (·.2)) = true then .exc x [] S else .bad
      | _ => .bad := by
    unfold mDefP; rw [if_pos dl]; try rfl
  have rlen : r.length = S.length := rs_.len
  refine wpAny_mono (body.run [] s1 (L2.start N vs) H { nx := fun _ H' => ∃ S' d', mDefP ps.length (N.length - ps.length) m ds S = .ok d' S ∧ S'.take S.length = S ∧ frz S.length S' .non = some d' ∧ EndW .non S' .non H', rt := fun v H' => ∃ d S' d', mDefP ps.length (N.length - ps.length) m ds S = .ok d' S ∧ S'.take S.length = S ∧ frz S.length S' d = some d' ∧ EndW d S' v H' } I
    ⟨r, z, ds.map some ++ List.replicate (N.length - ps.length) none, S, ⟨rs_, by rw [← dl]; exact rep_start l⟩, ?_⟩) (fun fl s' hs => ?_) fun e s' hs => hs
  · rw [e] at Fm
    cases q : m (ds.map some ++ List.replicate (N.length - ps.length) none) S with
    | bad => rw [q] at Fm; exact Fm
    | exc x e' S1 =>
      rw [q] at Fm
      by_cases c : S1.take S.length = S ∧ oldL S.length (x.fs.map (·.2)) = true
      case neg => simp only [if_neg c] at Fm; exact Fm.elim
      simp only [if_pos c] at Fm
      intro r' H' stp σ cls d A' rx
      obtain ⟨l', rfl, _⟩ := id stp.more
      have sh : Shut (kwOf K w mg) r l' z H' H' [] := ⟨fun _ _ e _ => e, fun _ _ _ _ _ _ z => (by simp at z), fun _ _ _ _ _ _ z => (by simp at z), fun _ _ _ _ _ _ _ z => (by simp at z)⟩
      have rS : RepS (kwOf K w mg) r z H' S := by
        refine ⟨rs_.len, rs_.nd, rs_.ap, A'.s.zz, fun p hp => ?_, fun n ob hS => ?_⟩
        · obtain ⟨ps, h1, h2, h3, h4, h5⟩ := A'.s.tb p hp
          refine ⟨ps, h1, fun m => h2 (List.mem_append_left _ m), h3, h4, fun pos cv hc => ?_⟩
          obtain ⟨c, e1, e2, e3, e4⟩ := h5 pos cv hc
          exact ⟨c, e1, fun m => e2 (List.mem_append_left _ m), e3, e4⟩
        · obtain ⟨a, ha, ro⟩ := rs_.ob n ob hS
          have hn : n < S.length := (List.getElem?_eq_some_iff.mp hS).1
          have hS' : S1[n]? = some ob := by
            rw [← hS]
            conv => rhs; rw [← c.1]
            rw [List.getElem?_take_of_lt hn]
          obtain ⟨b, hb, ro'⟩ := A'.s.ob n ob hS'
          rw [List.getElem?_append_left (by omega), ha] at hb
          cases hb
          refine ⟨a, ha, ?_⟩
          cases ob with
          | list ds =>
            obtain ⟨c, xs, h1, h2⟩ := ro'
            obtain ⟨_, ys, _, g2⟩ := ro
            exact ⟨c, xs, h1, old_repL sh h2 (rep_oldL _ _ g2)⟩
          | dict kvs =>
            obtain ⟨c, xs, h1, h2⟩ := ro'
            obtain ⟨_, ys, _, g2⟩ := ro
            exact ⟨c, xs, h1, repD_shut sh (fun p hp => old_mem (rep_oldL _ _ (repD_lists g2).2) _ (List.mem_map_of_mem hp)) h2⟩
          | map lk kvs =>
            obtain ⟨c, xs, h1, h2⟩ := ro'
            obtain ⟨_, ys, _, g2⟩ := ro
            exact ⟨c, xs, h1, repM_shut sh (fun p hp => ⟨old_mem (rep_oldL _ _ (repM_lists g2).2.2.1) _ (List.mem_map_of_mem hp), old_mem (rep_oldL _ _ (repM_lists g2).2.2.2) _ (List.mem_map_of_mem hp)⟩) h2⟩
          | inst _ _ => exact ro
      have st2 : Step r H r H' := ⟨stp.keep, ⟨[], by simp, by simp⟩, stp.dom, stp.frz⟩
      refine Fm r H' st2 rS cls d ?_
      obtain ⟨C, g1, g2, g3⟩ := rx
      refine ⟨C, g1, g2, g3.imp id fun ⟨p, vs, k1, k2, k3, k4, k5⟩ => ⟨p, vs, k1, fun m => k2 (List.mem_append_left _ m), k3, k4, old_repL sh k5 (by rw [rlen]; exact c.2)⟩⟩
    | ok fl S1 =>
      rw [q] at Fm
      intro r' H' stp
      have fin : ∀ d, Fin r H (shut S.length S d S1) (kE (kwOf K w mg) z Q) (fun r' H' x _ S' => RepS (kwOf K w mg) r' z H' S' → ∀ cls d, RepX (kwOf K w mg) mg r' z H' x cls d → E cls d H') → ∃ d', shut S.length S d S1 = .ok d' S ∧ S1.take S.length = S ∧ frz S.length S1 d = some d' := by
        intro d Fm
        unfold shut at Fm ⊢
        by_cases c : S1.take S.length = S
        · rw [if_pos c] at Fm ⊢
          cases q : frz S.length S1 d with
          | none => rw [q] at Fm; exact Fm.elim
          | some d' => exact ⟨d', rfl, c, rfl⟩
        · rw [if_neg c] at Fm; exact Fm.elim
      obtain ⟨l', rfl, _⟩ := id stp.more
      cases fl with
      | nx e1 =>
        obtain ⟨d', h1, h2, h3⟩ := fin .non Fm
        exact fun σ A' => ⟨S1, d', by rw [e, q]; exact h1, h2, h3, l', stp, A'.s, repN⟩
      | rt d =>
        obtain ⟨d', h1, h2, h3⟩ := fin d Fm
        exact fun rs v rv => ⟨d, S1, d', by rw [e, q]; exact h1, h2, h3, l', stp, rs, rv⟩
      | bk e1 => exact (show False from Fm).elim
      | ct e1 => exact (show False from Fm).elim
  · have done_ : ∀ {σ' : L2.St} {H' : Hp} {d d' : D} {S' : Sto} {v : V} {u : Value}, Inv (cxOf (L2.CX P w) P w K mg base N qual (defScope st) f fd.code A outer s H E) [] σ' H' s' → RelV v u → mDefP ps.length (N.length - ps.length) m ds S = .ok d' S → S'.take S.length = S → frz S.length S' d = some d' → EndW d S' v H' → CE outer P w H s Q u s' := by
      intro σ' H' d d' S' v u J rv h1 h2 h3 h4
      obtain ⟨l', stp, rs, rd⟩ := h4
      rw [h1] at Fm
      have ok : HOk P w H' s'.heap := J.hok
      have sh := shut_lock (P := P) (w := w) (h := s'.heap) rs ok
      have st2 := shut_step sh stp (lk_keep rs) (lk_some rs ok)
      have rS := shut_S sh rs rs_ rlen h2 (lk_keep rs) (lk_some rs ok)
      refine ⟨v, _, J.os, J.bare, lock_un J.base (lk_dic rs), lock_hok ok (lk_dic rs), rv, Fm r _ st2 rS v ?_⟩
      rw [← rlen] at h3
      exact shut_rep sh rs rd h3
    cases fl with
    | ret u => obtain ⟨v, σ', H', J, rv, d, S', d', h1, h2, h3, h4⟩ := hs; exact done_ J rv h1 h2 h3 h4
    | next => obtain ⟨σ', H', J, S', d', h1, h2, h3, h4⟩ := hs; exact done_ (v := .non) (u := .none) J rfl h1 h2 h3 h4
    | brk => obtain ⟨_, _, _, q⟩ := hs; exact q.elim
    | cont => obtain ⟨_, _, _, q⟩ := hs; exact q.elim
end Mp
end SMpR

section SMpT
set_option Elab.async false
set_option linter.all false
set_option maxRecDepth 100000
set_option maxHeartbeats 2000000
open PySem PySem.Spec PyProof.Rows L2
namespace Mp
/-! ### the program's own errors: super().__init__(..), self.f = v -/
structure ExB (B newId initId : String) (bmB : List Value) : Prop where
  base : ExcBaseFacts B newId initId bmB
  sup : PySem.W.KxsFacts B initId
  pass : ∀ self : Value, refuseLoop self "__setattr__" bmB = pure ()
  obj : bmB.contains (.type "object") = true
theorem exb_V : ExB "ValueError" "ValueError.__new__" "ValueError.__init__" [.type "ValueError", .type "Exception", .type "BaseException", .type "object"] := ⟨F.excBase_ValueError, PySem.W.kxs_ValueError, F.store_ValueError.passes, by decide +kernel⟩
theorem exb_L : ExB "LookupError" "LookupError.__new__" "LookupError.__init__" [.type "LookupError", .type "Exception", .type "BaseException", .type "object"] := ⟨F.excBase_LookupError, PySem.W.kxs_LookupError, F.store_LookupError.passes, by decide +kernel⟩
theorem exb_O : ExB "OverflowError" "OverflowError.__new__" "OverflowError.__init__" [.type "OverflowError", .type "ArithmeticError", .type "Exception", .type "BaseException", .type "object"] := ⟨F.excBase_OverflowError, PySem.W.kxs_OverflowError, F.store_OverflowError.passes, by decide +kernel⟩
/-- what super().__init__ is given: a text, or the parameter -/
inductive ArgI (p : Str) : Expr → Prop
  | const (c : Str) (j : Nat) (pos : Pos) : ArgI p (.Constant (.str c) j pos)
  | name (pos : Pos) : ArgI p (.Name p pos)
structure ScI (p : Str) (sc : Scope) : Prop where
  kind : sc.kind = .function
  co : sc.isCoroutine = false
  gen : sc.isGenerator = false
  nocell y : y ∈ sc.names → y.2 ≠ .cell
  self : sc.names.lookup ("self" : Str) = some .local
  par : sc.names.lookup p = some .local
  sup : sc.names.lookup ("super" : Str) = some .globalImplicit
  cls : sc.names.lookup ("__class__" : Str) = some .free
  ne : p ≠ ("self" : Str)
  nd : (p == ("__debug__" : Str)) = false
/-- the text of an own error's __init__ -/
structure InitT (P : Program) (K : PySem.W.Frag) (fI C : Addr) (p : Str) (fld : Option Str) : Prop where
  ex : ∃ (qual : Str) (params : Arguments) (body : List Stmt) (sc : Scope) (kV doc pm ct oc ccl cl : Value) (an od cdd cld : Option Addr) (osl ccs csl : Array (Option Value)) (cda cc : Addr) (vs : Array Value) (file : Str) (tf : Tok) (ar : Arg),
    K.lookup fI = some ⟨oc, od, .func (PySem.W.ksFn "__init__" qual params body sc .none kV doc pm an (.ref cda) ct cc), osl⟩ ∧ PySem.W.codeIn K (.ref cda) qual = true ∧ ScI p sc ∧
    K.lookup cda = some ⟨ccl, cdd, .fields vs, ccs⟩ ∧ vs[2]? = some (.str file tf) ∧ ((P.main.file : Str) == file) = true ∧ K.lookup cc = some ⟨cl, cld, .cell (some (.ref C)), csl⟩ ∧
    (params.posonlyargs ++ params.args).head? = some ar ∧ ar.arg = ("self" : Str) ∧
    (∀ a u : Value, bindArgs (PySem.W.ksFn "__init__" qual params body sc .none kV doc pm an (.ref cda) ct cc) ⟨[a, u], []⟩ = pure [(("self" : Str), a), (p, u)]) ∧
    ∃ (arg : Expr) (p0 p1 p2 p3 p4 : Pos), ArgI p arg ∧ (∀ env : Env, ∃ pl : Sem Bool, eval (.Call (.Attribute (.Call (.Name "super" p0) [] [] p1) "__init__" p2) [arg] [] p3) env = (do
      let ov ← attributeBase (.Call (.Name "super" p0) [] [] p1) "__init__" env (eval (.Call (.Name "super" p0) [] [] p1) env)
      standAt p2.atName; let (f, first) ← holding [ov] (getMethod ov "__init__" pl); callWith p3 f first (backTo p3 (starEach [arg] env)) [])) ∧ ∃ rest, body = .Expr (.Call (.Attribute (.Call (.Name "super" p0) [] [] p1) "__init__" p2) [arg] [] p3) p4 :: rest ∧
      match fld with
      | none => rest = []
      | some f => ∃ q0 q1 q2 q3 : Pos, rest = [.Assign [.Attribute (.Name "self" q0) f q1] (.Name p q2) q3]
  top : (P.main.scope.names.lookup ("super" : Str)).isSome = false

section
open PySem.W PySem.Calls
variable {P : Program} {w : World} {K : PySem.W.Frag} {A : Around} {R : Result → Shared → Prop} {E : Value → Shared → Prop}
/-- a first name for an object without a dict: it gets one -/
theorem dict_first {M : Model} {h : Heap} {g : Array GenState} {d : Drawn} {t : Nat} {os : OsState} {name : Str} {tk : Tok} {v : Value} {x C : Addr} {fv : Array Value} {cd : ClassData} {Q : PySem.Fin → Shared → Prop} (look : Looks M h (classData C) cd) (hh : cd.hasDict = true) (hx : h.get? x = some { cls := .ref C, data := .fields fv })
    (q : ∀ h' tk', (∀ b o, b ≠ x → h.get? b = some o → h'.get? b = some o) → h'.get? x = some { cls := .ref C, dict := some h.objs.size, data := .fields fv } → h'.Ns1 h.objs.size (fun y => if y = name then some v else none) → Q (.done (.ret .none)) ⟨h', g, d, tk', os⟩) :
    wpAny M A (Builtin.ObjectAttr.storeInOwnDict (.ref x) (.ref C) (.str name tk) name v false) Q E ⟨h, g, d, t, os⟩ := by
  rcases cd with ⟨nm, bs, mro, ns, qn, hasd, sn, sb, ab, col, del⟩
  obtain rfl : hasd = true := hh
  have old := Heap.lt_size hx
  let D : Obj := { cls := .type "dict", data := .dict #[] }
  unfold Builtin.ObjectAttr.storeInOwnDict Builtin.ObjectAttr.ownDictForStores
  repeat (first | with_reducible refine look.at ?_ | with_reducible refine wpAny_loadPart_at hx ?_ | with_reducible refine HandSPX.store_in_new ?_ ?_ | wp_step)
  · have at_ : ∀ o', ((h.push D).update x o').get? h.objs.size = some D := fun o' => (Heap.get?_update_ne _ _ _ _ (Nat.ne_of_gt old)).trans (Heap.get?_push_at rfl rfl)
    exact ⟨D, #[], 0, at_ _, rfl, nofun, fun _ => rfl⟩
  · intro h' tk' has but
    refine q h' tk' (fun b o nx e => ?_) ?_ has
    · rw [but.2 b (Nat.ne_of_lt (Heap.lt_size e)), Heap.get?_update_ne _ _ _ _ nx]
      exact Heap.get?_push_of_some _ e
    · rw [but.2 x (Nat.ne_of_lt old)]
      exact Heap.get?_update_self _ (Heap.get?_push_of_some D hx) rfl
/-- self.name = v on an error that has no dict yet -/
theorem osa_new {h : Heap} {g : Array GenState} {d : Drawn} {t : Nat} {os : OsState} {name : Str} {tk : Tok} {v : Value} {x C : Addr} {fv : Array Value} {cd : ClassData} {bmB : List Value} (pass : ∀ self : Value, refuseLoop self "__setattr__" bmB = pure ()) (obj : bmB.contains (.type "object") = true)
    (kin : K.In h) (hx : h.get? x = some { cls := .ref C, data := .fields fv }) (hcd : clsIn K C = some cd) (hm : cd.mro = .ref C :: bmB) (hh : cd.hasDict = true) (no : findIn K (.ref C) name = some none)
    (q : ∀ h' tk', (∀ b o, b ≠ x → h.get? b = some o → h'.get? b = some o) → h'.get? x = some { cls := .ref C, dict := some h.objs.size, data := .fields fv } → h'.Ns1 h.objs.size (fun y => if y = name then some v else none) → R (.ok (.ret .none)) ⟨h', g, d, tk', os⟩) :
    codeAny (model P w) A (.call (.builtin "object.__setattr__") ⟨[.ref x, .str name tk, v], []⟩) R ⟨h, g, d, t, os⟩ := by
  have inst : InstAt h x { cls := .ref C, data := .fields fv } C none := ⟨hx, rfl, rfl, trivial⟩
  have cls : Looks (model P w) h (classData C) cd := looks_clsIn kin hcd
  have isO : mroIn K C (.type "object") = some true := by
    have : cd.mro.contains (.type "object") = true := by rw [hm, List.contains_cons, obj]; exact Bool.or_true _
    simp only [mroIn, hcd, Option.bind_some, this]
    rw [if_neg (by rw [hm]; exact nofun)]
  have all : refuseLoop (.ref x) "__setattr__" cd.mro = pure () := by rw [hm, refuseLoop_ref, pass]
  have st := F.store_object
  refine codeAny_call_builtin st.slot.plain st.entry ?_
  have isI : Looks (model P w) h (isInstance (.ref x) (.type "object")) true := inst.type.andThen (looks_mroIn kin isO)
  refine check_slot (M := model P w) (s := ⟨h, g, d, t, os⟩) (i := "object.__setattr__") (owner := "object") (n := "__setattr__") (kw := []) (self := .ref x) (rest := [.str name tk, v]) st.kind st.split isI (st.args _ _ _) ?_
  rw [osa_eq, refuse_eq]
  have order : Looks (model P w) h (mroOf (.ref C)) cd.mro := cls.andThen .now
  apply wpAny_bind; apply wpAny_bind; apply inst.type.at; apply wpAny_bind; apply order.at
  rw [all]
  refine wpAny_pure (wpAny_bind (inst.type.at (wpAny_bind ((looks_findIn kin no).at (wpAny_bind ?_)))))
  exact (Looks.now : Looks (model P w) h (Builtin.ObjectAttr.storeTaker? none) none).at (dict_first cls hh hx q)
end
/-- what is told of an own error class -/
structure ExT (P : Program) (K : PySem.W.Frag) (mg : Str → Option Value) (x p : Str) (fld : Option Str) where
  C : Addr
  fI : Addr
  B : String
  newId : String
  initId : String
  bmB : List Value
  xb : ExB B newId initId bmB
  g : mg x = some (.ref C)
  cls : ∃ nm q N bs sn sub ab col dd k0 k1 k2 k3 k5, K.lookup C = some (excClassObj nm q C N bs bmB true sn sub ab col dd k0 k1 k2 k3 k5 newId)
  xf : XfC K C
  (sa : PySem.W.findIn K (.ref C) "__setattr__" = some (some (.builtin "object.__setattr__"))) (tyC : PySem.W.typeIn K (.ref C) = some (.type "type")) (icC : PySem.W.isClsIn K C = true) (kC : PySem.W.keepIn K (.ref C) = true)
  iC : PySem.W.findIn K (.ref C) "__init__" = some (some (.ref fI))
  tI : PySem.W.typeIn K (.ref fI) = some (.type "function")
  subB : PySem.W.subIn K (.ref C) (.type B) = some true
  slf : PySem.W.mroIn K C (.ref C) = some true
  sIn : PySem.W.ks_superIn K C C "__init__" = some (some (.builtin initId))
  sup : mg "super" = none
  tp : PySem.W.nsIn K cStatics "thirdparty.any" = some none
  nof : ∀ f, fld = some f → PySem.W.findIn K (.ref C) f = some none
  ini : InitT P K fI C p fld
section
open PySem.W PySem.Calls
variable {P : Program} {w : World} {K : PySem.W.Frag} {mg : Str → Option Value} {A : Around} {R : Result → Shared → Prop} {x p : Str} {fld : Option Str}
/-- what __init__ leaves: at a the error -/
def Left (C a : Addr) (fld : Option Str) (u : Value) (n : Nat) (h' : Heap) : Prop := ∃ t1 : Addr, match fld with
  | none => h'.get? a = some (HandSPX.excO C t1)
  | some f => ∃ dx, n ≤ dx ∧ dx ≠ a ∧ h'.get? a = some { cls := .ref C, dict := some dx, data := .fields #[.ref t1, .none, .none, .none, .bool false, .none] } ∧ h'.Ns1 dx (fun y => if y = f then some u else none)
theorem init_run (T : ExT P K mg x p fld) {s : Shared} {a t0 : Addr} {u : Value} {mb : Str → Option Value} (KX : K.In s.heap) (G : s.heap.Ns mainGlobals mg) (Bn : s.heap.Ns builtinsNs mb) (hb : ∀ x : Str, x ≠ "__name__" → mb x = bootBuiltins x) (nl : s.heap.NoLimit) (hdp : A.depth < recursionLimit)
    (he : s.heap.get? a = some (HandSPX.excO T.C t0)) (na : K.lookup a = none)
    (hq : ∀ h' tk, (∀ b o, b ≠ a → s.heap.get? b = some o → h'.get? b = some o) → Left T.C a fld u s.heap.objs.size h' → R (.ok (.ret .none)) { s with heap := h', toks := tk }) :
    codeAny (model P w) A (.call (.ref T.fI) ⟨[.ref a, u], []⟩) R s := by
  obtain ⟨qual, params, body, sc, kV, doc, pm, ct, oc, ccl, cl, an, od, cdd, cld, osl, ccs, csl, cda, cc, vs, file, tf, ar, lk, hcd, S, lc, hvs, hfile, lcell, hpar, har, hbind, arg, p0, p1, p2, p3, p4, harg, hcall, rest, rfl, hrest⟩ := T.ini.ex
  obtain ⟨nm, q, N, bs, sn, sub, ab, col, dd, k0, k1, k2, k3, k5, hC⟩ := T.cls
  have hcl : clsIn K T.C = some { name := nm, bases := bs, mro := .ref T.C :: T.bmB, ns := N, qualname := q, hasDict := true, slotNames := sn, subclasses := sub, abstract := ab, collection := col, hasDel := false } := by unfold clsIn; rw [hC] <;> rfl
  refine ks_codeAny_call_defAt hdp (KX _ _ lk) rfl nl (codeRec_of KX hcd) rfl (.of_eq (hbind (.ref a) u)) S.nocell ?_ (fun h₀ hns k₀ => ?_) S.co S.gen S.kind
  · intro y hy
    simp only [List.mem_cons, List.not_mem_nil, or_false] at hy
    rcases hy with rfl | rfl
    · exact S.self
    · exact S.par
  generalize hfd : ksFn "__init__" qual params (.Expr (.Call (.Attribute (.Call (.Name "super" p0) [] [] p1) "__init__" p2) [arg] [] p3) p4 :: rest) sc .none kV doc pm an (.ref cda) ct cc = fd at *
  have esc : fd.scope = sc := by rw [← hfd]
  have eenv : callEnv fd s.heap.objs.size T.fI = ksEnv qual sc s.heap.objs.size T.fI (.ref cda) cc := by rw [← hfd]; rfl
  rw [eenv]
  generalize hL : s.heap.objs.size = L at *
  have K1 : K.In h₀ := KX.keeps k₀
  have he1 : h₀.get? a = some (HandSPX.excO T.C t0) := k₀ _ _ he
  obtain ⟨oD, hD1, hD2⟩ : ∃ oD, h₀.get? T.C = some oD ∧ oD.data = .cls { name := nm, bases := bs, mro := .ref T.C :: T.bmB, ns := N, qualname := q, hasDict := true, slotNames := sn, subclasses := sub, abstract := ab, collection := col, hasDel := false } := ⟨_, K1 _ _ hC, rfl⟩
  have v1 : (([(("self" : Str), Value.ref a), (p, u)].reverse).lookup ("self" : Str)) = some (.ref a) := by
    have : (("self" : Str) == p) = false := by simpa using fun e : ("self" : Str) = p => S.ne e.symm
    simp [List.lookup, this]
  have v2 : (([(("self" : Str), Value.ref a), (p, u)].reverse).lookup p) = some u := by simp [List.lookup]
  have haC : a ≠ T.C := fun e => by
    rw [e, hD1] at he1; cases he1
    cases hD2
  have hI : ∀ h : Heap, K.In h → h.get? a = some (HandSPX.excO T.C t0) → InstAt h a (HandSPX.excO T.C t0) T.C none := fun h k e => ⟨e, rfl, rfl, trivial⟩
  have harg2 : starEach [arg] (ksEnv qual sc L T.fI (.ref cda) cc) = [(false, eval arg (ksEnv qual sc L T.fI (.ref cda) cc))] := by
    cases harg <;> rfl
  have hev : ∀ (s' : Shared) (Q : Value → Shared → Prop) (E : Value → Shared → Prop) (A' : Around), (∃ m, s'.heap.Ns L m ∧ m p = some u) → (∀ v tk, Q v { s' with toks := tk }) → wpAny (model P w) A' (eval arg (ksEnv qual sc L T.fI (.ref cda) cc)) Q E s' := by
    intro s' Q E A' ⟨m, hm, hp⟩ hq
    cases harg with
    | const c j pos => exact wpAny_Constant_str (hq _ _)
    | name pos => exact wpAny_Name (wpAny_loadName_local S.kind S.par hm hp (hq u s'.toks)) S.nd
  obtain ⟨pl, hpl⟩ := hcall (ksEnv qual sc L T.fI (.ref cda) cc)
  have hsw : swapsWith (.Call (.Attribute (.Call (.Name "super" p0) [] [] p1) "__init__" p2) [arg] [] p3) none p4.line (ksEnv qual sc L T.fI (.ref cda) cc) = pure false := by cases harg <;> rfl
  refine ks_wpAt_execs_cons (ks_wpAt_Expr_any (ks_wpAt_MethodCall (pl := pl) ?_ hpl) ?_ hsw)
  case refine_2 => show ((ksEnv qual sc L T.fI (.ref cda) cc).scope.kind == .module && _) = false; rw [show (ksEnv qual sc L T.fI (.ref cda) cc).scope.kind = .function from S.kind]; rfl
  refine ks_wpAt_super_base (env := ksEnv qual sc L T.fI (.ref cda) cc) S.sup S.cls rfl rfl (K1 _ _ lk) rfl (by rw [← hfd]; exact hpar) rfl (K1 _ _ lc) rfl hvs hfile T.ini.top ?_
  refine ks_loadName_global S.kind S.sup (loadGlobal_builtin (env := ksEnv qual sc L T.fI (.ref cda) cc) (G.keeps k₀) T.sup (Bn.keeps k₀) ((hb _ (by decide +kernel)).trans (show bootBuiltins "super" = some (.type "super") by decide +kernel)) ⟨rfl, ?_⟩)
  refine wpAny_loadName_free S.kind S.cls rfl ⟨_, K1 _ _ lcell, rfl⟩ ?_
  rw [har]
  refine wpAny_loadName_local S.kind S.self hns v1 ?_
  refine ks_wpAny_isType_cls hD1 hD2 ⟨rfl, ?_⟩
  refine ks_wpAny_call_super hD1 hD2 he1 rfl (fun c e => by cases e) (looks_mroIn K1 T.slf) (fun h1 hso k1 => ?_)
  have K2 := K1.keeps k1
  have he2 := k1 _ _ he1
  have hm := T.sIn
  unfold ks_superIn at hm
  rw [hcl] at hm
  refine kxs_getMethod T.xb.sup hso (looks_opaque K2 T.tp) (l₀ := .ref T.C :: T.bmB) (fun A Q E s k q => wpAny_bind ((looks_clsIn K2 hcl) A _ E s k (wpAny_pure q))) rfl K2 hm ((hI _ K2 he2).type.andThen (looks_subIn K2 T.subB)) haC rfl ?_
  rw [harg2]
  refine kxs_callWith (i := T.initId) (x := a) rfl (evalArgs_plain (spliced_cons (hev _ _ _ _ ⟨_, (hns.keeps k1).keeps (fun b o e => Heap.get?_push_of_some _ e), v2⟩ fun v tk => spliced_nil ⟨Heap.get?_push_at rfl rfl, ?_⟩)))
  -- the wrapper is called
  have he3 : (h1.push (kxs_mw T.initId a)).get? a = some (HandSPX.excO T.C t0) := Heap.get?_push_of_some _ he2
  refine wpAny_call (codeAny_of_tree ?_)
  show wpAny _ _ (callAny (.ref h1.objs.size) ⟨[v], []⟩) _ _ _
  simp only [callAny]
  refine wpAny_bind (wpAny_load (Heap.get?_push_at rfl rfl) ?_)
  have isW : ∀ b : Bool, (b || Value.type "method-wrapper" == Value.type "method-wrapper") = true := by decide
  simp only [kxs_mw, isW, if_true]
  apply KFB.if_so (by decide)
  refine wpAny_bind (check_bound_init T.xb.base.toExcCallFacts (Heap.get?_push_of_some _ (K2 _ _ hC)) he3 rfl ?_)
  refine wpAny_bind (wpAny_pure (wpAny_pure ?_))
  refine ⟨plainId_quiet T.xb.base.init.plain _, codeAny_builtin T.xb.base.initEntry ?_⟩
  refine exc_init_tree (cls := .ref T.C) (t0 := t0) (dv := none) (c2 := .none) (c3 := .none) (b4 := .bool false) he3 (by show 1 ≤ sizeLine; decide) fun h2 k2 e2 t2 => ?_
  have kAll : ∀ b o, b ≠ a → h₀.get? b = some o → h2.get? b = some o := fun b o n e => k2 b o n (Heap.get?_push_of_some _ (k1 b o e))
  have kS : ∀ b o, b ≠ a → s.heap.get? b = some o → h2.get? b = some o := fun b o n e => kAll b o n (k₀ b o e)
  cases fld with
  | none =>
    subst hrest
    refine wpAt_of_wpAny (wpAny_execs_nil ?_)
    exact hq h2 _ kS ⟨_, e2⟩
  | some f =>
    obtain ⟨q0, q1, q2, q3, rfl⟩ := hrest
    have nL : L ≠ a := fun e => absurd (Heap.lt_size he) (by rw [hL, e]; exact Nat.lt_irrefl _)
    obtain ⟨oL, es, ep, hoL, hr⟩ := hns
    have hns2 : h2.Ns L (fun x => List.lookup x [(("self" : Str), Value.ref a), (p, u)].reverse) := ⟨oL, es, ep, kAll L oL nL hoL, hr⟩
    have K3 : K.In h2 := fun b o e => kAll b o (fun z => by
      rw [z, na] at e; cases e) (K1 b o e)
    refine wpAt_of_wpAny (wpAny_execs_cons (plainObj_wpAny_Assign_Attribute ?_))
    refine wpAny_Name (wpAny_loadName_local S.kind S.par hns2 v2 ?_) S.nd
    refine wpAny_Name (wpAny_loadName_local S.kind S.self hns2 v1 ?_)
    refine set_plain K3 (ox := HandSPX.excO T.C (h1.push (kxs_mw T.initId a)).objs.size) (od := none) ⟨e2, rfl, rfl, trivial⟩ T.sa ?_
    refine osa_new T.xb.pass T.xb.obj K3 e2 hcl rfl rfl (T.nof f rfl) fun h' tk' k3 hx hn => wpAny_execs_nil ?_
    exact hq h' _ (fun b o n e => k3 b o n (kS b o n e)) ⟨_, h2.objs.size, Nat.le_of_lt (Heap.lt_size (kAll L oL nL hoL)), Nat.ne_of_gt (Heap.lt_size e2), hx, hn⟩
end
section
open PySem.W PySem.Calls
variable [Lt] {X : Cx} {W : WX} {pins : List (Addr × Obj)} {σ : L2.St} {H : Hp} {s : Shared} {x p : Str} {fld : Option Str}
def MadeQ (C : Addr) : Option Str → XK → V → Hp → Prop
  | none, Q, _, H => Q (.ref C) none H
  | some f, Q, v, H => ∀ d, H d = none → Q (.ref C) (some d) (L2.upd H d (.xd [(f, v)]))
/-- C(u) -/
theorem exc_call (T : ExT X.prog X.K X.mg x p fld) (I : Inv X pins σ H s) (hr : Room 2 X.A) {v : V} {u : Value} (ru : RelV v u) {Q : XK}
    (hq : MadeQ T.C fld Q v H) :
    wpAny (model X.prog X.w) X.A (call (.ref T.C) [u]) (MkP X pins σ Q) X.xe s := by
  obtain ⟨nm, q, N, bs, sn, sub, ab, col, dd, k0, k1, k2, k3, k5, hC⟩ := T.cls
  obtain ⟨mb, Bn, hb⟩ := I.ok.mod.blt
  obtain ⟨hp, g, dr, tk, os⟩ := s
  have KX : X.K.In hp := I.kIn
  refine wpAny_call (HandSPX.call_own (fI := T.fI) (rest := [u]) T.xb.base (fun Y => rfl) (KX _ _ hC) (looks_findIn KX T.iC) (fun self => bind_fn KX self T.tI) (by show 1 ≤ sizeLine; decide) ?_)
  have kk : ∀ b o, hp.get? b = some o → ((hp.push (kdv_tup [u])).push (HandSPX.excO T.C hp.objs.size)).get? b = some o := fun b o e => Heap.get?_push_of_some _ (Heap.get?_push_of_some _ e)
  have kb : ∀ b o, X.base.get? b = some o → ((hp.push (kdv_tup [u])).push (HandSPX.excO T.C hp.objs.size)).get? b = some o := fun b o e => kk b o (I.bs b o e).1
  have hget : ((hp.push (kdv_tup [u])).push (HandSPX.excO T.C hp.objs.size)).get? (hp.objs.size + 1) = some (HandSPX.excO T.C hp.objs.size) := by heap_get
  have na : X.K.lookup (hp.objs.size + 1) = none := by
    cases q : X.K.lookup (hp.objs.size + 1) with
    | none => rfl
    | some o => exact absurd (Heap.lt_size (KX _ _ q)) (Nat.not_lt.mpr (Nat.le_succ _))
  refine init_run T (s := ⟨(hp.push (kdv_tup [u])).push (HandSPX.excO T.C hp.objs.size), g, dr, tk, os⟩) (KX.keeps kk) (I.ok.mod.glob.keeps kb) (Bn.keeps kb) hb (I.ok.mod.nolimit.keeps kb) (hr.make T.C [u] []).depth hget na fun h' tk' k lf => ?_
  have kO : ∀ b o, hp.get? b = some o → h'.get? b = some o := fun b o e => k b o (fun z => absurd (Heap.lt_size e) (by rw [z]; exact Nat.not_lt.mpr (Nat.le_succ _))) (kk b o e)
  refine ⟨rfl, ?_⟩
  have nH : H (hp.objs.size + 1) = none := I.hok.fresh (Nat.le_succ _)
  have gn : hp.get? (hp.objs.size + 1) = none := by
    cases q : hp.get? (hp.objs.size + 1) with
    | none => rfl
    | some o => exact absurd (Heap.lt_size q) (Nat.not_lt.mpr (Nat.le_succ _))
  cases fld with
  | none =>
    obtain ⟨t1, e⟩ := lf
    exact ⟨hp.objs.size + 1, _, _, ⟨hp, g, dr, tk, os⟩, H, .ref T.C, none, rfl, I, kO, gn, e, ⟨rfl, rfl⟩, rfl, rfl, nH, rfl, I.bare, raises_own T.xf.exC T.tyC, hq⟩
  | some f =>
    obtain ⟨t1, dx, hdx, ndx, e, hn⟩ := lf
    obtain ⟨G, g1, g2⟩ := restrict h' fun b => !decide (b = hp.objs.size + 1)
    have hdx : hp.objs.size ≤ dx := by
      have e2 : ((hp.push (kdv_tup [u])).push (HandSPX.excO T.C hp.objs.size)).objs.size = hp.objs.size + 2 := by rw [Heap.size_push, Heap.size_push]
      have : ((hp.push (kdv_tup [u])).push (HandSPX.excO T.C hp.objs.size)).objs.size ≤ dx := hdx
      rw [e2] at this
      exact Nat.le_trans (Nat.le_add_right _ 2) this
    have nG : G.get? (hp.objs.size + 1) = none := g2 _ (by simp)
    have J : Inv X pins σ (L2.upd H dx (.xd [(f, v)])) ⟨G, g, dr, tk, os⟩ := by
      refine I.laid (t' := tk) (h' := G) (fun b o e => ?_) hdx ?_
      · rw [g1 b (by simp; exact fun z => absurd (Heap.lt_size e) (by rw [z]; exact Nat.not_lt.mpr (Nat.le_succ _)))]; exact kO b o e
      · refine ⟨_, hn.at fun o e => by rw [g1 dx (by simp; exact ndx)]; exact e, fun y => ?_⟩
        by_cases hy : y = f
        · subst hy; simpa [List.lookup, RelO] using ru
        · have : (y == f) = false := by simpa using hy
          simp [List.lookup, this, hy, RelO]
    refine ⟨hp.objs.size + 1, _, _, ⟨G, g, dr, tk, os⟩, _, .ref T.C, some dx, rfl, J, fun b o e => ?_, nG, e, ⟨rfl, rfl⟩, rfl, rfl, ?_, rfl, I.bare, raises_own T.xf.exC T.tyC, hq dx (I.hok.fresh hdx)⟩
    · have nb : b ≠ hp.objs.size + 1 := fun z => by rw [z] at e; rw [show G.get? (hp.objs.size + 1) = none from nG] at e; cases e
      rw [← g1 b (by simpa using nb)]; exact e
    · rw [upd_ne ndx.symm]; exact nH
/-- raise x(e) -/
theorem psv_raise {a : Expr} {ma : MEx} {p' pc pos : Pos} (T : ExT X.prog X.K X.mg x p fld) (hc : X.calm = true) (hr : Room 2 X.A) (tk : Takes X W) (ha : PEv X W a ma) (hg : Gl X x := by rfl) (hdb : (x == ("__debug__" : Str)) = false := by decide)
    (he : starEach [a] X.env = (false, eval a X.env) :: starEach [] X.env := by rfl) :
    PSv X W (.Raise (some (.Call (.Name x p') [a] [] pc)) none pos) (sRaise x fld ma) := by
  have mk : PMk X (.Call (.Name x p') [a] [] pc) (fun σ H Q => tM X.kw X.mg W ma σ H (MadeQ T.C fld Q)) := by
    intro pins s σ H Q I ⟨r, z, e, S, A, F⟩
    refine wpAny_Call_Name_kw (ld_glob I hg T.g ?_ hdb)
    refine PySem.W.callWith_K (h₀ := X.base) I.ok.mod.kin T.kC ?_ he rfl
    refine (pav_cons ha pav_nil he).go (β := D) (f := fun ds S => match ds with | [d] => .ok d S | _ => .bad) (kp := kE X.kw z (MadeQ T.C fld Q)) I A ?_ fun us vs r1 H1 s1 ds S1 st1 I1 ru A1 R1 F1 => ⟨I1.kIn, ?_⟩
    · unfold aCons aNil
      cases q : ma e S with
      | bad => rw [q] at F; exact F
      | exc y e' S1 => rw [q] at F; exact F
      | ok d S1 => rw [q] at F; exact F
    · match ds, F1 with
      | [d], F1 =>
        obtain ⟨v, rfl, rv⟩ := repL1 R1
        obtain ⟨u, rfl, ru1⟩ := vals1 ru
        exact exc_call T I1 hr ru1 (F1 r1 H1 (Step.refl _ _) A1.s v rv)
      | [], F1 => exact F1.elim
      | _ :: _ :: _, F1 => exact F1.elim
  refine ⟨fun pins s σ H D I ⟨r, z, e, S, A, F⟩ => (ps_raise hc tk mk).run pins s σ H D I ⟨r, z, e, S, A, ?_⟩⟩
  unfold sRaise at F
  cases q : ma e S with
  | bad => rw [q] at F; exact F
  | exc y e' S1 => rw [q] at F; exact F
  | ok d S1 =>
    rw [q] at F
    intro r1 H1 st rs v rv
    cases fld with
    | none => exact F r1 H1 st σ _ _ ⟨rs, A.e.step st⟩ ⟨T.C, T.g, rfl, .inl ⟨rfl, rfl⟩⟩
    | some f =>
      intro dd hd
      have fr := rs.fresh hd
      exact F r1 _ (st.trans (Step.upd hd)) σ _ _ ⟨rs.upd hd, (A.e.step st).step (Step.upd hd)⟩ ⟨T.C, T.g, rfl, .inr ⟨dd, [v], rfl, fr.1, fr.2, upd_same, RepL.nil.cons (rv.step (Step.upd hd))⟩⟩
end
end Mp
end SMpT

section SMpU
set_option Elab.async false
set_option linter.all false
set_option maxRecDepth 100000
set_option maxHeartbeats 2000000
open PySem PySem.Spec PyProof.Rows L2
namespace Mp
variable [Lt]
/-! ### try: .. except C as e: .. -/
/-- what was caught: the error, its class, its dict; the slot that holds it -/
structure Cgt where
  x : Exn
  cls : Value
  d : Option Addr
  at_ : Option (Nat × Addr)
def RepC (K : Kw) (G : Str → Option Value) (r z : List Addr) (H : Hp) (σ : L2.St) (c : Cgt) : Prop := RepX K G r z H c.x c.cls c.d ∧ ∀ i a, c.at_ = some (i, a) → σ[i]? = some (some (.ref a))
/-- a suite's reading: x was caught -/
def tXM (K : Kw) (G : Str → Option Value) (c : Cgt) (m : MEx) : TE := fun σ H Q => ∃ r z e S, All K r z H σ e S ∧ RepC K G r z H σ c ∧ Fin r H (m e S) (kE K z Q) (fun _ _ _ _ _ => False)
def taX (K : Kw) (G : Str → Option Value) (c : Cgt) (m : MAs) : TA := fun σ H Q => ∃ r z e S, All K r z H σ e S ∧ RepC K G r z H σ c ∧ Fin r H (m e S) (kA K z Q) (fun _ _ _ _ _ => False)
def tsX (K : Kw) (G : Str → Option Value) (c : Cgt) (m : MSt) : TS := fun D σ H => ∃ r z e S, All K r z H σ e S ∧ RepC K G r z H σ c ∧ Fin r H (m e S) (kS K z D) (fun _ _ _ _ _ => False)
theorem RepX.step {K : Kw} {G : Str → Option Value} {r r' z : List Addr} {H H' : Hp} {x : Exn} {cls : Value} {d : Option Addr} (st : Step r H r' H') (h : RepX K G r z H x cls d) : RepX K G r' z H' x cls d := by
  obtain ⟨C, h1, h2, h3⟩ := h
  refine ⟨C, h1, h2, h3.imp id fun ⟨p, vs, e1, n1, n2, e2, l⟩ => ⟨p, vs, e1, st.out e2 n1, n2, st.keep _ _ e2 n1 rfl, l.step st⟩⟩
section
variable {X : Cx} {c : Cgt} {a b : Expr} {ma mb : MEx} {es : List Expr} {mr : MAs} {pos pos' : Pos}
def PXE (X : Cx) (c : Cgt) (e : Expr) (m : MEx) : Prop := PE X e (tXM X.kw X.mg c m)
def PXA (X : Cx) (c : Cgt) (e : List Expr) (m : MAs) : Prop := PA X e (taX X.kw X.mg c m)
def PXS (X : Cx) (c : Cgt) (e : Stmt) (m : MSt) : Prop := PS X e (tsX X.kw X.mg c m)
theorem px_c {v : V} {dd : D} (h : PE X a (tC v)) (hr : ∀ r z H, Rep X.kw r z H dd v) : PXE X c a (mC dd) :=
  ⟨fun pins s σ H Q I ⟨r, z, e, S, A, _, F⟩ => h.run pins s σ H Q I (F r H (Step.refl r H) A.s v (hr r z H))⟩
theorem px_int {i j pos} : PXE X c (.Constant (.int i) j pos) (mC (.int i)) := px_c pe_int fun _ _ _ => repI i
theorem px_bl {i j pos} : PXE X c (.Constant (.bool i) j pos) (mC (.bl i)) := px_c pe_bl fun _ _ _ => repB i
theorem px_str {i j pos} : PXE X c (.Constant (.str i) j pos) (mC (.str i)) := px_c pe_str fun _ _ _ => repS i
theorem px_non {j pos} : PXE X c (.Constant .none j pos) (mC .non) := px_c pe_non fun _ _ _ => repN
theorem px_gstr {y : Str} {i : Str} {t : Tok} {pos : Pos} (hg : Gl X y) (hm : X.mg y = some (.str i t)) (hd : (y == ("__debug__" : Str)) = false := by decide) : PXE X c (.Name y pos) (mC (.str i)) :=
  px_c (v := .str i) (pe_glob hg hm ⟨_, rfl⟩ hd) fun _ _ _ => repS i
theorem px_nil : PXA X c [] aNil := ⟨fun pos pins s σ H Q I ⟨r, z, e, S, A, _, F⟩ => pa_nil.run pos pins s σ H Q I (F r H (Step.refl r H) A.s [] RepL.nil)⟩
theorem px_cons (ha : PXE X c a ma) (hr : PXA X c es mr) (hs : starEach (a :: es) X.env = (false, eval a X.env) :: starEach es X.env := by rfl) : PXA X c (a :: es) (aCons ma mr) := by
  refine ⟨fun pos pins s σ H Q I ⟨r, z, e, S, A, RX, F⟩ => (pa_cons ha hr hs).run pos pins s σ H Q I ⟨r, z, e, S, A, RX, ?_⟩⟩
  unfold aCons at F
  cases q : ma e S with
  | bad => rw [q] at F; exact F
  | exc y e' S1 => rw [q] at F; exact F
  | ok dd S1 =>
    rw [q, bind_ok] at F
    intro r1 H1 st rs v rv
    refine ⟨r1, z, e, S1, ⟨rs, A.e.step st⟩, ⟨RX.1.step st, RX.2⟩, ?_⟩
    cases q2 : mr e S1 with
    | bad => rw [q2] at F; exact F
    | exc y e' S2 => rw [q2] at F; exact (F r1 H1 st).elim
    | ok ds S2 =>
      rw [q2, bind_ok] at F
      exact fun r2 H2 st2 rs2 vs rvs => F r2 H2 (st.trans st2) rs2 _ (rvs.cons (rv.step st2))
theorem px_tup {k : Nat} (h : PXA X c es mr) : PXE X c (.Tuple es k pos) (mTup mr) := by
  refine ⟨fun pins s σ H Q I ⟨r, z, e, S, A, RX, F⟩ => (pe_tup h).run pins s σ H Q I ⟨r, z, e, S, A, RX, ?_⟩⟩
  unfold mTup at F
  cases q : mr e S with
  | bad => rw [q] at F; exact F
  | exc y e' S1 => rw [q] at F; exact F
  | ok ds S1 =>
    rw [q, bind_ok] at F
    intro r1 H1 st rs vs l
    split at F
    · rename_i hz
      exact ⟨by rw [← l.length]; exact hz, fun p hp => F r1 _ (st.trans (Step.upd hp)) (rs.upd hp) _ (Rep.newT rs hp l)⟩
    · exact F.elim
theorem px_lst (h : PXA X c es mr) : PXE X c (.List es pos) (mFrz (lDisp mr)) := by
  refine ⟨fun pins s σ H Q I ⟨r, z, e, S, A, RX, F⟩ => (pe_lst h).run pins s σ H Q I ⟨r, z, e, S, A, RX, ?_⟩⟩
  unfold mFrz lDisp at F
  cases q : mr e S with
  | bad => rw [q] at F; exact F
  | exc y e' S1 => rw [q] at F; exact F
  | ok ds S1 =>
    rw [q, bind_ok] at F
    intro r1 H1 st rs vs l
    split at F
    · rename_i hz
      exact ⟨by rw [← l.length]; exact hz, fun p hp => F r1 _ (st.trans (Step.upd hp)) (rs.upd hp) _ (Rep.newL rs hp l)⟩
    · exact F.elim
theorem px_set (i : Nat) {y : Str} (hN : X.N.Nodup) (ha : PXE X c a ma) (hi : X.N[i]? = some y := by rfl) (hx : Loc X.env.scope y := by first | exact Or.inl rfl | exact Or.inr rfl) (hs : swapsWith a (some (.Name y pos')) pos.line X.env = pure false := by rfl) (hf : X.fn y = true ∨ X.env.scope.names.lookup y = some .local := by first | exact .inl rfl | exact .inr rfl | assumption) :
    PXS X c (.Assign [.Name y pos'] a pos) (sAsg (.nm i) ma) := by
  refine ⟨fun pins s σ H D I ⟨r, z, e, S, A, RX, F⟩ => wpAny_Assign_Name (thn (ha.run pins s σ H (fun v H1 => ∃ r1 dd S1, Step r H r1 H1 ∧ RepS X.kw r1 z H1 S1 ∧ Rep X.kw r1 z H1 dd v ∧ Fin r1 H1 (Out.ok (Fl.nx (e.set i (some dd))) S1) (kS X.kw z D) (fun _ _ _ _ _ => False)) I ⟨r, z, e, S, A, RX, ?_⟩) ?_) hs⟩
  · unfold sAsg at F
    cases q : ma e S with
    | bad => rw [q] at F; exact F
    | exc y e' S1 => rw [q] at F; exact F
    | ok dd S1 =>
      rw [q, bind_ok, bindP] at F
      exact fun r1 H1 st rs v rv => ⟨r1, dd, S1, st, rs, rv, Fin.step st F⟩
  · rintro u s1 ⟨v, H1, I1, ru, r1, dd, S1, st, rs, rv, F1⟩
    exact store_ok I1 hN hi hx ru (fun s2 I2 => ⟨_, H1, I2, F1 r1 H1 (Step.refl _ _) _ ⟨rs, (A.e.step st).set i rv⟩⟩) hf
theorem px_ret (ha : PXE X c a ma) : PXS X c (.Return (some a) pos) (sRet ma) := by
  refine ⟨fun pins s σ H D I ⟨r, z, e, S, A, RX, F⟩ => wpAny_Return_some (thn (ha.run pins s σ H D.rt I ⟨r, z, e, S, A, RX, ?_⟩) ?_)⟩
  · unfold sRet at F
    cases q : ma e S with
    | bad => rw [q] at F; exact F
    | exc y e' S1 => rw [q] at F; exact F
    | ok dd S1 =>
      rw [q, bind_ok] at F
      exact fun r1 H1 st rs v rv => F r1 H1 st rs v rv
  · rintro u s1 ⟨v, H1, I1, ru, q⟩
    exact ⟨v, σ, H1, I1, ru, q⟩
end
/-- what is told of an own error class for its field to be read -/
structure XfT (K : PySem.W.Frag) (G : Str → Option Value) (c f : Str) : Prop where
  ex : ∃ C, G c = some (.ref C) ∧ XfC K C ∧ PySem.W.findIn K (.ref C) f = some none
theorem ExT.rd {P : Program} {K : PySem.W.Frag} {mg : Str → Option Value} {x p f : Str} (T : ExT P K mg x p (some f)) : XfT K mg x f := ⟨T.C, T.g, T.xf, T.nof f rfl⟩
section
variable {X : Cx} {c : Cgt} {pos : Pos} {a : Addr} {oe : Obj} {pn : List (Addr × Obj)}
/-- e.f : i is e's slot, which holds the error -/
theorem px_fld {i : Nat} {y f : Str} {np : Pos} (hz : Zc c.cls c.d oe) (hf : ∃ vs, oe.data = .fields vs) (hat : c.at_ = some (i, a)) (T : XfT X.K X.mg c.x.cls f) (hN : X.N[i]? = some y) (hv : Vis X.env.scope y) (hd : (y == ("__debug__" : Str)) = false := by decide) (hcd : (y == ("__classdict__" : Str)) = false := by decide)
    (hb : attributeBase (.Name y np) f X.env (eval (.Name y np) X.env) = eval (.Name y np) X.env := by rfl) : PXE (X.suite a ((a, oe) :: pn)) c (.Attribute (.Name y np) f pos) (mFld c.x f) := by
  refine ⟨fun pins s σ H Q I h => ?_⟩
  obtain ⟨C, g, xc, hno⟩ := T.ex
  obtain ⟨r, z, e, S, A, ⟨⟨C', g', ec, hx⟩, hs⟩, F⟩ := h
  have eC : C' = C := by
    have := g'.symm.trans g
    cases this; rfl
  subst eC
  refine (pe_xf (X := X) (te := fun σ H Q => ∃ v, σ[i]? = some (some v) ∧ Q v H) xc hno hz hf (pe_var (X := X.suite a ((a, oe) :: pn)) hN hv hd hcd) hb).run pins s σ H Q I ⟨_, hs i a hat, rfl, ec, ?_⟩
  unfold mFld at F
  obtain ⟨dd, e1, F⟩ := fin_oo F
  rcases hx with ⟨e2, _⟩ | ⟨p, vs, e2, n1, n2, e3, l⟩
  · rw [e2] at e1; cases e1
  · have look : ∀ {fs : List (Str × D)} {vs : List V}, RepL X.kw r z H (fs.map (·.2)) vs → fs.lookup f = some dd → ∃ v, ((fs.map (·.1)).zip vs).lookup f = some v ∧ Rep X.kw r z H dd v := by
      intro fs
      induction fs with
      | nil => intro vs _ h; cases h
      | cons q qs ih =>
        intro vs l h
        rw [List.map_cons, RepL] at l
        obtain ⟨v, vs', rfl, l1, l2⟩ := l
        obtain ⟨q1, q2⟩ := q
        by_cases hq : f = q1
        · subst hq
          simp [List.lookup] at h
          subst h
          exact ⟨v, by simp [List.lookup], l1⟩
        · have : (f == q1) = false := by simpa using hq
          simp [List.lookup, this] at h
          obtain ⟨v', k1, k2⟩ := ih l2 h
          exact ⟨v', by simp [List.lookup, this]; exact k1, k2⟩
    obtain ⟨v, k1, k2⟩ := look l e1
    exact ⟨p, _, v, e2, e3, k1, F r H (Step.refl _ _) A.s v k2⟩
end
/-! ### the clauses -/
/-- the ends of a suite whose name, in the slot i, goes behind it -/
abbrev dropE (i : Nat) (D : Ends) : Ends := { nx := fun σ' H' => D.nx (σ'.set i none) H', rt := D.rt, bk := fun σ' H' => D.bk (σ'.set i none) H', ct := fun σ' H' => D.ct (σ'.set i none) H' }
/-- a clause, as it is told: its class, the slot of its name, what its suite does -/
structure Clause where
  c : Value
  nm : Option Nat
  ts : Addr → Value → Option Addr → TS
/-- what a clause wishes of an error that is its own -/
def Clause.want (t : Clause) (D : Ends) (cls : Value) (d : Option Addr) (σ : L2.St) (H : Hp) : Prop := ∀ a, H a = none → match t.nm with
  | none => t.ts a cls d D σ H
  | some i => i < σ.length → t.ts a cls d (dropE i D) (σ.set i (some (.ref a))) H
/-- what is wished of an error of the body: by the first clause of its class, or else by who is outside -/
def wHds (K : PySem.W.Frag) (Wout : WX) (D : Ends) : List Clause → WX
  | [], cls, d, σ, H => Wout cls d σ H
  | t :: r, cls, d, σ, H => match PySem.W.exmOne K cls t.c with
    | some true => t.want D cls d σ H
    | some false => wHds K Wout D r cls d σ H
    | none => False
/-- a clause's name, and its slot -/
def ClName (X : Cx) : Option Str → Option Nat → Prop
  | none, none => True
  | some n, some i => X.N.Nodup ∧ X.N[i]? = some n ∧ X.env.kindOf n = some .local
  | _, _ => False
inductive HdsL (X : Cx) : List ExceptHandler → List Clause → Prop
  | nil : HdsL X [] []
  | cons {x : Str} {nm : Option Str} {t : Clause} {st : Stmt} {suite : List Stmt} {np pos' : Pos} {hds : List ExceptHandler} {l : List Clause} (hc : Names X x t.c) (hn : ClName X nm t.nm)
      (hsu : ∀ a oe cls d pn, Zc cls d oe → (∃ vs, oe.data = .fields vs) → PSs (X.suite a ((a, oe) :: pn)) (st :: suite) (t.ts a cls d)) (r : HdsL X hds l) :
      HdsL X (.ExceptHandler (some (.Name x np)) nm (st :: suite) pos' :: hds) (t :: l)
/-- an error at a that has come down into the frame of X, at s; the state without it has the slots σ and the objects H -/
structure Down (X : Cx) (pins : List (Addr × Obj)) (a : Addr) (cls : Value) (d : Option Addr) (σ : L2.St) (H : Hp) (s : Shared) : Prop where
  ex : ∃ (B : Heap) (s0 : Shared), Inv X pins σ H s0 ∧ (∀ b o, s0.heap.get? b = some o → b ∉ frs X.stack → B.get? b = some o) ∧ s0.heap.UpToSlots s.heap ∧ HandSPX.FlyingZ B (X.env :: X.outer) a (Zc cls d) s.heap ∧ s.os = s0.os ∧ AllBare s.gens
  new : H a = none
section
variable {X : Cx} {pins : List (Addr × Obj)} {a : Addr} {cls : Value} {d : Option Addr} {σ : L2.St} {H : Hp} {s : Shared} {D : Ends} {E : Value → Shared → Prop}
theorem Down.inv (x : Down X pins a cls d σ H s) : Inv X pins σ H s :=
  have ⟨_, _, I0, kept, up, fl, os, bare⟩ := x.ex
  I0.landed kept fl.1 up os bare
/-- the error's object, which is none of the frames -/
theorem Down.obj (x : Down X pins a cls d σ H s) (hf : X.env.frame = some X.env.locals) : ∃ oe, s.heap.get? a = some oe ∧ Zc cls d oe ∧ (∃ vs, oe.data = .fields vs) ∧ a ≠ X.env.locals ∧ a ∉ X.fs := by
  have ⟨_, _, _, _, _, fl, _, _⟩ := x.ex
  have ⟨oe, vs, here, cl, dat⟩ := fl.there
  have off : ∀ e ∈ X.env :: X.outer, e.frame ≠ some a := fun e me fe => by
    have ⟨_, o, there, nof⟩ := fl.2.2.1.mem (List.mem_filterMap.mpr ⟨e, me, fe⟩)
    cases here.symm.trans there
    exact nof _ dat
  refine ⟨oe, here, cl, ⟨vs, dat⟩, fun eq => off _ (.head _) (eq ▸ hf), fun m => ?_⟩
  have ⟨e, me, fe⟩ := List.mem_filterMap.mp m
  exact off e (.tail _ me) fe
theorem Down.again {M : Model} {A : Around} {Q : Unit → Shared → Prop} (x : Down X pins a cls d σ H s) (q : ∀ h', Down X pins a cls d σ H { s with heap := h' } → Q () { s with heap := h' }) : wpAny M A (setFlight (.ref a) none) Q E s :=
  have ⟨B, s0, I0, kept, up, fl, os, bare⟩ := x.ex
  HandSPX.lands_againZ fl fun h' fl' up' => q h' ⟨⟨B, s0, I0, kept, up.trans up', fl', os, bare⟩, x.new⟩
/-- no clause is left: the error goes on -/
theorem Down.pass {W : WX} (x : Down X pins a cls d σ H s) (hs : X.stack = X.env :: X.outer) (hf : X.env.frame = some X.env.locals) (tk : Takes X W) (w : W cls d σ H) : wpAny (model X.prog X.w) X.A (handleBy (.ref a) X.env []) (SP X pins D) X.xe s := by
  have ⟨B, s0, I0, kept, up, fl, os, bare⟩ := x.ex
  have off : wpAny (model X.prog X.w) X.A (setFlight (.ref a) X.env.frame) (fun _ s' => wpAny (model X.prog X.w) X.A (throw (.ref a) : Sem Flow) (SP X pins D) X.xe s') X.xe s :=
    hf ▸ HandSPX.setFlight_upZ fl fun h' held up' => wpAny_throw (tk _ _ ⟨a, B, s0, pins, σ, H, cls, d, rfl, I0, kept, up.trans up', .inr (.inr (hs ▸ held)), x.new, os, bare, w⟩)
  have ⟨_, _, _, _, _, T, _, _, here, _, dat, one, _⟩ := fl
  refine wpAny_handleBy_nil ?_
  unfold PySem.passOn
  refine wpAny_bind (wpAny_field here dat one ?_)
  rw [if_neg (by simp : ¬ (Value.ref T == Value.none) = true)]
  first
    | exact wpAny_bind off
    | exact wpAny_bind (wpAny_pure (wpAny_bind off))
/-- the class that a clause names is looked up, and the error's class held against it -/
theorem Down.asks {n : Str} {c : Value} {np : Pos} {b : Bool} {Q : Value → Shared → Prop} (x : Down X pins a cls d σ H s) (hf : X.env.frame = some X.env.locals) (hn : Names X n c) (hb : PySem.W.exmOne X.K cls c = some b)
    (q : PySem.W.Looks (model X.prog X.w) s.heap (excMatches (.ref a) c) b → Q c s) : wpAny (model X.prog X.w) (X.A.mark (some (.ref a))) (eval (.Name n np) X.env) Q E s := by
  have ⟨oe, here, cl, ⟨vs, dat⟩, nl, nf⟩ := x.obj hf
  have at_ := x.inv.suite here dat x.new nl nf
  have q' := q (PySem.W.exm_one x.inv.kIn (fun A Q E s' k y => wpAny_typeOf_ref (k _ _ here) (cl.1 ▸ y)) hb)
  rcases hn with ⟨gl, nd, own | ⟨no, boot, nn⟩⟩
  · exact ld_glob (X := X.suite a ((a, oe) :: (X.pn ++ pins))) at_ gl own q' nd
  · exact ld_blt (X := X.suite a ((a, oe) :: (X.pn ++ pins))) at_ gl no boot q' nn nd
theorem sp_suite {q : Addr × Obj} {f : Flow} (ok : X.Ok) (h : SP (X.suite a (q :: (X.pn ++ pins))) [] D f s) : SP X pins D f s :=
  match f, h with
  | .ret _, ⟨v, σ1, H1, J, rv, k⟩ => ⟨v, σ1, H1, J.unsuite ok, rv, k⟩
  | .next, ⟨σ1, H1, J, k⟩ | .brk, ⟨σ1, H1, J, k⟩ | .cont, ⟨σ1, H1, J, k⟩ => ⟨σ1, H1, J.unsuite ok, k⟩
theorem sp_as {q : Addr × Obj} {f : Flow} {i : Nat} {n : Str} {pos : Pos} (ok : X.Ok) (hN : X.N.Nodup) (hi : X.N[i]? = some n) (hl : X.env.kindOf n = some .local) (h : SP (X.suite a (q :: (X.pn ++ pins))) [] (dropE i D) f s) :
    wpAny (model X.prog X.w) X.A (do bindName X.env n .none; unbindBehindTheSuite X.env n pos) (fun _ s' => SP X pins D f s') X.xe s :=
  match f, h with
  | .ret _, ⟨v, _, _, J, rv, k⟩ => gone_ok (J.unsuite ok) hN hi hl fun _ G => ⟨v, _, _, G, rv, k⟩
  | .next, ⟨_, _, J, k⟩ | .brk, ⟨_, _, J, k⟩ | .cont, ⟨_, _, J, k⟩ => gone_ok (J.unsuite ok) hN hi hl fun _ G => ⟨_, _, G, k⟩
theorem sp_try {xe : Value → Shared → Prop} {f : Flow} (ok : X.Ok) (h : SP (X.tr (X.pn ++ pins) xe) [] D f s) : SP X pins D f s :=
  match f, h with
  | .ret _, ⟨v, σ1, H1, J, rv, k⟩ => ⟨v, σ1, H1, J.ofTry ok, rv, k⟩
  | .next, ⟨σ1, H1, J, k⟩ | .brk, ⟨σ1, H1, J, k⟩ | .cont, ⟨σ1, H1, J, k⟩ => ⟨σ1, H1, J.ofTry ok, k⟩
/-- one clause after the other -/
theorem Down.clauses {Wout : WX} {hds : List ExceptHandler} {l : List Clause} (hs : X.stack = X.env :: X.outer) (hf : X.env.frame = some X.env.locals) (tk : Takes X Wout) (ok : X.Ok) (hk : HdsL X hds l)
    (x : Down X pins a cls d σ H s) (w : wHds X.K Wout D l cls d σ H) : wpAny (model X.prog X.w) X.A (handleBy (.ref a) X.env hds) (SP X pins D) X.xe s := by
  induction hk with
  | nil => exact x.pass hs hf tk w
  | @cons _ nm t _ _ _ _ _ _ hc hn hsu _ rest =>
    rw [wHds] at w
    cases hb : PySem.W.exmOne X.K cls t.c with
    | none => rw [hb] at w; exact w.elim
    | some b =>
      refine wpAny_handleBy_cons (codeAny_handlers_test (x.asks hf hc hb fun look => look.here ?_)) nofun
      rw [hb] at w
      cases b with
      | false => exact rest w
      | true =>
        have yes := w a x.new
        obtain ⟨tc, tn, ts⟩ := t
        cases nm with
        | none =>
          cases tn with
          | some _ => exact hn.elim
          | none =>
            refine codeAny_handlers_suite (x.again fun h' y => ?_)
            have ⟨oe, here, cl, dat, nl, nf⟩ := y.obj hf
            have ⟨_, dt⟩ := dat
            exact wpAny_mono ((hsu a oe cls d (X.pn ++ pins) cl dat).run [] _ _ _ _ (y.inv.suite here dt y.new nl nf) yes) (fun _ _ k => sp_suite ok k) (fun _ _ k => False.elim k)
        | some n =>
          cases tn with
          | none => exact hn.elim
          | some i =>
            have ⟨hN, hi, hln⟩ := hn
            refine codeAny_handlers_suite_as (x.again fun h' y => ?_)
            have ⟨oe, here, cl, dat, nl, nf⟩ := y.obj hf
            have ⟨_, dt⟩ := dat
            have wide := (List.getElem?_eq_some_iff.mp hi).1
            refine store_ok (X := X.suite a ((a, oe) :: (X.pn ++ pins))) (v := .ref a) (y.inv.suite here dt y.new nl nf) hN hi (.inl hln) rfl (fun s2 at2 => ?_) (.inr hln)
            exact wpAny_mono ((hsu a oe cls d (X.pn ++ pins) cl dat).run [] s2 _ _ _ at2 (yes (y.inv.len ▸ wide))) (fun _ _ k => sp_as ok hN hi hln k) (fun _ _ k => False.elim k)
end
section
variable {X : Cx} {body : List Stmt} {h₀ : ExceptHandler} {hds : List ExceptHandler} {l : List Clause} {pos : Pos} {tb : WX → TS} {Wout : WX}
theorem ps_try_hds (hs : X.stack = X.env :: X.outer) (hf : X.env.frame = some X.env.locals) (tk : Takes X Wout)
    (hb : ∀ W pn xe, Takes (X.tr pn xe) W → PassesOwn (model X.prog X.w) X.A X.env xe → PSs (X.tr pn xe) body (tb W))
    (hh : HdsL X (h₀ :: hds) l) : PS X (.Try body (h₀ :: hds) [] [] pos) (fun D σ H => tb (wHds X.K Wout D l) D σ H) where
  run := fun pins s σ H D I h => by
    have ok := I.ok
    let out : Value → Shared → Prop := fun e s1 => wpAny (model X.prog X.w) X.A (noteFrame e X.env) (fun _ s2 => wpAny (model X.prog X.w) X.A (setFlight e none) (fun _ s3 => wpAny (model X.prog X.w) X.A (handleBy e X.env (h₀ :: hds)) (SP X pins D) X.xe s3) X.xe s2) X.xe s1
    have caught : Takes (X.tr (X.pn ++ pins) out) (wHds X.K Wout D l) := by
      rintro _ s1 ⟨a, B, s0, _, σ1, H1, cls, d, rfl, J, kept, up, sky, new, os, bare, w⟩
      exact Sky.land Zc.steady (ok.frames.trans (congrArg some hs)) hf (hs ▸ sky) fun h' fl up' =>
        Down.clauses hs hf tk ok hh ⟨⟨B, s0, J.ofTry ok, kept, up.trans up', fl, os, bare⟩, new⟩ w
    refine wpAny_Try_except (wpAny_mono ((hb _ _ out caught PassesOwn.looking).run [] s σ H D (I.toTry _) h) (fun f s1 k => ?_) (fun _ _ k => k))
    cases f with
    | next => exact wpAny_execs_nil (sp_try ok (f := .next) k)
    | _ => exact sp_try ok k
end
/-! ### try, as it is told -/
/-- an error of the class k meets the clause of c -/
def ExmT (K : PySem.W.Frag) (G : Str → Option Value) (known : List Str) (c : Str) (Cc : Addr) : Prop := ∀ k ∈ known, ∃ Ck, G k = some (.ref Ck) ∧ PySem.W.exmOne K (.ref Ck) (.ref Cc) = some (decide (k = c))
inductive HdsV (X : Cx) (known : List Str) : List ExceptHandler → List Hd → Prop
  | nil : HdsV X known [] []
  | only {c : Str} {Cc : Addr} {m : Exn → MSt} {st : Stmt} {np pos' : Pos} {hds : List ExceptHandler} {l : List Hd} (hc : Names X c (.ref Cc)) (ex : ExmT X.K X.mg known c Cc)
      (hsu : ∀ (a : Addr) (oe : Obj) (g : Cgt) (pn : List (Addr × Obj)), Zc g.cls g.d oe → (∃ vs, oe.data = .fields vs) → g.x.cls = c → PXS (X.suite a ((a, oe) :: pn)) g st (m g.x)) (r : HdsV X known hds l) :
      HdsV X known (.ExceptHandler (some (.Name c np)) none [st] pos' :: hds) (⟨[c], none, m⟩ :: l)
  | as_ {c n : Str} {i : Nat} {Cc : Addr} {m : Exn → MSt} {st : Stmt} {np pos' : Pos} {hds : List ExceptHandler} {l : List Hd} (hc : Names X c (.ref Cc)) (ex : ExmT X.K X.mg known c Cc) (hN : X.N.Nodup) (hi : X.N[i]? = some n) (hln : X.env.kindOf n = some .local)
      (hsu : ∀ (a : Addr) (oe : Obj) (g : Cgt) (pn : List (Addr × Obj)), Zc g.cls g.d oe → (∃ vs, oe.data = .fields vs) → g.x.cls = c → g.at_ = some (i, a) → PXS (X.suite a ((a, oe) :: pn)) g st (m g.x)) (r : HdsV X known hds l) :
      HdsV X known (.ExceptHandler (some (.Name c np)) (some n) [st] pos' :: hds) (⟨[c], some i, m⟩ :: l)
section
variable {X : Cx} {W : WX} {known : List Str}
theorem hds_ok {hds : List ExceptHandler} {hs : List Hd} (h : HdsV X known hds hs) : ∃ l, HdsL X hds l ∧ ∀ (D : Ends) (r z : List Addr) (H : Hp) (σ : L2.St) (e : Ev) (S : Sto) (x : Exn) (cls : Value) (d : Option Addr), x.cls ∈ known → All X.kw r z H σ e S → RepX X.kw X.mg r z H x cls d →
    Fin r H (hdGo x e S hs) (kS X.kw z D) (xpG X.kw X.mg z W) → wHds X.K W D l cls d σ H := by
  induction h with
  | nil => exact ⟨[], .nil, fun D r z H σ e S x cls d _ A RX F => F r H (Step.refl _ _) σ cls d A RX⟩
  | @only c Cc m st np pos' hds l hc ex hsu _ ih =>
    obtain ⟨l', h1, h2⟩ := ih
    refine ⟨⟨.ref Cc, none, fun a cls d D σ H => ∃ x : Exn, x.cls = c ∧ tsX X.kw X.mg ⟨x, cls, d, none⟩ (m x) D σ H⟩ :: l', .cons hc trivial (fun a oe cls d pn hz hf => ⟨fun pins s σ H D I ⟨x, hx, h⟩ => (pss_one (hsu a oe ⟨x, cls, d, none⟩ pn hz hf hx)).run pins s σ H D I h⟩) h1, ?_⟩
    intro D r z H σ e S x cls d hk A RX F
    obtain ⟨Ck, g1, g2⟩ := ex x.cls hk
    obtain ⟨C', g3, rfl, g4⟩ := RX
    have eC : C' = Ck := by have := g3.symm.trans g1; cases this; rfl
    subst eC
    rw [wHds, g2]
    by_cases hx : x.cls = c
    · rw [decide_eq_true hx]
      intro a na
      refine ⟨x, hx, r, z, e, S, A, ⟨⟨C', g3, rfl, g4⟩, fun _ _ q => by cases q⟩, ?_⟩
      simp only [hdGo, hx, List.mem_singleton, if_true, unE] at F
      cases q : m x e S with
      | bad => rw [q] at F; exact F
      | exc y e' S1 => rw [q] at F; exact (F : False).elim
      | ok fl S1 => rw [q, calm_ok, bind_ok] at F; cases fl <;> exact F
    · rw [decide_eq_false hx]
      have F : Fin r H (hdGo x e S l) (kS X.kw z D) (xpG X.kw X.mg z W) := by
        simpa only [hdGo, List.mem_singleton, if_neg hx] using F
      exact h2 D r z H σ e S x _ d hk A ⟨C', g3, rfl, g4⟩ F
  | @as_ c n i Cc m st np pos' hds l hc ex hN hi hln hsu _ ih =>
    obtain ⟨l', h1, h2⟩ := ih
    refine ⟨⟨.ref Cc, some i, fun a cls d D σ H => ∃ x : Exn, x.cls = c ∧ tsX X.kw X.mg ⟨x, cls, d, some (i, a)⟩ (m x) D σ H⟩ :: l', .cons hc ⟨hN, hi, hln⟩ (fun a oe cls d pn hz hf => ⟨fun pins s σ H D I ⟨x, hx, h⟩ => (pss_one (hsu a oe ⟨x, cls, d, some (i, a)⟩ pn hz hf hx rfl)).run pins s σ H D I h⟩) h1, ?_⟩
    intro D r z H σ e S x cls d hk A RX F
    obtain ⟨Ck, g1, g2⟩ := ex x.cls hk
    obtain ⟨C', g3, rfl, g4⟩ := RX
    have eC : C' = Ck := by have := g3.symm.trans g1; cases this; rfl
    subst eC
    rw [wHds, g2]
    by_cases hx : x.cls = c
    · rw [decide_eq_true hx]
      intro a na hlt
      refine ⟨x, hx, r, z, e.set i none, S, ⟨A.s, A.e.none i _⟩, ⟨⟨C', g3, rfl, g4⟩, fun j b q => by cases q; exact List.getElem?_set_self hlt⟩, ?_⟩
      simp only [hdGo, hx, List.mem_singleton, if_true, unE] at F
      cases q : m x (e.set i none) S with
      | bad => rw [q] at F; exact F
      | exc y e' S1 => rw [q] at F; exact (F : False).elim
      | ok fl S1 =>
        rw [q, calm_ok, bind_ok] at F
        cases fl with
        | rt d => exact F
        | nx e1 => exact fun r1 H1 st1 σ1 A1 => F r1 H1 st1 _ ⟨A1.s, A1.e.none i none⟩
        | bk e1 => exact fun r1 H1 st1 σ1 A1 => F r1 H1 st1 _ ⟨A1.s, A1.e.none i none⟩
        | ct e1 => exact fun r1 H1 st1 σ1 A1 => F r1 H1 st1 _ ⟨A1.s, A1.e.none i none⟩
    · rw [decide_eq_false hx]
      have F : Fin r H (hdGo x e S l) (kS X.kw z D) (xpG X.kw X.mg z W) := by
        simpa only [hdGo, List.mem_singleton, if_neg hx] using F
      exact h2 D r z H σ e S x _ d hk A ⟨C', g3, rfl, g4⟩ F
theorem psv_try {body : List Stmt} {h₀ : ExceptHandler} {hds : List ExceptHandler} {mb : MSt} {hs : List Hd} {pos : Pos} (hst : X.stack = X.env :: X.outer) (hf : X.env.frame = some X.env.locals) (tk : Takes X W)
    (hb : ∀ (W : WX) (pn : List (Addr × Obj)) (xe : Value → Shared → Prop), Takes (X.tr pn xe) W → PassesOwn (model X.prog X.w) X.A X.env xe → PSsv (X.tr pn xe) W body mb)
    (hh : HdsV X known (h₀ :: hds) hs) : PSv X W (.Try body (h₀ :: hds) [] [] pos) (sTry known mb hs) := by
  obtain ⟨l, h1, h2⟩ := hds_ok (W := W) hh
  refine ⟨fun pins s σ H D I ⟨r, z, e, S, A, F⟩ => (ps_try_hds (tb := fun W => tsM X.kw X.mg W mb) hst hf tk hb h1).run pins s σ H D I ⟨r, z, e, S, A, ?_⟩⟩
  unfold sTry at F
  cases q : mb e S with
  | bad => rw [q] at F; exact F
  | ok fl S1 => rw [q] at F; exact F
  | exc x e' S1 =>
    rw [q] at F
    by_cases hk : x.cls ∈ known
    case neg => simp only [if_neg hk] at F; exact F.elim
    simp only [if_pos hk] at F
    exact fun r1 H1 st σ1 cls d A1 RX => h2 D r1 z H1 σ1 e' S1 x cls d hk A1 RX (Fin.step st F)
end
end Mp
end SMpU

section SMpV
set_option Elab.async false
set_option linter.all false
set_option maxRecDepth 100000
set_option maxHeartbeats 2000000
open PySem PySem.Spec PyProof.Rows L2
namespace Mp
variable [Lt]
/-! ### a closure is called -/
abbrev LamC.N (L : LamC) : List Str := L.caps ++ L.ps ++ L.more
structure LamOk (L : LamC) : Prop where
  kind : L.scope.kind = .function
  co : L.scope.isCoroutine = false
  gen : L.scope.isGenerator = false
  nocell : ∀ y ∈ L.scope.names, y.2 ≠ .cell
  free : ∀ y ∈ L.scope.names, y.2 = .free → y.1 ∈ L.caps
  par : ∀ x ∈ L.ps, L.scope.names.lookup x = some .local
  nd : L.N.Nodup
  capf : ∀ x ∈ L.caps, L.scope.names.lookup x = some .free
  bind : ∀ (q : Str) (cl : List (Str × Addr)) (pm cv ctv : Value) (us : List Value), us.length = L.ps.length → bindArgs (PySem.W.kla_fn "<lambda>" q L.params L.body L.scope cl pm cv ctv) ⟨us, []⟩ = pure (L.ps.zip us)
abbrev lamEnv (L : LamC) (cl : List (Str × Addr)) (at_ f c' : Addr) : Env := PySem.W.envX L.qual L.scope at_ f (.ref c') cl
/-- the context of a lambda's body -/
def lamCx (P : Program) (w : World) (K : PySem.W.Frag) (mg : Str → Option Value) (base : Heap) (L : LamC) (cl : List (Str × Addr)) (f c' : Addr) (A : Around) (outer : List Env) (s : Shared) (H : Hp) (E : XK) : Cx where
  prog := P
  w := w
  K := K
  mg := mg
  base := base
  A := A.deeper (lamEnv L cl s.heap.objs.size f c')
  N := L.N
  s_0 := s
  H_0 := H
  env := lamEnv L cl s.heap.objs.size f c'
  outer := outer
  stack := lamEnv L cl s.heap.objs.size f c' :: outer
  ex := []
  fn := fun _ => false
  calm := true
  pn := []
  xe := fun e s' => wpAny (model P w) (A.deeper (lamEnv L cl s.heap.objs.size f c')) (leaving (lamEnv L cl s.heap.objs.size f c') e) (fun _ s'' => L2.CX P w outer H s E e s'') (fun e' s'' => L2.CX P w outer H s E e' s'') s'
/-- the lambda's body, as it is told -/
def LamB (P : Program) (w : World) (K : PySem.W.Frag) (mg : Str → Option Value) (base : Heap) (k : Nat) (L : LamC) (m : MEx) : Prop :=
  ∀ (cl : List (Str × Addr)) (f c' : Addr) (A : Around) (outer : List Env) (s : Shared) (H : Hp) (E : XK), (A.deeper (lamEnv L cl s.heap.objs.size f c')).guards = some [] → Room k (A.deeper (lamEnv L cl s.heap.objs.size f c')) →
    PEv (lamCx P w K mg base L cl f c' A outer s H E) (fun cls d _ H' => E cls d H') L.body m
/-- .. as a function of what it takes along and its arguments -/
def mLam (n k : Nat) (m : MEx) : Dn := fun ds S => if ds.length = n then (match m (ds.map some ++ List.replicate k none) S with
  | .ok d S => .ok d S
  | .exc x _ S => .exc x [] S
  | .bad => .bad) else .bad
def cellsOf (caps : List Str) (cl : List (Str × Addr)) : List Addr := caps.filterMap fun x => cl.lookup x
/-- without the cells -/
def less (H : Hp) (cs : List Addr) : Hp := fun b => if b ∈ cs then none else H b
def more_ (H H' : Hp) (cs : List Addr) : Hp := fun b => if b ∈ cs then H b else H' b
theorem less_out {H : Hp} {cs : List Addr} {b : Addr} (h : b ∉ cs) : less H cs b = H b := if_neg h
theorem less_in {H : Hp} {cs : List Addr} {b : Addr} (h : b ∈ cs) : less H cs b = none := if_pos h
theorem more_out {H H' : Hp} {cs : List Addr} {b : Addr} (h : b ∉ cs) : more_ H H' cs b = H' b := if_neg h
theorem more_in {H H' : Hp} {cs : List Addr} {b : Addr} (h : b ∈ cs) : more_ H H' cs b = H b := if_pos h
section
variable {r z : List Addr} {H : Hp} {cl : List (Str × Addr)} {caps : List Str} {vs : List V}
theorem Cells.mem (h : Cells r z H cl caps vs) {b : Addr} (hb : b ∈ cellsOf caps cl) : ∃ (i : Nat) (x : Str) (v : V), caps[i]? = some x ∧ vs[i]? = some v ∧ cl.lookup x = some b ∧ b ∉ r ∧ b ∉ z ∧ CellH H b v := by
  obtain ⟨x, hx, e⟩ := List.mem_filterMap.mp hb
  obtain ⟨i, hi, ei⟩ := List.getElem_of_mem hx
  have hv : i < vs.length := by rw [← h.len]; exact hi
  obtain ⟨c, h1, h2, h3, h4⟩ := h.at_ i x vs[i] (by rw [List.getElem?_eq_getElem hi, ei]) (by rw [List.getElem?_eq_getElem hv])
  rw [h1] at e; cases e
  exact ⟨i, x, vs[i], by rw [List.getElem?_eq_getElem hi, ei], by rw [List.getElem?_eq_getElem hv], h1, h2, h3, h4⟩
theorem Cells.is (h : Cells r z H cl caps vs) {x : Str} {c : Addr} (e : cl.lookup x = some c) : c ∈ cellsOf caps cl := List.mem_filterMap.mpr ⟨x, h.only x c e, e⟩
theorem Cells.ne (h : Cells r z H cl caps vs) {b : Addr} {o : HO} (e : H b = some o) (no : ∀ φ, o ≠ .ext φ) : b ∉ cellsOf caps cl := fun m => by
  obtain ⟨_, _, _, _, _, _, _, _, _, _, q, _⟩ := h.mem m
  rw [e] at q
  exact no _ (Option.some.inj q)
end
section
variable {K : Kw} {r z : List Addr} {H : Hp} {cs : List Addr}
/-- data without closures do not hang on cells -/
theorem rep_less (hc : ∀ b ∈ cs, ∃ φ, H b = some (.ext φ)) : ∀ n, (∀ (d : D) (v : V), sizeOf d ≤ n → noClo d = true → Rep K r z H d v → Rep K r z (less H cs) d v) ∧ (∀ (ds : List D) (vs : List V), sizeOf ds ≤ n → noCloL ds = true → RepL K r z H ds vs → RepL K r z (less H cs) ds vs) := by
  have out : ∀ {a : Addr} {o : HO}, H a = some o → (∀ φ, o ≠ .ext φ) → less H cs a = some o := fun {a o} e no => by
    rw [less_out (fun m => by obtain ⟨φ, q⟩ := hc a m; rw [e] at q; exact no _ (Option.some.inj q))]; exact e
  intro n
  induction n with
  | zero =>
    refine ⟨fun d v hz => ?_, fun ds vs hz => ?_⟩
    · cases d <;> simp at hz
    · cases ds <;> simp at hz
  | succ n ih =>
    refine ⟨fun d v hz nc h => ?_, fun ds vs hz nc h => ?_⟩
    · cases d with
      | tup ds =>
        rw [Rep] at h ⊢
        obtain ⟨a, xs, e, f, l⟩ := h
        refine ⟨a, xs, e, ?_, ih.2 ds xs (by simp at hz; omega) (by simpa [noClo] using nc) l⟩
        rcases f with ⟨f | ⟨o, f⟩, n1, n2⟩ | f
        · exact .inl ⟨.inl (out f fun _ z => by cases z), n1, n2⟩
        · exact .inl ⟨.inr ⟨o, out f fun _ z => by cases z⟩, n1, n2⟩
        · exact .inr f
      | lst ds =>
        rw [Rep] at h ⊢
        obtain ⟨a, xs, e, f, l⟩ := h
        refine ⟨a, xs, e, ?_, ih.2 ds xs (by simp at hz; omega) (by simpa [noClo] using nc) l⟩
        rcases f with ⟨f | ⟨o, f⟩, n1, n2⟩ | f
        · exact .inl ⟨.inl (out f fun _ z => by cases z), n1, n2⟩
        · exact .inl ⟨.inr ⟨o, out f fun _ z => by cases z⟩, n1, n2⟩
        · exact .inr f
      | loc k => rw [Rep] at h ⊢; exact h
      | dct t ks ds =>
        simp only [noClo, Bool.and_eq_true] at nc
        cases t with
        | false =>
          rw [Rep] at h ⊢
          obtain ⟨a, o, l, xs, e, n1, n2, h1, h2, h3, h4⟩ := h
          exact ⟨a, o, l, xs, e, n1, n2, out h1 (fun _ z => by cases z), h2, h3, ih.2 ds xs (by simp at hz; omega) nc.2 h4⟩
        | true =>
          rw [Rep] at h ⊢
          obtain ⟨a, o, l, bs, xs, e, n1, n2, h1, h2, h3, h4, h5, h6, h7⟩ := h
          exact ⟨a, o, l, bs, xs, e, n1, n2, out h1 (fun _ z => by cases z), h2, h3, h4, h5, ih.2 ks bs (by simp at hz; omega) nc.1 h6, ih.2 ds xs (by simp at hz; omega) nc.2 h7⟩
      | clo k cs => simp [noClo] at nc
      | _ => rw [Rep] at h ⊢; exact h
    · cases ds with
      | nil => rw [RepL] at h ⊢; exact h
      | cons d ds =>
        simp only [noCloL, Bool.and_eq_true] at nc
        rw [RepL] at h ⊢
        obtain ⟨v, vs', e, h1, h2⟩ := h
        exact ⟨v, vs', e, ih.1 d v (by simp at hz; omega) nc.1 h1, ih.2 ds vs' (by simp at hz; omega) nc.2 h2⟩
theorem noClo_mem {xs : List D} (h : noCloL xs = true) {d : D} (hd : d ∈ xs) : noClo d = true := by
  rw [noCloL_all, List.all_eq_true] at h
  exact h d hd
theorem keyOk_noClo {d : D} (h : keyOk d = true) : noClo d = true := by
  have go : ∀ n, (∀ d : D, kOk n d = true → noClo d = true) ∧ (∀ ds : List D, kOkL n ds = true → noCloL ds = true) := by
    intro n
    induction n with
    | zero =>
      have a : ∀ d : D, kOk 0 d = true → noClo d = true := fun d h => by cases d <;> simp [kOk] at h <;> simp [noClo]
      refine ⟨a, fun ds => ?_⟩
      induction ds with
      | nil => intro _; simp [noCloL]
      | cons d ds ih => intro h; simp [kOkL] at h; simp [noCloL, a d h.1, ih h.2]
    | succ n ih =>
      have a : ∀ d : D, kOk (n + 1) d = true → noClo d = true := fun d h => by
        cases d <;> simp [kOk] at h <;> simp [noClo]
        exact ih.2 _ h
      refine ⟨a, fun ds => ?_⟩
      induction ds with
      | nil => intro _; simp [noCloL]
      | cons d ds ih => intro h; simp [kOkL] at h; simp [noCloL, a d h.1, ih h.2]
  exact (go 8).1 d (keyOk_k h)
theorem repS_less' {S : Sto} (hne : ∀ b ∈ cs, ∀ q, H b ≠ some (LamX.CodeO b q)) (hc : ∀ b ∈ cs, b ∉ r ∧ b ∉ z ∧ ∃ φ, H b = some (.ext φ)) (rs : RepS K r z H S) : RepS K r z (less H cs) S := by
  have hx : ∀ b ∈ cs, ∃ φ, H b = some (.ext φ) := fun b hb => (hc b hb).2.2
  have rl := fun (d : D) (v : V) nc h => (rep_less (K := K) (r := r) (z := z) hx (sizeOf d)).1 d v (Nat.le_refl _) nc h
  have rls := fun (d : List D) (v : List V) nc h => (rep_less (K := K) (r := r) (z := z) hx (sizeOf d)).2 d v (Nat.le_refl _) nc h
  refine ⟨rs.len, rs.nd, rs.ap, fun a m => ?_, fun p hp => ?_, fun n ob e => ?_⟩
  · rw [less_out fun q => (hc a q).2.1 m]; exact rs.zz a m
  · obtain ⟨ps, h1, h2, h3, h4, h5⟩ := rs.tb p hp
    refine ⟨ps, ?_, h2, h3, h4, fun pos cv hcv => ?_⟩
    · rw [less_out fun q => by obtain ⟨φ, e⟩ := hx _ q; rw [h1] at e; cases e]; exact h1
    · obtain ⟨c, e1, e2, e3, e4⟩ := h5 pos cv hcv
      refine ⟨c, e1, e2, e3, ?_⟩
      rw [less_out fun q => hne c q _ e4]
      exact e4
  · obtain ⟨a, h1, h2⟩ := rs.ob n ob e
    have nm : a ∉ cs := fun q => (hc a q).1 (List.mem_of_getElem? h1)
    refine ⟨a, h1, ?_⟩
    have ea : less H cs a = H a := less_out nm
    cases ob with
    | list ds => obtain ⟨c, xs, g1, g2⟩ := h2; exact ⟨c, xs, ea.trans g1, rls _ _ c g2⟩
    | dict kvs =>
      obtain ⟨c, xs, g1, g2⟩ := h2
      refine ⟨c, xs, ea.trans g1, ?_⟩
      have go : ∀ {kvs : List (D × D)} {l : List (Key × V)}, noCloL (kvs.map (·.2)) = true → RepD K r z H kvs l → RepD K r z (less H cs) kvs l := by
        intro kvs
        induction kvs with
        | nil => intro l _ h; exact h
        | cons p ps ih =>
          intro l nc h
          obtain ⟨k, v, l', e, k1, k2, k3⟩ := h
          simp only [List.map_cons, noCloL, Bool.and_eq_true] at nc
          exact ⟨k, v, l', e, k1, rl _ _ nc.1 k2, ih nc.2 k3⟩
      exact go c g2
    | map lk kvs =>
      obtain ⟨c, xs, g1, g2⟩ := h2
      refine ⟨c, xs, g1.eq ea, ?_⟩
      have go : ∀ {kvs : List (D × D)} {l : List (NestedKey × Addr × V)}, noCloL (kvs.map (·.2)) = true → RepM K r z H kvs l → RepM K r z (less H cs) kvs l := by
        intro kvs
        induction kvs with
        | nil => intro l _ h; exact h
        | cons p ps ih =>
          intro l nc h
          obtain ⟨b, v, l', e, k1, k2, k3, k4⟩ := h
          simp only [List.map_cons, noCloL, Bool.and_eq_true] at nc
          exact ⟨b, v, l', e, k1, rl _ _ (keyOk_noClo k1) k2, rl _ _ nc.1 k3, ih nc.2 k4⟩
      exact go c g2
    | inst _ _ => exact h2
end
/-- back again -/
theorem more_rep {K : Kw} {r z : List Addr} {H H' : Hp} {cs : List Addr} (hn : ∀ b ∈ cs, H' b = none) : (∀ (d : D) (v : V), Rep K r z H' d v → Rep K r z (more_ H H' cs) d v) ∧ (∀ (ds : List D) (vs : List V), RepL K r z H' ds vs → RepL K r z (more_ H H' cs) ds vs) :=
  Rep.move (fun _ _ e => e) fun a ob e n1 n2 => ⟨by rw [more_out fun m => by rw [hn a m] at e; cases e]; exact e, n1, n2⟩
theorem more_S {K : Kw} {r z : List Addr} {H H' : Hp} {cs : List Addr} {S : Sto} (hn : ∀ b ∈ cs, H' b = none) (rs : RepS K r z H' S) : RepS K r z (more_ H H' cs) S := by
  have out : ∀ a, H' a ≠ none → a ∉ cs := fun a h m => h (hn a m)
  refine ⟨rs.len, rs.nd, rs.ap, fun a m => ?_, fun p hp => (rs.tb p hp).move fun a ob e n1 n2 => ⟨by rw [more_out (out a (by rw [e]; exact fun z => nomatch z))]; exact e, n1, n2⟩, fun n ob e => ?_⟩
  · rw [more_out (out a (rs.zz a m))]; exact rs.zz a m
  · obtain ⟨a, h1, h2⟩ := rs.ob n ob e
    exact ⟨a, h1, h2.move (more_out (out a (rs.some (List.mem_of_getElem? h1)))) (more_rep hn).1 (more_rep hn).2⟩
theorem more_step {r r' : List Addr} {H H' : Hp} {cs : List Addr} (st : Step r (less H cs) r' H') (hr : ∀ a ∈ r', H' a ≠ none) (hn : ∀ b ∈ cs, H' b = none) (hx : ∀ b ∈ cs, ∃ φ, H b = some (.ext φ)) : Step r H r' (more_ H H' cs) := by
  obtain ⟨l, rfl, hl⟩ := st.more
  refine ⟨fun a o e n t => ?_, ⟨l, rfl, fun a m => ?_⟩, fun a h => ?_, fun a o u e => ?_⟩
  · by_cases q : a ∈ cs
    · rw [more_in q]; exact e
    · rw [more_out q]; exact st.keep a o (by rw [less_out q]; exact e) n t
  · have q : a ∉ cs := fun q => hr a (List.mem_append_right _ m) (hn a q)
    rw [← less_out (H := H) q]; exact hl a m
  · by_cases q : a ∈ cs
    · rw [more_in q]; exact h
    · rw [more_out q]; exact st.dom a (by rw [less_out q]; exact h)
  · by_cases q : a ∈ cs
    · obtain ⟨φ, e'⟩ := hx a q; rw [e] at e'; cases e'
    · rw [more_out q]; exact st.frz a o u (by rw [less_out q]; exact e)
/-! ### the call -/
section
variable {P : Program} {w : World} {K : PySem.W.Frag} {mg : Str → Option Value} {base : Heap}
/-- the den of a closure is kept: what it takes along, then its arguments -/
structure CloG (P : Program) (w : World) (K : PySem.W.Frag) (mg : Str → Option Value) (base : Heap) (k j : Nat) (den : Dn) : Prop where
  run : ∀ (A : Around) (outer : List Env) (s : Shared) (H : Hp) (r z : List Addr) (S : Sto) (cs xs : List D) (f : Addr) (us : List Value) (ws : List V) (Q : VK) (E : XK), A.guards = some [] → Room k A → Env0 P w K mg base A outer s H →
    Rep (kwOf K w mg) r z H (.clo j cs) (.ref f) → RepS (kwOf K w mg) r z H S → RepL (kwOf K w mg) r z H xs ws → Vals ws us → noCloL xs = true →
    Fin r H (den (cs ++ xs) S) (kE (kwOf K w mg) z Q) (fun r' H' x _ S' => RepS (kwOf K w mg) r' z H' S' → ∀ cls d, RepX (kwOf K w mg) mg r' z H' x cls d → E cls d H') →
    codeAny (model P w) A (.call (.ref f) ⟨us, []⟩) (CR (L2.CX P w) outer P w H s Q E) s
theorem zip_rev_lookup : ∀ {ps : List Str} {us : List Value} {i : Nat} {x : Str} {u : Value}, ps.Nodup → ps[i]? = some x → us[i]? = some u → ps.length = us.length → ((ps.zip us).reverse).lookup x = some u := by
  intro ps us i x u nd h1 h2 hl
  have mem : (x, u) ∈ (ps.zip us).reverse := by
    rw [List.mem_reverse]
    exact List.mem_of_getElem? (i := i) (by rw [List.getElem?_zip_eq_some]; exact ⟨h1, h2⟩)
  have uniq : ∀ {l : List (Str × Value)}, (l.map (·.1)).Nodup → (x, u) ∈ l → l.lookup x = some u := by
    intro l
    induction l with
    | nil => intro _ h; cases h
    | cons p l ih =>
      intro nd h
      obtain ⟨p1, p2⟩ := p
      rw [List.map_cons, List.nodup_cons] at nd
      rcases List.mem_cons.mp h with e | h
      · cases e; simp [List.lookup]
      · have : (x == p1) = false := by
          have : x ≠ p1 := fun e => nd.1 (by rw [← e]; exact List.mem_map.mpr ⟨_, h, rfl⟩)
          simpa using this
        simp only [List.lookup, this]
        exact ih nd.2 h
  refine uniq ?_ mem
  rw [List.map_reverse, List.map_fst_zip (by omega)]
  exact List.pairwise_reverse.mpr (nd.imp fun h e => h e.symm)
theorem clo_ok {k j : Nat} {m : MEx} (L : LamOk (Lt.lam j)) (hB : LamB P w K mg base k (Lt.lam j) m) : CloG P w K mg base (k + 1) j (mLam ((Lt.lam j).caps.length + (Lt.lam j).ps.length) (Lt.lam j).more.length m) := by
  refine ⟨fun A outer s H r z S cs xs f us ws Q E hg hr e0 hrep rs hxs ru ncx F => ?_⟩
  generalize eL : Lt.lam j = lc at *
  rw [Rep] at hrep
  obtain ⟨f', cl, vs, ef, nc, ⟨c', pm, ctv, n1, n2, n3, n4, g1, g2⟩, hcells, hcs⟩ := hrep
  cases ef
  have eL' : (kwOf K w mg).lam j = lc := eL
  rw [eL'] at g1 g2 hcells
  have lenC : cs.length = lc.caps.length := by rw [hcs.length, hcells.len]
  -- the arguments' number
  have lenA : cs.length + xs.length = lc.caps.length + lc.ps.length := by
    by_cases c : (cs ++ xs).length = lc.caps.length + lc.ps.length
    · simpa using c
    · unfold mLam at F; rw [if_neg c] at F; exact F.elim
  have lenX : xs.length = lc.ps.length := by omega
  have lenU : us.length = lc.ps.length := by rw [← ru.length, ← hxs.length, lenX]
  have hf : s.heap.get? f = some (PySem.W.kla_obj "<lambda>" lc.qual lc.params lc.body lc.scope cl pm c' ctv) := (e0.hok f _ g1).1
  obtain ⟨⟨oc, ovs, ot, hoc, hdc, hvc⟩, _, _⟩ := e0.hok c' _ g2
  -- the cells
  let X0 := cellsOf lc.caps cl
  have hX : ∀ b ∈ X0, b ∉ r ∧ b ∉ z ∧ ∃ v, CellH H b v := fun b hb => by
    obtain ⟨_, _, v, _, _, _, h2, h3, h4⟩ := hcells.mem hb
    exact ⟨h2, h3, v, h4⟩
  have hXe : ∀ b ∈ X0, ∃ φ, H b = some (.ext φ) := fun b hb => let ⟨_, _, v, _, _, e, _⟩ := hX b hb; ⟨_, e⟩
  have e0' : Env0 P w K mg base A outer s (less H X0) := by
    refine ⟨e0.frames, e0.mod, fun b o e => ⟨(e0.bs b o e).1, ?_⟩, e0.bsz, e0.funs, fun b hb => ?_, fun b u e => ?_, e0.bare⟩
    · by_cases q : b ∈ X0
      · exact less_in q
      · rw [less_out q]; exact (e0.bs b o e).2
    · by_cases q : b ∈ X0
      · exact less_in q
      · rw [less_out q]; exact e0.frf b hb
    · have q : b ∉ X0 := fun q => by rw [less_in q] at e; cases e
      rw [less_out q] at e
      refine (e0.hok b u e).stay (fun _ _ _ e => e) (fun c e => ?_) fun c xs e => ?_
      · rw [less_out (fun m => by obtain ⟨φ, e'⟩ := hXe c m; rw [e] at e'; cases e')]; exact e
      · rw [less_out (fun m => by obtain ⟨φ, e'⟩ := hXe c m; rw [e] at e'; cases e')]; exact e
  have lim := e0.mod.nolimit.keeps (h' := s.heap) fun b o e => And.left (e0.bs b o e)
  refine PySem.W.kla_callFunE hr.depth hf rfl L.co L.gen rfl ⟨c', oc, ovs, ot, rfl, hoc, hdc, hvc⟩ ?_
  rw [L.bind _ _ _ _ _ us lenU]
  refine wpAny_pure (wpAny_newFunctionEnv L.nocell (fun y hy => L.par y.1 (List.of_mem_zip (show (y.1, y.2) ∈ lc.ps.zip us from hy)).1) (fun h₁ hns hsb => ⟨lim.fresh _ hsb, ?_⟩) L.kind)
  show codeAny _ _ (.expr lc.body (lamEnv lc cl s.heap.objs.size f c')) _ _
  have kp b o (e : s.heap.get? b = some o) : h₁.get? b = some o := hsb.extBut b o (Nat.ne_of_lt (Heap.lt_size e)) (Heap.get?_push_of_some _ e)
  let σ0 : L2.St := (vs.map some ++ ws.map some) ++ List.replicate lc.more.length none
  have lenV : vs.length = lc.caps.length := hcells.len.symm
  have lenW : ws.length = lc.ps.length := by rw [← hxs.length, lenX]
  have noA : ∀ b : Addr, b ∉ ([] : List Addr) := by simp
  have J : Inv (lamCx P w K mg base lc cl f c' A outer s (less H X0) E) [] σ0 (less H X0) { s with heap := h₁, toks := s.toks + (lc.ps.zip us).length } := by
    refine ⟨⟨e0'.mod, L.kind, rfl, rfl, Nat.le_refl _, hcells.inj, fun y hy => ?_, fun y c q _ => ?_, fun _ => hr.hd, Around.frames_deeper e0'.frames, .inr ⟨rfl, rfl⟩, fun b q => absurd q (noA b), e0'.bs, e0'.bsz, fun b _ _ => noA b, fun b q => absurd q (noA b), e0'.funs, e0'.frf⟩,
      rfl, e0'.bare, Un.kept kp, ⟨_, hns, fun i y v a1 a2 a3 => ?_⟩, fun y c e => ?_, e0'.hok.fresh (Nat.le_refl _), fun y c e => less_in (hcells.is e), fun q hq => absurd (show q ∈ ([] : List (Addr × Obj)) ++ [] from hq) (by simp), e0'.hok.kept kp, by simp [σ0, lenV, lenW, lamCx, LamC.N]⟩
    · have hy : lc.scope.names.lookup y = some .cell ∨ lc.scope.names.lookup y = some .free := hy
      rcases hy with hy | hy
      · exact absurd rfl (L.nocell _ (PySem.mem_of_lookup hy))
      · obtain ⟨i, hi, ei⟩ := List.getElem_of_mem (L.free _ (PySem.mem_of_lookup hy) rfl)
        obtain ⟨c, h1, _⟩ := hcells.at_ i y (vs[i]'(by omega)) (by rw [List.getElem?_eq_getElem hi, ei]) (by rw [List.getElem?_eq_getElem (by omega)])
        exact ⟨c, h1⟩
    · have q : false = true := q
      cases q
    · have a1 : (lc.caps ++ lc.ps ++ lc.more)[i]? = some y := a1
      have a2 : ((vs.map some ++ ws.map some) ++ List.replicate lc.more.length none)[i]? = some (some v) := a2
      by_cases i1 : i < lc.caps.length
      · rw [List.append_assoc, List.getElem?_append_left i1] at a1
        rw [List.append_assoc, List.getElem?_append_left (by simp; omega), List.getElem?_map] at a2
        cases hv : vs[i]? with
        | none => rw [hv] at a2; cases a2
        | some v' =>
          rw [hv] at a2; cases a2
          obtain ⟨c, h1, h2, h3, o, u, h4, hd, ru⟩ := hcells.at_ i y v a1 hv
          have ho := (e0.hok c _ h4).1
          have fr := L.capf y (List.mem_of_getElem? a1)
          exact ⟨u, ru, .inr ⟨.inr fr, c, h1, o, kp _ _ ho, hd⟩⟩
      · by_cases i2 : i < lc.caps.length + lc.ps.length
        · rw [List.getElem?_append_left (by simp; omega), List.getElem?_append_right (by omega)] at a1
          rw [List.getElem?_append_left (by simp; omega), List.getElem?_append_right (by simp; omega), List.getElem?_map] at a2
          simp only [List.length_map, lenV] at a2
          cases hv : ws[i - lc.caps.length]? with
          | none => rw [hv] at a2; cases a2
          | some v' =>
            rw [hv] at a2; cases a2
            have hu : i - lc.caps.length < us.length := by omega
            have ndp : lc.ps.Nodup := by
              have := L.nd
              unfold LamC.N at this
              rw [List.nodup_append, List.nodup_append] at this
              exact this.1.2.1
            have rel : RelV v (us[i - lc.caps.length]) := by
              have : ∀ {ws : List V} {us : List Value} {i : Nat} {v : V} (h : i < us.length), Vals ws us → ws[i]? = some v → RelV v us[i] := by
                intro ws us i v h rv
                induction rv generalizing i with
                | nil => intro e; simp at e
                | cons q _ ih =>
                  intro e
                  cases i with
                  | zero => simp at e; subst e; exact q
                  | succ i => exact ih (by simpa using h) (by simpa using e)
              exact this hu ru hv
            exact ⟨_, rel, .inl ⟨L.par y (List.mem_of_getElem? a1), zip_rev_lookup ndp a1 (by rw [List.getElem?_eq_getElem hu]) (by omega)⟩⟩
        · rw [List.getElem?_append_right (by simp; omega), List.getElem?_replicate] at a2
          split at a2 <;> cases a2
    · obtain ⟨_, _, v, _, _, _, _, _, o, u, h4, hd, _⟩ := hcells.mem (hcells.is e)
      exact ⟨_, o, kp _ _ (e0.hok c _ h4).1, hd⟩
  have nfr : ∀ b ∈ X0, b ∉ frs outer := fun b hb m => by
    obtain ⟨φ, e⟩ := hXe b hb
    rw [e0.frf b m] at e; cases e
  have cellAt : ∀ b ∈ X0, ∃ o, s.heap.get? b = some o := fun b hb => by
    obtain ⟨_, _, v, _, _, e, _⟩ := hX b hb
    obtain ⟨_, ⟨o, ho⟩, _⟩ := e0.hok b _ e
    exact ⟨o, ho⟩
  -- a heap that keeps the cells' objects holds what is tracked
  have hokM : ∀ {H' : Hp} {h' : Heap}, HOk P w H' h' → (∀ b ∈ X0, H' b = none) → (∀ b ∈ X0, ∀ o, s.heap.get? b = some o → h'.get? b = some o) → HOk P w (more_ H H' X0) h' := by
    intro H' h' ok hn kc b u e
    by_cases q : b ∈ X0
    · rw [more_in q] at e
      obtain ⟨_, _, v, _, _, e', _⟩ := hX b q
      rw [e'] at e; cases e
      obtain ⟨h1, ⟨o, ho⟩, h3⟩ := e0.hok b _ e'
      exact ⟨h3 _ _ h1 (kc b q), ⟨o, kc b q o ho⟩, h3⟩
    · rw [more_out q] at e
      refine (ok b u e).stay (fun _ _ _ e => e) (fun c e => ?_) fun c xs e => ?_
      · rw [more_out (fun m => by rw [hn c m] at e; cases e)]; exact e
      · rw [more_out (fun m => by rw [hn c m] at e; cases e)]; exact e
  let E' : XK := fun cls d H' => (∀ b ∈ X0, H' b = none) → E cls d (more_ H H' X0)
  let Q' : VK := fun v H' => (∀ b ∈ X0, H' b = none) → Q v (more_ H H' X0)
  have J' : Inv (lamCx P w K mg base lc cl f c' A outer s (less H X0) E') [] σ0 (less H X0) { s with heap := h₁, toks := s.toks + (lc.ps.zip us).length } := ⟨⟨J.ok.mod, J.ok.kind, J.ok.glob, J.ok.blt, J.ok.above, J.ok.inj, J.ok.has, J.ok.cab, J.ok.hd, J.ok.frames, J.ok.stk, J.ok.exf, J.ok.bs, J.ok.bsz, J.ok.noex, J.ok.exfs, J.ok.funs, J.ok.frf⟩, J.os, J.bare, J.base, J.loc, J.cell, J.free, J.freeC, J.pin, J.hok, J.len⟩
  have hne : ∀ b ∈ X0, ∀ q, H b ≠ some (LamX.CodeO b q) := fun b hb q e4 => by
    obtain ⟨_, _, v, o2, u, e, g4, _⟩ := hX b hb
    obtain ⟨⟨oc, us, t, g1, g2, _⟩, _⟩ := e0.hok b _ e4
    have g3 : s.heap.get? b = some o2 := (e0.hok b _ e).1
    rw [g1] at g3; cases g3
    rw [g2] at g4; cases g4
  have rS := repS_less' hne (fun b hb => ⟨(hX b hb).1, (hX b hb).2.1, hXe b hb⟩) rs
  have rl := fun (d : List D) (v : List V) nc h => (rep_less (K := kwOf K w mg) (r := r) (z := z) hXe (sizeOf d)).2 d v (Nat.le_refl _) nc h
  have rE : RepE (kwOf K w mg) r z (less H X0) σ0 ((cs ++ xs).map some ++ List.replicate lc.more.length none) := by
    have hall : RepL (kwOf K w mg) r z (less H X0) (cs ++ xs) (vs ++ ws) := (rl _ _ nc hcs).append (rl _ _ ncx hxs)
    refine ⟨by simp [σ0, hcs.length, hxs.length], fun i d h => ?_⟩
    by_cases hi : i < (cs ++ xs).length
    · rw [List.getElem?_append_left (by simpa using hi), List.getElem?_map] at h
      cases q : (cs ++ xs)[i]? with
      | none => rw [q] at h; cases h
      | some d' =>
        rw [q] at h; cases h
        obtain ⟨v, h1, h2⟩ := hall.got q
        refine ⟨v, ?_, h2⟩
        show ((vs.map some ++ ws.map some) ++ _)[i]? = _
        rw [← List.map_append, List.getElem?_append_left (by have := hall.length; simp at this hi ⊢; omega), List.getElem?_map, h1]; rfl
    · rw [List.getElem?_append_right (by simpa using hi), List.getElem?_replicate] at h
      split at h <;> cases h
  have F2 : Fin r H (match m ((cs ++ xs).map some ++ List.replicate lc.more.length none) S with | .ok d S => Out.ok d S | .exc x _ S => .exc x [] S | .bad => .bad) (kE (kwOf K w mg) z Q) (fun r' H' x _ S' => RepS (kwOf K w mg) r' z H' S' → ∀ cls d, RepX (kwOf K w mg) mg r' z H' x cls d → E cls d H') := by
    have c : (cs ++ xs).length = lc.caps.length + lc.ps.length := by simpa using lenA
    have e : mLam (lc.caps.length + lc.ps.length) lc.more.length m (cs ++ xs) S = (match m ((cs ++ xs).map some ++ List.replicate lc.more.length none) S with | .ok d S => Out.ok d S | .exc x _ S => .exc x [] S | .bad => .bad) := by
      unfold mLam; rw [if_pos c]
    rw [← e]; exact F
  refine PySem.W.kla_codeExpr (wpAny_mono ((hB cl f c' A outer s (less H X0) E' hg (hr.deeper _)).run [] _ σ0 (less H X0) Q' J' ⟨r, z, _, S, ⟨rS, rE⟩, ?_⟩) (fun v s' hq => ?_) fun e s' hq => ?_)
  · cases q : m ((cs ++ xs).map some ++ List.replicate lc.more.length none) S with
    | bad => rw [q] at F2; exact F2
    | ok d S1 =>
      rw [q] at F2
      exact fun r' H' st rs' v rv hn => F2 r' _ (more_step st (fun a m => rs'.some m) hn hXe) (more_S hn rs') v ((more_rep hn).1 _ _ rv)
    | exc x e' S1 =>
      rw [q] at F2
      intro r' H' st σ' cls d A' rx hn
      obtain ⟨C, q1, q2, q3⟩ := rx
      refine F2 r' _ (more_step st (fun a m => A'.s.some m) hn hXe) (more_S hn A'.s) cls d ⟨C, q1, q2, q3.imp id fun ⟨p, ys, k1, k2, k3, k4, k5⟩ => ⟨p, ys, k1, k2, k3, ?_, (more_rep hn).2 _ _ k5⟩⟩
      rw [more_out fun m => by rw [hn p m] at k4; cases k4]; exact k4
  · obtain ⟨v', H', J2, rv, q⟩ := hq
    have hn : ∀ b ∈ X0, H' b = none := fun b hb => by
      obtain ⟨o, ho⟩ := cellAt b hb
      exact J2.base.free b o ho (less_in hb) (by simp [lamCx])
    have un : Un (frs outer) [] (less H X0) H' s.heap s'.heap := J2.base
    refine ⟨v', _, J2.os, J2.bare, ?_, hokM J2.hok hn (fun b hb o ho => un.keep b o ho (less_in hb) (nfr b hb) (by simp)), rv, q hn⟩
    have lo : ∀ {b : Addr}, H b = none → less H X0 b = none := fun {b} e => by
      by_cases q : b ∈ X0
      · exact less_in q
      · rw [less_out q]; exact e
    have ne : ∀ {b : Addr} {o : HO}, H b = some o → (∀ φ, o ≠ .ext φ) → b ∉ X0 := fun {b o} e no q => by
      obtain ⟨φ, e'⟩ := hXe b q
      rw [e] at e'
      exact no _ (Option.some.inj e')
    exact ⟨fun b o e n => un.keep b o e (lo n), fun b o e n => un.slot b o e (lo n), fun b o e n x => by
        have : b ∉ X0 := fun q => by obtain ⟨φ, e'⟩ := hXe b q; rw [n] at e'; cases e'
        rw [more_out this]; exact un.free b o e (lo n) x, un.there,
      fun b xs e => by have := ne e (fun _ z => by cases z); rw [more_out this]; exact un.tups b xs (by rw [less_out this]; exact e),
      fun b o u e => by have := ne e (fun _ z => by cases z); rw [more_out this]; exact un.frzs b o u (by rw [less_out this]; exact e),
      fun b ps e => by have := ne e (fun _ z => by cases z); rw [more_out this]; exact un.tbls b ps (by rw [less_out this]; exact e)⟩
  · have conv : ∀ {u : Value} {s'' : Shared}, L2.CX P w outer (less H X0) s E' u s'' → L2.CX P w outer H s E u s'' := by
      rintro u s'' ⟨a, B, H', cls, d, rfl, fl, ok, ub, na, os, ag, hE⟩
      have hn : ∀ b ∈ X0, H' b = none := fun b hb => by
        obtain ⟨o, ho⟩ := cellAt b hb
        exact ub.free b o ho (less_in hb)
      have kc : ∀ b ∈ X0, ∀ o, s.heap.get? b = some o → B.get? b = some o := fun b hb o ho => ub.keep b o ho (less_in hb) (nfr b hb)
      have lo : ∀ {b : Addr}, H b = none → less H X0 b = none := fun {b} e => by
        by_cases q : b ∈ X0
        · exact less_in q
        · rw [less_out q]; exact e
      have ne : ∀ {b : Addr} {o : HO}, H b = some o → (∀ φ, o ≠ .ext φ) → b ∉ X0 := fun {b o} e no q => by
        obtain ⟨φ, e'⟩ := hXe b q
        rw [e] at e'
        exact no _ (Option.some.inj e')
      have nX : a ∉ X0 := fun q => by
        obtain ⟨o, ho⟩ := cellAt a q
        have := kc a q o ho
        rw [fl.2.1] at this; cases this
      refine ⟨a, B, more_ H H' X0, cls, d, rfl, fl, hokM ok hn kc, ⟨fun b o e n => ub.keep b o e (lo n), ub.slot, fun b o e n => ?_, ub.there, fun b xs e => ?_, fun b o u e => ?_, fun b ps e => ?_⟩, by rw [more_out nX]; exact na, os, ag, hE hn⟩
      · have : b ∉ X0 := fun q => by obtain ⟨φ, e'⟩ := hXe b q; rw [n] at e'; cases e'
        rw [more_out this]; exact ub.free b o e (lo n)
      · have := ne e (fun _ z => by cases z); rw [more_out this]; exact ub.tups b xs (by rw [less_out this]; exact e)
      · have := ne e (fun _ z => by cases z); rw [more_out this]; exact ub.frzs b o u (by rw [less_out this]; exact e)
      · have := ne e (fun _ z => by cases z); rw [more_out this]; exact ub.tbls b ps (by rw [less_out this]; exact e)
    exact wpAny_mono hq (fun _ s'' h => conv h) fun e' s'' h => conv h
end
end Mp
end SMpV

section SMpW
set_option Elab.async false
set_option linter.all false
set_option maxRecDepth 100000
set_option maxHeartbeats 2000000
open PySem PySem.Spec PyProof.Rows L2
namespace Mp
variable [Lt]
section
variable {X : Cx} {W : WX} {k i : Nat} {tab : Nat → Dn} {a : Str} {p1 p2 : Pos}
theorem clo_bad {P : Program} {w : World} {K : PySem.W.Frag} {mg : Str → Option Value} {base : Heap} {k j : Nat} : CloG P w K mg base k j (fun _ _ => .bad) := ⟨fun _ _ _ _ _ _ _ _ _ _ _ _ _ _ _ _ _ _ _ _ _ _ F => F.elim⟩
theorem CloG.mono {P : Program} {w : World} {K : PySem.W.Frag} {mg : Str → Option Value} {base : Heap} {k k' j : Nat} {d : Dn} (h : CloG P w K mg base k j d) (hk : k ≤ k') : CloG P w K mg base k' j d :=
  ⟨fun A outer s H r z S cs xs f us ws Q E hg hr => h.run A outer s H r z S cs xs f us ws Q E hg (hr.mono hk)⟩
/-- the end of a closure's call, seen from the caller -/
theorem clo_end {pins : List (Addr × Obj)} {s1 : Shared} {σ : L2.St} {H1 : Hp} {r1 z : List Addr} {e : Ev} {S1 : Sto} {j : Nat} {cs : List D} {f : Addr} {us : List Value} {ws : List V} {xs : List D} {Q : VK} (hT : ∀ j, CloG X.prog X.w X.K X.mg X.base k j (tab j)) (hgd : X.A.guards = some []) (hr : Room k X.A) (tk : Takes X W)
    (I1 : Inv X pins σ H1 s1) (A1 : All X.kw r1 z H1 σ e S1) (hrep : Rep X.kw r1 z H1 (.clo j cs) (.ref f)) (hx : RepL X.kw r1 z H1 xs ws) (ru : Vals ws us)
    (F1 : Fin r1 H1 (if noCloL xs = true then (match tab j (cs ++ xs) S1 with | .ok d S => .ok d S | .exc x _ S => .exc x e S | .bad => .bad) else .bad) (kE X.kw z Q) (xpG X.kw X.mg z W)) :
    wpAny (model X.prog X.w) X.A (call (.ref f) us) (EP X pins σ Q) X.xe s1 := by
  by_cases nx : noCloL xs = true
  case neg => rw [if_neg nx] at F1; exact F1.elim
  rw [if_pos nx] at F1
  have F2 : Fin r1 H1 (tab j (cs ++ xs) S1) (kE X.kw z Q) (fun r' H' x _ S' => RepS X.kw r' z H' S' → ∀ cls d, RepX X.kw X.mg r' z H' x cls d → W cls d σ H') := by
    cases q : tab j (cs ++ xs) S1 with
    | bad => rw [q] at F1; exact F1
    | ok d S2 => rw [q] at F1; exact F1
    | exc x e' S2 => rw [q] at F1; exact fun r' H' stp rs cls d rx => F1 r' H' stp σ cls d ⟨rs, A1.e.step stp⟩ rx
  refine wpAny_call (codeAny_mono ((hT j).run X.A X.stack s1 H1 r1 z S1 cs xs f us ws Q (fun cls d H' => W cls d σ H') hgd hr I1.env0 hrep A1.s hx ru nx F2) fun res s' hq => ?_)
  cases res with
  | error u => exact tk u s' (XE.of_call I1 (fun _ _ _ h => h) hq)
  | ok fl =>
    cases fl with
    | ret u => exact I1.after hq
    | next => exact False.elim hq
    | brk => exact False.elim hq
    | cont => exact False.elim hq
theorem clo_fn {pins : List (Addr × Obj)} {s : Shared} {σ : L2.St} {H : Hp} {r z : List Addr} {j : Nat} {cs : List D} {v : V} (I : Inv X pins σ H s) (h : Rep X.kw r z H (.clo j cs) v) : ∃ f, v = .ref f ∧ PySem.W.FnAt f s.heap := by
  rw [Rep] at h
  obtain ⟨f, cl, vs, rfl, _, ⟨c', pm, ctv, _, _, _, _, g1, _⟩, _, _⟩ := h
  exact ⟨f, rfl, _, _, _, _, (I.hok f _ g1).1⟩
/-- x(), x a slot that holds a closure -/
theorem pev_clo0 (hT : ∀ j, CloG X.prog X.w X.K X.mg X.base k j (tab j)) (hgd : X.A.guards = some []) (hr : Room k X.A) (tk : Takes X W) (hN : X.N[i]? = some a := by rfl) (hv : Vis X.env.scope a := by first | exact Or.inl rfl | exact Or.inr (Or.inl rfl) | exact Or.inr (Or.inr rfl)) (hd : (a == ("__debug__" : Str)) = false := by decide) (hcd : (a == ("__classdict__" : Str)) = false := by decide) :
    PEv X W (.Call (.Name a p1) [] [] p2) (mCallC tab i aNil) := by
  refine ⟨fun pins s σ H Q I ⟨r, z, e, S, A, F⟩ => ?_⟩
  unfold mCallC aNil at F
  cases q : e[i]? with
  | none => rw [q] at F; exact F.elim
  | some o =>
    cases o with
    | none => rw [q] at F; exact F.elim
    | some d =>
      rw [q] at F
      obtain ⟨v, h1, h2⟩ := A.e.2 i d q
      have hclo : ∃ j cs, d = .clo j cs := by cases d <;> first | exact ⟨_, _, rfl⟩ | exact F.elim
      obtain ⟨j, cs, rfl⟩ := hclo
      simp only [bind_ok] at F
      obtain ⟨f, rfl, fa⟩ := clo_fn I h2
      refine wpAny_Call_Name_kw (thn ((pe_var (pos := p1) (i := i) hN hv hd hcd).run pins s σ H (fun v H1 => v = .ref f ∧ H1 = H) I ⟨.ref f, h1, rfl, rfl⟩) fun u s1 ⟨v, H1, I1, r1, q1⟩ => ?_)
      obtain ⟨rfl, rfl⟩ := q1
      obtain rfl : u = Value.ref f := r1
      obtain ⟨f', ef, fa⟩ := clo_fn I1 h2
      cases ef
      refine PySem.W.callWith_F0 fa ?_
      exact clo_end hT hgd hr tk I1 A h2 RepL.nil .nil F
/-- x(e, ..) -/
theorem pev_clo {b : Expr} {es : List Expr} {mr : MAs} (hT : ∀ j, CloG X.prog X.w X.K X.mg X.base k j (tab j)) (hgd : X.A.guards = some []) (hr : Room k X.A) (tk : Takes X W) (ha : PAv X W (b :: es) mr) (hN : X.N[i]? = some a := by rfl) (hv : Vis X.env.scope a := by first | exact Or.inl rfl | exact Or.inr (Or.inl rfl) | exact Or.inr (Or.inr rfl)) (hd : (a == ("__debug__" : Str)) = false := by decide) (hcd : (a == ("__classdict__" : Str)) = false := by decide)
    (he : starEach (b :: es) X.env = (false, eval b X.env) :: starEach es X.env := by rfl) (hpl : (backTo p2 (starEach es X.env)).any (·.1) = false := by rfl) :
    PEv X W (.Call (.Name a p1) (b :: es) [] p2) (mCallC tab i mr) := by
  refine ⟨fun pins s σ H Q I ⟨r, z, e, S, A, F⟩ => ?_⟩
  unfold mCallC at F
  have hcl : ∃ j cs, e[i]? = some (some (.clo j cs)) := by
    cases q : e[i]? with
    | none => rw [q] at F; exact F.elim
    | some o =>
      cases o with
      | none => rw [q] at F; exact F.elim
      | some d => rw [q] at F; cases d <;> first | exact ⟨_, _, rfl⟩ | exact F.elim
  · obtain ⟨j, cs, q⟩ := hcl
    simp only [q] at F
    obtain ⟨v, h1, h2⟩ := A.e.2 i _ q
    obtain ⟨f, rfl, fa⟩ := clo_fn I h2
    refine wpAny_Call_Name_kw (thn ((pe_var (pos := p1) (i := i) hN hv hd hcd).run pins s σ H (fun v H1 => v = .ref f ∧ H1 = H) I ⟨.ref f, h1, rfl, rfl⟩) fun u s1 ⟨v, H1, I1, r1, q1⟩ => ?_)
    obtain ⟨rfl, rfl⟩ := q1
    obtain rfl : u = Value.ref f := r1
    obtain ⟨f', ef, fa⟩ := clo_fn I1 h2
    cases ef
    refine PySem.W.callWith_F fa (ha.go I1 A F fun us vs r1 H1 s2 ds S1 st1 I2 ru A1 R1 F1 => ?_) he hpl
    have h3 := h2.step st1
    obtain ⟨f', ef, fa2⟩ := clo_fn I2 h3
    cases ef
    exact ⟨fa2, clo_end hT hgd hr tk I2 A1 h3 R1 ru F1⟩
end
end Mp
end SMpW

section SMpX
set_option Elab.async false
set_option linter.all false
set_option maxRecDepth 100000
set_option maxHeartbeats 2000000
open PySem PySem.Spec PyProof.Rows L2
namespace Mp
variable [Lt]
/-! ### a lambda is made -/
section
variable {X : Cx} {pins : List (Addr × Obj)} {σ : L2.St} {H : Hp} {s : Shared}
/-- a function object on top of the heap, tracked -/
theorem fun_laid {H : Hp} {h' : Heap} {tk : Nat} {o : Obj} (live : o.isFreed = false) (I : Inv X pins σ H { s with heap := h', toks := tk }) : Inv X pins σ (L2.upd H h'.objs.size (FunO h'.objs.size o)) { s with heap := h'.push o, toks := tk } :=
  have top := Heap.get?_push_size h' (o := o) live
  I.laid (t' := tk) (fun _ _ e => Heap.get?_push_of_some _ e) (Nat.le_refl _) ⟨top, ⟨_, top⟩, fun _ _ e k => k _ e⟩
/-- a lambda is made; H1: the tracked part with its code object, old or new -/
theorem lam_make3 {c P : Addr} {q : Str} {ps : Array Value} {params : Arguments} {body : Expr} {scope : Scope} {pos : Pos} {E : Value → Shared → Prop} {Q : Value → Shared → Prop} (I : Inv X pins σ H s) (TB : LamX.TabB X.base X.mg c P) (hcode : X.env.code = .ref c) (hq : q = X.env.qual ++ "<lambda>")
    (hP : H P = some (.tbl ps)) (ht : TriplesOk ps.toList) (ha : ∀ (cv : Value), codeAmong pos ps.toList = some cv → ∃ c, cv = .ref c ∧ H c = some (LamX.CodeO c q)) (hdef : defaultsOf params X.env = ([], [])) (hfree : ∀ y ∈ scope.names, y.2 = .free → ∃ c, X.env.cells.lookup y.1 = some c)
    (h : ∀ (f c' : Addr) (pm ctv : Value) (H1 : Hp) (s' : Shared), Inv X pins σ (L2.upd H1 f (FunO f (PySem.W.kla_obj "<lambda>" q params body scope (cloFrom X.env.cells scope.names []) pm c' ctv))) s' → (H1 = H ∧ codeAmong pos ps.toList = some (.ref c') ∨ H c' = none ∧ H1 = L2.upd (L2.upd H P (.tbl (ps ++ #[rawInt pos.line, rawInt pos.col, .ref c']))) c' (LamX.CodeO c' q)) →
      H1 f = none → H f = none → H1 c' = some (LamX.CodeO c' q) → Q (.ref f) s') : wpAny (model X.prog X.w) X.A (eval (.Lambda params body scope pos) X.env) Q E s := by
  cases hq
  have tab := I.hok P _ hP
  have glob := I.mod.glob.keeps I.bk
  have maker := TB.code.keeps I.bk
  have blt := TB.bm.keeps I.bk
  apply PySem.W.kla_eval hdef
  match old : codeAmong pos ps.toList with
  | some cv =>
    obtain ⟨c', rfl, co⟩ := ha cv old
    exact PySem.W.kla_makeFunctionHit (mg := X.mg) (closure_ok hfree) I.ok.glob glob hcode maker tab ht old blt fun ctv h' tk kept le => h _ c' _ ctv H _ (fun_laid rfl (I.kept kept)) (.inl ⟨rfl, old⟩) (I.hok.fresh le) (I.hok.fresh le) co
  | none =>
    refine PySem.W.kla_makeFunction (mg := X.mg) (closure_ok hfree) I.ok.glob glob hcode maker tab ht old TB.gP blt fun c' ctv h' tk ext le lt made grown => ?_
    rcases made with ⟨_, oc, vs, t, ⟨⟩, there, dat, txt⟩
    have top : H h'.objs.size = none := I.hok.fresh (Nat.le_trans le (Nat.le_of_lt lt))
    have I1 := LamX.inv_table (t' := tk) (more := #[rawInt pos.line, rawInt pos.col, .ref c']) I hP ext grown le ⟨oc, vs, t, there, dat, txt⟩
    refine h _ c' _ ctv _ _ (fun_laid rfl I1) (.inr ⟨I.hok.fresh le, rfl⟩) ?_ top upd_same
    have nP : h'.objs.size ≠ P := fun z => by rw [z, hP] at top; exact nomatch top
    exact (upd_ne (Nat.ne_of_gt lt)).trans ((upd_ne nP).trans top)
/-- as it is told: the function is tracked -/
theorem lam_new {j : Nat} {c P : Addr} {pos : Pos} {E : Value → Shared → Prop} {Q : Value → Shared → Prop} {r z : List Addr} {S : Sto} (I : Inv X pins σ H s) (TB : LamX.TabB X.base X.mg c P) (hcode : X.env.code = .ref c) (hq : (Lt.lam j).qual = X.env.qual ++ "<lambda>")
    (hm : (P, (Lt.lam j).qual) ∈ Lt.tabs X.K X.mg) (hu : ∀ p ∈ Lt.tabs X.K X.mg, p.1 = P → p.2 = (Lt.lam j).qual) (hdef : defaultsOf (Lt.lam j).params X.env = ([], [])) (hfree : ∀ y ∈ (Lt.lam j).scope.names, y.2 = .free → ∃ c, X.env.cells.lookup y.1 = some c) (rs : RepS X.kw r z H S)
    (h : ∀ (f : Addr) (H1 : Hp) (s' : Shared), Inv X pins σ H1 s' → Step r H r H1 → RepS X.kw r z H1 S → CloF r z H1 (Lt.lam j) (cloFrom X.env.cells (Lt.lam j).scope.names []) f → Q (.ref f) s') :
    wpAny (model X.prog X.w) X.A (eval (.Lambda (Lt.lam j).params (Lt.lam j).body (Lt.lam j).scope pos) X.env) Q E s := by
  obtain ⟨ps, hP, nP1, nP2, ht, ha⟩ := rs.tb _ hm
  refine lam_make3 I TB hcode hq hP ht (fun cv hc => let ⟨c, e1, _, _, e4⟩ := ha pos cv hc; ⟨c, e1, e4⟩) hdef hfree fun f c' pm ctv H1 s' I1 hH1 n1 n2 hc' => ?_
  have frf := rs.fresh n2
  -- the heap with the new code object
  have key : Step r H r H1 ∧ RepS X.kw r z H1 S ∧ c' ∉ r ∧ c' ∉ z := by
    rcases hH1 with ⟨rfl, hcA⟩ | ⟨nc, rfl⟩
    · obtain ⟨c2, e1, e2, e3, _⟩ := ha pos _ hcA
      cases e1
      exact ⟨Step.refl _ _, rs, e2, e3⟩
    · have frc := rs.fresh nc
      have ne : ∀ {b : Addr} {o : HO}, H b = some o → isTb o = false → L2.upd (L2.upd H P (.tbl (ps ++ #[rawInt pos.line, rawInt pos.col, .ref c']))) c' (LamX.CodeO c' (Lt.lam j).qual) b = some o := fun {b o} e t => by
        rw [upd_ne (ne_of_none e nc), upd_ne (fun q => by rw [q, hP] at e; cases e; cases t)]; exact e
      have mv : ∀ a o, H a = some o → isTb o = false → a ∉ r → a ∉ z → L2.upd (L2.upd H P (.tbl (ps ++ #[rawInt pos.line, rawInt pos.col, .ref c']))) c' (LamX.CodeO c' (Lt.lam j).qual) a = some o ∧ a ∉ r ∧ a ∉ z := fun a o e t n1 n2 => ⟨ne e t, n1, n2⟩
      have dom : ∀ a, H a ≠ none → L2.upd (L2.upd H P (.tbl (ps ++ #[rawInt pos.line, rawInt pos.col, .ref c']))) c' (LamX.CodeO c' (Lt.lam j).qual) a ≠ none := fun a e => by
        by_cases q : a = c'
        · rw [q, upd_same]; exact fun z => nomatch z
        · by_cases q2 : a = P
          · rw [upd_ne q, q2, upd_same]; exact fun z => nomatch z
          · rw [upd_ne q, upd_ne q2]; exact e
      have st : Step r H r (L2.upd (L2.upd H P (.tbl (ps ++ #[rawInt pos.line, rawInt pos.col, .ref c']))) c' (LamX.CodeO c' (Lt.lam j).qual)) := ⟨fun a o e _ t => ne e t, ⟨[], by simp, by simp⟩, dom, fun a o u e => ne e rfl⟩
      refine ⟨st, ⟨rs.len, rs.nd, rs.ap, fun a m => dom a (rs.zz a m), fun p hp => ?_, fun n ob e => ?_⟩, frc⟩
      · obtain ⟨ps', a1, a2, a3, a4, a5⟩ := rs.tb p hp
        by_cases hb : p.1 = P
        · have e2 := hu p hp hb
          rw [hb, e2]
          have eps : ps' = ps := by rw [hb, hP] at a1; cases a1; rfl
          subst eps
          have eL : (ps' ++ #[rawInt pos.line, rawInt pos.col, .ref c']).toList = ps'.toList ++ [rawInt pos.line, rawInt pos.col, .ref c'] := by simp
          refine ⟨_, by rw [upd_ne (ne_of_none hP nc), upd_same], nP1, nP2, by rw [eL]; exact PySem.TriplesOk_snoc _ _ _ _ ht, fun p' cv hcv => ?_⟩
          rw [eL] at hcv
          rcases LamX.among_app _ ht hcv with q | q
          · obtain ⟨c0, e1, e2, e3, e4⟩ := ha p' cv q
            exact ⟨c0, e1, e2, e3, ne e4 rfl⟩
          · exact ⟨c', q, frc.1, frc.2, upd_same⟩
        · refine ⟨ps', by rw [upd_ne (ne_of_none a1 nc), upd_ne hb]; exact a1, a2, a3, a4, fun p' cv hcv => ?_⟩
          obtain ⟨c0, e1, e2, e3, e4⟩ := a5 p' cv hcv
          exact ⟨c0, e1, e2, e3, ne e4 rfl⟩
      · obtain ⟨a, h1, h2⟩ := rs.ob n ob e
        refine ⟨a, h1, h2.step st ?_⟩
        have hm := List.mem_of_getElem? h1
        rw [upd_ne (show a ≠ c' from fun q => frc.1 (by rw [← q]; exact hm)), upd_ne (show a ≠ P from fun q => nP1 (by rw [← q]; exact hm))]
  obtain ⟨st, rs1, k1, k2⟩ := key
  have fr1 := rs1.fresh n1
  refine h f _ s' I1 (st.trans (Step.upd n1)) (rs1.upd n1) ⟨c', pm, ctv, fr1.1, fr1.2, k1, k2, upd_same, ?_⟩
  rw [upd_ne (ne_of_none hc' n1)]; exact hc'
end
/-! ### a call with lambdas among the arguments -/
abbrev LSp := List (Option (Nat × List Nat))
/-- a lambda at its place: its maker's code object and table -/
structure LamAt (X : Cx) (j : Nat) (caps : List Nat) (e : Expr) : Prop where
  ok : LamOk (Lt.lam j)
  tab : ∃ c P, LamX.TabB X.base X.mg c P ∧ X.env.code = .ref c ∧ (P, (Lt.lam j).qual) ∈ Lt.tabs X.K X.mg ∧ ∀ p ∈ Lt.tabs X.K X.mg, p.1 = P → p.2 = (Lt.lam j).qual
  qual : (Lt.lam j).qual = X.env.qual ++ "<lambda>"
  ex : ∃ pos, e = .Lambda (Lt.lam j).params (Lt.lam j).body (Lt.lam j).scope pos
  dfl : defaultsOf (Lt.lam j).params X.env = ([], [])
  free : ∀ y ∈ (Lt.lam j).scope.names, y.2 = .free → X.env.scope.names.lookup y.1 = some .cell
  fn : ∀ y ∈ (Lt.lam j).caps, X.fn y = true
  caps : (Lt.lam j).caps.map some = caps.map (X.N[·]?)
inductive AR (X : Cx) (W : WX) : List Expr → MAs → LSp → Prop
  | nil : AR X W [] aNil []
  | cons {a : Expr} {ma : MEx} {es : List Expr} {mr : MAs} {sp : LSp} (ha : PEv X W a ma) (hr : AR X W es mr sp) (hs : starEach (a :: es) X.env = (false, eval a X.env) :: starEach es X.env) : AR X W (a :: es) (aCons ma mr) (none :: sp)
  | lam {a : Expr} {j : Nat} {caps : List Nat} {es : List Expr} {mr : MAs} {sp : LSp} (ha : LamAt X j caps a) (hr : AR X W es mr sp) (hs : starEach (a :: es) X.env = (false, eval a X.env) :: starEach es X.env) : AR X W (a :: es) (aLam j caps mr) (some (j, caps) :: sp)
inductive RP (X : Cx) (r z : List Addr) (H : Hp) (e : Ev) : LSp → List D → List V → Prop
  | nil : RP X r z H e [] [] []
  | dat {d : D} {v : V} {sp : LSp} {ds : List D} {vs : List V} (h : Rep X.kw r z H d v) (t : RP X r z H e sp ds vs) : RP X r z H e (none :: sp) (d :: ds) (v :: vs)
  | lam {j : Nat} {caps : List Nat} {cs : List D} {f : Addr} {sp : LSp} {ds : List D} {vs : List V} (ex : ∃ a, LamAt X j caps a) (hc : capE e caps = some cs) (nc : noCloL cs = true) (h : CloF r z H (Lt.lam j) (cloFrom X.env.cells (Lt.lam j).scope.names []) f) (t : RP X r z H e sp ds vs) : RP X r z H e (some (j, caps) :: sp) (.clo j cs :: ds) (.ref f :: vs)
theorem RP.step {X : Cx} {r r' z : List Addr} {H H' : Hp} {e : Ev} {sp : LSp} {ds : List D} {vs : List V} (st : Step r H r' H') (h : RP X r z H e sp ds vs) : RP X r' z H' e sp ds vs := by
  induction h with
  | nil => exact .nil
  | dat h _ ih => exact .dat (h.step st) ih
  | lam ex hc nc h _ ih => exact .lam ex hc nc (h.step st) ih
theorem AR.go {X : Cx} {W : WX} {β : Type} {pos : Pos} {es : List Expr} {mr : MAs} {sp : LSp} (h : AR X W es mr sp) : ∀ {pins : List (Addr × Obj)} {s : Shared} {σ : L2.St} {H : Hp} {r z : List Addr} {e : Ev} {S : Sto} {kp : KP β} {f : List D → Sto → Out β} {Post : List Value → Shared → Prop}, Inv X pins σ H s → All X.kw r z H σ e S → Fin r H ((mr e S).bind f) kp (xpG X.kw X.mg z W) →
    (∀ us vs r1 H1 s1 ds S1, Step r H r1 H1 → Inv X pins σ H1 s1 → Vals vs us → All X.kw r1 z H1 σ e S1 → RP X r1 z H1 e sp ds vs → Fin r1 H1 (f ds S1) kp (xpG X.kw X.mg z W) → Post us s1) →
    wpAny (model X.prog X.w) X.A (spliced (backTo pos (starEach es X.env))) Post X.xe s := by
  induction h with
  | nil =>
    intro pins s σ H r z e S kp f Post I A F k
    exact Calls.spliced_nil (k [] [] r H s [] S (Step.refl _ _) I .nil A .nil F)
  | @cons a ma es mr sp ha hr hs ih =>
    intro pins s σ H r z e S kp f Post I A F k
    have F' : Fin r H ((ma e S).bind fun x S => (mr e S).bind fun xs S => f (x :: xs) S) kp (xpG X.kw X.mg z W) := by
      have e1 : (aCons ma mr e S).bind f = (ma e S).bind fun x S => (mr e S).bind fun xs S => f (x :: xs) S := by
        unfold aCons
        rw [bind_assoc']
        congr
        funext x S
        rw [bind_assoc']
        rfl
      rw [← e1]; exact F
    rw [hs]
    refine Calls.spliced_cons (ha.go I A F' fun u v r1 H1 s1 d S1 st1 I1 ru A1 R1 F1 => ?_)
    refine ih I1 A1 F1 fun us vs r2 H2 s2 ds S2 st2 I2 rus A2 R2 F2 => ?_
    exact k (u :: us) (v :: vs) r2 H2 s2 (d :: ds) S2 (st1.trans st2) I2 (.cons ru rus) A2 (.dat (R1.step st2) R2) F2
  | @lam a j caps es mr sp ha hr hs ih =>
    intro pins s σ H r z e S kp f Post I A F k
    have F' : Fin r H ((mr e S).bind fun xs S => match capE e caps with | some cs => if noCloL cs = true then f (.clo j cs :: xs) S else .bad | none => .bad) kp (xpG X.kw X.mg z W) := by
      have e1 : (aLam j caps mr e S).bind f = (mr e S).bind fun xs S => match capE e caps with | some cs => if noCloL cs = true then f (.clo j cs :: xs) S else .bad | none => .bad := by
        unfold aLam
        rw [bind_assoc']
        congr
        funext xs S
        cases capE e caps with
        | none => rfl
        | some cs =>
          by_cases c : noCloL cs = true
          · simp only [if_pos c, bind_ok]
          · simp only [if_neg c, bind_bad]
      rw [← e1]; exact F
    rw [hs]
    obtain ⟨pos, rfl⟩ := ha.ex
    obtain ⟨c, P, TB, hcode, hm, hu⟩ := ha.tab
    refine Calls.spliced_cons (lam_new I TB hcode ha.qual hm hu ha.dfl (fun y hy e => I.ok.has _ (.inl (ha.free y hy e))) A.s fun fa H1 s1 I1 st1 rs1 cf => ?_)
    refine ih I1 ⟨rs1, A.e.step st1⟩ (Fin.step st1 F') fun us vs r2 H2 s2 ds S2 st2 I2 rus A2 R2 F2 => ?_
    cases hcap : capE e caps with
    | none => rw [hcap] at F2; exact F2.elim
    | some cs =>
      rw [hcap] at F2
      by_cases nc : noCloL cs = true
      · simp only [if_pos nc] at F2
        exact k (.ref fa :: us) (.ref fa :: vs) r2 H2 s2 (.clo j cs :: ds) S2 (st1.trans st2) I2 (.cons rfl rus) A2 (.lam ⟨_, ha⟩ hcap nc (cf.step st2) R2) F2
      · simp only [if_neg nc] at F2; exact F2.elim
end Mp
end SMpX

section SMpY
set_option Elab.async false
set_option linter.all false
set_option maxRecDepth 100000
set_option maxHeartbeats 2000000
open PySem PySem.Spec PyProof.Rows L2
namespace Mp
variable [Lt]
/-! ### the cells of the caller are shown to the callee -/
def cellsSp (sp : LSp) (cl : List (Str × Addr)) : List Addr := sp.flatMap fun o => match o with
  | some (j, _) => cellsOf (Lt.lam j).caps cl
  | none => []
def plusH (H : Hp) (h : Heap) (cs : List Addr) : Hp := fun b => if b ∈ cs then (match h.get? b with | some o => some (FunO b o) | none => H b) else H b
theorem plus_out {H : Hp} {h : Heap} {cs : List Addr} {b : Addr} (n : b ∉ cs) : plusH H h cs b = H b := if_neg n
theorem plus_in {H : Hp} {h : Heap} {cs : List Addr} {b : Addr} {o : Obj} (n : b ∈ cs) (e : h.get? b = some o) : plusH H h cs b = some (FunO b o) := by
  unfold plusH; rw [if_pos n, e]
theorem capE_get {e : Ev} : ∀ {caps : List Nat} {cs : List D}, capE e caps = some cs → caps.length = cs.length ∧ ∀ (i : Nat) (k : Nat) (d : D), caps[i]? = some k → cs[i]? = some d → e[k]? = some (some d)
  | [], cs, h => by simp [capE] at h; subst h; exact ⟨rfl, fun i k d h => by simp at h⟩
  | k :: caps, cs, h => by
    unfold capE at h
    cases q : e[k]? with
    | none => rw [q] at h; cases h
    | some o =>
      cases o with
      | none => rw [q] at h; cases h
      | some d =>
        rw [q] at h
        obtain ⟨r, h1, rfl⟩ := Option.map_eq_some_iff.mp h
        obtain ⟨l, g⟩ := capE_get h1
        refine ⟨by simp [l], fun i k' d' a b => ?_⟩
        cases i with
        | zero => simp at a b; subst a; subst b; exact q
        | succ i => exact g i k' d' (by simpa using a) (by simpa using b)
section
variable {X : Cx} {pins : List (Addr × Obj)} {σ : L2.St} {H : Hp} {s : Shared} {r z : List Addr} {e : Ev} {S : Sto} {sp : LSp}
/-- what is known of the cells -/
structure CellsK (X : Cx) (s : Shared) (H : Hp) (X0 : List Addr) : Prop where
  none_ : ∀ b ∈ X0, H b = none
  at_ : ∀ b ∈ X0, ∃ o v, s.heap.get? b = some o ∧ o.data = .cell v
  base : ∀ b ∈ X0, X.base.get? b = none
  fr : ∀ b ∈ X0, b ∉ frs X.stack
theorem cellsK (I : Inv X pins σ H s) (hl : ∀ o ∈ sp, ∀ j caps, o = some (j, caps) → ∃ a, LamAt X j caps a) : CellsK X s H (cellsSp sp X.env.cells) := by
  have get : ∀ b ∈ cellsSp sp X.env.cells, ∃ y, X.env.cells.lookup y = some b ∧ X.fn y = true := fun b hb => by
    obtain ⟨o, ho, hb⟩ := List.mem_flatMap.mp hb
    cases o with
    | none => cases hb
    | some p =>
      obtain ⟨j, caps⟩ := p
      obtain ⟨a, ha⟩ := hl _ ho j caps rfl
      obtain ⟨y, hy, e⟩ := List.mem_filterMap.mp hb
      exact ⟨y, e, ha.fn y hy⟩
  refine ⟨fun b hb => ?_, fun b hb => ?_, fun b hb => ?_, fun b hb m => ?_⟩
  · obtain ⟨y, e, _⟩ := get b hb
    exact I.freeC y b e
  · obtain ⟨y, e, _⟩ := get b hb
    obtain ⟨v, o, ho, hd⟩ := I.cell y b e
    exact ⟨o, v, ho, hd⟩
  · obtain ⟨y, e, hf⟩ := get b hb
    have h1 := I.ok.cab y b hf e
    cases q : X.base.get? b with
    | none => rfl
    | some o => exact absurd (Heap.lt_size q) (Nat.not_lt.mpr (Nat.le_trans I.ok.bsz h1))
  · obtain ⟨y, e, hf⟩ := get b hb
    have h1 := I.ok.cab y b hf e
    have out : b ∉ frs X.outer := fun m => by
      obtain ⟨_, o', e', _⟩ := I.ok.funs.mem m
      exact absurd (Heap.lt_size e') (Nat.not_lt.mpr h1)
    rcases I.ok.stk with q | ⟨q, qf⟩
    · rw [q] at m; exact out m
    · rw [q] at m
      have m : b ∈ (X.env :: X.outer).filterMap (·.frame) := m
      rw [List.filterMap_cons, qf] at m
      rcases List.mem_cons.mp m with q2 | q2
      · exact I.cne y b e q2
      · exact out q2
variable {X0 : List Addr}
theorem plus_rep {K : Kw} {h : Heap} (hn : ∀ b ∈ X0, H b = none) : (∀ (d : D) (v : V), Rep K r z H d v → Rep K r z (plusH H h X0) d v) ∧ (∀ (ds : List D) (vs : List V), RepL K r z H ds vs → RepL K r z (plusH H h X0) ds vs) :=
  Rep.move (fun _ _ e => e) fun a ob e n1 n2 => ⟨by rw [plus_out fun m => by rw [hn a m] at e; cases e]; exact e, n1, n2⟩
theorem plus_S {K : Kw} {h : Heap} (hn : ∀ b ∈ X0, H b = none) (rs : RepS K r z H S) : RepS K r z (plusH H h X0) S := by
  have out : ∀ a, H a ≠ none → a ∉ X0 := fun a h m => h (hn a m)
  refine ⟨rs.len, rs.nd, rs.ap, fun a m => ?_, fun p hp => (rs.tb p hp).move fun a ob e n1 n2 => ⟨by rw [plus_out (out a (by rw [e]; exact fun z => nomatch z))]; exact e, n1, n2⟩, fun n ob e => ?_⟩
  · rw [plus_out (out a (rs.zz a m))]; exact rs.zz a m
  · obtain ⟨a, h1, h2⟩ := rs.ob n ob e
    exact ⟨a, h1, h2.move (plus_out (out a (rs.some (List.mem_of_getElem? h1)))) (plus_rep hn).1 (plus_rep hn).2⟩
/-- the arguments, with the cells shown -/
theorem RP.rep (I : Inv X pins σ H s) (A : All X.kw r z H σ e S) (hck : CellsK X s H X0) : ∀ {sp : LSp} {ds : List D} {vs : List V}, RP X r z H e sp ds vs → (∀ b ∈ cellsSp sp X.env.cells, b ∈ X0) → RepL X.kw r z (plusH H s.heap X0) ds vs
  | _, _, _, .nil, _ => RepL.nil
  | _, _, _, .dat h t, hs => (RP.rep I A hck t fun b hb => hs b (by simpa [cellsSp] using hb)).cons ((plus_rep hck.none_).1 _ _ h)
  | _, _, _, @RP.lam _ _ _ _ _ _ j caps cs f sp ds vs ⟨a, ha⟩ hc nc h t, hs => by
    refine (RP.rep I A hck t fun b hb => hs b (by rw [cellsSp, List.flatMap_cons]; exact List.mem_append_right _ hb)).cons ?_
    obtain ⟨cl1, cl2⟩ := capE_get hc
    have lenN : (Lt.lam j).caps.length = caps.length := by have := congrArg List.length ha.caps; simpa using this
    have nameAt : ∀ (i : Nat) (y : Str), (Lt.lam j).caps[i]? = some y → ∃ k, caps[i]? = some k ∧ X.N[k]? = some y := fun i y hy => by
      have := congrArg (·[i]?) ha.caps
      simp only [List.getElem?_map, hy, Option.map_some] at this
      cases hk : caps[i]? with
      | none => rw [hk] at this; cases this
      | some k => rw [hk] at this; exact ⟨k, rfl, (Option.some.inj this).symm⟩
    -- the values
    have hvals : ∃ ws : List V, RepL X.kw r z H cs ws ∧ ∀ (i k : Nat) (w : V), caps[i]? = some k → ws[i]? = some w → σ[k]? = some (some w) := by
      clear nameAt lenN ha h hs t nc
      induction caps generalizing cs with
      | nil =>
        simp at cl1
        have : cs = [] := List.length_eq_zero_iff.mp cl1.symm
        subst this
        exact ⟨[], RepL.nil, fun i k w h => by simp at h⟩
      | cons k caps ih =>
        cases cs with
        | nil => simp at cl1
        | cons d cs =>
          have e0 := cl2 0 k d rfl rfl
          obtain ⟨w, h1, h2⟩ := A.e.2 k d e0
          have hc' : capE e caps = some cs := by
            unfold capE at hc
            rw [e0] at hc
            obtain ⟨r', q1, q2⟩ := Option.map_eq_some_iff.mp hc
            cases q2; exact q1
          obtain ⟨ws, g1, g2⟩ := ih cs hc' (by simpa using cl1) (fun i k' d' a b => cl2 (i + 1) k' d' (by simpa using a) (by simpa using b))
          refine ⟨w :: ws, g1.cons h2, fun i k' w' a b => ?_⟩
          cases i with
          | zero => simp at a b; subst a; subst b; exact h1
          | succ i => exact g2 i k' w' (by simpa using a) (by simpa using b)
    obtain ⟨ws, hws, hσ⟩ := hvals
    have lenW : ws.length = caps.length := by rw [← hws.length, cl1]
    have cm : ∀ {y c}, (cloFrom X.env.cells (Lt.lam j).scope.names []).lookup y = some c → X.env.cells.lookup y = some c ∧ y ∈ (Lt.lam j).caps := fun {y c} e => by
      rcases (cloFrom_mem (PySem.mem_of_lookup e)).resolve_left nofun with ⟨h1, h2⟩
      · obtain ⟨c1, hc⟩ := I.ok.has y (.inl (ha.free _ h1 rfl))
        have e2 : c = c1 := by rw [h2, hc] <;> rfl
        rw [e2]
        exact ⟨hc, ha.ok.free _ h1 rfl⟩
    rw [Rep]
    have out : ∀ {a : Addr} {o : HO}, H a = some o → plusH H s.heap X0 a = some o := fun {a o} e => by
      rw [plus_out fun m => by rw [hck.none_ a m] at e; cases e]; exact e
    obtain ⟨c', pm, ctv, n1, n2, n3, n4, g1, g2⟩ := h
    refine ⟨f, _, ws, rfl, nc, ⟨c', pm, ctv, n1, n2, n3, n4, out g1, out g2⟩, ⟨fun x y c a b => I.ok.inj x y c (cm a).1 (cm b).1, fun x c a => (cm a).2, lenN.trans lenW.symm, fun i y w a1 a2 => ?_⟩, (plus_rep hck.none_).2 _ _ hws⟩
    obtain ⟨k, hk, hN⟩ := nameAt i y a1
    have hs1 := hσ i k w hk a2
    have fr := ha.ok.capf y (List.mem_of_getElem? a1)
    have hy : (y, NameKind.free) ∈ (Lt.lam j).scope.names := PySem.mem_of_lookup fr
    have kc := ha.free _ hy rfl
    obtain ⟨c, hcl⟩ := mem_lookup (cloFrom_has (cells := X.env.cells) (acc := []) hy)
    have hcc := (cm hcl).1
    obtain ⟨m, hn, hloc⟩ := I.loc
    obtain ⟨u, ru, q⟩ := hloc k y w hN hs1 (.inr (.inl kc))
    have hcell : s.heap.IsCell c (some u) := by
      rcases q with ⟨k', _⟩ | ⟨_, c3, e', q⟩
      · exact nomatch (show X.env.scope.names.lookup y = some .cell from kc).symm.trans k'
      · rw [hcc] at e'; cases e'; exact q
    obtain ⟨o, ho, hd⟩ := hcell
    have mem : c ∈ X0 := hs c (by
      rw [cellsSp, List.flatMap_cons]
      exact List.mem_append_left _ (List.mem_filterMap.mpr ⟨y, List.mem_of_getElem? a1, hcc⟩))
    have fresh := A.s.fresh (hck.none_ c mem)
    exact ⟨c, hcl, fresh.1, fresh.2, o, u, plus_in mem ho, hd, ru⟩

/-- .. and are put away again -/
theorem unplus_step {r1 : List Addr} {H' : Hp} {h : Heap} (hn : ∀ b ∈ X0, H b = none) (st : Step r (plusH H h X0) r1 H') : Step r H r1 (less H' X0) := by
  have out : ∀ {a : Addr}, H a ≠ none → a ∉ X0 := fun h m => h (hn _ m)
  obtain ⟨l, rfl, hl⟩ := st.more
  refine ⟨fun a o e n t => ?_, ⟨l, rfl, fun a m => ?_⟩, fun a h => ?_, fun a o u e => ?_⟩
  · have q := out (a := a) (by rw [e]; exact fun z => nomatch z)
    rw [less_out q]; exact st.keep a o (by rw [plus_out q]; exact e) n t
  · by_cases q : a ∈ X0
    · exact hn a q
    · rw [← plus_out (H := H) (h := h) q]; exact hl a m
  · have q := out h
    rw [less_out q]; exact st.dom a (by rw [plus_out q]; exact h)
  · have q := out (a := a) (by rw [e]; exact fun z => nomatch z)
    rw [less_out q]; exact st.frz a o u (by rw [plus_out q]; exact e)
end
/-- f(e, ..) with lambdas among the arguments -/
theorem pev_fL {X : Cx} {W : WX} {a : Expr} {pos p : Pos} {es : List Expr} {mr : MAs} {k : Nat} {x : Str} {st : Stmt} {ps : List Str} {den : Dn} {sp : LSp} (T : DefT X.K X.mg x st ps) (F : FnG X.prog X.w X.K X.mg X.base k T.a T.fd ps den) (hgd : X.A.guards = some []) (hr : Room k X.A) (tk : Takes X W) (ha : AR X W (a :: es) mr sp) (hg : Gl X x := by rfl) (hdb : (x == ("__debug__" : Str)) = false := by decide)
    (he : starEach (a :: es) X.env = (false, eval a X.env) :: starEach es X.env := by rfl) (hpl : (backTo pos (starEach es X.env)).any (·.1) = false := by rfl) : PEv X W (.Call (.Name x p) (a :: es) [] pos) (mCallL den mr) := by
  have hl : ∀ {es : List Expr} {mr : MAs} {sp : LSp}, AR X W es mr sp → ∀ o ∈ sp, ∀ j caps, o = some (j, caps) → ∃ a, LamAt X j caps a := by
    intro es mr sp h
    induction h with
    | nil => intro o ho; cases ho
    | cons _ _ _ ih =>
      intro o ho j caps e
      rcases List.mem_cons.mp ho with q | q
      · rw [q] at e; cases e
      · exact ih o q j caps e
    | lam h _ _ ih =>
      intro o ho j caps e
      rcases List.mem_cons.mp ho with q | q
      · rw [q] at e; cases e; exact ⟨_, h⟩
      · exact ih o q j caps e
  refine ⟨fun pins s σ H Q I ⟨r, z, e, S, A, Fm⟩ => wpAny_Call_Name_kw (ld_glob I hg T.g ?_ hdb)⟩
  refine PySem.W.callWith_K (h₀ := X.base) I.ok.mod.kin T.f.kp (ha.go I A Fm fun us vs r1 H1 s1 ds S1 st1 I1 ru A1 R1 F1 => ⟨I1.kIn, ?_⟩) he hpl
  -- the cells
  generalize hX0 : cellsSp sp X.env.cells = X0
  have ck : CellsK X s1 H1 X0 := by rw [← hX0]; exact cellsK I1 (hl ha)
  have rl := R1.rep I1 A1 ck fun b hb => by rw [← hX0]; exact hb
  have rS := plus_S (h := s1.heap) ck.none_ A1.s
  have shown : ∀ b ∈ X0, ∃ o v, s1.heap.get? b = some o ∧ o.data = .cell v ∧ plusH H1 s1.heap X0 b = some (FunO b o) := fun b hb => by
    obtain ⟨o, v, ho, hd⟩ := ck.at_ b hb
    exact ⟨o, v, ho, hd, plus_in hb ho⟩
  have outN : ∀ {b : Addr}, H1 b ≠ none → b ∉ X0 := fun h m => h (ck.none_ _ m)
  have hok : HOk X.prog X.w (plusH H1 s1.heap X0) s1.heap := fun b u e => by
    by_cases q : b ∈ X0
    · obtain ⟨o, v, ho, _, e2⟩ := shown b q
      rw [e2] at e; cases e
      exact ⟨ho, ⟨o, ho⟩, fun h1 h2 a k => k _ a⟩
    · rw [plus_out q] at e
      refine (I1.hok b u e).stay (fun _ _ _ e => e) (fun c e => ?_) fun c xs e => ?_
      · rw [plus_out (outN (by rw [e]; exact fun z => nomatch z))]; exact e
      · rw [plus_out (outN (by rw [e]; exact fun z => nomatch z))]; exact e
  have e0 : Env0 X.prog X.w X.K X.mg X.base X.A X.stack s1 (plusH H1 s1.heap X0) := by
    have e0 := I1.env0
    refine ⟨e0.frames, e0.mod, fun b o e => ⟨(e0.bs b o e).1, ?_⟩, e0.bsz, e0.funs, fun b hb => ?_, hok, e0.bare⟩
    · rw [plus_out fun m => by rw [ck.base b m] at e; cases e]; exact (e0.bs b o e).2
    · rw [plus_out fun m => ck.fr b m hb]; exact e0.frf b hb
  -- what is wanted of the callee
  let Q' : VK := fun v H' => (∀ b ∈ X0, plusH H1 s1.heap X0 b = H' b) ∧ Q v (less H' X0)
  let E' : XK := fun cls d H' => (∀ b ∈ X0, plusH H1 s1.heap X0 b = H' b) ∧ W cls d σ (less H' X0)
  have keepC : ∀ {r' : List Addr} {H' : Hp}, Step r1 (plusH H1 s1.heap X0) r' H' → ∀ b ∈ X0, plusH H1 s1.heap X0 b = H' b := fun {r' H'} stp b hb => by
    obtain ⟨o, v, _, _, e2⟩ := shown b hb
    rw [e2]
    exact (stp.keep b _ e2 (A1.s.fresh (ck.none_ b hb)).1 rfl).symm
  have cellsL : ∀ {r' : List Addr} {H' : Hp} {S' : Sto}, Step r1 (plusH H1 s1.heap X0) r' H' → RepS X.kw r' z H' S' → (∀ b ∈ X0, ∃ φ, H' b = some (.ext φ)) ∧ RepS X.kw r' z (less H' X0) S' := fun {r' H' S'} stp rs => by
    have kc := keepC stp
    have ext : ∀ b ∈ X0, ∃ o v, s1.heap.get? b = some o ∧ o.data = .cell v ∧ H' b = some (FunO b o) := fun b hb => by
      obtain ⟨o, v, ho, hd, e2⟩ := shown b hb
      exact ⟨o, v, ho, hd, by rw [← kc b hb]; exact e2⟩
    have nr : ∀ b ∈ X0, b ∉ r' ∧ b ∉ z := fun b hb => by
      obtain ⟨o, v, _, _, e2⟩ := shown b hb
      have fr := A1.s.fresh (ck.none_ b hb)
      exact ⟨stp.out e2 fr.1, fr.2⟩
    refine ⟨fun b hb => by obtain ⟨o, v, _, _, e⟩ := ext b hb; exact ⟨_, e⟩, ?_⟩
    have hx : ∀ b ∈ X0, ∃ φ, H' b = some (.ext φ) := fun b hb => by obtain ⟨o, v, _, _, e⟩ := ext b hb; exact ⟨_, e⟩
    -- repS_less wants the cells' values; the shape is enough
    refine repS_less' (fun b hb q e4 => ?_) (fun b hb => ⟨(nr b hb).1, (nr b hb).2, hx b hb⟩) rs
    obtain ⟨o, v, ho, hd, e⟩ := ext b hb
    rw [e] at e4
    have e5 : FunO b o = LamX.CodeO b q := Option.some.inj e4
    unfold FunO LamX.CodeO at e5
    have e6 := congrFun (HO.ext.inj e5) s1.heap
    have : ∃ (oc : Obj) (vs : Array Value) (t : Tok), s1.heap.get? b = some oc ∧ oc.data = .fields vs ∧ vs[1]? = some (.str q t) := by rw [← e6]; exact ho
    obtain ⟨oc, vs', t, g1, g2, _⟩ := this
    rw [ho] at g1; cases g1
    rw [hd] at g2; cases g2
  have sp' : spM X.kw X.mg den vs (plusH H1 s1.heap X0) Q' E' := by
    refine ⟨r1, z, ds, S1, rS, rl, ?_⟩
    cases q : den ds S1 with
    | bad => rw [q] at F1; exact F1
    | ok d S2 =>
      rw [q] at F1
      by_cases nc : noClo d = true
      case neg => simp only [if_neg nc] at F1; exact F1.elim
      simp only [if_pos nc] at F1
      intro r' H' stp rs v rv
      obtain ⟨hx, rs'⟩ := cellsL stp rs
      exact ⟨keepC stp, F1 r' _ (unplus_step ck.none_ stp) rs' v ((rep_less hx (sizeOf d)).1 d v (Nat.le_refl _) nc rv)⟩
    | exc y e' S2 =>
      rw [q] at F1
      by_cases nc : noCloL (y.fs.map (·.2)) = true
      case neg => simp only [if_neg nc] at F1; exact F1.elim
      simp only [if_pos nc] at F1
      intro r' H' stp rs cls d rx
      obtain ⟨hx, rs'⟩ := cellsL stp rs
      refine ⟨keepC stp, F1 r' _ (unplus_step ck.none_ stp) σ cls d ⟨rs', A1.e.step (unplus_step ck.none_ stp)⟩ ?_⟩
      obtain ⟨C, q1, q2, q3⟩ := rx
      refine ⟨C, q1, q2, q3.imp id fun ⟨p, ys, k1, k2, k3, k4, k5⟩ => ⟨p, ys, k1, k2, k3, ?_, (rep_less hx _).2 _ _ (Nat.le_refl _) nc k5⟩⟩
      rw [less_out fun m => by obtain ⟨φ, e2⟩ := hx p m; rw [k4] at e2; cases e2]; exact k4
  have hlen : (us ++ []).length = ps.length := by rw [List.append_nil, ← ru.length]; exact F.lenV sp'
  have hb2 := T.b s1 us I1.kIn hlen
  rw [List.append_nil] at hb2
  have hokL : ∀ {H' : Hp} {h' : Heap}, HOk X.prog X.w H' h' → (∀ b ∈ X0, plusH H1 s1.heap X0 b = H' b) → HOk X.prog X.w (less H' X0) h' := fun {H' h'} ok kc b u e => by
    have q : b ∉ X0 := fun q => by rw [less_in q] at e; cases e
    rw [less_out q] at e
    refine (ok b u e).stay (fun _ _ _ e => e) (fun c e => ?_) fun c xs e => ?_
    · rw [less_out (fun m => by obtain ⟨o, v, _, _, e2⟩ := shown c m; rw [kc c m, e] at e2; cases e2)]; exact e
    · rw [less_out (fun m => by obtain ⟨o, v, _, _, e2⟩ := shown c m; rw [kc c m, e] at e2; cases e2)]; exact e
  have same : ∀ {H' : Hp} {h' : Heap}, HOk X.prog X.w H' h' → (∀ b ∈ X0, plusH H1 s1.heap X0 b = H' b) → ∀ b ∈ X0, ∀ o, s1.heap.get? b = some o → h'.get? b = some o := fun {H' h'} ok kc b hb o ho => by
    obtain ⟨o', v, ho', _, e2⟩ := shown b hb
    rw [ho] at ho'; cases ho'
    rw [kc b hb] at e2
    exact (ok b _ e2).1
  refine wpAny_call (codeAny_mono (F.run X.A X.stack s1 (plusH H1 s1.heap X0) ⟨us, []⟩ us vs Q' E' hgd hr e0 hb2 ru sp') fun res s' hq => ?_)
  cases res with
  | error u =>
    refine tk u s' (XE.of_call (E := fun cls d H' => W cls d σ H') I1 (fun _ _ _ h => h) ?_)
    obtain ⟨ea, B, H', cls, d, rfl, fl, ok, ub, na, os, ag, kc, hE⟩ := hq
    have nX : ea ∉ X0 := fun m => by
      obtain ⟨o, v, ho, _, _⟩ := shown ea m
      have := same ok kc ea m o ho
      rw [fl.2.1] at this; cases this
    refine ⟨ea, B, less H' X0, cls, d, rfl, fl, hokL ok kc, ⟨fun b o e n nf => ?_, ub.slot, fun b o e n => ?_, ub.there, fun b xs e => ?_, fun b o u e => ?_, fun b ps e => ?_⟩, by rw [less_out nX]; exact na, os, ag, hE⟩
    · by_cases q : b ∈ X0
      · exact same ok kc b q o e
      · exact ub.keep b o e (by rw [plus_out q]; exact n) nf
    · by_cases q : b ∈ X0
      · exact less_in q
      · rw [less_out q]; exact ub.free b o e (by rw [plus_out q]; exact n)
    · have q := outN (b := b) (by rw [e]; exact fun z => nomatch z); rw [less_out q]; exact ub.tups b xs (by rw [plus_out q]; exact e)
    · have q := outN (b := b) (by rw [e]; exact fun z => nomatch z); rw [less_out q]; exact ub.frzs b o u (by rw [plus_out q]; exact e)
    · have q := outN (b := b) (by rw [e]; exact fun z => nomatch z); rw [less_out q]; exact ub.tbls b ps (by rw [plus_out q]; exact e)
  | ok fl =>
    cases fl with
    | ret u =>
      obtain ⟨v, H', os, bare, un, ok, rv, kc, hq⟩ := hq
      refine I1.after (u := u) ⟨v, less H' X0, os, bare, ⟨fun b o e n nf nx => ?_, fun b o e n nf nx => ?_, fun b o e n nx => ?_, un.there, fun b xs e => ?_, fun b o u e => ?_, fun b ps e => ?_⟩, hokL ok kc, rv, hq⟩
      · by_cases q : b ∈ X0
        · exact same ok kc b q o e
        · exact un.keep b o e (by rw [plus_out q]; exact n) nf nx
      · exact un.slot b o e (by rw [plus_out fun m => ck.fr b m nf]; exact n) nf nx
      · by_cases q : b ∈ X0
        · exact less_in q
        · rw [less_out q]; exact un.free b o e (by rw [plus_out q]; exact n) nx
      · have q := outN (b := b) (by rw [e]; exact fun z => nomatch z); rw [less_out q]; exact un.tups b xs (by rw [plus_out q]; exact e)
      · have q := outN (b := b) (by rw [e]; exact fun z => nomatch z); rw [less_out q]; exact un.frzs b o u (by rw [plus_out q]; exact e)
      · have q := outN (b := b) (by rw [e]; exact fun z => nomatch z); rw [less_out q]; exact un.tbls b ps (by rw [plus_out q]; exact e)
    | next => exact False.elim hq
    | brk => exact False.elim hq
    | cont => exact False.elim hq
end Mp
end SMpY

section SMpZ
set_option Elab.async false
set_option linter.all false
set_option maxRecDepth 100000
set_option maxHeartbeats 2000000
open PySem PySem.Spec PyProof.Rows L2
namespace Mp
variable [Lt]
/-! ### a def that gives a list of lambdas -/
section
variable {X : Cx}
def taR (X : Cx) (mr : MAs) (sp : LSp) : TA := fun σ H Q => ∃ r z e S ds0, All X.kw r z H σ e S ∧ mr e S = .ok ds0 S ∧ ∀ r1 H1 vs, Step r H r1 H1 → RepS X.kw r1 z H1 S → RP X r1 z H1 e sp ds0 vs → Q vs H1
theorem pa_lams {W : WX} {es : List Expr} {mr : MAs} {sp : LSp} (h : AR X W es mr sp) : PA X es (taR X mr sp) := by
  refine ⟨fun pos pins s σ H Q I ⟨r, z, e, S, ds0, A, hm, k⟩ => ?_⟩
  refine h.go (β := List D) (f := fun ds S => .ok ds S) (kp := fun _ _ ds S1 => ds = ds0 ∧ S1 = S) I A (by rw [hm]; exact fun _ _ _ => ⟨rfl, rfl⟩) fun us vs r1 H1 s1 ds S1 st1 I1 ru A1 R1 F1 => ?_
  obtain ⟨rfl, rfl⟩ := F1 r1 H1 (Step.refl _ _)
  exact ⟨vs, H1, I1, ru, k r1 H1 vs st1 A1.s R1⟩
/-- found.append(lambda: ..), for each -/
inductive Apps (X : Cx) (W : WX) (x : Str) : List Stmt → LSp → Prop
  | nil : Apps X W x [] []
  | cons {a : Expr} {j : Nat} {caps : List Nat} {np apos pos pos' : Pos} {sts : List Stmt} {sp : LSp} (ha : LamAt X j caps a) (hs : starEach [a] X.env = (false, eval a X.env) :: starEach [] X.env)
      (hbase : attributeBase (.Name x np) "append" X.env (eval (.Name x np) X.env) = eval (.Name x np) X.env) (hfew : ((backTo pos (starEach [a] X.env)).all (fun x => !x.1) && (backToKw pos (keywordEach [] X.env)).all (fun x => x.1.isSome) && decide (([a] : List Expr).length + ([] : List Keyword).length + (if ([] : List Keyword).isEmpty then 0 else 1) < 30)) = true)
      (hline : (apos.endLine == pos.line) = true) (hsw : swapsWith (.Call (.Attribute (.Name x np) "append" apos) [a] [] pos) none pos'.line X.env = pure false) (t : Apps X W x sts sp) : Apps X W x (.Expr (.Call (.Attribute (.Name x np) "append" apos) [a] [] pos) pos' :: sts) (some (j, caps) :: sp)
/-- what the closures take along -/
def spE (e : Ev) : LSp → Option (List D)
  | [] => some []
  | some (j, caps) :: sp => match capE e caps with
    | some cs => if noCloL cs = true then (spE e sp).map (.clo j cs :: ·) else none
    | none => none
  | none :: _ => none
theorem RP.app {r z : List Addr} {H : Hp} {e : Ev} {j : Nat} {caps : List Nat} {cs : List D} {f : Addr} (ex : ∃ a, LamAt X j caps a) (hc : capE e caps = some cs) (nc : noCloL cs = true) (hf : CloF r z H (Lt.lam j) (cloFrom X.env.cells (Lt.lam j).scope.names []) f) : ∀ {sp : LSp} {ds : List D} {vs : List V}, RP X r z H e sp ds vs → RP X r z H e (sp ++ [some (j, caps)]) (ds ++ [.clo j cs]) (vs ++ [.ref f])
  | _, _, _, .nil => .lam ex hc nc hf .nil
  | _, _, _, .dat h t => .dat h (t.app ex hc nc hf)
  | _, _, _, .lam a b c d t => .lam a b c d (t.app ex hc nc hf)
theorem RP.len {r z : List Addr} {H : Hp} {e : Ev} : ∀ {sp : LSp} {ds : List D} {vs : List V}, RP X r z H e sp ds vs → ds.length = vs.length
  | _, _, _, .nil => rfl
  | _, _, _, .dat h t => by simp [t.len]
  | _, _, _, .lam a b c d t => by simp [t.len]
theorem RP.show {r z : List Addr} {H : Hp} {e : Ev} {L : Addr} : ∀ {sp : LSp} {ds : List D} {vs : List V}, RP X r (L :: z) H e sp ds vs → RP X r z (del H L) e sp ds vs
  | _, _, _, .nil => .nil
  | _, _, _, .dat h t => .dat (show_rep.1 _ _ h) t.show
  | _, _, _, .lam a b c ⟨c', pm, ctv, n1, n2, n3, n4, g1, g2⟩ t => by
    simp only [List.mem_cons, not_or] at n2 n4
    exact .lam a b c ⟨c', pm, ctv, n1, n2.2, n3, n4.2, by rw [del_ne n2.1]; exact g1, by rw [del_ne n4.1]; exact g2⟩ t.show
/-- found.append(lambda: ..), one after the other -/
theorem apps_run {W : WX} {x : Str} {i : Nat} {rest : List Stmt} {Post : Flow → Shared → Prop} (hN : X.N[i]? = some x) (hv : Vis X.env.scope x) (hd : (x == ("__debug__" : Str)) = false) (hcd : (x == ("__classdict__" : Str)) = false) {sts : List Stmt} {sp2 : LSp} (h : Apps X W x sts sp2) :
    ∀ {r z : List Addr} {Hd : Hp} {σ : L2.St} {e : Ev} {S : Sto} {sp : LSp} {ds ds2 : List D} {vs : List V} {L : Addr} {s : Shared}, Inv X [] σ (L2.upd Hd L (.lst vs)) s → Hd L = none → σ[i]? = some (some (.ref L)) → All X.kw r z Hd σ e S → RP X r z Hd e sp ds vs → spE e sp2 = some ds2 → vs.length + sts.length < sizeLine →
    (∀ r1 Hd1 vs1 s1, Step r Hd r1 Hd1 → Inv X [] σ (L2.upd Hd1 L (.lst vs1)) s1 → Hd1 L = none → All X.kw r1 z Hd1 σ e S → RP X r1 z Hd1 e (sp ++ sp2) (ds ++ ds2) vs1 → vs1.length = vs.length + sts.length → wpAny (model X.prog X.w) X.A (execs rest X.env) Post X.xe s1) →
    wpAny (model X.prog X.w) X.A (execs (sts ++ rest) X.env) Post X.xe s := by
  induction h with
  | nil =>
    intro r z Hd σ e S sp ds ds2 vs L s I hL hσ A R he hz k
    simp [spE] at he
    subst he
    exact k r Hd vs s (Step.refl _ _) I hL A (by simpa using R) (by simp)
  | @cons a j caps np apos pos pos' sts sp2 ha hs hbase hfew hline hsw t ih =>
    intro r z Hd σ e S sp ds ds2 vs L s I hL hσ A R he hz k
    unfold spE at he
    cases hcap : capE e caps with
    | none => rw [hcap] at he; cases he
    | some cs =>
      rw [hcap] at he
      by_cases nc : noCloL cs = true
      case neg => simp only [if_neg nc] at he; cases he
      simp only [if_pos nc] at he
      obtain ⟨ds3, he3, rfl⟩ := Option.map_eq_some_iff.mp he
      have zL : L ∉ z := (A.s.fresh hL).2
      have A0 : All X.kw r (L :: z) (L2.upd Hd L (.lst vs)) σ e S := ⟨hide_S hL A.s, hide_E hL A.e⟩
      have ar : AR X W [a] (aLam j caps aNil) [some (j, caps)] := .lam ha .nil hs
      refine wpAny_execs_cons (wpAny_Expr_any (thn ((pe_bm PySem.F.plainAttrs_list PySem.F.slot_list_append PySem.F.type_list_append mt_append (pe_var (i := i) hN hv hd hcd) (pa_lams ar) hbase hfew hline hs rfl).run [] s σ _ (fun _ H' => ∃ r1 Hd1 f, Step r Hd r1 Hd1 ∧ Hd1 L = none ∧ H' = L2.upd Hd1 L (.lst (vs ++ [.ref f])) ∧ RepS X.kw r1 z Hd1 S ∧ RP X r1 z Hd1 e (sp ++ [some (j, caps)]) (ds ++ [.clo j cs]) (vs ++ [.ref f])) I ?_) ?_) I.quiet hsw)
      · refine ⟨_, hσ, .inl ⟨rfl, vs, .of upd_same⟩, r, L :: z, e, S, [.clo j cs], A0, ?_, fun r1 H1 vs1 st1 rs1 R1 => ?_⟩
        · simp [aLam, aNil, hcap, nc]
        · have eL : H1 L = some (.lst vs) := st1.keep L _ upd_same (fun m => (A.s.fresh hL).1 m) rfl
          have stp : Step r Hd r1 (del H1 L) := Step.del1 hL (Step.del0 hL) st1
          have rs2 := show_S zL rs1
          have R2 := R1.show (L := L)
          cases R1 with
          | @lam _ _ _ f _ _ _ ex hc' nc' cf tl =>
            cases tl
            refine ⟨L, vs, .ref f, rfl, rfl, eL, by omega, r1, del H1 L, f, stp, del_same, ?_, rs2, ?_⟩
            · funext b
              by_cases hb : b = L
              · subst hb; rw [upd_same, upd_same]
              · rw [upd_ne hb, upd_ne hb, del_ne hb]
            · cases R2 with
              | lam _ _ _ cf2 _ => exact RP.app ⟨a, ha⟩ hcap nc cf2 (R.step stp)
      · rintro u s1 ⟨v, H1, I1, _, r1, Hd1, f, st1, hL1, rfl, rs1, R1⟩
        refine ih I1 hL1 hσ ⟨rs1, A.e.step st1⟩ R1 he3 (by simp at hz ⊢; omega) fun r2 Hd2 vs2 s2 st2 I2 hL2 A2 R2 hl2 => ?_
        exact k r2 Hd2 vs2 s2 (st1.trans st2) I2 hL2 A2 (by simpa using R2) (by simp at hl2 ⊢; omega)
end
/-- def f(..): found = [lambda: ..]; found.append(lambda: ..) ..; return found -/
def mDefL (k n : Nat) (sp : LSp) : Dn := fun ds S => if ds.length = k then (match spE (ds.map some ++ List.replicate n none) sp with
  | some cs => .ok (.lst cs) S
  | none => .bad) else .bad
theorem def_lams {P : Program} {w : World} {K : PySem.W.Frag} {mg : Str → Option Value} {base : Heap} {x qual y : Str} {st : Stmt} {f : Addr} {fd : FuncData} {N ps : List Str} {k i j : Nat} {caps : List Nat} {sp : LSp} {a : Expr} {p1 p2 p3 p4 p5 : Pos} {sts : List Stmt} (F : Fun K x qual st f fd) (Sc : FnScope N ps (defScope st))
    (hb0 : defBody st = .Assign [.Name y p1] (.List [a] p2) p3 :: (sts ++ [.Return (some (.Name y p4)) p5])) (hi : N[i]? = some y) (hip : ps.length ≤ i) (hsz : sts.length < 1000)
    (hx : ∀ (cdv : Value) (A : Around) (outer : List Env) (s : Shared) (H : Hp) (E : XK), fd.code = cdv →
      let X := cxOf (L2.CX P w) P w K mg base N qual (defScope st) f cdv A outer s H E
      LamAt X j caps a ∧ starEach [a] X.env = (false, eval a X.env) :: starEach [] X.env ∧ Apps X (fun cls d _ H' => E cls d H') y sts sp ∧ Loc X.env.scope y ∧ swapsWith (.List [a] p2) (some (.Name y p1)) p3.line X.env = pure false)
    (hd : (y == ("__debug__" : Str)) = false := by decide) (hcd : (y == ("__classdict__" : Str)) = false := by decide) :
    FnG P w K mg base (k + 1) f fd ps (mDefL ps.length (N.length - ps.length) (some (j, caps) :: sp)) := by
  refine ⟨fun ds S h => ?_, fun A outer s H args us vs Q E hg hr e0 hb rel hsp => ?_⟩
  · unfold mDefL at h
    split at h
    · assumption
    · exact absurd rfl h
  obtain ⟨r, z, ds, S, rs_, l, Fm⟩ := hsp
  have dl : ds.length = ps.length := by
    by_cases c : ds.length = ps.length
    · exact c
    · unfold mDefL at Fm; rw [if_neg c] at Fm; exact Fm.elim
  have hl : vs.length = ps.length := l.length.symm.trans dl
  refine def_enter E F Sc hr.depth hr.hd e0 hb rel hl fun s1 I => codeAny_func ?_
  obtain ⟨hlam, hst, happ, hloc, hsw⟩ := hx fd.code A outer s H E rfl
  generalize hX : cxOf (L2.CX P w) P w K mg base N qual (defScope st) f fd.code A outer s H E = X at *
  have eN : X.N = N := by rw [← hX]; rfl
  have hfn : ∀ y, X.fn y = true := fun y => by rw [← hX]; rfl
  have eK : X.kw = kwOf K w mg := by rw [← hX]; rfl
  have rE : RepE X.kw r z H (L2.start N vs) (ds.map some ++ List.replicate (N.length - ps.length) none) := by rw [eK, ← dl]; exact rep_start l
  generalize hev : ds.map some ++ List.replicate (N.length - ps.length) none = ev at *
  have hm : mDefL ps.length (N.length - ps.length) (some (j, caps) :: sp) ds S = (match spE ev (some (j, caps) :: sp) with | some cs => .ok (.lst cs) S | none => .bad) := by
    unfold mDefL; rw [if_pos dl, hev]
  rw [hm] at Fm
  have ei : ev[i]? = some none ∨ ev[i]? = none := by
    rw [← hev, List.getElem?_append_right (by simp; omega), List.getElem?_replicate]
    split
    · exact .inl rfl
    · exact .inr rfl
  cases hsp : spE ev (some (j, caps) :: sp) with
  | none => rw [hsp] at Fm; exact Fm.elim
  | some cs0 =>
  rw [hsp] at Fm
  unfold spE at hsp
  cases hcap : capE ev caps with
  | none => rw [hcap] at hsp; cases hsp
  | some cs =>
  rw [hcap] at hsp
  by_cases nc : noCloL cs = true
  case neg => simp only [if_neg nc] at hsp; cases hsp
  simp only [if_pos nc] at hsp
  obtain ⟨ds2, he2, rfl⟩ := Option.map_eq_some_iff.mp hsp
  have ar : AR X (fun cls d _ H' => E cls d H') [a] (aLam j caps aNil) [some (j, caps)] := .lam hlam .nil hst
  have A0 : All X.kw r z H (L2.start N vs) ev S := ⟨by rw [eK]; exact rs_, rE⟩
  have env_ : X.env = envOfC qual (defScope st) s.heap.objs.size f fd.code := by rw [← hX]; rfl
  have hAx : X.A = A.deeper (envOfC qual (defScope st) s.heap.objs.size f fd.code) := by rw [← hX]; rfl
  have hxe : X.xe = fun e s' => wpAny (model P w) (A.deeper (envOfC qual (defScope st) s.heap.objs.size f fd.code)) (leaving (envOfC qual (defScope st) s.heap.objs.size f fd.code) e) (fun _ s'' => L2.CX P w outer H s E e s'') (fun e' s'' => L2.CX P w outer H s E e' s'') s' := by rw [← hX]; rfl
  have hpw : X.prog = P ∧ X.w = w := by rw [← hX]; exact ⟨rfl, rfl⟩
  have main : wpAny (model X.prog X.w) X.A (execs (.Assign [.Name y p1] (.List [a] p2) p3 :: (sts ++ [.Return (some (.Name y p4)) p5])) X.env) (fun fl s' => match fl with | .ret u => CE outer P w H s Q u s' | _ => False) X.xe s1 := by
    refine wpAny_execs_cons (wpAny_Assign_Name (thn ((pe_lst (pa_lams ar)).run [] s1 _ H (fun v H' => ∃ r1 Hd1 fa L, v = .ref L ∧ Step r H r1 Hd1 ∧ Hd1 L = none ∧ H' = L2.upd Hd1 L (.lst [.ref fa]) ∧ RepS X.kw r1 z Hd1 S ∧ RP X r1 z Hd1 ev [some (j, caps)] [.clo j cs] [.ref fa]) I ⟨r, z, ev, S, [.clo j cs], A0, by simp [aLam, aNil, hcap, nc], fun r1 H1 vs1 st1 rs1 R1 => ?_⟩) ?_) hsw)
    · cases R1 with
      | @lam _ _ _ fa _ _ _ ex hc' nc' cf tl =>
        cases tl
        exact ⟨by show 1 ≤ sizeLine; decide, fun L hL => ⟨r1, H1, fa, L, rfl, st1, hL, rfl, rs1, .lam ex hc' nc' cf .nil⟩⟩
    · rintro u s2 ⟨v, H', I2, ru, r1, Hd1, fa, L, rfl, st1, hL, rfl, rs1, R1⟩
      refine store_ok I2 (by rw [eN]; exact Sc.nd) (by rw [eN]; exact hi) hloc ru (fun s3 I3 => ?_) (.inl (hfn y))
      have A1 : All X.kw r1 z Hd1 ((L2.start N vs).set i (some (.ref L))) ev S := ⟨rs1, by
        have h0 := (rE.step st1)
        refine ⟨by simpa using h0.1, fun q d hq => ?_⟩
        obtain ⟨v, g1, g2⟩ := h0.2 q d hq
        refine ⟨v, ?_, g2⟩
        rw [List.getElem?_set_ne (fun e => by subst e; rcases ei with e | e <;> rw [e] at hq <;> cases hq)]
        exact g1⟩
      have hσ : ((L2.start N vs).set i (some (V.ref L)))[i]? = some (some (.ref L)) := List.getElem?_set_self (by
        have := I.len
        rw [this, eN]; exact (List.getElem?_eq_some_iff.mp hi).1)
      have hvis : Vis X.env.scope y := hloc.imp id .inl
      refine apps_run (i := i) (by rw [eN]; exact hi) hvis hd hcd happ I3 hL hσ A1 R1 he2 (by rw [sizeLine_eq]; simp; omega) fun r2 Hd2 vs2 s4 st2 I4 hL2 A2 R2 hl2 => ?_
      refine wpAny_execs_cons (wpAny_Return_some (thn ((pe_var (i := i) (by rw [eN]; exact hi) hvis hd hcd).run [] s4 _ _ (fun v H' => v = .ref L ∧ H' = L2.upd Hd2 L (.lst vs2)) I4 ⟨_, hσ, rfl, rfl⟩) ?_))
      rintro u s5 ⟨v, H', I5, ru5, rfl, rfl⟩
      obtain rfl : u = Value.ref L := ru5
      show CE outer P w H s Q (.ref L) s5
      -- the cells are shown for good
      generalize hX0 : cellsSp ([some (j, caps)] ++ sp) X.env.cells = X0
      have hl : ∀ o ∈ ([some (j, caps)] ++ sp : LSp), ∀ j' caps', o = some (j', caps') → ∃ a, LamAt X j' caps' a := by
        intro o ho j' caps' e
        rcases List.mem_append.mp ho with q | q
        · simp at q; rw [q] at e; cases e; exact ⟨a, hlam⟩
        · have : ∀ {sts : List Stmt} {sp : LSp}, Apps X (fun cls d _ H' => E cls d H') y sts sp → ∀ o ∈ sp, o = some (j', caps') → ∃ a, LamAt X j' caps' a := by
            intro sts sp h
            induction h with
            | nil => intro o ho; cases ho
            | cons h _ _ _ _ _ _ ih =>
              intro o ho e
              rcases List.mem_cons.mp ho with q | q
              · rw [q] at e; cases e; exact ⟨_, h⟩
              · exact ih o q e
          exact this happ o q e
      have ck : CellsK X s5 (L2.upd Hd2 L (.lst vs2)) X0 := by rw [← hX0]; exact cellsK I5 hl
      have stL : Step r2 Hd2 r2 (L2.upd Hd2 L (.lst vs2)) := Step.upd hL2
      have A3 : All X.kw r2 z (L2.upd Hd2 L (.lst vs2)) ((L2.start N vs).set i (some (.ref L))) ev S := ⟨A2.s.upd hL2, A2.e.step stL⟩
      have rl := (R2.step stL).rep I5 A3 ck fun b hb => by rw [← hX0]; exact hb
      have rS := plus_S (h := s5.heap) ck.none_ A3.s
      have stA := (st1.trans st2).trans stL
      have nX : ∀ {b : Addr}, L2.upd Hd2 L (.lst vs2) b ≠ none → b ∉ X0 := fun h m => h (ck.none_ _ m)
      have frL := A2.s.fresh hL2
      have stP : Step r H r2 (plusH (L2.upd Hd2 L (.lst vs2)) s5.heap X0) := by
        refine ⟨fun b o e n t => ?_, stA.more, fun b h => ?_, fun b o u e => ?_⟩
        · have e1 := stA.keep b o e n t
          rw [plus_out (nX (by rw [e1]; exact fun z => nomatch z))]; exact e1
        · have e1 := stA.dom b h
          rw [plus_out (nX e1)]; exact e1
        · have e1 := stA.frz b o u e
          rw [plus_out (nX (by rw [e1]; exact fun z => nomatch z))]; exact e1
      have cab : ∀ b ∈ X0, s.heap.get? b = none := fun b hb => by
        obtain ⟨o, ho, hb'⟩ := List.mem_flatMap.mp (by rw [← hX0] at hb; exact hb)
        cases o with
        | none => cases hb'
        | some p =>
          obtain ⟨yy, hy, e⟩ := List.mem_filterMap.mp hb'
          have h1 := I5.ok.cab yy b (hfn yy) e
          have e0s : X.s_0 = s := by rw [← hX]; rfl
          rw [e0s] at h1
          cases q : s.heap.get? b with
          | none => rfl
          | some o => exact absurd (Heap.lt_size q) (Nat.not_lt.mpr h1)
      have un : Un (frs outer) [] H (L2.upd Hd2 L (.lst vs2)) s.heap s5.heap := by
        have := I5.base
        rw [← hX] at this
        exact this
      have hokX : HOk X.prog X.w (L2.upd Hd2 L (.lst vs2)) s5.heap := I5.hok
      rw [hpw.1, hpw.2] at hokX
      refine ⟨.ref L, plusH (L2.upd Hd2 L (.lst vs2)) s5.heap X0, ?_, I5.bare, ⟨un.keep, un.slot, fun b o e n x => ?_, un.there, fun b xs e => ?_, fun b o u e => ?_, fun b ps e => ?_⟩, fun b u e => ?_, rfl, ?_⟩
      · have := I5.os; rw [← hX] at this; exact this
      · rw [plus_out fun m => by rw [cab b m] at e; cases e]; exact un.free b o e n x
      · have e1 := un.tups b xs e; rw [plus_out (nX (by rw [e1]; exact fun z => nomatch z))]; exact e1
      · have e1 := un.frzs b o u e; rw [plus_out (nX (by rw [e1]; exact fun z => nomatch z))]; exact e1
      · obtain ⟨m, e1⟩ := un.tbls b ps e; exact ⟨m, by rw [plus_out (nX (by rw [e1]; exact fun z => nomatch z))]; exact e1⟩
      · by_cases q : b ∈ X0
        · obtain ⟨o, v, ho, _⟩ := ck.at_ b q
          rw [plus_in q ho] at e; cases e
          exact ⟨ho, ⟨o, ho⟩, fun h1 h2 a k => k _ a⟩
        · rw [plus_out q] at e
          refine (hokX b u e).stay (fun _ _ _ e => e) (fun c e => ?_) fun c xs e => ?_
          · rw [plus_out (nX (by rw [e]; exact fun z => nomatch z))]; exact e
          · rw [plus_out (nX (by rw [e]; exact fun z => nomatch z))]; exact e
      · rw [eK] at rS rl
        refine Fm r2 _ stP rS _ ?_
        rw [Rep]
        exact ⟨L, vs2, rfl, .inl ⟨.inl (by rw [plus_out (nX (by rw [upd_same]; exact fun z => nomatch z)), upd_same]), frL.1, frL.2⟩, by simpa using rl⟩
  rw [hpw.1, hpw.2, hAx, env_, hxe, ← hb0] at main
  refine wpAny_mono main (fun fl s' hs => ?_) fun e s' hs => hs
  cases fl with
  | ret u => exact hs
  | next => exact hs.elim
  | brk => exact hs.elim
  | cont => exact hs.elim
/-! ### where a lambda stands in the text -/
def noE : Expr := .Constant .none 0 ⟨0, 0, 0, 0⟩
def kids : Expr → List Expr
  | .Call f as _ _ => f :: as
  | .Compare l _ rs _ => l :: rs
  | .BoolOp _ vs _ => vs
  | .BinOp a _ b _ => [a, b]
  | .UnaryOp _ a _ => [a]
  | .List es _ => es
  | .Tuple es _ _ => es
  | .Subscript a b _ => [a, b]
  | .ListComp e _ _ _ => [e]
  | .Attribute a _ _ => [a]
  | .IfExp a b c _ => [a, b, c]
  | .Lambda _ b _ _ => [b]
  | _ => []
def walkE (e : Expr) : List Nat → Expr
  | [] => e
  | i :: r => walkE ((kids e).getD i noE) r
def stE : Stmt → Expr
  | .Expr e _ => e
  | .Return (some e) _ => e
  | .Assign _ e _ => e
  | .If c _ _ _ => c
  | _ => noE
def stB : Stmt → List Stmt
  | .If _ b _ _ => b
  | .For _ _ b _ _ => b
  | .While _ b _ _ => b
  | .Try b _ _ _ _ => b
  | .FunctionDef _ _ body _ _ _ _ _ _ _ => body
  | _ => []
def walkS (st : Stmt) : List Nat → Stmt
  | [] => st
  | i :: r => walkS ((stB st).getD i st) r
def lamP : Expr → Arguments
  | .Lambda p _ _ _ => p
  | _ => default
def lamBd : Expr → Expr
  | .Lambda _ b _ _ => b
  | _ => noE
def lamSc : Expr → Scope
  | .Lambda _ _ s _ => s
  | _ => default
abbrev lamOf (e : Expr) (q : Str) (caps ps more : List Str) : LamC := ⟨lamP e, lamBd e, lamSc e, q, caps, ps, more⟩
end Mp
end SMpZ

section SMpAA
set_option Elab.async false
set_option linter.all false
set_option maxRecDepth 100000
set_option maxHeartbeats 2000000
namespace L2
open PySem PySem.Spec PyProof.Rows
theorem tuple_mul1 (l : Addr) (items : Array Value) (n : Nat) (dd : Option Addr) (sl : Array (Option Value)) (u : Tok) :
    Meets (Builtin.«tuple.__mul__» ⟨[.ref l, .int 1 u], []⟩) (fun _ R s => s.heap.get? l = some { cls := .type "tuple", dict := dd, data := .seq items n, slots := sl } ∧ R (.ok (.ret (Value.ref l))) s) :=
  .of_wp fun prog w A R s h => by
    obtain ⟨hp, g, d, tk, os⟩ := s
    obtain ⟨hl, h⟩ := h
    have f1 := AutoSeq1.idx_int
    have c1 : (items.isEmpty || (1 : Int) == 1) = true := by simp
    wp_walk using wpAny_loadPart' hl
    repeat (first
      | (refine wpAny_ite_true (decide_eq_true (by exact c1)) ?_; wp_walk using wpAny_loadPart' hl))
    exact ⟨_, rfl, h⟩
theorem rep_array (its : List Value) (m : Nat) : List.foldl (fun x1 x2 => x1 ++ x2) #[] (List.replicate (if its.toArray.isEmpty = true then 0 else m) its.toArray) = (List.replicate m its).flatten.toArray := by
  have from_ : ∀ (m : Nat) (acc : Array Value), List.foldl (fun x1 x2 => x1 ++ x2) acc (List.replicate m its.toArray) = acc ++ (List.replicate m its).flatten.toArray := by
    intro m
    induction m with
    | zero => simp
    | succ m ih => intro acc; simp [List.replicate_succ, ih]
  match its with
  | [] => simp
  | a :: r => simpa using from_ m #[]
section
variable {X : Cx}
theorem op_rep1 {pins : List (Addr × Obj)} {s : Shared} {σ : L2.St} {H : Hp} {l : Addr} {xs : List V} {t : Tok} {Q : VK} (I : Inv X pins σ H s) (hT : SqT X.K H l xs) (q : Q (.ref l) H) : wpAny (model X.prog X.w) X.A (binaryOp .Mult (.ref l) (.int 1 t)) (EP X pins σ Q) X.xe s := by
  rcases I.tuple hT with ⟨its, _, ⟨⟨_, dd, _, sl⟩, ho, rfl, n, rfl⟩, _⟩
  refine wpAny_binaryOp_repeat_ref (T := "tuple") (U := "int") (by decide) ⟨_, ho, rfl⟩ (fun s' => typeIs_int s' 1 t) noFill_tuple_mul F.fills_int_mul F.slot_int_rmul repeat_tuple F.slot_int_index.lookup
    (call_meets F.slot_int_rmul (typeIs_int s 1 t) F.entry_int_rmul (F.args_int_rmul_2 _ _) (int_rmul_tuple 1 t l its.toArray n dd sl)
      ⟨ho, rfl, ⟨_, ho, rfl⟩, call_meets F.slot_tuple_mul ⟨_, ho, rfl⟩ F.entry_tuple_mul (F.args_tuple_mul_2 _ _) (tuple_mul1 l its.toArray n dd sl t) ⟨ho, ?_⟩⟩)
  exact ⟨.ref l, H, I, rfl, q⟩
theorem op_repS {pins : List (Addr × Obj)} {s : Shared} {σ : L2.St} {H : Hp} {l : Addr} {xs : List V} {k : Int} {t : Tok} {Q : VK} (I : Inv X pins σ H s) (hL : SqL X.K H l xs) (h1 : -(2 ^ 63) ≤ k) (h2 : k < 2 ^ 63) (hz : xs.length * k.toNat ≤ sizeLine) (q : ∀ p, H p = none → Q (.ref p) (upd H p (.lst (List.replicate k.toNat xs).flatten))) :
    wpAny (model X.prog X.w) X.A (binaryOp .Mult (.ref l) (.int k t)) (EP X pins σ Q) X.xe s := by
  rcases I.list hL with ⟨its, vals, ⟨⟨_, _, _, sl⟩, n, here, rfl, rfl, rfl⟩, _⟩
  have small : its.toArray.size * k.toNat ≤ sizeLine := by simpa [← vals.length] using hz
  have line : sizeLine ≤ (2 ^ 63 - 1) / 8 := by decide
  have ty : s.TypeIs (.ref l) "list" := ⟨_, here, rfl⟩
  have mul := lm_list_mul_any l its.toArray n none sl k t (by simp [fitsIndex_both h1 h2]) (by omega) (fun z => nomatch (notLongL small).symm.trans z)
  have both := I.lnew (t' := s.toks) (vals.rep k.toNat) (by rw [PyProof.Rows.lm_len_rep_flat, Nat.mul_comm]; exact hz)
  refine wpAny_binaryOp_repeat_ref (T := "list") (U := "int") (by decide) ty (fun s' => typeIs_int s' k t) noFill_list_mul F.fills_int_mul F.slot_int_rmul repeat_list F.slot_int_index.lookup ?_
  refine call_meets F.slot_int_rmul (typeIs_int s k t) F.entry_int_rmul (F.args_int_rmul_2 _ _) (lm_int_rmul_list_any k t l its.toArray n none sl) ⟨here, rfl, ty, ?_⟩
  refine call_meets F.slot_list_mul ty F.entry_list_mul (F.args_list_mul_2 _ _) mul ⟨here, ?_⟩
  rw [rep_array]
  exact ⟨.ref _, _, both, rfl, q _ I.fresh⟩
end
end L2
open PySem PySem.Spec PyProof.Rows L2
namespace Mp
variable [Lt]
/-- a tuple or a list, times an int -/
def oMulS : Op2 := fun S x y => match y with
  | .int k => match x with
    | .tup a => if a ≠ [] ∧ 1 ≤ k ∧ k ≤ 1000 ∧ a.length ≤ 1000 then some (.tup (List.replicate k.toNat a).flatten) else none
    | x => match lstOf S x with
      | some a => if 0 ≤ k ∧ k ≤ 1000 ∧ a.length ≤ 1000 then some (.lst (List.replicate k.toNat a).flatten) else none
      | none => none
  | _ => none
/-- tuple(range(n)) -/
def mTupRg (a : MEx) : MEx := fun e S => (a e S).bind fun x S => match x with
  | .int n => if 0 ≤ n ∧ n ≤ 1000000 then .ok (.tup ((List.range n.toNat).map fun i => .int (i : Nat))) S else .bad
  | _ => .bad
section
variable {X : Cx} {W : WX}
theorem ov_mulS : OpV X (binaryOp .Mult) oMulS := by
  intro pins s σ H r z S x y d v w u t Q I rs_ rx ry ru rt eo k
  cases y with
  | int n =>
    rw [Rep] at ry
    subst ry
    obtain ⟨tt, rfl⟩ := rt
    have lst : ∀ a, lstOf S x = some a → (if 0 ≤ n ∧ n ≤ 1000 ∧ a.length ≤ 1000 then some (D.lst (List.replicate n.toNat a).flatten) else none) = some d → wpAny (model X.prog X.w) X.A (binaryOp .Mult u (.int n tt)) (EP X pins σ Q) X.xe s := by
      intro a ha eo
      split at eo
      · rename_i c
        cases eo
        obtain ⟨p, xs, rfl, q1, l1⟩ := rep_lst rs_ rx ha
        cases ru
        have e1 := l1.length
        exact op_repS I q1 (by omega) (by omega) (by
          rw [sizeLine_eq]
          have a1 : xs.length * n.toNat ≤ 1000 * 1000 := Nat.mul_le_mul (by omega) (by omega)
          omega) fun m hm => k _ _ (Step.upd hm) (rs_.upd hm) (Rep.newL rs_ hm (repL_rep l1 _))
      · cases eo
    cases x with
    | tup a =>
      rw [Rep] at rx
      obtain ⟨p, xs, rfl, q1, l1⟩ := rx
      have eo : (if a ≠ [] ∧ 1 ≤ n ∧ n ≤ 1000 ∧ a.length ≤ 1000 then some (D.tup (List.replicate n.toNat a).flatten) else none) = some d := eo
      have e1 := l1.length
      split at eo
      · rename_i c
        cases eo
        by_cases h1 : n = 1
        · subst h1
          cases ru
          refine op_rep1 I q1.sq (k H _ (Step.refl r H) rs_ ?_)
          rw [Rep]
          exact ⟨p, xs, rfl, q1, by simpa using l1⟩
        · refine op_repT pins s σ H (.ref p) (.int n) u _ Q I ru ⟨tt, rfl⟩ ⟨p, n, xs, rfl, rfl, q1.sq, fun h => ?_, by omega, c.2.2.1, by omega, fun m hm => ?_⟩
          · subst h
            exact c.1 (List.eq_nil_of_length_eq_zero (by simpa using e1))
          · exact k _ _ (Step.upd hm) (rs_.upd hm) (Rep.newT rs_ hm (repL_rep l1 _))
      · cases eo
    | lst a => exact lst _ rfl eo
    | loc m =>
      have eo : (match lstOf S (.loc m) with | some a => if 0 ≤ n ∧ n ≤ 1000 ∧ a.length ≤ 1000 then some (D.lst (List.replicate n.toNat a).flatten) else none | none => none) = some d := eo
      cases q : lstOf S (.loc m) with
      | none => rw [q] at eo; cases eo
      | some a => rw [q] at eo; exact lst _ q eo
    | _ => cases eo
  | _ => cases eo
theorem repL_rg {K : Kw} {r z : List Addr} {H : Hp} (n : Nat) : RepL K r z H ((List.range n).map fun i => D.int (i : Nat)) ((List.range n).map fun i => V.int (i : Nat)) := by
  generalize List.range n = l
  induction l with
  | nil => exact RepL.nil
  | cons a l ih => exact ih.cons (repI _)
theorem pev_tupRg {a : Expr} {ma : MEx} {p pos p' pos' : Pos} (hc : X.calm = true) (hg : Gl X "tuple") (hm : X.mg "tuple" = none) (hg2 : Gl X "range") (hm2 : X.mg "range" = none) (ha : PEv X W a ma) (na : starEach [a] X.env = (false, eval a X.env) :: starEach [] X.env := by rfl)
    (nb : starEach [.Call (.Name "range" p') [a] [] pos'] X.env = (false, eval (.Call (.Name "range" p') [a] [] pos') X.env) :: starEach [] X.env := by rfl) : PEv X W (.Call (.Name "tuple" p) [.Call (.Name "range" p') [a] [] pos'] [] pos) (mTupRg ma) := by
  refine ⟨fun pins s σ H Q I ⟨r, z, e, S, A, F⟩ => (pe_tupRg hc hg hm (prg_1 hg2 hm2 ha na) nb).run pins s σ H Q I ?_⟩
  refine ⟨r, z, e, S, A, ?_⟩
  unfold mTupRg at F
  cases q : ma e S with
  | bad => rw [q] at F; exact F
  | exc x e' S1 => rw [q] at F; exact F
  | ok d S1 =>
    rw [q, bind_ok] at F
    intro r' H' st rs1 v rv
    cases d with
    | int n =>
      rw [Rep] at rv
      subst rv
      have F : Fin r H (if 0 ≤ n ∧ n ≤ 1000000 then .ok (.tup ((List.range n.toNat).map fun i => D.int (i : Nat))) S1 else .bad) (kE X.kw z Q) (xpG X.kw X.mg z W) := F
      split at F
      · rename_i c
        refine ⟨n, rfl, RgOk.of_le (by omega) (by omega) (by omega) (by omega), fun p hp => F r' _ (st.trans (Step.upd hp)) (rs1.upd hp) _ ?_⟩
        have e1 : rgV 0 n = (List.range n.toNat).map fun i => V.int (i : Nat) := by unfold rgV; simp
        rw [e1]
        exact Rep.newT rs1 hp (repL_rg _)
      · exact F.elim
    | _ => exact F.elim
end
end Mp
end SMpAA

section SMpAB
set_option Elab.async false
set_option linter.all false
set_option maxRecDepth 100000
set_option maxHeartbeats 2000000
open PySem PySem.Spec PyProof.Rows L2
namespace Mp
/-! ### facts of the text, from the written part -/
def RestI (p : Str) (rest : List Stmt) : Option Str → Prop
  | none => rest = []
  | some f => ∃ q0 q1 q2 q3 : Pos, rest = [.Assign [.Attribute (.Name "self" q0) f q1] (.Name p q2) q3]
def NoFd (K : PySem.W.Frag) (C : Addr) : Option Str → Prop
  | none => True
  | some f => PySem.W.findIn K (.ref C) f = some none
theorem init_mk {P : Program} {K : PySem.W.Frag} {fI C : Addr} {p : Str} {fld : Option Str} {qual : Str} {params : Arguments} {body : List Stmt} {sc : Scope} {kV doc pm ct oc ccl cl : Value} {an od cdd cld : Option Addr} {osl ccs csl : Array (Option Value)} {cda cc : Addr} {vs : Array Value} {file : Str} {tf : Tok} {ar : Arg} {arg : Expr} {p0 p1 p2 p3 p4 : Pos} {rest : List Stmt}
    (h1 : K.lookup fI = some ⟨oc, od, .func (PySem.W.ksFn "__init__" qual params body sc .none kV doc pm an (.ref cda) ct cc), osl⟩) (h2 : PySem.W.codeIn K (.ref cda) qual = true) (h3 : ScI p sc)
    (h4 : K.lookup cda = some ⟨ccl, cdd, .fields vs, ccs⟩) (h5 : vs[2]? = some (.str file tf)) (h6 : ((P.main.file : Str) == file) = true) (h7 : K.lookup cc = some ⟨cl, cld, .cell (some (.ref C)), csl⟩)
    (h8 : (params.posonlyargs ++ params.args).head? = some ar) (h9 : ar.arg = ("self" : Str))
    (h10 : ∀ a u : Value, bindArgs (PySem.W.ksFn "__init__" qual params body sc .none kV doc pm an (.ref cda) ct cc) ⟨[a, u], []⟩ = pure [(("self" : Str), a), (p, u)])
    (hb : body = .Expr (.Call (.Attribute (.Call (.Name "super" p0) [] [] p1) "__init__" p2) [arg] [] p3) p4 :: rest) (ha : ArgI p arg)
    (hc : ∀ env : Env, ∃ pl : Sem Bool, eval (.Call (.Attribute (.Call (.Name "super" p0) [] [] p1) "__init__" p2) [arg] [] p3) env = (do
      let ov ← attributeBase (.Call (.Name "super" p0) [] [] p1) "__init__" env (eval (.Call (.Name "super" p0) [] [] p1) env)
      standAt p2.atName; let (f, first) ← holding [ov] (getMethod ov "__init__" pl); callWith p3 f first (backTo p3 (starEach [arg] env)) []))
    (hr : RestI p rest fld) (top : (P.main.scope.names.lookup ("super" : Str)).isSome = false) : InitT P K fI C p fld :=
  ⟨⟨qual, params, body, sc, kV, doc, pm, ct, oc, ccl, cl, an, od, cdd, cld, osl, ccs, csl, cda, cc, vs, file, tf, ar, h1, h2, h3, h4, h5, h6, h7, h8, h9, h10, arg, p0, p1, p2, p3, p4, ha, hc, rest, hb, by cases fld <;> exact hr⟩, top⟩
theorem ext_mk {P : Program} {K : PySem.W.Frag} {mg : Str → Option Value} {h : Heap} {x p : Str} {fld : Option Str} {C fI : Addr} {B newId initId : String} {bmB : List Value} {nm q : Str} {N : Addr} {bs : List Value} {sn : List Str} {sub : List Value} {ab : Bool} {col : Option Bool} {dd : Option Addr} {k0 k1 k2 k3 k5 : Option Value} (X : K.In h) (G : h.Ns mainGlobals mg) (xb : ExB B newId initId bmB)
    (g : PySem.W.nsIn K mainGlobals x = some (some (.ref C)))
    (cls : K.lookup C = some (excClassObj nm q C N bs bmB true sn sub ab col dd k0 k1 k2 k3 k5 newId))
    (sa : PySem.W.findIn K (.ref C) "__setattr__" = some (some (.builtin "object.__setattr__")))
    (ga : PySem.W.findIn K (.ref C) "__getattribute__" = some (some (.builtin "BaseException.__getattribute__")))
    (gg : PySem.W.findIn K (.ref C) "__getattr__" = some none)
    (exC : PySem.W.subIn K (.ref C) (.type "BaseException") = some true)
    (tyC : PySem.W.typeIn K (.ref C) = some (.type "type"))
    (icC : PySem.W.isClsIn K C = true)
    (kC : PySem.W.keepIn K (.ref C) = true)
    (hdC : PySem.W.hasDictIn K C = true)
    (iC : PySem.W.findIn K (.ref C) "__init__" = some (some (.ref fI)))
    (tI : PySem.W.typeIn K (.ref fI) = some (.type "function"))
    (subB : PySem.W.subIn K (.ref C) (.type B) = some true)
    (slf : PySem.W.mroIn K C (.ref C) = some true)
    (sIn : PySem.W.ks_superIn K C C "__init__" = some (some (.builtin initId)))
    (sup : PySem.W.nsIn K mainGlobals "super" = some none)
    (tp : PySem.W.nsIn K cStatics "thirdparty.any" = some none)
    (nof : NoFd K C fld)
    (ini : InitT P K fI C p fld) : ∃ T : ExT P K mg x p fld, T.C = C :=
  ⟨⟨C, fI, B, newId, initId, bmB, xb, PySem.W.mg_of X G g, ⟨nm, q, N, bs, sn, sub, ab, col, dd, k0, k1, k2, k3, k5, cls⟩, ⟨ga, gg, exC, hdC⟩, sa, tyC, icC, kC, iC, tI, subB, slf, sIn, PySem.W.mg_none_of X G sup, tp, fun f e => by subst e; exact nof, ini⟩, rfl⟩
theorem tab_mk {K : PySem.W.Frag} {x : Str} {f c P : Addr} {oc : Value} {od : Option Addr} {fd : FuncData} {sl : Array (Option Value)} {cc : Value} {cd : Option Addr} {vs : Array Value} {csl : Array (Option Value)} (a : PySem.W.nsIn K mainGlobals x = some (some (.ref f))) (l : K.lookup f = some ⟨oc, od, .func fd, sl⟩) (e : fd.code = .ref c)
    (lc : K.lookup c = some ⟨cc, cd, .fields vs, csl⟩) (hv : vs[11]? = some (.ref P)) : PySem.W.tabIn K x = some (c, P) := by
  unfold PySem.W.tabIn
  rw [a]
  simp only [l, e, lc, hv]
end Mp
end SMpAB

section SMpAC
set_option Elab.async false
set_option linter.all false
set_option maxRecDepth 100000
set_option maxHeartbeats 2000000
open PySem PySem.Spec PyProof.Rows L2
namespace Mp
/-! ### comprehensions with two clauses -/
def comp2Go (r : Src) (e : Ev) (p : Pat) (t : MTs) (w1 : MSrc) (own1 : List Nat) (p1 : Pat) (t1 : MTs) (f : MEx) : List D → Sto → Out (List D)
  | [], S => if chk r S = true then .ok [] S else .bad
  | x :: xs, S => if chk r S = true then match bindP p x e with
    | none => .bad
    | some e1 => (t e1 S).bind fun b S => if b = true then (w1 e1 S).bind fun r1 S => if r1.items.length ≤ 1000 then (compGo r1 (wipeE e1 own1) p1 t1 f r1.items S).bind fun ys S => (comp2Go r e p t w1 own1 p1 t1 f xs S).bind fun zs S => .ok (ys ++ zs) S else .bad
      else comp2Go r e p t w1 own1 p1 t1 f xs S
    else .bad
def lComp2 (w : MSrc) (own : List Nat) (p : Pat) (t : MTs) (w1 : MSrc) (own1 : List Nat) (p1 : Pat) (t1 : MTs) (f : MEx) : MAs := fun e S => (w e S).bind fun r S => if r.items.length ≤ 1000 then calm (comp2Go r (wipeE e own) p t w1 own1 p1 t1 f r.items S) else .bad
variable [Lt]
section
variable {X : Cx} {W : WX} {tg iter tg1 iter1 : Expr} {w w1 : MSrc} {q q1 : Pat} {t t1 : MTs}
theorem comp2_reading {K : Kw} {Gm : Str → Option Value} {own own1 : List Nat} {f : MEx} {σ : L2.St} {H : Hp} {Q : VK} (hsl : ∀ j ∈ slotsP q, j ∈ own) (hsl1 : ∀ j ∈ slotsP q1, j ∈ own1) (h : tfM K Gm W (lComp2 w own q t w1 own1 q1 t1 f) σ H Q) :
    tLc2 (tiM K Gm W w) (gM K q) (ttM K Gm W0 t) (tiM K Gm W0 w1) (gM K q1) (ttM K Gm W0 t1) (tM K Gm W0 f) own own1 σ H Q := by
  obtain ⟨r, z, e, S, A, F⟩ := h
  refine ⟨r, z, e, S, A, ?_⟩
  unfold lComp2 at F
  cases qs : w e S with
  | bad => rw [qs] at F; exact F
  | exc x e' S1 => rw [qs] at F; exact F
  | ok src S1 =>
    rw [qs, bind_ok] at F
    by_cases hsz : src.items.length ≤ 1000
    case neg => rw [if_neg hsz] at F; exact F.elim
    rw [if_pos hsz] at F
    intro r1 H1 st rs_ J G ok g
    have F := Fin.step st F
    obtain ⟨T0, hT0⟩ : ∃ T0, calm (comp2Go src (wipeE e own) q t w1 own1 q1 t1 f src.items S1) = T0 := ⟨_, rfl⟩
    rw [hT0] at F
    intro L hL
    have zL : L ∉ z := (rs_.fresh hL).2
    have A0 : All K r1 (L :: z) (L2.upd H1 L (.lst [])) (wipe σ own) (wipeE e own) S1 := ⟨hide_S hL rs_, hide_E hL (wipe_rep (A.e.step st) own)⟩
    refine ⟨fun i m' H' => m' = src.items.length - i ∧ i ≤ src.items.length ∧ ∃ r' S' acc vs, H' L = some (.lst vs) ∧ G r' (L :: z) H' ∧ All K r' (L :: z) H' (wipe σ own) (wipeE e own) S' ∧ RepL K r' (L :: z) H' acc vs ∧ acc.length ≤ 1000 * i ∧ Step r1 H1 r' (del H' L) ∧
        T0 = (calm (comp2Go src (wipeE e own) q t w1 own1 q1 t1 f (src.items.drop i) S')).bind fun ys S2 => .ok (acc ++ ys) S2,
      ⟨src.items.length, by simp, Nat.zero_le _, r1, S1, [], [], upd_same, ok.hide _ _ _ _ _ g hL, A0, RepL.nil, by simp, Step.del0 hL, ?_⟩, ?_⟩
    · rw [List.drop_zero, hT0]
      cases T0 <;> rfl
    rintro i m' H' ⟨rfl, hi, r', S', acc, vs, eL, g', A', la, hacc, stp, eq⟩
    have nb : calm (comp2Go src (wipeE e own) q t w1 own1 q1 t1 f (src.items.drop i) S') ≠ .bad := fun z => by rw [eq, z] at F; exact F
    by_cases hlt : i < src.items.length
    · have hd : src.items.drop i = src.items[i] :: src.items.drop (i + 1) := List.drop_eq_getElem_cons hlt
      rw [hd] at eq nb
      unfold comp2Go at eq nb
      by_cases hc : chk src S' = true
      case neg => rw [if_neg hc] at nb; exact absurd rfl nb
      rw [if_pos hc] at nb
      obtain ⟨h1, h2⟩ := ok.go r' (L :: z) H' S' i src.items[i] g' A'.s hc (by simp [hlt])
      refine .inr ⟨h1, fun H2 => (∃ r2 S2 acc vs, H2 L = some (.lst vs) ∧ G r2 (L :: z) H2 ∧ All K r2 (L :: z) H2 (wipe σ own) (wipeE e own) S2 ∧ RepL K r2 (L :: z) H2 acc vs ∧ acc.length ≤ 1000 * (i + 1) ∧ Step r1 H1 r2 (del H2 L) ∧
          T0 = (calm (comp2Go src (wipeE e own) q t w1 own1 q1 t1 f (src.items.drop (i + 1)) S2)).bind fun ys S2 => .ok (acc ++ ys) S2),
        fun H2 n2 => ⟨src.items.length - (i + 1), by omega, rfl, hlt, n2⟩, fun v H2 y => ?_⟩
      obtain ⟨st2, rs2, rv2⟩ := h2 v H2 y
      have eL2 : H2 L = some (.lst vs) := st2.keep L _ eL (fun m => A'.s.ap L m List.mem_cons_self) rfl
      cases eb : bindP q src.items[i] (wipeE e own) with
      | none => rw [eb] at nb; exact absurd rfl nb
      | some e1 =>
        have A2 : All K r' (L :: z) H2 (wipe σ own) (wipeE e own) S' := ⟨rs2, A'.e.step st2⟩
        refine ⟨r', L :: z, wipeE e own, S', src.items[i], e1, A2, rv2, eb, fun σ3 A3 K3 => ⟨?_, ?_⟩⟩
        · have e1 : wipe σ3 own = wipe (wipe σ own) own := wipe_ext K3.1 fun j hj => K3.2 j fun h => hj (hsl j h)
          rw [e1]
          exact wipe_ext (wipe_length σ own) fun j hj => wipe_out hj
        · rw [if_pos hc, eb] at eq
          rw [eb] at nb
          simp only at eq nb
          have stp2 : Step r1 H1 r' (del H2 L) := Step.del1 hL stp st2
          refine ⟨r', L :: z, e1, S', A3, ?_⟩
          cases qt : t e1 S' with
          | bad => rw [qt] at nb; exact absurd rfl nb
          | exc x e'' S2 => rw [qt] at nb; exact absurd rfl nb
          | ok k S2 =>
            rw [qt, bind_ok] at eq nb
            intro r3 H3 st3 rs3
            have eL3 : H3 L = some (.lst vs) := st3.keep L _ eL2 (fun m => A2.s.ap L m List.mem_cons_self) rfl
            have stp3 : Step r1 H1 r3 (del H3 L) := Step.del1 hL stp2 st3
            have g3 := ok.stay _ _ _ _ _ (ok.stay _ _ _ _ _ g' st2) st3
            cases k with
            | false =>
              rw [if_neg (by simp)] at eq
              rw [if_neg (by simp)]
              exact ⟨r3, S2, acc, vs, eL3, g3, ⟨rs3, A2.e.step st3⟩, (la.step st2).step st3, by omega, stp3, eq⟩
            | true =>
              rw [if_pos rfl] at eq nb
              rw [if_pos rfl]
              refine ⟨r3, L :: z, e1, S2, ⟨rs3, A3.e.step st3⟩, ?_⟩
              cases q1s : w1 e1 S2 with
              | bad => rw [q1s] at nb; exact absurd rfl nb
              | exc x e'' S3 => rw [q1s] at nb; exact absurd rfl nb
              | ok src1 S3 =>
                rw [q1s, bind_ok] at eq nb
                by_cases hs1 : src1.items.length ≤ 1000
                case neg => rw [if_neg hs1] at nb; exact absurd rfl nb
                rw [if_pos hs1] at eq
                intro r4 H4 st4 rs4 J1 G1 ok1 gg1
                have eL4 : H4 L = some (.lst vs) := st4.keep L _ eL3 (fun m => rs3.ap L m List.mem_cons_self) rfl
                have stp4 : Step r1 H1 r4 (del H4 L) := Step.del1 hL stp3 st4
                have g4 := ok.stay _ _ _ _ _ g3 st4
                refine ⟨fun j k H' => k = src1.items.length - j ∧ j ≤ src1.items.length ∧ ∃ r' S' acc vs, H' L = some (.lst vs) ∧ G r' (L :: z) H' ∧ G1 r' (L :: z) H' ∧ All K r' (L :: z) H' (wipe σ3 own1) (wipeE e1 own1) S' ∧ RepE K r' (L :: z) H' (wipe σ own) (wipeE e own) ∧ RepL K r' (L :: z) H' acc vs ∧ acc.length ≤ 1000 * i + j ∧ Step r1 H1 r' (del H' L) ∧
                    T0 = (calm ((compGo src1 (wipeE e1 own1) q1 t1 f (src1.items.drop j) S').bind fun ys S => (comp2Go src (wipeE e own) q t w1 own1 q1 t1 f (src.items.drop (i + 1)) S).bind fun zs S => .ok (ys ++ zs) S)).bind fun ys S2 => .ok (acc ++ ys) S2,
                  ⟨src1.items.length, by simp, Nat.zero_le _, r4, S3, acc, vs, eL4, g4, gg1, ⟨rs4, wipe_rep ((A3.e.step st3).step st4) own1⟩, (A2.e.step st3).step st4, ((la.step st2).step st3).step st4, by omega, stp4, by rw [List.drop_zero]; exact eq⟩, ?_⟩
                clear eq nb
                rintro j k H5 ⟨rfl, hj, r5, S5, acc5, vs5, eL5, g5, gg5, A5, E5, la5, hacc5, stp5, eq⟩
                have nb : calm ((compGo src1 (wipeE e1 own1) q1 t1 f (src1.items.drop j) S5).bind fun ys S => (comp2Go src (wipeE e own) q t w1 own1 q1 t1 f (src.items.drop (i + 1)) S).bind fun zs S => .ok (ys ++ zs) S) ≠ .bad := fun z => by rw [eq, z] at F; exact F
                by_cases hlt1 : j < src1.items.length
                · have hd1 : src1.items.drop j = src1.items[j] :: src1.items.drop (j + 1) := List.drop_eq_getElem_cons hlt1
                  rw [hd1] at eq nb
                  unfold compGo at eq nb
                  by_cases hc1 : chk src1 S5 = true
                  case neg => rw [if_neg hc1] at nb; exact absurd rfl nb
                  rw [if_pos hc1] at nb eq
                  obtain ⟨h3, h4⟩ := ok1.go r5 (L :: z) H5 S5 j src1.items[j] gg5 A5.s hc1 (by simp [hlt1])
                  refine .inr ⟨h3, fun H2 => (∃ r' S' acc vs, H2 L = some (.lst vs) ∧ G r' (L :: z) H2 ∧ G1 r' (L :: z) H2 ∧ All K r' (L :: z) H2 (wipe σ3 own1) (wipeE e1 own1) S' ∧ RepE K r' (L :: z) H2 (wipe σ own) (wipeE e own) ∧ RepL K r' (L :: z) H2 acc vs ∧ acc.length ≤ 1000 * i + (j + 1) ∧ Step r1 H1 r' (del H2 L) ∧
                      T0 = (calm ((compGo src1 (wipeE e1 own1) q1 t1 f (src1.items.drop (j + 1)) S').bind fun ys S => (comp2Go src (wipeE e own) q t w1 own1 q1 t1 f (src.items.drop (i + 1)) S).bind fun zs S => .ok (ys ++ zs) S)).bind fun ys S2 => .ok (acc ++ ys) S2),
                    fun H2 n2 => ⟨src1.items.length - (j + 1), by omega, rfl, hlt1, n2⟩, fun v6 H6 y6 => ?_⟩
                  obtain ⟨st6, rs6, rv6⟩ := h4 v6 H6 y6
                  have eL6 : H6 L = some (.lst vs5) := st6.keep L _ eL5 (fun m => A5.s.ap L m List.mem_cons_self) rfl
                  have stp6 : Step r1 H1 r5 (del H6 L) := Step.del1 hL stp5 st6
                  have g6 := ok.stay _ _ _ _ _ g5 st6
                  have gg6 := ok1.stay _ _ _ _ _ gg5 st6
                  cases eb1 : bindP q1 src1.items[j] (wipeE e1 own1) with
                  | none => rw [eb1] at nb; exact absurd rfl nb
                  | some e2 =>
                    have A6 : All K r5 (L :: z) H6 (wipe σ3 own1) (wipeE e1 own1) S5 := ⟨rs6, A5.e.step st6⟩
                    refine ⟨r5, L :: z, wipeE e1 own1, S5, src1.items[j], e2, A6, rv6, eb1, fun σ7 A7 K7 => ⟨?_, ?_⟩⟩
                    · have e1 : wipe σ7 own1 = wipe (wipe σ3 own1) own1 := wipe_ext K7.1 fun j hj => K7.2 j fun h => hj (hsl1 j h)
                      rw [e1]
                      exact wipe_ext (wipe_length σ3 own1) fun j hj => wipe_out hj
                    · rw [eb1] at eq nb
                      simp only at eq nb
                      refine ⟨r5, L :: z, e2, S5, A7, ?_⟩
                      cases qt1 : t1 e2 S5 with
                      | bad => rw [qt1] at nb; exact absurd rfl nb
                      | exc x e'' S6 => rw [qt1] at nb; exact absurd rfl nb
                      | ok k1 S6 =>
                        rw [qt1, bind_ok] at eq nb
                        intro r8 H8 st8 rs8
                        have eL8 : H8 L = some (.lst vs5) := st8.keep L _ eL6 (fun m => A6.s.ap L m List.mem_cons_self) rfl
                        have stp8 : Step r1 H1 r8 (del H8 L) := Step.del1 hL stp6 st8
                        have g8 := ok.stay _ _ _ _ _ g6 st8
                        have gg8 := ok1.stay _ _ _ _ _ gg6 st8
                        cases k1 with
                        | false =>
                          rw [if_neg (by simp)] at eq
                          rw [if_neg (by simp)]
                          exact ⟨r8, S6, acc5, vs5, eL8, g8, gg8, ⟨rs8, A6.e.step st8⟩, (E5.step st6).step st8, (la5.step st6).step st8, by omega, stp8, eq⟩
                        | true =>
                          rw [if_pos rfl] at eq nb
                          rw [if_pos rfl]
                          refine ⟨r8, L :: z, e2, S6, ⟨rs8, A7.e.step st8⟩, ?_⟩
                          cases qf : f e2 S6 with
                          | bad => rw [qf] at nb; exact absurd rfl nb
                          | exc x e'' S7 => rw [qf] at nb; exact absurd rfl nb
                          | ok yv S7 =>
                            rw [qf, bind_ok] at eq
                            intro r9 H9 st9 rs9 v9 rv9
                            have eL9 : H9 L = some (.lst vs5) := st9.keep L _ eL8 (fun m => rs8.ap L m List.mem_cons_self) rfl
                            have stp9 : Step r1 H1 r9 (del H9 L) := Step.del1 hL stp8 st9
                            have g9 := ok.stay _ _ _ _ _ g8 st9
                            have gg9 := ok1.stay _ _ _ _ _ gg8 st9
                            have la9 := ((la5.step st6).step st8).step st9
                            have hlen := la9.length
                            refine ⟨vs5, eL9, by rw [sizeLine_eq]; omega, r9, S7, acc5 ++ [yv], vs5 ++ [v9], upd_same, ok.busy _ _ _ _ _ g9 List.mem_cons_self, ok1.busy _ _ _ _ _ gg9 List.mem_cons_self, ⟨busy_S List.mem_cons_self rs9, busy_E List.mem_cons_self ((A6.e.step st8).step st9)⟩,
                              busy_E List.mem_cons_self (((E5.step st6).step st8).step st9), (busy_rep List.mem_cons_self).2 _ _ (la9.append (RepL.nil.cons rv9)), by simp; omega, by rw [del_upd]; exact stp9, ?_⟩
                            rw [eq]
                            cases compGo src1 (wipeE e1 own1) q1 t1 f (src1.items.drop (j + 1)) S7 with
                            | ok ys S8 =>
                              simp only [bind_ok]
                              cases comp2Go src (wipeE e own) q t w1 own1 q1 t1 f (src.items.drop (i + 1)) S8 with
                              | ok zs S9 => simp
                              | exc x e'' S9 => rfl
                              | bad => rfl
                            | exc x e'' S8 => rfl
                            | bad => rfl
                · have hd1 : src1.items.drop j = [] := List.drop_eq_nil_of_le (by omega)
                  rw [hd1] at eq nb
                  unfold compGo at eq nb
                  by_cases hc1 : chk src1 S5 = true
                  case neg => rw [if_neg hc1] at nb; exact absurd rfl nb
                  rw [if_pos hc1, bind_ok] at eq
                  refine .inl ⟨ok1.stop r5 (L :: z) H5 S5 j gg5 A5.s hc1 (by omega), r5, S5, acc5, vs5, eL5, g5, ⟨A5.s, E5⟩, la5, by omega, stp5, ?_⟩
                  rw [eq]
                  cases comp2Go src (wipeE e own) q t w1 own1 q1 t1 f (src.items.drop (i + 1)) S5 with
                  | ok zs S9 => simp
                  | exc x e'' S9 => rfl
                  | bad => rfl
    · have hd : src.items.drop i = [] := List.drop_eq_nil_of_le (by omega)
      rw [hd] at eq nb
      unfold comp2Go at eq nb
      by_cases hc : chk src S' = true
      · rw [if_pos hc, calm_ok, bind_ok, List.append_nil] at eq
        rw [eq] at F
        refine .inl ⟨ok.stop r' (L :: z) H' S' i g' A'.s hc (by omega), ?_⟩
        have := F r' (del H' L) stp (show_S zL A'.s) vs (show_rep.2 _ _ la) L del_same
        rw [upd_del eL] at this
        exact this
      · rw [if_neg hc] at nb; exact absurd rfl nb
theorem pfv_comp2 {elt : Expr} {ifs ifs1 : List Expr} {scope : Scope} {own : List (Str × Nat)} {vs1 : List Nat} {f : MEx} {pos : Pos} (hc : X.calm = true) (hN : X.N.Nodup) (hi : PIv X W tg iter w) (ok : BlkOk X.N X.env.scope scope own)
    (hg : ∀ (s : Shared) (H : Hp) (C : Addr) (cl : List (Str × Addr)) (fp : List Addr), PGv (X.blk s H scope (compEnvC scope cl C X.env) fp) tg q)
    (ht : ∀ (s : Shared) (H : Hp) (C : Addr) (cl : List (Str × Addr)) (fp : List Addr), PTsv (X.blk s H scope (compEnvC scope cl C X.env) fp) W0 ifs t)
    (hi1 : ∀ (s : Shared) (H : Hp) (C : Addr) (cl : List (Str × Addr)) (fp : List Addr), PIv (X.blk s H scope (compEnvC scope cl C X.env) fp) W0 tg1 iter1 w1)
    (hg1 : ∀ (s : Shared) (H : Hp) (C : Addr) (cl : List (Str × Addr)) (fp : List Addr), PGv (X.blk s H scope (compEnvC scope cl C X.env) fp) tg1 q1)
    (ht1 : ∀ (s : Shared) (H : Hp) (C : Addr) (cl : List (Str × Addr)) (fp : List Addr), PTsv (X.blk s H scope (compEnvC scope cl C X.env) fp) W0 ifs1 t1)
    (he : ∀ (s : Shared) (H : Hp) (C : Addr) (cl : List (Str × Addr)) (fp : List Addr), PEv (X.blk s H scope (compEnvC scope cl C X.env) fp) W0 elt f)
    (hv : ∀ i ∈ vs1, i ∈ own.map (·.2)) (hsl : ∀ j ∈ slotsP q, j ∈ own.map (·.2)) (hsl1 : ∀ j ∈ slotsP q1, j ∈ vs1) (hs : ∀ x, foldedSetIterable iter X.env x = pure x := by intro _; rfl) (hs1 : ∀ env x, foldedSetIterable iter1 env x = pure x := by intro _ _; rfl) :
    PFv X W (.ListComp elt [⟨tg, iter, ifs, 0⟩, ⟨tg1, iter1, ifs1, 0⟩] scope pos) (lComp2 w (own.map (·.2)) q t w1 vs1 q1 t1 f) :=
  ⟨fun pins s σ H Q I h => (pe_lc2 (g := gM X.kw q) (tt := ttM X.kw X.mg W0 t) (g1 := gM X.kw q1) (tt1 := ttM X.kw X.mg W0 t1) (wi1 := tiM X.kw X.mg W0 w1) (te := tM X.kw X.mg W0 f) hc hN hi ok hv hg ht hi1 hg1 ht1 he hs hs1).run pins s σ H Q I (comp2_reading hsl hsl1 h)⟩
theorem psv_setLc2 (i : Nat) {y : Str} {py spos : Pos} {elt : Expr} {ifs ifs1 : List Expr} {scope : Scope} {own : List (Str × Nat)} {vs1 : List Nat} {f : MEx} {pos : Pos} (hc : X.calm = true) (hN : X.N.Nodup) (hi : PIv X W tg iter w) (ok : BlkOk X.N X.env.scope scope own)
    (hg : ∀ (s : Shared) (H : Hp) (C : Addr) (cl : List (Str × Addr)) (fp : List Addr), PGv (X.blk s H scope (compEnvC scope cl C X.env) fp) tg q)
    (ht : ∀ (s : Shared) (H : Hp) (C : Addr) (cl : List (Str × Addr)) (fp : List Addr), PTsv (X.blk s H scope (compEnvC scope cl C X.env) fp) W0 ifs t)
    (hi1 : ∀ (s : Shared) (H : Hp) (C : Addr) (cl : List (Str × Addr)) (fp : List Addr), PIv (X.blk s H scope (compEnvC scope cl C X.env) fp) W0 tg1 iter1 w1)
    (hg1 : ∀ (s : Shared) (H : Hp) (C : Addr) (cl : List (Str × Addr)) (fp : List Addr), PGv (X.blk s H scope (compEnvC scope cl C X.env) fp) tg1 q1)
    (ht1 : ∀ (s : Shared) (H : Hp) (C : Addr) (cl : List (Str × Addr)) (fp : List Addr), PTsv (X.blk s H scope (compEnvC scope cl C X.env) fp) W0 ifs1 t1)
    (he : ∀ (s : Shared) (H : Hp) (C : Addr) (cl : List (Str × Addr)) (fp : List Addr), PEv (X.blk s H scope (compEnvC scope cl C X.env) fp) W0 elt f)
    (hv : ∀ i ∈ vs1, i ∈ own.map (·.2)) (hsl : ∀ j ∈ slotsP q, j ∈ own.map (·.2)) (hsl1 : ∀ j ∈ slotsP q1, j ∈ vs1)
    (hsw : swapsWith (.ListComp elt [⟨tg, iter, ifs, 0⟩, ⟨tg1, iter1, ifs1, 0⟩] scope pos) (some (.Name y py)) spos.line X.env = pure true) (hy : X.N[i]? = some y := by rfl) (hyl : X.env.scope.names.lookup y = some .local := by rfl) (hs : ∀ x, foldedSetIterable iter X.env x = pure x := by intro _; rfl) (hs1 : ∀ env x, foldedSetIterable iter1 env x = pure x := by intro _ _; rfl) :
    PSv X W (.Assign [.Name y py] (.ListComp elt [⟨tg, iter, ifs, 0⟩, ⟨tg1, iter1, ifs1, 0⟩] scope pos) spos) (sAsg (.nm i) (mFrz (lComp2 w (own.map (·.2)) q t w1 vs1 q1 t1 f))) :=
  ⟨fun pins s σ H D I h => (ps_setLc2 (g := gM X.kw q) (tt := ttM X.kw X.mg W0 t) (g1 := gM X.kw q1) (tt1 := ttM X.kw X.mg W0 t1) (wi1 := tiM X.kw X.mg W0 w1) (te := tM X.kw X.mg W0 f) hc hN hy hyl hsw hi ok hv hg ht hi1 hg1 ht1 he hs hs1).run pins s σ H D I (set_reading (fun Q h => comp2_reading hsl hsl1 h) h)⟩
theorem psv_setLc2N (i : Nat) {y : Str} {py spos : Pos} {elt : Expr} {ifs ifs1 : List Expr} {scope : Scope} {own : List (Str × Nat)} {vs1 : List Nat} {f : MEx} {pos : Pos} (hc : X.calm = true) (hN : X.N.Nodup) (hi : PIv X W tg iter w) (ok : BlkOk X.N X.env.scope scope own)
    (hg : ∀ (s : Shared) (H : Hp) (C : Addr) (cl : List (Str × Addr)) (fp : List Addr), PGv (X.blk s H scope (compEnvC scope cl C X.env) fp) tg q)
    (ht : ∀ (s : Shared) (H : Hp) (C : Addr) (cl : List (Str × Addr)) (fp : List Addr), PTsv (X.blk s H scope (compEnvC scope cl C X.env) fp) W0 ifs t)
    (hi1 : ∀ (s : Shared) (H : Hp) (C : Addr) (cl : List (Str × Addr)) (fp : List Addr), PIv (X.blk s H scope (compEnvC scope cl C X.env) fp) W0 tg1 iter1 w1)
    (hg1 : ∀ (s : Shared) (H : Hp) (C : Addr) (cl : List (Str × Addr)) (fp : List Addr), PGv (X.blk s H scope (compEnvC scope cl C X.env) fp) tg1 q1)
    (ht1 : ∀ (s : Shared) (H : Hp) (C : Addr) (cl : List (Str × Addr)) (fp : List Addr), PTsv (X.blk s H scope (compEnvC scope cl C X.env) fp) W0 ifs1 t1)
    (he : ∀ (s : Shared) (H : Hp) (C : Addr) (cl : List (Str × Addr)) (fp : List Addr), PEv (X.blk s H scope (compEnvC scope cl C X.env) fp) W0 elt f)
    (hv : ∀ i ∈ vs1, i ∈ own.map (·.2)) (hsl : ∀ j ∈ slotsP q, j ∈ own.map (·.2)) (hsl1 : ∀ j ∈ slotsP q1, j ∈ vs1)
    (hsw : swapsWith (.ListComp elt [⟨tg, iter, ifs, 0⟩, ⟨tg1, iter1, ifs1, 0⟩] scope pos) (some (.Name y py)) spos.line X.env = pure true) (hy : X.N[i]? = some y := by rfl) (hyl : X.env.scope.names.lookup y = some .local := by rfl) (hs : ∀ x, foldedSetIterable iter X.env x = pure x := by intro _; rfl) (hs1 : ∀ env x, foldedSetIterable iter1 env x = pure x := by intro _ _; rfl) :
    PSv X W (.Assign [.Name y py] (.ListComp elt [⟨tg, iter, ifs, 0⟩, ⟨tg1, iter1, ifs1, 0⟩] scope pos) spos) (sAsg (.nm i) (mNew (lComp2 w (own.map (·.2)) q t w1 vs1 q1 t1 f))) :=
  ⟨fun pins s σ H D I h => (ps_setLc2 (g := gM X.kw q) (tt := ttM X.kw X.mg W0 t) (g1 := gM X.kw q1) (tt1 := ttM X.kw X.mg W0 t1) (wi1 := tiM X.kw X.mg W0 w1) (te := tM X.kw X.mg W0 f) hc hN hy hyl hsw hi ok hv hg ht hi1 hg1 ht1 he hs hs1).run pins s σ H D I (set_readingN (fun Q h => comp2_reading hsl hsl1 h) h)⟩
end
end Mp
end SMpAC

section SMpAD
set_option Elab.async false
set_option linter.all false
set_option maxRecDepth 100000
set_option maxHeartbeats 2000000
open PySem PySem.Spec PyProof.Rows L2
namespace Mp
/-- *a, .. -/
def aStar (a : MEx) (r : MAs) : MAs := fun e S => (a e S).bind fun x S => match seqOf S x with
  | some xs => (r e S).bind fun ys S => .ok (xs ++ ys) S
  | none => .bad
variable [Lt]
section
variable {X : Cx} {W : WX} {a : Expr} {ma : MEx} {es : List Expr} {mr : MAs}
theorem rep_sq {K : Kw} {r z : List Addr} {H : Hp} {S : Sto} {d : D} {v : V} {xs : List D} (rs_ : RepS K r z H S) (h : Rep K r z H d v) (e : seqOf S d = some xs) : ∃ p vs, v = .ref p ∧ (SqT K.f H p vs ∨ SqL K.f H p vs) ∧ RepL K r z H xs vs := by
  cases d with
  | tup ys =>
    cases e
    rw [Rep] at h
    obtain ⟨p, vs, rfl, q, l⟩ := h
    exact ⟨p, vs, rfl, .inl q.sq, l⟩
  | _ =>
    obtain ⟨p, vs, rfl, q, l⟩ := rep_lst rs_ h e
    exact ⟨p, vs, rfl, .inr q, l⟩
theorem pav_star {p : Pos} (ha : PEv X W a ma) (hr : PAv X W es mr) (hs : starEach (.Starred a p :: es) X.env = (true, eval a X.env) :: starEach es X.env := by rfl) : PAv X W (.Starred a p :: es) (aStar ma mr) := by
  refine ⟨fun pos pins s σ H Q I ⟨r, z, e, S, A, F⟩ => ?_⟩
  rw [hs]
  refine PySem.W.ks_spliced (ha.go I A F fun u v r1 H1 s1 d S1 st1 I1 ru A1 R1 F1 => ?_)
  cases q : seqOf S1 d with
  | none => rw [q] at F1; exact F1.elim
  | some xs =>
    rw [q] at F1
    obtain ⟨p, ws, rfl, hsq, l⟩ := rep_sq A1.s R1 q
    obtain rfl : u = Value.ref p := ru
    refine StX.star_any I1 hsq fun us1 s1' I1' rv => ?_
    refine hr.go I1' A1 F1 fun us vs r2 H2 s2 ds S2 st2 I2 rus A2 R2 F2 => ?_
    exact ⟨ws ++ vs, H2, I2, rv.append rus, F2 r2 H2 (Step.refl _ _) A2.s _ ((l.step st2).append R2)⟩
end
end Mp
end SMpAD

section SMpAE
set_option Elab.async false
set_option linter.all false
set_option maxRecDepth 100000
set_option maxHeartbeats 2000000
open PySem PySem.Spec PyProof.Rows L2
namespace Mp
/-! ### what no law's walk comes to -/
def sBad : MSt := fun _ _ => .bad
def mBad : MEx := fun _ _ => .bad
/-- the first place of x in a list of data -/
def idxD (x : D) : List D → Option Nat
  | [] => none
  | y :: ys => if eqP y x = true then some 0 else (idxD x ys).map (· + 1)
/-- o.index(v) -/
def mIndex (o v : MEx) : MEx := fun e S => (o e S).bind fun o S => match lstOf S o with
  | none => .bad
  | some _ => (v e S).bind fun v S => match lstOf S o with
    | some ys => if fin deepN v = true ∧ finL deepN ys = true then (match idxD v ys with
      | some j => .ok (.int (j : Nat)) S
      | none => .bad) else .bad
    | none => .bad
theorem idxD_some {x : D} : ∀ {ys : List D} {j : Nat}, idxD x ys = some j → ∃ z, ys[j]? = some z ∧ eqP z x = true ∧ ∀ m z', m < j → ys[m]? = some z' → eqP z' x = false
  | [], j, h => by cases h
  | y :: ys, j, h => by
    unfold idxD at h
    split at h
    · rename_i c
      cases h
      exact ⟨y, rfl, c, fun m z' hm => absurd hm (Nat.not_lt_zero _)⟩
    · rename_i c
      obtain ⟨k, hk, rfl⟩ := Option.map_eq_some_iff.mp h
      obtain ⟨z, h1, h2, h3⟩ := idxD_some hk
      refine ⟨z, h1, h2, fun m z' hm e => ?_⟩
      cases m with
      | zero => cases e; simpa using c
      | succ m => exact h3 m z' (by omega) e
variable [Lt]
section
variable {X : Cx} {W : WX}
theorem psv_bad {st : Stmt} : PSv X W st sBad := ⟨fun pins s σ H D I ⟨r, z, e, S, A, F⟩ => F.elim⟩
theorem pev_bad {ex : Expr} : PEv X W ex mBad := ⟨fun pins s σ H Q I ⟨r, z, e, S, A, F⟩ => F.elim⟩
theorem pev_index {a b : Expr} {ma mb : MEx} {apos pos : Pos} (hu : X.A.units + 65 < cLine) (ho : PEv X W a ma) (ha : PEv X W b mb)
    (hbase : attributeBase a "index" X.env (eval a X.env) = eval a X.env := by rfl) (hfew : ((backTo pos (starEach [b] X.env)).all (fun x => !x.1) && (backToKw pos (keywordEach [] X.env)).all (fun x => x.1.isSome)
      && decide (([b] : List Expr).length + ([] : List Keyword).length + (if ([] : List Keyword).isEmpty then 0 else 1) < 30)) = true := by rfl)
    (hline : (apos.endLine == pos.line) = true := by rfl) (hs : starEach [b] X.env = (false, eval b X.env) :: starEach [] X.env := by rfl) :
    PEv X W (.Call (.Attribute a "index" apos) [b] [] pos) (mIndex ma mb) := by
  refine ⟨fun pins s σ H Q I ⟨r, z, e, S, A, F⟩ => ?_⟩
  refine (pe_bm PySem.F.plainAttrs_list PySem.F.slot_list_index PySem.F.type_list_index (mt_indexD hu) ho (pa_cons ha pa_nil hs) hbase hfew hline hs rfl).run pins s σ H Q I ⟨r, z, e, S, A, ?_⟩
  unfold mIndex at F
  cases qa : ma e S with
  | bad => rw [qa] at F; exact F
  | exc x e' S1 => rw [qa] at F; exact F
  | ok d S1 =>
    rw [qa, bind_ok] at F
    intro r1 H1 st rs_ v rv
    have F := Fin.step st F
    cases ql : lstOf S1 d with
    | none => rw [ql] at F; exact F.elim
    | some ys0 =>
      rw [ql] at F
      obtain ⟨q, vs, rfl, sq, l⟩ := rep_lst rs_ rv ql
      refine ⟨.inl ⟨rfl, vs, sq⟩, r1, z, e, S1, ⟨rs_, A.e.step st⟩, ?_⟩
      dsimp only at F
      cases qb : mb e S1 with
      | bad => rw [qb] at F; exact F
      | exc x e' S2 => rw [qb] at F; exact F
      | ok d2 S2 =>
        rw [qb, bind_ok] at F
        intro r2 H2 st2 rs2 v2 rv2
        have F := Fin.step st2 F
        cases ql2 : lstOf S2 d with
        | none => rw [ql2] at F; exact F.elim
        | some ys =>
          rw [ql2] at F
          dsimp only at F
          split at F
          · rename_i c
            cases hj : idxD d2 ys with
            | none => rw [hj] at F; exact F.elim
            | some j =>
              rw [hj] at F
              obtain ⟨p, ws, ep, sq2, l2⟩ := rep_lst rs2 (rv.step st2) ql2
              cases ep
              obtain ⟨zz, g1, g2, g3⟩ := idxD_some hj
              refine ⟨q, v2, toP d2, toPs ys, j, toP zz, rfl, rfl, .lst sq2 (rep_dps _ _ _ c.2 l2), rep_dp _ _ _ c.1 rv2, fin_shaped (n := deepN + 1) (d := .lst ys) (by simpa [fin] using c.2) (by decide), fin_shaped c.1 (by decide), ?_, g2, ?_, F r2 H2 (Step.refl _ _) rs2 _ (repI _)⟩
              · rw [toPs_map, List.getElem?_map, g1]; rfl
              · intro m z' hm e
                rw [toPs_map, List.getElem?_map] at e
                obtain ⟨y, e1, rfl⟩ := Option.map_eq_some_iff.mp e
                exact g3 m y hm e1
          · exact F.elim
end
end Mp
end SMpAE

section SMpAF
set_option Elab.async false
set_option linter.all false
set_option maxRecDepth 100000
set_option maxHeartbeats 2000000
open PySem PySem.Spec PyProof.Rows L2
namespace Mp
/-! ### {} and {k: v}, k a tuple -/
def mMap0 : MEx := fun _ S => .ok (.loc S.length) (S ++ [.map false []])
def mMap1 (a b : MEx) : MEx := fun e S => (calm ((a e S).bind fun k S => (b e S).bind fun v S => .ok (k, v) S)).bind fun p S => if keyOk p.1 = true ∧ noClo p.2 = true then .ok (.loc S.length) (S ++ [.map false [p]]) else .bad
/-- a display of one pair -/
theorem wpAny_Dict1 {prog : Program} {w : World} {A : Around} {E : Value → Shared → Prop} {s : Shared} {env : Env} {k v : Expr} {pos : Pos} {Q : Value → Shared → Prop}
    (h : wpAny (model prog w) A (eval k env) (fun kv s1 => wpAny (model prog w) A (eval v env) (fun vv s2 => wpAny (model prog w) A (dictSet s.heap.objs.size kv vv) (fun _ s3 => Q (.ref s.heap.objs.size) s3) E s2) E s1) E
      { s with heap := s.heap.push { cls := .type "dict", data := .dict #[] } }) : wpAny (model prog w) A (eval (.Dict [some k] [v] pos) env) Q E s := by
  rw [arm_eval_Dict, zip_pairTrees [some k] [v] env pos rfl rfl, dictDisplay_pairs _ (by simp [pairTrees]) (by simp [pairTrees])]
  refine wpAny_bind (wpAny_standAt (wpAny_bind ?_))
  unfold subDict
  refine wpAny_bind (wpAny_alloc (wpAny_bind (wpAny_holding ?_)))
  rw [if_pos (by simp [pairTrees])]
  refine wpAny_bind (pairTrees_cons_walk (wpAny_mono h (fun kv s1 h1 => wpAny_mono h1 (fun vv s2 h2 => pairTrees_nil_walk ?_) fun _ _ e => e) fun _ _ e => e))
  refine wpAny_holding ?_
  simp only [List.forIn_cons, List.forIn_nil]
  exact wpAny_bind (wpAny_bind (wpAny_bind (wpAny_mono h2 (fun _ s3 q => wpAny_pure (wpAny_pure (wpAny_pure (wpAny_pure (wpAny_pure q))))) fun _ _ e => e)))
section
variable [Lt] {X : Cx} {W : WX} {k v : Expr} {mk mv : MEx} {pos : Pos}
theorem nd_empty {w : World} (h : Heap) (hb : sysModules < h.objs.size) : NdIn w h.objs.size [] (h.push { cls := .type "dict", data := .dict #[] }) :=
  ⟨Nat.zero_le _, beq_eq_false_iff_ne.mpr (Nat.ne_of_gt hb), [], .nil, _, #[], 0, Heap.get?_push_size _ rfl, ⟨rfl, rfl, rfl⟩, rfl, rfl, List.nodup_nil⟩
theorem pev_map0 : PEv X W (.Dict [] [] pos) mMap0 := by
  refine ⟨fun pins s σ H Q I ⟨r, z, e, S, A, F⟩ => wpAny_Dict_empty ?_⟩
  have hp := I.hok.fresh (Nat.le_refl s.heap.objs.size)
  refine ⟨.ref s.heap.objs.size, _, I.laid (a := s.heap.objs.size) (o := ndO X.w s.heap.objs.size []) (t' := s.toks) (fun _ _ q => Heap.get?_push_of_some _ q) (Nat.le_refl _) (ndO_ok (nd_empty s.heap I.big)), rfl, ?_⟩
  refine F (r ++ [s.heap.objs.size]) _ (Step.new hp) (A.s.new hp ⟨rfl, [], ?_, rfl⟩) _ ?_
  · exact upd_same
  · rw [Rep]; exact ⟨s.heap.objs.size, by rw [← A.s.len]; simp, rfl⟩
theorem pev_map1 (hu : X.A.units + 65 < cLine) (hk : PEv X W k mk) (hv : PEv X W v mv) : PEv X W (.Dict [some k] [v] pos) (mMap1 mk mv) := by
  refine ⟨fun pins s σ H Q I ⟨r, z, e, S, A, F⟩ => wpAny_Dict1 ?_⟩
  have hp := I.hok.fresh (Nat.le_refl s.heap.objs.size)
  have I1 := I.laid (a := s.heap.objs.size) (o := ndO X.w s.heap.objs.size []) (h' := s.heap.push { cls := .type "dict", data := .dict #[] }) (t' := s.toks) (fun _ _ q => Heap.get?_push_of_some _ q) (Nat.le_refl _) (ndO_ok (nd_empty s.heap I.big))
  generalize s.heap.objs.size = p at hp I1 ⊢
  unfold mMap1 at F
  have zp : p ∉ z := (A.s.fresh hp).2
  have A0 : All X.kw r (p :: z) (L2.upd H p (ndO X.w p [])) σ e S := ⟨hide_S hp A.s, hide_E hp A.e⟩
  have step0 : Step r H r (del (L2.upd H p (ndO X.w p [])) p) := Step.del0 hp
  -- what is asked of an end, told over the heap with p put aside
  have F0 : Fin r (L2.upd H p (ndO X.w p [])) ((mk e S).bind fun k S => (mv e S).bind fun v S => if keyOk k = true ∧ noClo v = true then .ok (D.loc S.length) (S ++ [.map false [(k, v)]]) else .bad)
      (fun r' H' d S' => ∀ S1 kd vd b v', S' = S1 ++ [.map false [(kd, vd)]] → RepS X.kw r' (p :: z) H' S1 → Rep X.kw r' (p :: z) H' kd (.ref b) → Rep X.kw r' (p :: z) H' vd v' → H' p = some (ndO X.w p []) → Q (.ref p) (L2.upd H' p (ndO X.w p [(nk kd, b, v')]))) (xpG X.kw X.mg (p :: z) W) := by
    have e0 : ((mk e S).bind fun k S => (mv e S).bind fun v S => if keyOk k = true ∧ noClo v = true then Out.ok (D.loc S.length) (S ++ [.map false [(k, v)]]) else .bad) =
        ((mk e S).bind fun k S => (mv e S).bind fun v S => .ok (k, v) S).bind fun p S => if keyOk p.1 = true ∧ noClo p.2 = true then .ok (.loc S.length) (S ++ [.map false [p]]) else .bad := by
      cases mk e S with
      | ok d S1 => simp only [bind_ok]; cases mv e S1 <;> rfl
      | exc _ _ _ => rfl
      | bad => rfl
    rw [e0]
    cases q : ((mk e S).bind fun k S => (mv e S).bind fun v S => .ok (k, v) S) with
    | bad => rw [q] at F; exact F
    | exc x e' S1 => rw [q] at F; exact F.elim
    | ok pr S1 =>
      rw [q, calm_ok, bind_ok] at F
      rw [bind_ok]
      by_cases c : keyOk pr.1 = true ∧ noClo pr.2 = true
      case neg => rw [if_neg c] at F; exact F.elim
      rw [if_pos c] at F ⊢
      intro r' H' st S2 kd vd b v' es rs_ rk rv hpd
      have stp := Step.del1 hp step0 st
      have e1 : S2 = S1 := (List.append_inj' es (by simp)).1.symm
      subst e1
      have e2 : (kd, vd) = pr := by
        have := (List.append_inj' es (by simp)).2
        simpa using this.symm
      subst e2
      have nw : del H' p p = none := del_same
      have eH : L2.upd H' p (ndO X.w p [(nk kd, b, v')]) = L2.upd (del H' p) p (ndO X.w p [(nk kd, b, v')]) := by
        funext x
        by_cases hb : x = p
        · subst hb; rw [upd_same, upd_same]
        · rw [upd_ne hb, upd_ne hb, del_ne hb]
      rw [eH]
      have rs2 := show_S zp rs_
      refine F (r' ++ [p]) _ (stp.trans (Step.new nw)) (rs2.new nw ⟨by simp [noCloL, c.2], _, upd_same, ?_⟩) _ ?_
      · exact ⟨b, v', [], rfl, c.1, (show_rep.1 _ _ rk).step (Step.new nw), (show_rep.1 _ _ rv).step (Step.new nw), rfl⟩
      · rw [Rep]; exact ⟨p, by rw [← rs2.len]; simp, rfl⟩
  refine hk.go I1 A0 F0 fun u v1 r1 H1 s1 kd S1 st1 I1 ru A1 R1 F1 => hv.go I1 A1 F1 fun u2 v2 r2 H2 s2 vd S2 st2 I2 ru2 A2 R2 F2 => ?_
  by_cases c : keyOk kd = true ∧ noClo vd = true
  case neg => rw [if_neg c] at F2; exact F2.elim
  rw [if_pos c] at F2
  have R1' := R1.step st2
  obtain ⟨b, rfl, rfl, kis⟩ := key_at I2 c.1 R1' ru
  have hpz : H2 p = some (ndO X.w p []) := (st1.trans st2).keep p _ upd_same (fun m => A0.s.ap p m List.mem_cons_self) rfl
  have hr0 : RepM X.kw r2 (p :: z) H2 [] [] := rfl
  obtain ⟨z1, z2, us, pr, hd⟩ := nd_of (K := X.kw) (P := X.prog) (lk := false) I2.hok I2.kIn hpz hr0
  cases pr
  refine wpAny_dictSet_heap (show X.A.units + 8 < cLine by omega) kis hd (fun h' hd' hs => ?_) (by simp)
  refine ⟨.ref p, _, ?_, rfl, F2 r2 H2 (Step.refl _ _) S2 kd vd b v2 rfl A2.s R1' R2 hpz⟩
  obtain ⟨o, es, ep, h1, h2, h3, h4, h5, h6⟩ := hd'
  refine I2.write (x := p) (e := p) (by rw [hpz]; exact True.intro) (.inl rfl) (fun c o' n e => (hs.2 c n).trans e) ⟨o, h1⟩ (ndO_ok ?_)
  exact ⟨by simp [sizeLine_eq], z2, _, .cons ⟨rfl, rfl, ru2⟩ .nil, o, es, ep, h1, h2, h3, h4, h6⟩
end
end Mp
end SMpAF

section SMpAG
set_option Elab.async false
set_option linter.all false
set_option maxRecDepth 100000
set_option maxHeartbeats 2000000
open PySem PySem.Spec PyProof.Rows L2
namespace Mp
/-! ### rows of ints in their order -/
def lexLt : List Int → List Int → Bool
  | _, [] => false
  | [], _ :: _ => true
  | x :: xs, y :: ys => if x = y then lexLt xs ys else decide (x < y)
theorem lex_irr : ∀ a, lexLt a a = false
  | [] => rfl
  | x :: a => by simp [lexLt, lex_irr a]
theorem lex_asym : ∀ a b, lexLt a b = true → lexLt b a = false
  | _, [], h => by simp [lexLt] at h
  | [], _ :: _, _ => rfl
  | x :: a, y :: b, h => by
    by_cases e : x = y
    · subst e; simp [lexLt] at h ⊢; exact lex_asym a b h
    · simp [lexLt, e, Ne.symm e] at h ⊢; omega
theorem lex_anti : ∀ a b, lexLt a b = false → lexLt b a = false → a = b
  | [], [], _, _ => rfl
  | [], _ :: _, h, _ => by simp [lexLt] at h
  | _ :: _, [], _, h => by simp [lexLt] at h
  | x :: a, y :: b, h1, h2 => by
    by_cases e : x = y
    · subst e; simp [lexLt] at h1 h2; rw [lex_anti a b h1 h2]
    · simp [lexLt, e, Ne.symm e] at h1 h2; omega
theorem lex_trn : ∀ x y z, lexLt y x = false → lexLt z y = false → lexLt z x = false
  | [], _, _, _, _ => by cases ‹List Int› <;> rfl
  | _ :: _, [], _, h, _ => by simp [lexLt] at h
  | _ :: _, _ :: _, [], _, h => by simp [lexLt] at h
  | x :: a, y :: b, z :: c, h1, h2 => by
    by_cases e : y = x
    · subst e
      by_cases e2 : z = y
      · subst e2; simp [lexLt] at h1 h2 ⊢; exact lex_trn a b c h1 h2
      · simp [lexLt, e2] at h2 ⊢; exact h2
    · by_cases e2 : z = y
      · subst e2; simp [lexLt, e] at h1 ⊢; exact h1
      · simp [lexLt, e, e2] at h1 h2
        have : ¬ z = x := by omega
        simp [lexLt, this]; omega
def insR (x : List Int) : List (List Int) → List (List Int)
  | [] => [x]
  | y :: ys => if lexLt y x = true then y :: insR x ys else x :: y :: ys
def sortR : List (List Int) → List (List Int)
  | [] => []
  | x :: xs => insR x (sortR xs)
abbrev SrtR (l : List (List Int)) : Prop := l.Pairwise fun a b => lexLt b a = false
theorem insR_perm (x : List Int) : ∀ l, (insR x l).Perm (x :: l)
  | [] => .refl _
  | y :: l => by
    unfold insR
    split
    · exact ((insR_perm x l).cons y).trans (.swap x y l)
    · exact .refl _
theorem sortR_perm : ∀ l, (sortR l).Perm l
  | [] => .refl _
  | x :: l => (insR_perm x _).trans ((sortR_perm l).cons x)
theorem insR_srt {x : List Int} : ∀ {l}, SrtR l → SrtR (insR x l)
  | [], _ => List.pairwise_singleton _ _
  | y :: l, h => by
    obtain ⟨h1, h2⟩ := List.pairwise_cons.mp h
    unfold insR
    split
    · rename_i c
      refine List.pairwise_cons.mpr ⟨fun z hz => ?_, insR_srt h2⟩
      rcases List.mem_cons.mp ((insR_perm x l).mem_iff.mp hz) with rfl | hz
      · exact lex_asym _ _ c
      · exact h1 z hz
    · rename_i c
      have c' : lexLt y x = false := by simpa using c
      refine List.pairwise_cons.mpr ⟨fun z hz => ?_, h⟩
      rcases List.mem_cons.mp hz with rfl | hz
      · exact c'
      · exact lex_trn _ _ _ c' (h1 z hz)
theorem sortR_srt : ∀ l, SrtR (sortR l)
  | [] => .nil
  | x :: l => insR_srt (sortR_srt l)
theorem srtR_unique : ∀ {l m : List (List Int)}, SrtR l → SrtR m → l.Perm m → l = m
  | [], m, _, _, p => (List.nil_perm.mp p).symm
  | x :: l, [], _, _, p => absurd p.length_eq (by simp)
  | x :: l, y :: m, h1, h2, p => by
    obtain ⟨a1, a2⟩ := List.pairwise_cons.mp h1
    obtain ⟨b1, b2⟩ := List.pairwise_cons.mp h2
    have e1 : lexLt y x = false := by
      rcases List.mem_cons.mp (p.mem_iff.mpr List.mem_cons_self) with e | e
      · rw [e]; exact lex_irr _
      · exact a1 y e
    have e2 : lexLt x y = false := by
      rcases List.mem_cons.mp (p.mem_iff.mp List.mem_cons_self) with e | e
      · rw [e]; exact lex_irr _
      · exact b1 x e
    have := lex_anti _ _ e2 e1
    subst this
    rw [srtR_unique a2 b2 ((List.perm_cons x).mp p)]
/-! ### sorted(list(d)), d's keys tuples of ints -/
def tupI (r : List Int) : D := .tup (r.map .int)
def rowInts : D → Option (List Int)
  | .tup xs => intsD xs
  | _ => none
def rowsInts : List D → Option (List (List Int))
  | [] => some []
  | d :: ds => (rowInts d).bind fun r => (rowsInts ds).map fun rs => r :: rs
def fSortMap : Ln := fun S xs => match xs with
  | [x] => (mapOf S x).bind fun kvs => (rowsInts (kvs.map (·.1))).bind fun rows => if (rows.all fun r => !r.isEmpty) = true ∨ rows.head? = some [] then some ((sortR rows).map tupI) else none
  | _ => none
section
variable {prog : Program} {w : World} {A : Around} {E : Value → Shared → Prop} {s : Shared}
/-- item by item: the first unlike ones, or the lengths -/
theorem lex_walk {b fin : Bool} {Q : Bool → Shared → Prop} : ∀ {us ws : List Value} {ns ms : List Int} (i : Nat), IntsAre us ns → IntsAre ws ms → fin = decide (ns.length < ms.length) → Q (lexLt ns ms) s → PySem.W.KatLex prog w A b fin Q (us.zip ws) i s
  | us, ws, ns, [], i, h1, h2, hf, q => by
    cases ws with
    | nil => rw [List.zip_nil_right]; exact PySem.W.kat_nil (by rw [hf]; simpa [lexLt] using q)
    | cons _ _ => cases h2
  | us, ws, [], m :: ms, i, h1, h2, hf, q => by
    cases us with
    | nil => rw [List.zip_nil_left]; exact PySem.W.kat_nil (by rw [hf]; simpa [lexLt] using q)
    | cons _ _ => cases h1
  | us, ws, n :: ns, m :: ms, i, h1, h2, hf, q => by
    cases us with
    | nil => cases h1
    | cons u us =>
    cases ws with
    | nil => cases h2
    | cons v ws =>
    cases h1 with
    | cons _ t h1 =>
    cases h2 with
    | cons _ t' h2 =>
    rw [List.zip_cons_cons]
    refine PySem.W.kat_cons (SeqAt.EqAt.int_int n _ m _ prog w _ _ (PySem.W.kat_go (fun e => ?_) fun e => ?_))
    · have e : n = m := by simpa using e
      exact PySem.W.kat_yes (lex_walk (i + 1) h1 h2 (by simpa using hf) (by simpa [lexLt, e] using q))
    · have e : ¬ n = m := by simpa using e
      exact PySem.W.kat_no (TS.oneLt_ints _ (by simpa [lexLt, e] using q))
/-- x < y of two tuples of ints, by their own __lt__ -/
theorem lexAt_lex {e r : Nat → Bool} {z : Bool} : ∀ {ns ms : List Int} (i : Nat), (∀ j, e (i + j) = decide (ns[j]? = ms[j]?)) → (∀ j a b, ns[j]? = some a → ms[j]? = some b → r (i + j) = decide (a < b)) → z = decide (ns.length < ms.length) → Ob.lexAt e r z i (min ns.length ms.length) = lexLt ns ms
  | ns, [], i, _, _, hz => by rw [List.length_nil, Nat.min_zero]; show z = _; rw [hz]; simp [lexLt]
  | [], m :: ms, i, _, _, hz => by rw [List.length_nil, Nat.zero_min]; show z = _; rw [hz]; simp [lexLt]
  | n :: ns, m :: ms, i, he, hr, hz => by
    have e0 := he 0
    have r0 := hr 0 n m rfl rfl
    rw [Nat.add_zero] at e0 r0
    have em : min (n :: ns).length (m :: ms).length = min ns.length ms.length + 1 := by simp only [List.length_cons]; omega
    rw [em, Ob.lexAt_succ, e0, r0, lexLt]
    by_cases c : n = m
    · rw [if_pos (by simp [c]), if_pos c]
      exact lexAt_lex (i + 1) (fun j => by have := he (j + 1); rw [Nat.add_assoc, Nat.add_comm 1 j]; simpa using this) (fun j a b h1 h2 => by have := hr (j + 1) a b (by simpa using h1) (by simpa using h2); rw [Nat.add_assoc, Nat.add_comm 1 j]; exact this) (by simpa using hz)
    · rw [if_neg (by simp [c]), if_neg c]
theorem ints_at {us : List Value} {ns : List Int} (q : IntsAre us ns) : ∀ (j : Nat) (h : j < us.length), ∃ n t, us[j] = .int n t ∧ ns[j]? = some n := by
  induction q with
  | nil => intro j h; exact absurd h (by simp)
  | cons n t _ ih =>
    intro j h
    cases j with
    | zero => exact ⟨n, t, rfl, rfl⟩
    | succ j =>
      obtain ⟨m, u, e1, e2⟩ := ih j (by simpa using h)
      exact ⟨m, u, by simpa using e1, by simpa using e2⟩
theorem one_lt {x y : Value} {ns ms : List Int} {Q : Bool → Shared → Prop} (hu : A.units + 1 < cLine) (hx : TS.TupInts s.heap x ns) (hy : TS.TupInts s.heap y ms) (q : Q (lexLt ns ms) s) : wpAny (model prog w) A (oneLt' true x y) Q E s := by
  obtain ⟨a, xs, rfl, ⟨⟨_, dd, _, sl⟩, ha, rfl, n, rfl⟩, i1⟩ := hx
  obtain ⟨b, ys, rfl, ⟨⟨_, dd2, _, sl2⟩, hb, rfl, n2, rfl⟩, i2⟩ := hy
  have l1 : xs.size = ns.length := by simpa using i1.length
  have l2 : ys.size = ms.length := by simpa using i2.length
  rw [oneLt'_eq]
  simp only [if_true]
  refine wpAny_bind (wpAny_cRoomFor (by omega) (wpAny_bind (wpAny_callSpecialIfBound?_slot (T := "tuple") ⟨_, ha, rfl⟩ F.slot_tuple_lt ?_)))
  refine call_meets F.slot_tuple_lt ⟨_, ha, rfl⟩ F.entry_tuple_lt (F.args_tuple_lt_2 _ _) (Ob.tuple_ltAt a b xs ys n n2 dd dd2 sl sl2 (fun j => decide (ns[j]? = ms[j]?)) (fun j => decide ((ns[j]?.getD 0) < (ms[j]?.getD 0)))) ⟨ha, hb, fun j h1 h2 => ?_, fun j h1 h2 _ => ?_, ?_⟩
  · obtain ⟨p, t, e1, e2⟩ := ints_at i1 j (by simpa using h1)
    obtain ⟨p', t', e3, e4⟩ := ints_at i2 j (by simpa using h2)
    rw [show xs[j] = .int p t by simpa using e1, show ys[j] = .int p' t' by simpa using e3, e2, e4]
    have := SeqAt.EqAt.int_int (A := A.in1) (s := s) p t p' t'
    rw [show (decide ((some p : Option Int) = some p')) = (p == p') by by_cases c : p = p' <;> simp [c]]
    exact this
  · obtain ⟨p, t, e1, e2⟩ := ints_at i1 j (by simpa using h1)
    obtain ⟨p', t', e3, e4⟩ := ints_at i2 j (by simpa using h2)
    rw [show xs[j] = .int p t by simpa using e1, show ys[j] = .int p' t' by simpa using e3, e2, e4]
    exact Ob.RcOp.lt_int p p' t t'
  · rw [l1, l2, lexAt_lex (ns := ns) (ms := ms) 0 (fun j => by rw [Nat.zero_add]) (fun j a b h1 h2 => by rw [Nat.zero_add, h1, h2] <;> rfl) rfl]
    exact wpAny_truthy_bool q
/-- how the items of a sort are held against each other -/
theorem kind_all {vs : List Value} {Q : SortKind → Shared → Prop} (f : Value → List Int) (h0 : 0 < vs.length) (ht : ∀ v ∈ vs, TS.TupInts s.heap v (f v)) (hn : ∀ v ∈ vs, f v ≠ []) (q : Q (tuples' true) s) : wpAny (model prog w) A (keyKind' vs.toArray) Q E s := by
  have firsts : ∀ {vs : List Value}, (∀ v ∈ vs, TS.TupInts s.heap v (f v)) → (∀ v ∈ vs, f v ≠ []) → ∃ fs, PySem.W.KatTups s.heap vs fs ∧ fs.length = vs.length ∧ ∀ x ∈ fs, ∃ n t, x = Value.int n t := by
    intro vs
    induction vs with
    | nil => intro _ _; exact ⟨[], .nil, rfl, by simp⟩
    | cons v vs ih =>
      intro ht hn
      obtain ⟨fs, k1, k2, k3⟩ := ih (fun x hx => ht x (.tail _ hx)) (fun x hx => hn x (.tail _ hx))
      obtain ⟨a, xs, e, ⟨o, ha, hc, n, hd⟩, ii⟩ := ht v (.head _)
      have lx : 0 < xs.toList.length := by rw [ii.length]; exact List.length_pos_iff.mpr (hn v (.head _))
      obtain ⟨m, t, e1, _⟩ := ints_at ii 0 lx
      subst e
      refine ⟨xs.toList[0] :: fs, .cons ha hc hd ?_ k1, by simp [k2], fun x hx => ?_⟩
      · rw [← Array.getElem?_toList]; exact List.getElem?_eq_getElem lx
      · rcases List.mem_cons.mp hx with rfl | hx
        · exact ⟨m, t, e1⟩
        · exact k3 x hx
  obtain ⟨fs, k1, k2, k3⟩ := firsts ht hn
  refine PySem.W.kat_kind (T := .type "int") k1 (by omega) (fun x hx => ?_) (by rfl) ?_
  · obtain ⟨n, t, rfl⟩ := k3 x hx
    exact PySem.W.Looks.now
  · rw [show (Value.type "int" != Value.type "tuple") = true by decide +kernel]
    exact q
theorem kind_head {v : Value} {vs : List Value} {Q : SortKind → Shared → Prop} (f : Value → List Int) (ht : ∀ x ∈ v :: vs, TS.TupInts s.heap x (f x)) (hn : f v = []) (q : Q oneType' s) : wpAny (model prog w) A (keyKind' (v :: vs).toArray) Q E s := by
  have ty : ∀ x ∈ v :: vs, PySem.W.Looks (model prog w) s.heap (typeOf x) (.type "tuple") := fun x hx => by
    obtain ⟨a, xs, rfl, ⟨o, ha, hc, _⟩, _⟩ := ht x hx
    exact fun A Q E s' k y => wpAny_typeOf_ref (k _ _ ha) (hc ▸ y)
  have each : ∀ {l : List Value} {Q : List (Option Value) → Shared → Prop}, (∀ x ∈ l, TS.TupInts s.heap x (f x)) → (∀ bs : List (Option Value), Q bs s) → wpAny (model prog w) A (l.mapM firstOfTuple') Q E s := by
    intro l
    induction l with
    | nil => intro Q _ h; rw [List.mapM_nil]; exact wpAny_pure (h _)
    | cons x l ih =>
      intro Q hl h
      obtain ⟨a, xs, rfl, ⟨o, ha, hc, n, hd⟩, _⟩ := hl x (.head _)
      rw [List.mapM_cons]
      refine wpAny_bind ?_
      rw [PySem.W.kas_first_eq]
      refine wpAny_bind (wpAny_typeOf_ref ha ?_)
      rw [hc, if_neg (by simp)]
      refine wpAny_bind (listItems_at ha hd (wpAny_pure (wpAny_bind (ih (fun y hy => hl y (.tail _ hy)) fun bs => wpAny_pure (h _)))))
  obtain ⟨a, xs, ev, ⟨o, ha, hc, n, hd⟩, ii⟩ := ht v (.head _)
  have xs0 : xs[0]? = none := by
    have : xs.toList.length = 0 := by rw [ii.length, hn]; rfl
    rw [Array.getElem?_eq_none]; simpa using this
  rw [PyProof.Rows.kat_kind_eq, List.mapM_toArray, map_eq_pure_bind]
  refine wpAny_bind (wpAny_bind ?_)
  rw [List.mapM_cons]
  refine wpAny_bind ?_
  rw [PySem.W.kas_first_eq, ev]
  refine wpAny_bind (wpAny_typeOf_ref ha ?_)
  rw [hc, if_neg (by simp)]
  refine wpAny_bind (listItems_at ha hd (wpAny_pure (wpAny_bind (each (fun y hy => ht y (.tail _ hy)) fun bs => wpAny_pure (wpAny_pure ?_)))))
  rw [xs0, if_neg (by simp), if_neg (by simp)]
  rw [oneTypeOnly'_eq, List.mapM_toArray, map_eq_pure_bind]
  refine wpAny_bind (wpAny_bind (wpAny_bind (PySem.W.kas_mapM (r := .type "tuple") _ (fun x hx Q' hq => (ty x (ev ▸ hx)).here hq) (wpAny_pure ?_))))
  have al : (List.map (fun _ => Value.type "tuple") (Value.ref a :: vs)).toArray.all (fun x => x == Value.type "tuple") = true := by simp
  have h0 : (List.map (fun _ => Value.type "tuple") (Value.ref a :: vs)).toArray[0]? = some (.type "tuple") := by simp
  rw [h0]
  simp only [al, if_true]
  exact wpAny_pure (wpAny_pure q)
theorem sortable {a : Addr} {vs : List Value} (f : Value → List Int) (hu : A.units + 1 < cLine) (h2 : 2 ≤ vs.length) (ht : ∀ v ∈ vs, TS.TupInts s.heap v (f v)) (na : ∀ o, s.heap.get? a = some o → o.cls ≠ .type "tuple")
    (c : (∀ v ∈ vs, f v ≠ []) ∨ ∃ v r, vs = v :: r ∧ f v = []) : SrtO.SortableO prog w A s a vs fun v u => lexLt (f v) (f u) := by
  intro h' keep
  have ht' : ∀ v ∈ vs, TS.TupInts h' v (f v) := fun v hv => (ht v hv).keeps fun b o e k => keep b o (fun z => by subst z; exact na o e k) e
  rcases c with c | ⟨v, r, rfl, c⟩
  · refine ⟨tuples' true, fun Q E q => kind_all (s := { s with heap := h' }) f (by omega) ht' c q, fun p q hp hq => ?_⟩
    obtain ⟨a1, xs, e1, ⟨o1, g1, _, n1, d1⟩, i1⟩ := ht' _ hp
    obtain ⟨a2, ys, e2, ⟨o2, g2, _, n2, d2⟩, i2⟩ := ht' _ hq
    show wpAny _ _ (keyLt' _ p.1 q.1) (fun r s' => s' = _ ∧ r = lexLt (f p.1) (f q.1)) _ _
    have l1 := i1.length
    have l2 := i2.length
    rw [Array.length_toList] at l1 l2
    generalize f p.1 = ns at *
    generalize f q.1 = ms at *
    rw [e1, e2]
    exact PySem.W.kat_lt (s := { s with heap := h' }) g1 d1 g2 d2 (lex_walk 0 i1 i2 (by rw [l1, l2]) ⟨rfl, rfl⟩)
  · refine ⟨oneType', fun Q E q => kind_head (s := { s with heap := h' }) f ht' c q, fun p q hp hq => ?_⟩
    rw [keyLt'_oneType]
    exact one_lt (s := { s with heap := h' }) hu (ht' _ hp) (ht' _ hq) ⟨rfl, rfl⟩
end
theorem lex_swo (f : Value → List Int) : SrtO.Swo fun v u => lexLt (f v) (f u) := ⟨fun _ _ h => lex_asym _ _ h, fun x y z h1 h2 => lex_trn _ _ _ h1 h2⟩
def refV : Value → V
  | .ref a => .ref a
  | _ => .non
section
variable [Lt] {K : Kw} {r z : List Addr} {H : Hp}
theorem rows_rep : ∀ {kvs : List (D × D)} {xs : List (NestedKey × Addr × V)} {rows : List (List Int)}, RepM K r z H kvs xs → rowsInts (kvs.map (·.1)) = some rows → RepL K r z H (rows.map tupI) (xs.map fun x => V.ref x.2.1)
  | [], xs, rows, h, e => by
    cases h
    simp [rowsInts] at e
    subst e
    exact RepL.nil
  | p :: ps, xs, rows, h, e => by
    obtain ⟨b, v, l', rfl, h1, h2, h3, h4⟩ := h
    rw [List.map_cons, rowsInts] at e
    obtain ⟨r0, e1, e2⟩ := Option.bind_eq_some_iff.mp e
    obtain ⟨rs, e3, rfl⟩ := Option.map_eq_some_iff.mp e2
    have ep : p.1 = tupI r0 := by
      cases hp : p.1 with
      | tup ds => rw [hp] at e1; rw [tupI, ← intsD_some e1]
      | _ => rw [hp] at e1; simp [rowInts] at e1
    exact (rows_rep h4 e3).cons (ep ▸ h2)
theorem repL_len : ∀ {ds : List D} {vs : List V}, RepL K r z H ds vs → ds.length = vs.length
  | [], vs, h => by rw [RepL] at h; subst h; rfl
  | d :: ds, vs, h => by
    rw [RepL] at h
    obtain ⟨v, vs', rfl, _, h2⟩ := h
    simp [repL_len h2]
variable {X : Cx} {W : WX} {a : Expr} {ma : MEx} {p p2 q pos : Pos}
theorem pfv_sortmap (hc : X.calm = true) (hu : X.A.units + 65 < cLine) (hg : Gl X "sorted") (hm : X.mg "sorted" = none) (hg2 : Gl X "list") (hm2 : X.mg "list" = none) (ha : PEv X W a ma) (na : starEach [a] X.env = (false, eval a X.env) :: starEach [] X.env := by rfl)
    (nb : starEach [.Call (.Name "list" p2) [a] [] q] X.env = (false, eval (.Call (.Name "list" p2) [a] [] q) X.env) :: starEach [] X.env := by rfl) :
    PFv X W (.Call (.Name "sorted" p) [.Call (.Name "list" p2) [a] [] q] [] pos) (lB fSortMap (aCons ma aNil)) := by
  refine ⟨fun pins s σ H Q I ⟨r, z, e, S, A, F⟩ => ?_⟩
  have F : Fin r H ((ma e S).bind fun x S1 => oo S1 (fSortMap S1 [x])) (kF X.kw z Q) (xpG X.kw X.mg z W) := by
    unfold lB aCons aNil at F
    cases qa : ma e S with
    | bad => rw [qa] at F; exact F
    | exc x e' S1 => rw [qa] at F; exact F
    | ok d S1 => rw [qa] at F; exact F
  refine wpAny_Call_Name_kw (ld_blt I hg hm (show bootBuiltins "sorted" = some (.builtin "sorted") by decide +kernel) ?_)
  refine PyProof.Rows.callWith_builtin1 (PyProof.Rows.args_cons ?_ nb) nb rfl
  refine wpAny_Call_Name_kw (ld_blt I hg2 hm2 boot_list ?_)
  refine PyProof.Rows.callWith_type1 (PyProof.Rows.args_cons (ha.go I A F fun u v r1 H1 s1 d S1 st1 I1 ru A1 R1 F1 => PyProof.Rows.args_nil ?_) na) na rfl
  obtain ⟨ys, e3, F3⟩ := fin_oo F1
  unfold fSortMap at e3
  simp only at e3
  obtain ⟨kvs, ek, e3⟩ := Option.bind_eq_some_iff.mp e3
  obtain ⟨rows, er, e3⟩ := Option.bind_eq_some_iff.mp e3
  by_cases cd : (rows.all fun r => !r.isEmpty) = true ∨ rows.head? = some []
  case neg => rw [if_neg cd] at e3; cases e3
  rw [if_pos cd] at e3
  cases e3
  obtain ⟨ad, xs, us, rfl, hM, z1, z2, pr, hD⟩ := map_at I1 A1.s R1 ru ek
  have rl := rows_rep hM er
  have lr := repL_len rl
  rw [List.length_map, List.length_map] at lr
  have addrs : us.map (fun x => x.2.1) = xs.map fun x => x.2.1 := by
    clear hD hM rl z1 lr
    induction pr with
    | nil => rfl
    | cons h _ ih => simp [ih, h.2.1]
  obtain ⟨o, es, ep, h1, h2, h3, h4, h5, h6⟩ := hD
  have lu : us.length = xs.length := by simpa using congrArg List.length addrs
  have les : es.size = xs.length := by rw [← Array.length_toList, h4, List.length_map, lu]
  refine PySem.W.kdl_call (kdl_raw z2 h2 h3) (I1.ok.hd hc) h1 (by rw [les]; exact z1) fun h' tk acc c' kp hl it => PyProof.Rows.args_nil ?_
  have I2 : Inv X pins σ H1 { s1 with heap := h', toks := tk } := I1.kept kp
  have ea : acc.toList = xs.map fun x => Value.ref x.2.1 := by
    apply List.ext_getElem?
    intro j
    rw [List.getElem?_map]
    have la : acc.toList.length = xs.length := by rw [Array.length_toList, it.1, les]
    cases hj : acc.toList[j]? with
    | none =>
      have := List.getElem?_eq_none_iff.mp hj
      rw [List.getElem?_eq_none (by omega)]; rfl
    | some v =>
      obtain ⟨en, hen, hv⟩ := it.2 j v (by rw [← Array.getElem?_toList]; exact hj)
      have qe := entry_at h4 j
      rw [hen] at qe
      obtain ⟨x, ex, e5⟩ := Option.map_eq_some_iff.mp qe.symm
      have ax : (xs.map fun x => x.2.1)[j]? = some x.2.1 := by rw [← addrs, List.getElem?_map, ex]; rfl
      rw [List.getElem?_map] at ax
      obtain ⟨y, ey, e6⟩ := Option.map_eq_some_iff.mp ax
      rw [ey]
      show some v = some (Value.ref y.2.1)
      rw [hv, ← e5, e6]; rfl
  -- each key is a tuple of its row's ints
  have each : ∀ {rows : List (List Int)} {bs : List Addr}, RepL X.kw r1 z H1 (rows.map tupI) (bs.map V.ref) → (∀ v ∈ bs.map Value.ref, ∃ row, TS.TupInts h' v row ∧ Rep X.kw r1 z H1 (tupI row) (refV v)) ∧ (bs.map Value.ref).map (TS.intsOf h') = rows := by
    intro rows
    induction rows with
    | nil =>
      intro bs h
      cases bs with
      | nil => exact ⟨by simp, rfl⟩
      | cons b bs => rw [List.map_nil, RepL] at h; cases h
    | cons row rows ih =>
      intro bs h
      cases bs with
      | nil => rw [List.map_cons, RepL] at h; obtain ⟨_, _, e, _⟩ := h; cases e
      | cons b bs =>
        rw [List.map_cons, List.map_cons, RepL] at h
        obtain ⟨v, vs', e, k1, k2⟩ := h
        cases e
        obtain ⟨j1, j2⟩ := ih k2
        have k1' := k1
        rw [tupI, Rep] at k1'
        obtain ⟨b', ws, eb, ft, lw⟩ := k1'
        cases eb
        rw [rep_ints lw] at ft
        have ti : TS.TupInts h' (.ref b) row := tupI_raw I2 ft.sq
        refine ⟨fun v hv => ?_, ?_⟩
        · rcases List.mem_cons.mp hv with rfl | hv
          · exact ⟨row, ti, k1⟩
          · exact j1 v hv
        · rw [List.map_cons, List.map_cons, ti.ints, j2]
  have bsE : (xs.map fun x => V.ref x.2.1) = (xs.map fun x => x.2.1).map V.ref := by rw [List.map_map]; rfl
  rw [bsE] at rl
  obtain ⟨ev, em⟩ := each rl
  have ea' : acc.toList = (xs.map fun x => x.2.1).map Value.ref := by rw [ea, List.map_map]; rfl
  rw [← ea'] at ev em
  have ht : ∀ v ∈ acc.toList, TS.TupInts h' v (TS.intsOf h' v) := fun v hv => by
    obtain ⟨row, t, _⟩ := ev v hv
    rw [t.ints]; exact t
  have lacc : acc.toList.length = xs.length := by rw [ea, List.length_map]
  have cs : (∀ v ∈ acc.toList, TS.intsOf h' v ≠ []) ∨ ∃ v r, acc.toList = v :: r ∧ TS.intsOf h' v = [] := by
    rcases cd with c | c
    · refine .inl fun v hv e0 => ?_
      have : TS.intsOf h' v ∈ rows := by rw [← em]; exact List.mem_map_of_mem hv
      have := List.all_eq_true.mp c _ this
      rw [e0] at this
      cases this
    · rw [← em] at c
      cases ha : acc.toList with
      | nil => rw [ha] at c; cases c
      | cons v r => rw [ha] at c; simp at c; exact .inr ⟨v, r, rfl, c⟩
  refine SrtO.sorted_ord (s := { s1 with heap := h', toks := tk }) (lex_swo (TS.intsOf h')) (vs := acc.toList) ⟨_, hl, rfl, c', by rw [Array.toArray_toList]⟩ (by rw [lacc]; exact z1) (fun h2 h₁ a' ha' kk => ?_) fun out hs hb => ?_
  · refine sortable (s := { s1 with heap := h₁, toks := tk }) (TS.intsOf h') (show X.A.units + 1 + 1 + 1 < cLine by omega) h2 (fun v hv => (ht v hv).keeps fun b o e _ => (kk b o e).2) (fun o e => ?_) cs
    rw [show h₁.get? a' = some o from e] at ha'
    cases ha'
    exact fun c => absurd (Value.type.inj c) (by decide)
  · have sv : ∀ v ∈ out, ∃ row, TS.TupInts h' v row ∧ Rep X.kw r1 z H1 (tupI row) (refV v) := fun v hv => ev v (hb.perm.mem_iff.mp hv)
    have eo : out.map (TS.intsOf h') = sortR rows := by
      refine srtR_unique ?_ (sortR_srt rows) ?_
      · exact List.pairwise_map.mpr hs
      · rw [← em]; exact (hb.perm.map _).trans (by rw [em]; exact (sortR_perm rows).symm)
    have ro : ∀ {l : List Value}, (∀ v ∈ l, ∃ row, TS.TupInts h' v row ∧ Rep X.kw r1 z H1 (tupI row) (refV v)) → RepL X.kw r1 z H1 ((l.map (TS.intsOf h')).map tupI) (l.map refV) ∧ Vals (l.map refV) l := by
      intro l
      induction l with
      | nil => intro _; exact ⟨RepL.nil, .nil⟩
      | cons v l ih =>
        intro h
        obtain ⟨i1, i2⟩ := ih fun x hx => h x (.tail _ hx)
        obtain ⟨row, t, k⟩ := h v (.head _)
        obtain ⟨b, _, rfl, _⟩ := id t
        rw [List.map_cons, List.map_cons, List.map_cons, t.ints]
        exact ⟨i1.cons k, .cons rfl i2⟩
    obtain ⟨k1, k2⟩ := ro sv
    rw [eo] at k1
    obtain ⟨n, hn⟩ := sortedAll_at h' acc.toList out.toArray
    have lo : out.length = xs.length := by rw [hb.perm.length_eq, lacc]
    have fr : H1 (h'.objs.size + 1) = none := I2.hok.fresh (Nat.le_succ _)
    refine ⟨.ref (h'.objs.size + 1), L2.upd H1 (h'.objs.size + 1) (.lst (out.map refV)), I2.laid (t' := tk) (fun b o e => sortedAll_old e) (Nat.le_succ _) ⟨by rw [List.length_map, lo]; exact z1, out, n, k2, hn⟩, rfl, F3 r1 H1 (Step.refl _ _) A1.s _ k1 _ fr⟩
end
end Mp
end SMpAG

section SMpAH
set_option Elab.async false
set_option linter.all false
set_option maxRecDepth 100000
set_option maxHeartbeats 2000000
open PySem PySem.Spec PyProof.Rows L2
namespace Mp
section
variable [Lt] {X : Cx} {W : WX} {a b c : Expr} {ma mb mc : MEx} {pos : Pos}
/-- a, b, c = x, y, z with three plain locals -/
theorem psv_par3 {i j k : Nat} {x y t : Str} {px py pz pt : Pos} {kt k2 pt2} (hc : X.calm = true) (hN : X.N.Nodup) (hi : X.N[i]? = some x) (hj : X.N[j]? = some y) (hk : X.N[k]? = some t) (hij : i ≠ j) (hik : i ≠ k) (hjk : j ≠ k)
    (hx : X.env.scope.names.lookup x = some .local) (hy : X.env.scope.names.lookup y = some .local) (ht : X.env.scope.names.lookup t = some .local) (ha : PEv X W a ma) (hb : PEv X W b mb) (hd : PEv X W c mc) (hw : swappedStores [.Tuple [.Name x px, .Name y py, .Name t pz] kt pt] (.Tuple [a, b, c] k2 pt2) X.env = pure (some [x, y, t]))
    (hs : swapsWithSole [.Tuple [.Name x px, .Name y py, .Name t pz] kt pt] (.Tuple [a, b, c] k2 pt2) pos.line X.env = pure false := by rfl)
    (hs1 : starEach [a, b, c] X.env = (false, eval a X.env) :: starEach [b, c] X.env := by rfl) (hs2 : starEach [b, c] X.env = (false, eval b X.env) :: starEach [c] X.env := by rfl) (hs3 : starEach [c] X.env = (false, eval c X.env) :: starEach [] X.env := by rfl) :
    PSv X W (.Assign [.Tuple [.Name x px, .Name y py, .Name t pz] kt pt] (.Tuple [a, b, c] k2 pt2) pos) (sAsg (.tp [.nm i, .nm j, .nm k]) (mTup (aCons ma (aCons mb (aCons mc aNil))))) := by
  refine ⟨fun pins s σ H D I ⟨r, z, e, S, A, F⟩ => ?_⟩
  refine (ps_par3 hc hN hi hj hk hij hik hjk hx hy ht (pav_cons ha (pav_cons hb (pav_cons hd pav_nil hs3) hs2) hs1) hw hs).run pins s σ H D I ⟨r, z, e, S, A, ?_⟩
  unfold sAsg mTup at F
  rw [bind_assoc'] at F
  cases q : (aCons ma (aCons mb (aCons mc aNil))) e S with
  | bad => rw [q] at F; exact F
  | exc x e' S1 => rw [q] at F; exact F
  | ok ds S1 =>
    rw [q] at F
    intro r1 H1 st rs_ vs l
    have l3 : ds.length = 3 := by
      unfold aCons aNil at q
      cases q1 : ma e S with
      | bad => rw [q1] at q; cases q
      | exc x e' S1 => rw [q1] at q; cases q
      | ok d1 S2 =>
        rw [q1] at q
        simp only [bind_ok] at q
        cases q2 : mb e S2 with
        | bad => rw [q2] at q; cases q
        | exc x e' S1 => rw [q2] at q; cases q
        | ok d2 S3 =>
          rw [q2] at q
          simp only [bind_ok] at q
          cases q3 : mc e S3 with
          | bad => rw [q3] at q; cases q
          | exc x e' S1 => rw [q3] at q; cases q
          | ok d3 S4 =>
            rw [q3] at q
            simp only [bind_ok] at q
            cases q; rfl
    match ds, l3 with
    | [d1, d2, d3], _ =>
      rw [RepL] at l
      obtain ⟨u, us, rfl, R1, l⟩ := l
      obtain ⟨v, w, rfl, R2, R3⟩ := repL2 l
      refine ⟨u, v, w, rfl, ?_⟩
      have hz : [d1, d2, d3].length ≤ sizeLine := by show 3 ≤ sizeLine; decide
      rw [bind_ok, if_pos hz, bind_ok] at F
      have eb : bindP (.tp [.nm i, .nm j, .nm k]) (.tup [d1, d2, d3]) e = some (((e.set i (some d1)).set j (some d2)).set k (some d3)) := by simp [bindP, bindPs]
      rw [eb] at F
      exact F r1 H1 st _ ⟨rs_, (((A.e.step st).set i R1).set j R2).set k R3⟩
end
end Mp
end SMpAH

section SDenk03
set_option Elab.async false
set_option linter.all false
open PySem
namespace Mp
def known : List Str := ["BadWish", "BadKind", "OutOfPlace"]
/-- _law_begun(script): script, cell -/
def d_law_begun : Dn := mDef 1 1 (
  (sRet (mDict ["cells", "left", "at"] (aOf [(mNew (lB fList (aCons (mVar 0) aNil))), (mNew (lComp (wSeq (mVar 0)) [1] (.nm 1) (mtVal (mOp cGe (mVar 1) (mOp oPow (mC (.int 10)) (mC (.int 18))))) (mVar 1))), (mC (.int 0))]))))
/-- _law_next(m, total): m, total, rest, k, cell, mixed -/
def d_law_next : Dn := mDef 2 4 (
  (sSeq (sWhile (mtAnd (mtVal (mOp cNe (mIx (mVar 0) (mC (.str "left"))) (mFrz (lDisp aNil)))) (mtVal (mOp cEq (mIx (mIx (mVar 0) (mC (.str "left"))) (mC (.int 0))) (mC (.int 0))))) (sSet (mVar 0) (mC (.str "left")) (mNew (lSlice (mIx (mVar 0) (mC (.str "left"))) (pSome (mC (.int 1))) pNone))))
  (sSeq (sIf (mtVal (mOp cNe (mIx (mVar 0) (mC (.str "left"))) (mFrz (lDisp aNil)))) (sSeq (sAsg (.nm 2) (mB bInt (aCons (mIx (mIx (mVar 0) (mC (.str "left"))) (mC (.int 0))) aNil)))
  (sSeq (sSet (mIx (mVar 0) (mC (.str "left"))) (mC (.int 0)) (mOp oFdiv (mVar 2) (mVar 1)))
  (sRet (mOp oMod (mVar 2) (mVar 1))))) sPass)
  (sSeq (sAsg (.nm 3) (mOp oAdd (mIx (mVar 0) (mC (.str "at"))) (mC (.int 1))))
  (sSeq (sSet (mVar 0) (mC (.str "at")) (mVar 3))
  (sSeq (sAsg (.nm 4) (mIf (mtVal (mOp cNe (mIx (mVar 0) (mC (.str "cells"))) (mFrz (lDisp aNil)))) (mIx (mIx (mVar 0) (mC (.str "cells"))) (mOp oMod (mB bInt (aCons (mVar 3) aNil)) (mB bLen (aCons (mIx (mVar 0) (mC (.str "cells"))) aNil)))) (mC (.int 3))))
  (sSeq (sAsg (.nm 5) (mOp oMul (mB bInt (aCons (mOp oAdd (mOp oAdd (mOp oMod (mB bInt (aCons (mVar 4) aNil)) (mC (.int 2147483629))) (mOp oMul (mC (.int 7919)) (mVar 3))) (mOp oMul (mOp oMul (mC (.int 19)) (mVar 3)) (mVar 3))) aNil)) (mC (.int 48271))))
  (sSeq (sAsg (.nm 5) (mOp oMul (mB bInt (aCons (mOp oAdd (mOp oMod (mB bInt (aCons (mVar 5) aNil)) (mC (.int 2147483647))) (mOp oMul (mC (.int 104729)) (mVar 3))) aNil)) (mC (.int 69621))))
  (sRet (mOp oMod (mB bInt (aCons (mOp oFdiv (mOp oMod (mB bInt (aCons (mVar 5) aNil)) (mC (.int 2147483587))) (mC (.int 11))) aNil)) (mVar 1)))))))))))
/-- _law_want(m, deeds, states): m, deeds, states, many, size, rows, k, good, j -/
def d_law_want : Dn := mDef 3 6 (
  (sSeq (sAsg (.tp [(.nm 3), (.nm 4)]) (mTup (aCons (mOp oAdd (mC (.int 1)) (mCall d_law_next (aCons (mVar 0) (aCons (mVar 1) aNil)))) (aCons (mOp oAdd (mC (.int 1)) (mCall d_law_next (aCons (mVar 0) (aCons (mVar 2) aNil)))) aNil))))
  (sSeq (sAsg (.nm 5) (mNew (lDisp aNil)))
  (sSeq (sFor (wRng1 (mVar 4)) (.nm 6) (sEx (mAppend (mVar 5) (mB bTuple (aCons (mFrz (lComp (wRng1 (mVar 3)) [8] (.nm 8) tYes (mCall d_law_next (aCons (mVar 0) (aCons (mVar 4) aNil))))) aNil)))))
  (sSeq (sAsg (.nm 7) (mFrz (lComp (wRng1 (mVar 4)) [6] (.nm 6) (mtVal (mOp cEq (mCall d_law_next (aCons (mVar 0) (aCons (mC (.int 2)) aNil))) (mC (.int 1)))) (mVar 6))))
  (sRet (mTup (aCons (mVar 3) (aCons (mB bTuple (aCons (mVar 5) aNil)) (aCons (mB bTuple (aCons (mFrz (lB fSortSet (aCons (mOp oAdd (mVar 7) (mFrz (lDisp (aCons (mC (.int 0)) aNil)))) aNil))) aNil)) aNil))))))))))
/-- _law_sort(m, deeds, held, ahead): m, deeds, held, ahead, loose, k -/
def d_law_sort : Dn := mDef 4 2 (
  (sSeq (sAsg (.nm 4) (mB bTuple (aCons (mFrz (lComp (wRng1 (mVar 1)) [5] (.nm 5) (mtVal (mOp cEq (mCall d_law_next (aCons (mVar 0) (aCons (mC (.int 4)) aNil))) (mC (.int 0)))) (mVar 5))) aNil)))
  (sRet (mTup (aCons (mCall d_law_next (aCons (mVar 0) (aCons (mOp oAdd (mVar 2) (mC (.int 1))) aNil))) (aCons (mCall d_law_next (aCons (mVar 0) (aCons (mOp oAdd (mVar 3) (mC (.int 1))) aNil))) (aCons (mVar 4) aNil)))))))
/-- _law_live(want): want, found, count, spot, one -/
def d_law_live : Dn := mDefP 1 4 (
  (sSeq (sAsg (.tp [(.nm 1), (.nm 2)]) (mTup (aCons (mNew (lB fList (aCons (mIx (mVar 0) (mC (.int 2))) aNil))) (aCons (mNeg (mC (.int 1))) aNil))))
  (sSeq (sWhile (mtVal (mOp cNe (mVar 2) (mB bLen (aCons (mVar 1) aNil)))) (sSeq (sAsg (.nm 2) (mB bLen (aCons (mVar 1) aNil)))
  (sFor (wRng1 (mB bLen (aCons (mIx (mVar 0) (mC (.int 1))) aNil))) (.nm 3) (sIf (mtAnd (mtVal (mOp cNotIn (mVar 3) (mVar 1))) (mtVal (mOp cNe (mFrz (lComp (wSeq (mIx (mIx (mVar 0) (mC (.int 1))) (mVar 3))) [4] (.nm 4) (mtVal (mOp cIn (mVar 4) (mVar 1))) (mVar 4))) (mFrz (lDisp aNil))))) (sEx (mAppend (mVar 1) (mVar 3))) sPass))))
  (sRet (mFrz (lB fSortI (aCons (mVar 1) aNil)))))))
/-- _law_rows(deeds, total): deeds, total, found, layer, count, fresh, row, one -/
def d_law_rows : Dn := mDefP 2 6 (
  (sSeq (sAsg (.tp [.nm 2, .nm 3]) (mTup (aCons (mFrz (lDisp (aCons (mTup aNil) aNil))) (aCons (mFrz (lDisp (aCons (mTup aNil) aNil))) aNil))))
  (sSeq (sFor (wRng1 (mVar 1)) (.nm 4) (sSeq (sAsg (.nm 5) (mFrz (lDisp aNil)))
  (sSeq (sFor (wSeq (mVar 3)) (.nm 6) (sAsg (.nm 5) (mOp oAdd (mVar 5) (mFrz (lComp (wRng1 (mVar 0)) [7] (.nm 7) tYes (mOp oAdd (mVar 6) (mTup (aCons (mVar 7) aNil))))))))
  (sAsg (.tp [.nm 2, .nm 3]) (mTup (aCons (mOp oAdd (mVar 2) (mVar 5)) (aCons (mVar 5) aNil)))))))
  (sRet (mVar 2)))))
/-- _law_is_whole(thing, lowest, highest): thing, lowest, highest -/
def d_law_is_whole : Dn := mDefP 3 0 (
  (sRet (mAnd (mIsA "int" (mVar 0)) (mAnd (mNot (mIsA "bool" (mVar 0))) (mChain cLe cLe (mVar 1) (mVar 0) (mVar 2))))))
/-- _law_far(want, spot, row): want, spot, row, one -/
def d_law_far : Dn := mDefP 3 1 (
  (sSeq (sFor (wSeq (mVar 2)) (.nm 3) (sAsg (.nm 1) (mIx (mIx (mIx (mVar 0) (mC (.int 1))) (mVar 1)) (mVar 3))))
  (sRet (mVar 1))))
/-- _law_is_spot(want, sort, live, thing): want, sort, live, thing, held, ahead, loose, good, ends, k, one, end -/
def d_law_is_spot : Dn := mDefP 4 8 (
  (sSeq (sAsg (.tp [(.nm 4), (.nm 5), (.nm 6)]) (mVar 1))
  (sSeq (sIf (mtOr (mtNot (mtTruth (mIsA "tuple" (mVar 3)))) (mtOr (mtNot (mtVal (mChain cLe cLe (mC (.int 2)) (mB bLen (aCons (mVar 3) aNil)) (mC (.int 3))))) (mtNot (mtTruth (mIsA "str" (mIx (mVar 3) (mC (.int 0)))))))) (sRet (mC (.bl false))) sPass)
  (sSeq (sIf (mtNot (mtTruth (mCall d_law_is_whole (aCons (mIx (mVar 3) (mC (.int 1))) (aCons (mC (.int 0)) (aCons (mOp oSub (mB bLen (aCons (mIx (mVar 0) (mC (.int 1))) aNil)) (mC (.int 1))) aNil)))))) (sRet (mC (.bl false))) sPass)
  (sSeq (sIf (mtVal (mOp cEq (mB bLen (aCons (mVar 3) aNil)) (mC (.int 2)))) (sRet (mAnd (mOp cIn (mIx (mVar 3) (mC (.int 0))) (mTup (aCons (mC (.str "even")) (aCons (mC (.str "off")) aNil)))) (mOp cIn (mIx (mVar 3) (mC (.int 1))) (mIx (mVar 0) (mC (.int 2)))))) sPass)
  (sSeq (sIf (mtOr (mtVal (mOp cNotIn (mIx (mVar 3) (mC (.int 0))) (mTup (aCons (mC (.str "behind")) (aCons (mC (.str "ahead")) aNil))))) (mtOr (mtNot (mtTruth (mIsA "tuple" (mIx (mVar 3) (mC (.int 2)))))) (mtVal (mOp cEq (mIx (mVar 3) (mC (.int 2))) (mTup aNil))))) (sRet (mC (.bl false))) sPass)
  (sSeq (sIf (mtVal (mOp cNe (mFrz (lComp (wSeq (mIx (mVar 3) (mC (.int 2)))) [10] (.nm 10) (mtNot (mtTruth (mCall d_law_is_whole (aCons (mVar 10) (aCons (mC (.int 0)) (aCons (mOp oSub (mIx (mVar 0) (mC (.int 0))) (mC (.int 1))) aNil)))))) (mVar 10))) (mFrz (lDisp aNil)))) (sRet (mC (.bl false))) sPass)
  (sSeq (sIf (mtVal (mOp cEq (mIx (mVar 3) (mC (.int 0))) (mC (.str "ahead")))) (sSeq (sAsg (.nm 7) (mAnd (mOp cIn (mIx (mVar 3) (mC (.int 1))) (mVar 2)) (mAnd (mOp cNotIn (mIx (mVar 3) (mC (.int 1))) (mIx (mVar 0) (mC (.int 2)))) (mOp cLe (mB bLen (aCons (mIx (mVar 3) (mC (.int 2))) aNil)) (mVar 5)))))
  (sRet (mAnd (mVar 7) (mOp cIn (mCall d_law_far (aCons (mVar 0) (aCons (mIx (mVar 3) (mC (.int 1))) (aCons (mIx (mVar 3) (mC (.int 2))) aNil)))) (mIx (mVar 0) (mC (.int 2))))))) sPass)
  (sSeq (sIf (mtOr (mtVal (mOp cNotIn (mIx (mVar 3) (mC (.int 1))) (mIx (mVar 0) (mC (.int 2))))) (mtOr (mtVal (mOp cGt (mB bLen (aCons (mIx (mVar 3) (mC (.int 2))) aNil)) (mVar 4))) (mtVal (mOp cNe (mFrz (lComp (wSeq (mIx (mVar 3) (mC (.int 2)))) [10] (.nm 10) (mtVal (mOp cIn (mVar 10) (mVar 6))) (mVar 10))) (mFrz (lDisp aNil)))))) (sRet (mC (.bl false))) sPass)
  (sSeq (sAsg (.nm 8) (mFrz (lComp (wRng1 (mB bLen (aCons (mIx (mVar 3) (mC (.int 2))) aNil))) [9] (.nm 9) tYes (mCall d_law_far (aCons (mVar 0) (aCons (mIx (mVar 3) (mC (.int 1))) (aCons (mSlA (mIx (mVar 3) (mC (.int 2))) pNone (pSome (mOp oAdd (mVar 9) (mC (.int 1))))) aNil)))))))
  (sRet (mAnd (mOp cEq (mFrz (lComp (wSeq (mVar 8)) [11] (.nm 11) (mtVal (mOp cIn (mVar 11) (mIx (mVar 0) (mC (.int 2))))) (mVar 11))) (mFrz (lDisp aNil))) (mOp cIn (mIx (mVar 8) (mNeg (mC (.int 1)))) (mVar 2))))))))))))))
/-- _law_spots(want, sort, live): want, sort, live, rows, found, spot, one, row -/
def d_law_spots : Dn := mDefP 3 5 (
  (sSeq (sAsg (.tp [.nm 3, .nm 4]) (mTup (aCons (mCall d_law_rows (aCons (mIx (mVar 0) (mC (.int 0))) (aCons (mB bMax2 (aCons (mIx (mVar 1) (mC (.int 0))) (aCons (mIx (mVar 1) (mC (.int 1))) aNil))) aNil))) (aCons (mFrz (lDisp aNil)) aNil))))
  (sSeq (sFor (wRng1 (mB bLen (aCons (mIx (mVar 0) (mC (.int 1))) aNil))) (.nm 5) (sSeq (sAsg (.nm 4) (mOp oAdd (mVar 4) (mFrz (lDisp (aCons (mTup (aCons (mC (.str "even")) (aCons (mVar 5) aNil))) (aCons (mTup (aCons (mC (.str "off")) (aCons (mVar 5) aNil))) aNil))))))
  (sAsg (.nm 4) (mOp oAdd (mOp oAdd (mVar 4) (mFrz (lComp (wSeq (mVar 3)) [7] (.nm 7) tYes (mTup (aCons (mC (.str "behind")) (aCons (mVar 5) (aCons (mVar 7) aNil))))))) (mFrz (lComp (wSeq (mVar 3)) [7] (.nm 7) tYes (mTup (aCons (mC (.str "ahead")) (aCons (mVar 5) (aCons (mVar 7) aNil))))))))))
  (sRet (mFrz (lComp (wSeq (mVar 4)) [6] (.nm 6) (mtTruth (mCall d_law_is_spot (aCons (mVar 0) (aCons (mVar 1) (aCons (mVar 2) (aCons (mVar 6) aNil)))))) (mVar 6)))))))
/-- is_whole(thing, least, most): thing, least, most -/
def d_is_whole : Dn := mDefP 3 0 (
  (sSeq (sIf (mtOr (mtNot (mtTruth (mIsA "int" (mVar 0)))) (mtOr (mtTruth (mIsA "bool" (mVar 0))) (mtVal (mOp cLt (mVar 0) (mVar 1))))) (sRet (mC (.bl false))) sPass)
  (sRet (mOr (mOp cIsN (mVar 2) (mC .non)) (mOp cLe (mVar 0) (mVar 2))))))
/-- is_row(thing, most): thing, most, one -/
def d_is_row : Dn := mDefP 2 1 (
  (sRet (mAnd (mIsA "tuple" (mVar 0)) (mB bAll (aCons (mFrz (lComp (wSeq (mVar 0)) [2] (.nm 2) tYes (mCall d_is_whole (aCons (mVar 2) (aCons (mC (.int 0)) (aCons (mVar 1) aNil)))))) aNil)))))
/-- are_steps(deeds, thing): deeds, thing, row -/
def d_are_steps : Dn := mDefP 2 1 (
  (sSeq (sIf (mtOr (mtNot (mtTruth (mIsA "tuple" (mVar 1)))) (mtNot (mtVal (mChain cLe cLe (mC (.int 1)) (mB bLen (aCons (mVar 1) aNil)) (mC (.int 6)))))) (sRet (mC (.bl false))) sPass)
  (sRet (mB bAll (aCons (mFrz (lComp (wSeq (mVar 1)) [2] (.nm 2) tYes (mAnd (mCall d_is_row (aCons (mVar 2) (aCons (mOp oSub (mB bLen (aCons (mVar 1) aNil)) (mC (.int 1))) aNil))) (mOp cEq (mB bLen (aCons (mVar 2) aNil)) (mVar 0))))) aNil)))))
/-- is_lot(thing, most): thing, most, one, other -/
def d_is_lot : Dn := mDefP 2 2 (
  (sRet (mAnd (mCall d_is_row (aCons (mVar 0) (aCons (mVar 1) aNil))) (mB bAll (aCons (mFrz (lComp (wZip (mVar 0) (mSlA (mVar 0) (pSome (mC (.int 1))) pNone)) [2, 3] (.tp [(.nm 2), (.nm 3)]) tYes (mOp cLt (mVar 2) (mVar 3)))) aNil)))))
/-- need_wish(thing): thing -/
def d_need_wish : Dn := mDefP 1 0 (
  (sSeq (sIf (mtOr (mtNot (mtTruth (mIsA "tuple" (mVar 0)))) (mtVal (mOp cNe (mB bLen (aCons (mVar 0) aNil)) (mC (.int 3))))) (sRaise "BadWish" (some "part") (mC (.str "form"))) sPass)
  (sSeq (sIf (mtNot (mtTruth (mCall d_is_whole (aCons (mIx (mVar 0) (mC (.int 0))) (aCons (mC (.int 1)) (aCons (mC (.int 4)) aNil)))))) (sRaise "BadWish" (some "part") (mC (.str "deeds"))) sPass)
  (sSeq (sIf (mtNot (mtTruth (mCall d_are_steps (aCons (mIx (mVar 0) (mC (.int 0))) (aCons (mIx (mVar 0) (mC (.int 1))) aNil))))) (sRaise "BadWish" (some "part") (mC (.str "steps"))) sPass)
  (sSeq (sIf (mtOr (mtNot (mtTruth (mCall d_is_lot (aCons (mIx (mVar 0) (mC (.int 2))) (aCons (mOp oSub (mB bLen (aCons (mIx (mVar 0) (mC (.int 1))) aNil)) (mC (.int 1))) aNil))))) (mtVal (mOp cNotIn (mC (.int 0)) (mIx (mVar 0) (mC (.int 2)))))) (sRaise "BadWish" (some "part") (mC (.str "good"))) sPass)
  (sRet (mVar 0)))))))
/-- need_kind(wish, thing): wish, thing -/
def d_need_kind : Dn := mDefP 2 0 (
  (sSeq (sEx (mCall d_need_wish (aCons (mVar 0) aNil)))
  (sSeq (sIf (mtOr (mtNot (mtTruth (mIsA "tuple" (mVar 1)))) (mtVal (mOp cNe (mB bLen (aCons (mVar 1) aNil)) (mC (.int 3))))) (sRaise "BadKind" (some "part") (mC (.str "form"))) sPass)
  (sSeq (sIf (mtNot (mtTruth (mCall d_is_whole (aCons (mIx (mVar 1) (mC (.int 0))) (aCons (mC (.int 0)) (aCons (mC (.int 3)) aNil)))))) (sRaise "BadKind" (some "part") (mC (.str "hold"))) sPass)
  (sSeq (sIf (mtNot (mtTruth (mCall d_is_whole (aCons (mIx (mVar 1) (mC (.int 1))) (aCons (mC (.int 0)) (aCons (mC (.int 2)) aNil)))))) (sRaise "BadKind" (some "part") (mC (.str "ahead"))) sPass)
  (sSeq (sIf (mtNot (mtTruth (mCall d_is_lot (aCons (mIx (mVar 1) (mC (.int 2))) (aCons (mOp oSub (mIx (mVar 0) (mC (.int 0))) (mC (.int 1))) aNil))))) (sRaise "BadKind" (some "part") (mC (.str "loose"))) sPass)
  (sRet (mVar 1))))))))
/-- live_in(wish): wish, found, is_new, more, state, row, one -/
def d_live_in : Dn := mDefP 1 6 (
  (sSeq (sAsg (.tp [(.nm 1), (.nm 2)]) (mTup (aCons (mFrz (lB fList (aCons (mIx (mVar 0) (mC (.int 2))) aNil))) (aCons (mC (.bl true)) aNil))))
  (sSeq (sWhile (mtTruth (mVar 2)) (sSeq (sAsg (.nm 3) (mFrz (lComp (wEnum (mIx (mVar 0) (mC (.int 1)))) [4, 5] (.tp [(.nm 4), (.nm 5)]) (mtAnd (mtVal (mOp cNotIn (mVar 4) (mVar 1))) (mtTruth (mB bAny (aCons (mFrz (lComp (wSeq (mVar 5)) [6] (.nm 6) tYes (mOp cIn (mVar 6) (mVar 1)))) aNil)))) (mVar 4))))
  (sAsg (.tp [(.nm 1), (.nm 2)]) (mTup (aCons (mOp oAdd (mVar 1) (mVar 3)) (aCons (mOp cNe (mVar 3) (mFrz (lDisp aNil))) aNil))))))
  (sRet (mFrz (lB fSortI (aCons (mVar 1) aNil)))))))
/-- is_waiting(wish, state): wish, state -/
def d_is_waiting : Dn := mDefP 2 0 (
  (sRet (mAnd (mOp cIn (mVar 1) (mCall d_live_in (aCons (mVar 0) aNil))) (mOp cNotIn (mVar 1) (mIx (mVar 0) (mC (.int 2)))))))
/-- behind(wish, state, row): wish, state, row, deed -/
def d_behind : Dn := mDefP 3 1 (
  (sSeq (sFor (wSeq (mVar 2)) (.nm 3) (sAsg (.nm 1) (mIx (mIx (mIx (mVar 0) (mC (.int 1))) (mVar 1)) (mVar 3))))
  (sRet (mVar 1))))
/-- is_held(wish, kind, state, row): wish, kind, state, row, ends, many, deed, end -/
def d_is_held : Dn := mDefP 4 4 (
  (sSeq (sIf (mtOr (mtNot (mtTruth (mCall d_is_row (aCons (mVar 3) (aCons (mOp oSub (mIx (mVar 0) (mC (.int 0))) (mC (.int 1))) aNil))))) (mtOr (mtNot (mtVal (mChain cLe cLe (mC (.int 1)) (mB bLen (aCons (mVar 3) aNil)) (mIx (mVar 1) (mC (.int 0)))))) (mtTruth (mB bAny (aCons (mFrz (lComp (wSeq (mVar 3)) [6] (.nm 6) tYes (mOp cIn (mVar 6) (mIx (mVar 1) (mC (.int 2)))))) aNil))))) (sRet (mC (.bl false))) sPass)
  (sSeq (sAsg (.nm 4) (mFrz (lComp (wRng2 (mC (.int 1)) (mOp oAdd (mB bLen (aCons (mVar 3) aNil)) (mC (.int 1)))) [5] (.nm 5) tYes (mCall d_behind (aCons (mVar 0) (aCons (mVar 2) (aCons (mSlA (mVar 3) pNone (pSome (mVar 5))) aNil)))))))
  (sRet (mAnd (mNot (mB bAny (aCons (mFrz (lComp (wSeq (mVar 4)) [7] (.nm 7) tYes (mOp cIn (mVar 7) (mIx (mVar 0) (mC (.int 2)))))) aNil))) (mOp cIn (mIx (mVar 4) (mNeg (mC (.int 1)))) (mCall d_live_in (aCons (mVar 0) aNil))))))))
/-- is_position_of(wish, kind, thing): wish, kind, thing -/
def d_is_position_of : Dn := mDefP 3 0 (
  (sSeq (sIf (mtOr (mtNot (mtTruth (mIsA "tuple" (mVar 2)))) (mtOr (mtVal (mOp cNotIn (mB bLen (aCons (mVar 2) aNil)) (mTup (aCons (mC (.int 2)) (aCons (mC (.int 3)) aNil))))) (mtNot (mtTruth (mIsA "str" (mIx (mVar 2) (mC (.int 0)))))))) (sRet (mC (.bl false))) sPass)
  (sSeq (sIf (mtNot (mtTruth (mCall d_is_whole (aCons (mIx (mVar 2) (mC (.int 1))) (aCons (mC (.int 0)) (aCons (mOp oSub (mB bLen (aCons (mIx (mVar 0) (mC (.int 1))) aNil)) (mC (.int 1))) aNil)))))) (sRet (mC (.bl false))) sPass)
  (sSeq (sIf (mtVal (mOp cIn (mIx (mVar 2) (mC (.int 0))) (mTup (aCons (mC (.str "even")) (aCons (mC (.str "off")) aNil))))) (sRet (mAnd (mOp cEq (mB bLen (aCons (mVar 2) aNil)) (mC (.int 2))) (mOp cIn (mIx (mVar 2) (mC (.int 1))) (mIx (mVar 0) (mC (.int 2)))))) sPass)
  (sSeq (sIf (mtAnd (mtVal (mOp cEq (mIx (mVar 2) (mC (.int 0))) (mC (.str "behind")))) (mtVal (mOp cEq (mB bLen (aCons (mVar 2) aNil)) (mC (.int 3))))) (sRet (mAnd (mOp cIn (mIx (mVar 2) (mC (.int 1))) (mIx (mVar 0) (mC (.int 2)))) (mCall d_is_held (aCons (mVar 0) (aCons (mVar 1) (aCons (mIx (mVar 2) (mC (.int 1))) (aCons (mIx (mVar 2) (mC (.int 2))) aNil))))))) sPass)
  (sSeq (sIf (mtOr (mtVal (mOp cNe (mIx (mVar 2) (mC (.int 0))) (mC (.str "ahead")))) (mtOr (mtVal (mOp cNe (mB bLen (aCons (mVar 2) aNil)) (mC (.int 3)))) (mtOr (mtNot (mtTruth (mCall d_is_row (aCons (mIx (mVar 2) (mC (.int 2))) (aCons (mOp oSub (mIx (mVar 0) (mC (.int 0))) (mC (.int 1))) aNil))))) (mtNot (mtVal (mChain cLe cLe (mC (.int 1)) (mB bLen (aCons (mIx (mVar 2) (mC (.int 2))) aNil)) (mIx (mVar 1) (mC (.int 1))))))))) (sRet (mC (.bl false))) sPass)
  (sRet (mAnd (mCall d_is_waiting (aCons (mVar 0) (aCons (mIx (mVar 2) (mC (.int 1))) aNil))) (mOp cIn (mCall d_behind (aCons (mVar 0) (aCons (mIx (mVar 2) (mC (.int 1))) (aCons (mIx (mVar 2) (mC (.int 2))) aNil)))) (mIx (mVar 0) (mC (.int 2))))))))))))
/-- is_position(wish, kind, value): wish, kind, value -/
def d_is_position : Dn := mDefP 3 0 (
  (sSeq (sEx (mCall d_need_kind (aCons (mVar 0) (aCons (mVar 1) aNil))))
  (sRet (mCall d_is_position_of (aCons (mVar 0) (aCons (mVar 1) (aCons (mVar 2) aNil)))))))
/-- _law_forms_right(m, want, sort, live): m, want, sort, live, row, spot, odds, odd, k -/
def d_law_forms_right : Dn := mDef 4 5 (
  (sSeq (sAsg (.nm 4) (mB bTuple (aCons (mFrz (lComp (wRng1 (mOp oAdd (mC (.int 1)) (mCall d_law_next (aCons (mVar 0) (aCons (mC (.int 3)) aNil))))) [8] (.nm 8) tYes (mCall d_law_next (aCons (mVar 0) (aCons (mIx (mVar 1) (mC (.int 0))) aNil))))) aNil)))
  (sSeq (sAsg (.nm 5) (mCall d_law_next (aCons (mVar 0) (aCons (mB bLen (aCons (mIx (mVar 1) (mC (.int 1))) aNil)) aNil))))
  (sSeq (sAsg (.nm 6) (mFrz (lDisp (aCons (mC .non) (aCons (mTup aNil) (aCons (mTup (aCons (mC (.str "even")) aNil)) (aCons (mTup (aCons (mC (.str "even")) (aCons (mVar 5) (aCons (mTup aNil) aNil)))) (aCons (mTup (aCons (mC (.str "even")) (aCons (mB bLen (aCons (mIx (mVar 1) (mC (.int 1))) aNil)) aNil))) (aCons (mTup (aCons (mC (.str "even")) (aCons (mC (.bl true)) aNil))) (aCons (mFrz (lDisp (aCons (mC (.str "even")) (aCons (mC (.int 0)) aNil)))) (aCons (mTup (aCons (mC (.str "Even")) (aCons (mC (.int 0)) aNil))) aNil)))))))))))
  (sSeq (sAsg (.nm 6) (mOp oAdd (mVar 6) (mFrz (lDisp (aCons (mTup (aCons (mC (.str "behind")) (aCons (mVar 5) (aCons (mVar 4) aNil)))) (aCons (mTup (aCons (mC (.str "ahead")) (aCons (mVar 5) (aCons (mVar 4) aNil)))) (aCons (mTup (aCons (mC (.str "behind")) (aCons (mVar 5) (aCons (mTup aNil) aNil)))) (aCons (mTup (aCons (mC (.str "ahead")) (aCons (mVar 5) (aCons (mFrz (lB fList (aCons (mVar 4) aNil))) aNil)))) aNil))))))))
  (sSeq (sAsg (.nm 6) (mOp oAdd (mVar 6) (mFrz (lDisp (aCons (mTup (aCons (mC (.str "off")) (aCons (mVar 5) aNil))) (aCons (mTup (aCons (mC (.str "even")) (aCons (mVar 5) aNil))) (aCons (mTup (aCons (mC (.int 0)) (aCons (mC (.int 0)) aNil))) (aCons (mTup (aCons (mC (.str "behind")) (aCons (mVar 5) aNil))) (aCons (mTup (aCons (mC (.str "ahead")) (aCons (mNeg (mC (.int 1))) (aCons (mVar 4) aNil)))) (aCons (mTup (aCons (mC (.str "off")) (aCons (mC (.str "0")) aNil))) aNil))))))))))
  (sSeq (sFor (wSeq (mVar 6)) (.nm 7) (sIf (mtVal (mOp cNe (mB bRepr (aCons (mCall d_is_position (aCons (mVar 1) (aCons (mVar 2) (aCons (mVar 7) aNil)))) aNil)) (mB bRepr (aCons (mCall d_law_is_spot (aCons (mVar 1) (aCons (mVar 2) (aCons (mVar 3) (aCons (mVar 7) aNil))))) aNil)))) (sRet (mC (.bl false))) sPass))
  (sRet (mC (.bl true))))))))))
/-- need_deed(wish, deed): wish, deed -/
def d_need_deed : Dn := mDefP 2 0 (
  (sIf (mtNot (mtTruth (mCall d_is_whole (aCons (mVar 1) (aCons (mC (.int 0)) (aCons (mOp oSub (mIx (mVar 0) (mC (.int 0))) (mC (.int 1))) aNil)))))) (sRaise "OutOfPlace" none (mC (.str "no deed"))) sPass))
/-- need_position(wish, kind, position, deed): wish, kind, position, deed -/
def d_need_position : Dn := mDefP 4 0 (
  (sSeq (sIf (mtNot (mtTruth (mCall d_is_position (aCons (mVar 0) (aCons (mVar 1) (aCons (mVar 2) aNil)))))) (sRaise "OutOfPlace" none (mC (.str "no position"))) sPass)
  (sEx (mCall d_need_deed (aCons (mVar 0) (aCons (mVar 3) aNil))))))
/-- outputs_of(wish, position): wish, position -/
def d_outputs_of : Dn := mDefP 2 0 (
  (sSeq (sIf (mtVal (mOp cEq (mIx (mVar 1) (mC (.int 0))) (mC (.str "off")))) (sRet (mTup (aCons (mIx (mVar 1) (mC (.int 1))) (aCons (mC .non) (aCons (mTup aNil) (aCons (mTup aNil) aNil)))))) sPass)
  (sSeq (sIf (mtVal (mOp cEq (mIx (mVar 1) (mC (.int 0))) (mC (.str "even")))) (sRet (mTup (aCons (mIx (mVar 1) (mC (.int 1))) (aCons (mIx (mVar 1) (mC (.int 1))) (aCons (mTup aNil) (aCons (mTup aNil) aNil)))))) sPass)
  (sSeq (sIf (mtVal (mOp cEq (mIx (mVar 1) (mC (.int 0))) (mC (.str "behind")))) (sRet (mTup (aCons (mIx (mVar 1) (mC (.int 1))) (aCons (mCall d_behind (aCons (mVar 0) (aCons (mIx (mVar 1) (mC (.int 1))) (aCons (mIx (mVar 1) (mC (.int 2))) aNil)))) (aCons (mIx (mVar 1) (mC (.int 2))) (aCons (mTup aNil) aNil)))))) sPass)
  (sRet (mTup (aCons (mCall d_behind (aCons (mVar 0) (aCons (mIx (mVar 1) (mC (.int 1))) (aCons (mIx (mVar 1) (mC (.int 2))) aNil)))) (aCons (mIx (mVar 1) (mC (.int 1))) (aCons (mTup aNil) (aCons (mIx (mVar 1) (mC (.int 2))) aNil))))))))))
/-- rows_up_to(wish, most): wish, most, found, layer, turn, row, deed -/
def d_rows_up_to : Dn := mDefP 2 5 (
  (sSeq (sAsg (.tp [.nm 2, .nm 3]) (mTup (aCons (mFrz (lDisp (aCons (mTup aNil) aNil))) (aCons (mFrz (lDisp (aCons (mTup aNil) aNil))) aNil))))
  (sSeq (sFor (wRng1 (mVar 1)) (.nm 4) (sSeq (sAsg (.nm 3) (mFrz (lComp2 (wSeq (mVar 3)) [5, 6] (.nm 5) tYes (wRng1 (mIx (mVar 0) (mC (.int 0)))) [6] (.nm 6) tYes (mTup (aStar (mVar 5) (aCons (mVar 6) aNil))))))
  (sAsg (.nm 2) (mOp oAdd (mVar 2) (mVar 3)))))
  (sRet (mVar 2)))))
/-- live_behind(wish, kind, position, deed, shown): wish, kind, position, deed, shown, output, state, held, ahead, run, wanted, done, more, left -/
def d_live_behind : Dn := mDefP 5 9 (
  (sSeq (sAsg (.tp [(.nm 5), (.nm 6), (.nm 7), (.nm 8)]) (mCall d_outputs_of (aCons (mVar 0) (aCons (mVar 2) aNil))))
  (sSeq (sIf (mtAnd (mtVal (mOp cIn (mVar 3) (mIx (mVar 1) (mC (.int 2))))) (mtVal (mOp cNe (mSlA (mVar 4) pNone (pSome (mC (.int 1)))) (mTup (aCons (mVar 3) aNil))))) (sRet (mC .non)) sPass)
  (sSeq (sAsg (.nm 9) (mCall d_behind (aCons (mVar 0) (aCons (mVar 6) (aCons (mTup (aCons (mVar 3) aNil)) aNil)))))
  (sSeq (sAsg (.tp [.nm 10, .nm 11]) (mTup (aCons (mTup (aStar (mVar 7) (aCons (mVar 3) aNil))) (aCons (mTup (aStar (mVar 8) (aStar (mVar 4) aNil))) aNil))))
  (sSeq (sIf (mtVal (mOp cEq (mVar 11) (mVar 10))) (sRet (mIf (mtVal (mOp cIn (mVar 9) (mIx (mVar 0) (mC (.int 2))))) (mTup (aCons (mC (.str "even")) (aCons (mVar 9) aNil))) (mC .non))) sPass)
  (sSeq (sIf (mtVal (mOp cIn (mVar 9) (mIx (mVar 0) (mC (.int 2))))) (sRet (mC .non)) sPass)
  (sSeq (sIf (mtVal (mOp cEq (mSlA (mVar 11) pNone (pSome (mB bLen (aCons (mVar 10) aNil)))) (mVar 10))) (sSeq (sAsg (.nm 12) (mSlA (mVar 11) (pSome (mB bLen (aCons (mVar 10) aNil))) pNone))
  (sRet (mIf (mtAnd (mtVal (mOp cLe (mB bLen (aCons (mVar 12) aNil)) (mIx (mVar 1) (mC (.int 1))))) (mtVal (mOp cIn (mCall d_behind (aCons (mVar 0) (aCons (mVar 9) (aCons (mVar 12) aNil)))) (mIx (mVar 0) (mC (.int 2)))))) (mTup (aCons (mC (.str "ahead")) (aCons (mVar 9) (aCons (mVar 12) aNil)))) (mC .non)))) sPass)
  (sSeq (sIf (mtVal (mOp cNe (mVar 11) (mSlA (mVar 10) pNone (pSome (mB bLen (aCons (mVar 11) aNil)))))) (sRet (mC .non)) sPass)
  (sSeq (sAsg (.tp [.nm 13, .nm 6]) (mTup (aCons (mSlA (mVar 10) (pSome (mB bLen (aCons (mVar 11) aNil))) pNone) (aCons (mCall d_behind (aCons (mVar 0) (aCons (mVar 5) (aCons (mVar 4) aNil)))) aNil))))
  (sRet (mIf (mtAnd (mtVal (mOp cIn (mVar 6) (mIx (mVar 0) (mC (.int 2))))) (mtTruth (mCall d_is_held (aCons (mVar 0) (aCons (mVar 1) (aCons (mVar 6) (aCons (mVar 13) aNil))))))) (mTup (aCons (mC (.str "behind")) (aCons (mVar 6) (aCons (mVar 13) aNil)))) (mC .non)))))))))))))
/-- doomed_behind(wish, kind, position, deed, shown): wish, kind, position, deed, shown, state -/
def d_doomed_behind : Dn := mDefP 5 1 (
  (sSeq (sIf (mtVal (mOp cNotIn (mVar 3) (mIx (mVar 1) (mC (.int 2))))) (sRet (mIf (mtVal (mOp cEq (mVar 4) (mTup aNil))) (mTup (aCons (mC (.str "off")) (aCons (mIx (mCall d_outputs_of (aCons (mVar 0) (aCons (mVar 2) aNil))) (mC (.int 0))) aNil))) (mC .non))) sPass)
  (sSeq (sIf (mtOr (mtVal (mOp cNe (mSlA (mVar 4) pNone (pSome (mC (.int 1)))) (mTup (aCons (mVar 3) aNil)))) (mtVal (mOp cGt (mB bLen (aCons (mVar 4) aNil)) (mOp oAdd (mIx (mVar 1) (mC (.int 1))) (mC (.int 1)))))) (sRet (mC .non)) sPass)
  (sSeq (sAsg (.nm 5) (mCall d_behind (aCons (mVar 0) (aCons (mIx (mCall d_outputs_of (aCons (mVar 0) (aCons (mVar 2) aNil))) (mC (.int 0))) (aCons (mVar 4) aNil)))))
  (sRet (mIf (mtVal (mOp cIn (mVar 5) (mIx (mVar 0) (mC (.int 2))))) (mTup (aCons (mC (.str "off")) (aCons (mVar 5) aNil))) (mC .non)))))))
/-- behind_answer(wish, kind, position, deed, shown): wish, kind, position, deed, shown, state -/
def d_behind_answer : Dn := mDefP 5 1 (
  (sSeq (sAsg (.nm 5) (mIx (mCall d_outputs_of (aCons (mVar 0) (aCons (mVar 2) aNil))) (mC (.int 1))))
  (sSeq (sIf (mtOr (mtVal (mOp cIsN (mVar 5) (mC .non))) (mtVal (mOp cNotIn (mCall d_behind (aCons (mVar 0) (aCons (mVar 5) (aCons (mTup (aCons (mVar 3) aNil)) aNil)))) (mCall d_live_in (aCons (mVar 0) aNil))))) (sRet (mCall d_doomed_behind (aCons (mVar 0) (aCons (mVar 1) (aCons (mVar 2) (aCons (mVar 3) (aCons (mVar 4) aNil))))))) sPass)
  (sRet (mCall d_live_behind (aCons (mVar 0) (aCons (mVar 1) (aCons (mVar 2) (aCons (mVar 3) (aCons (mVar 4) aNil))))))))))
/-- answers_in(wish, kind, position, deed): wish, kind, position, deed, output, state, held, ahead, some, row, more, whole, found, shown, there -/
def d_answers_in : Dn := mDefP 4 11 (
  (sSeq (sAsg (.tp [(.nm 4), (.nm 5), (.nm 6), (.nm 7)]) (mCall d_outputs_of (aCons (mVar 0) (aCons (mVar 2) aNil))))
  (sSeq (sAsg (.nm 8) (mMap1 (mTup aNil) (mC (.bl true))))
  (sSeq (sFor (wSeq (mCall d_rows_up_to (aCons (mVar 0) (aCons (mIx (mVar 1) (mC (.int 1))) aNil)))) (.nm 9) (sSeq (sAsg (.tp [.nm 10, .nm 11]) (mTup (aCons (mTup (aCons (mVar 3) (aStar (mVar 9) aNil))) (aCons (mTup (aStar (mVar 6) (aCons (mVar 3) (aStar (mVar 9) aNil)))) aNil))))
  (sSeq (sSet (mVar 8) (mVar 10) (mC (.bl true)))
  (sSet (mVar 8) (mSlA (mVar 11) (pSome (mB bLen (aCons (mVar 7) aNil))) pNone) (mC (.bl true))))))
  (sSeq (sAsg (.nm 12) (mFrz (lComp (wSeq (mFrz (lB fSortMap (aCons (mVar 8) aNil)))) [13] (.nm 13) tYes (mTup (aCons (mVar 13) (aCons (mCall d_behind_answer (aCons (mVar 0) (aCons (mVar 1) (aCons (mVar 2) (aCons (mVar 3) (aCons (mVar 13) aNil)))))) aNil))))))
  (sRet (mFrz (lComp (wSeq (mVar 12)) [13, 14] (.tp [(.nm 13), (.nm 14)]) (mtVal (mOp cNotN (mVar 14) (mC .non))) (mTup (aCons (mVar 13) (aCons (mVar 14) aNil)))))))))))
/-- answers(wish, kind, position, deed): wish, kind, position, deed, shown, there -/
def d_answers : Dn := mDefP 4 2 (
  (sSeq (sEx (mCall d_need_position (aCons (mVar 0) (aCons (mVar 1) (aCons (mVar 2) (aCons (mVar 3) aNil))))))
  (sRet (mB bTuple (aCons (mFrz (lComp (wSeq (mCall d_answers_in (aCons (mVar 0) (aCons (mVar 1) (aCons (mVar 2) (aCons (mVar 3) aNil)))))) [4, 5] (.tp [(.nm 4), (.nm 5)]) tYes (mVar 4))) aNil)))))
/-- _law_led(want, sort, live, spot, deed, row): want, sort, live, spot, deed, row, held, ahead, loose, base, run, out, end, state, near -/
def d_law_led : Dn := mDefP 6 9 (
  (sSeq (sAsg (.tp [(.nm 6), (.nm 7), (.nm 8)]) (mVar 1))
  (sSeq (sIf (mtVal (mOp cEq (mIx (mVar 3) (mC (.int 0))) (mC (.str "off")))) (sAsg (.tp [.nm 9, .nm 10, .nm 11]) (mTup (aCons (mIx (mVar 3) (mC (.int 1))) (aCons (mC .non) (aCons (mTup aNil) aNil))))) (sSeq (sAsg (.nm 9) (mIx (mVar 3) (mC (.int 1))))
  (sSeq (sAsg (.nm 10) (mIf (mtVal (mOp cEq (mIx (mVar 3) (mC (.int 0))) (mC (.str "behind")))) (mIx (mVar 3) (mC (.int 2))) (mTup aNil)))
  (sAsg (.nm 11) (mIf (mtVal (mOp cEq (mIx (mVar 3) (mC (.int 0))) (mC (.str "ahead")))) (mIx (mVar 3) (mC (.int 2))) (mTup aNil))))))
  (sSeq (sAsg (.nm 11) (mOp oAdd (mVar 11) (mVar 5)))
  (sSeq (sAsg (.nm 12) (mCall d_law_far (aCons (mVar 0) (aCons (mVar 9) (aCons (mVar 11) aNil)))))
  (sSeq (sIf (mtVal (mOp cNotIn (mVar 12) (mIx (mVar 0) (mC (.int 2))))) (sRet (mC .non)) sPass)
  (sSeq (sAsg (.nm 13) (mIf (mtVal (mOp cIsN (mVar 10) (mC .non))) (mC .non) (mCall d_law_far (aCons (mVar 0) (aCons (mVar 9) (aCons (mOp oAdd (mVar 10) (mTup (aCons (mVar 4) aNil))) aNil))))))
  (sSeq (sIf (mtOr (mtVal (mOp cIsN (mVar 13) (mC .non))) (mtVal (mOp cNotIn (mVar 13) (mVar 2)))) (sSeq (sIf (mtVal (mOp cIn (mVar 4) (mVar 8))) (sRet (mIf (mtAnd (mtVal (mOp cEq (mSlA (mVar 5) pNone (pSome (mC (.int 1)))) (mTup (aCons (mVar 4) aNil)))) (mtVal (mOp cLe (mB bLen (aCons (mVar 5) aNil)) (mOp oAdd (mVar 7) (mC (.int 1)))))) (mTup (aCons (mC (.str "off")) (aCons (mVar 12) aNil))) (mC .non))) sPass)
  (sRet (mIf (mtVal (mOp cEq (mVar 5) (mTup aNil))) (mTup (aCons (mC (.str "off")) (aCons (mVar 12) aNil))) (mC .non)))) sPass)
  (sSeq (sAsg (.nm 10) (mOp oAdd (mVar 10) (mTup (aCons (mVar 4) aNil))))
  (sSeq (sIf (mtAnd (mtVal (mOp cIn (mVar 4) (mVar 8))) (mtVal (mOp cNe (mSlA (mVar 5) pNone (pSome (mC (.int 1)))) (mTup (aCons (mVar 4) aNil))))) (sRet (mC .non)) sPass)
  (sSeq (sIf (mtVal (mOp cIn (mVar 13) (mIx (mVar 0) (mC (.int 2))))) (sRet (mIf (mtVal (mOp cEq (mVar 11) (mVar 10))) (mTup (aCons (mC (.str "even")) (aCons (mVar 13) aNil))) (mC .non))) sPass)
  (sSeq (sIf (mtVal (mOp cLt (mB bLen (aCons (mVar 11) aNil)) (mB bLen (aCons (mVar 10) aNil)))) (sSeq (sAsg (.nm 14) (mAnd (mOp cLe (mOp oSub (mB bLen (aCons (mVar 10) aNil)) (mB bLen (aCons (mVar 11) aNil))) (mVar 6)) (mOp cEq (mSlA (mVar 10) pNone (pSome (mB bLen (aCons (mVar 11) aNil)))) (mVar 11))))
  (sRet (mIf (mtTruth (mVar 14)) (mTup (aCons (mC (.str "behind")) (aCons (mVar 12) (aCons (mSlA (mVar 10) (pSome (mB bLen (aCons (mVar 11) aNil))) pNone) aNil)))) (mC .non)))) sPass)
  (sSeq (sAsg (.nm 14) (mAnd (mOp cLe (mOp oSub (mB bLen (aCons (mVar 11) aNil)) (mB bLen (aCons (mVar 10) aNil))) (mVar 7)) (mOp cEq (mSlA (mVar 11) pNone (pSome (mB bLen (aCons (mVar 10) aNil)))) (mVar 10))))
  (sRet (mIf (mtTruth (mVar 14)) (mTup (aCons (mC (.str "ahead")) (aCons (mVar 13) (aCons (mSlA (mVar 11) (pSome (mB bLen (aCons (mVar 10) aNil))) pNone) aNil)))) (mC .non))))))))))))))))
/-- _law_answers(want, sort, live, spot, deed, rows): want, sort, live, spot, deed, rows, found, row, there -/
def d_law_answers : Dn := mDefP 6 3 (
  (sSeq (sAsg (.nm 6) mMap0)
  (sSeq (sFor (wSeq (mVar 5)) (.nm 7) (sSeq (sAsg (.nm 8) (mCall d_law_led (aCons (mVar 0) (aCons (mVar 1) (aCons (mVar 2) (aCons (mVar 3) (aCons (mVar 4) (aCons (mVar 7) aNil))))))))
  (sIf (mtVal (mOp cNotN (mVar 8) (mC .non))) (sSet (mVar 6) (mVar 7) (mVar 8)) sPass)))
  (sRet (mVar 6)))))
/-- led(wish, kind, position, deed, shown): wish, kind, position, deed, shown, there -/
def d_led : Dn := mDefP 5 1 (
  (sSeq (sEx (mCall d_need_position (aCons (mVar 0) (aCons (mVar 1) (aCons (mVar 2) (aCons (mVar 3) aNil))))))
  (sSeq (sAsg (.nm 5) (mIf (mtTruth (mCall d_is_row (aCons (mVar 4) (aCons (mOp oSub (mIx (mVar 0) (mC (.int 0))) (mC (.int 1))) aNil)))) (mCall d_behind_answer (aCons (mVar 0) (aCons (mVar 1) (aCons (mVar 2) (aCons (mVar 3) (aCons (mVar 4) aNil)))))) (mC .non)))
  (sSeq (sIf (mtVal (mOp cIsN (mVar 5) (mC .non))) (sRaise "OutOfPlace" none (mC (.str "no answer"))) sPass)
  (sRet (mVar 5))))))
/-- _law_outcome(want, sort, spot, deed, row): want, sort, spot, deed, row, found -/
def d_law_outcome : Dn := mDefP 5 1 (
  (sSeq (sAsg (.nm 5) (mC (.str "place")))
  (sSeq (sTry known (sAsg (.nm 5) (mCall d_led (aCons (mVar 0) (aCons (mVar 1) (aCons (mVar 2) (aCons (mVar 3) (aCons (mVar 4) aNil))))))) [⟨["OutOfPlace"], none, fun x => sAsg (.nm 5) (mC (.str "place"))⟩])
  (sRet (mVar 5)))))
/-- _law_spot_right(m, want, sort, live, spot, rows): m, want, sort, live, spot, rows, deed, some, count, row, due, odd -/
def d_law_spot_right : Dn := mDef 6 6 (
  (sSeq (sAsg (.nm 6) (mCall d_law_next (aCons (mVar 0) (aCons (mIx (mVar 1) (mC (.int 0))) aNil))))
  (sSeq (sAsg (.nm 7) (mCall d_law_answers (aCons (mVar 1) (aCons (mVar 2) (aCons (mVar 3) (aCons (mVar 4) (aCons (mVar 6) (aCons (mVar 5) aNil))))))))
  (sSeq (sIf (mtVal (mOp cNe (mB bRepr (aCons (mCall d_answers (aCons (mVar 1) (aCons (mVar 2) (aCons (mVar 4) (aCons (mVar 6) aNil))))) aNil)) (mB bRepr (aCons (mB bTuple (aCons (mFrz (lB fSortMap (aCons (mVar 7) aNil))) aNil)) aNil)))) (sRet (mC (.bl false))) sPass)
  (sSeq (sFor (wRng1 (mC (.int 6))) (.nm 8) (sSeq (sAsg (.nm 9) (mIx (mVar 5) (mCall d_law_next (aCons (mVar 0) (aCons (mB bLen (aCons (mVar 5) aNil)) aNil)))))
  (sSeq (sAsg (.nm 10) (mIf (mtVal (mOp cIn (mVar 9) (mVar 7))) (mIx (mVar 7) (mVar 9)) (mC (.str "place"))))
  (sIf (mtVal (mOp cNe (mB bRepr (aCons (mCall d_law_outcome (aCons (mVar 1) (aCons (mVar 2) (aCons (mVar 4) (aCons (mVar 6) (aCons (mVar 9) aNil)))))) aNil)) (mB bRepr (aCons (mVar 10) aNil)))) (sRet (mC (.bl false))) sPass))))
  (sSeq (sFor (wSeq (mTup (aCons (mC .non) (aCons (mFrz (lDisp (aCons (mC (.int 0)) aNil))) (aCons (mTup (aCons (mIx (mVar 1) (mC (.int 0))) aNil)) (aCons (mTup (aCons (mC (.bl true)) aNil)) (aCons (mC (.int 0)) (aCons (mOp oMulS (mTup (aCons (mVar 6) aNil)) (mC (.int 9))) aNil)))))))) (.nm 11) (sIf (mtVal (mOp cNe (mCall d_law_outcome (aCons (mVar 1) (aCons (mVar 2) (aCons (mVar 4) (aCons (mVar 6) (aCons (mVar 11) aNil)))))) (mC (.str "place")))) (sRet (mC (.bl false))) sPass))
  (sRet (mC (.bl true)))))))))
/-- law(script): script, m, turn, want, sort, live, rows, spots, count, pair -/
def d_law : Dn := mDef 1 9 (
  (sSeq (sAsg (.nm 1) (mCall d_law_begun (aCons (mVar 0) aNil)))
  (sSeq (sFor (wRng1 (mOp oAdd (mC (.int 1)) (mB bMin2 (aCons (mB bLen (aCons (mVar 0) aNil)) (aCons (mC (.int 4)) aNil))))) (.nm 2) (sSeq (sAsg (.nm 3) (mCall d_law_want (aCons (mVar 1) (aCons (mC (.int 3)) (aCons (mC (.int 4)) aNil)))))
  (sSeq (sAsg (.tp [.nm 4, .nm 5]) (mTup (aCons (mCall d_law_sort (aCons (mVar 1) (aCons (mIx (mVar 3) (mC (.int 0))) (aCons (mC (.int 2)) (aCons (mC (.int 1)) aNil))))) (aCons (mCall d_law_live (aCons (mVar 3) aNil)) aNil))))
  (sSeq (sAsg (.tp [.nm 6, .nm 7]) (mTup (aCons (mCall d_law_rows (aCons (mIx (mVar 3) (mC (.int 0))) (aCons (mOp oAdd (mOp oAdd (mIx (mVar 4) (mC (.int 0))) (mIx (mVar 4) (mC (.int 1)))) (mC (.int 1))) aNil))) (aCons (mCall d_law_spots (aCons (mVar 3) (aCons (mVar 4) (aCons (mVar 5) aNil)))) aNil))))
  (sSeq (sIf (mtNot (mtTruth (mCall d_law_forms_right (aCons (mVar 1) (aCons (mVar 3) (aCons (mVar 4) (aCons (mVar 5) aNil))))))) (sRet (mC (.bl false))) sPass)
  (sFor (wRng1 (mC (.int 8))) (.nm 8) (sIf (mtNot (mtTruth (mCall d_law_spot_right (aCons (mVar 1) (aCons (mVar 3) (aCons (mVar 4) (aCons (mVar 5) (aCons (mIx (mVar 7) (mCall d_law_next (aCons (mVar 1) (aCons (mB bLen (aCons (mVar 7) aNil)) aNil)))) (aCons (mVar 6) aNil))))))))) (sRet (mC (.bl false))) sPass)))))))
  (sSeq (sAsg (.nm 9) (mTup (aCons (mC (.int 2)) (aCons (mTup (aCons (mTup (aCons (mC (.int 1)) (aCons (mC (.int 0)) aNil))) (aCons (mTup (aCons (mC (.int 1)) (aCons (mC (.int 2)) aNil))) (aCons (mTup (aCons (mC (.int 2)) (aCons (mC (.int 2)) aNil))) aNil)))) (aCons (mTup (aCons (mC (.int 0)) (aCons (mC (.int 2)) aNil))) aNil)))))
  (sRet (mAnd (mOp cEq (mCall d_answers (aCons (mVar 9) (aCons (mTup (aCons (mC (.int 1)) (aCons (mC (.int 1)) (aCons (mTup aNil) aNil)))) (aCons (mTup (aCons (mC (.str "even")) (aCons (mC (.int 0)) aNil))) (aCons (mC (.int 0)) aNil))))) (mTup (aCons (mTup aNil) (aCons (mTup (aCons (mC (.int 0)) (aCons (mC (.int 1)) aNil))) aNil)))) (mOp cEq (mCall d_answers (aCons (mVar 9) (aCons (mTup (aCons (mC (.int 0)) (aCons (mC (.int 0)) (aCons (mTup aNil) aNil)))) (aCons (mTup (aCons (mC (.str "even")) (aCons (mC (.int 0)) aNil))) (aCons (mC (.int 0)) aNil))))) (mTup aNil))))))))
end Mp
end SDenk03

section SOkk03
set_option Elab.async false
set_option linter.all false
set_option maxRecDepth 100000
set_option maxHeartbeats 2000000
open PySem PySem.Spec PyProof.Rows L2
namespace Mp
def topS (i : Nat) : Stmt := PySem.Challenge.pw_guardkeeps_k03_whole_answers.main.body.getD i (.Pass ⟨0, 0, 0, 0⟩)
abbrev s_d_law_begun : Stmt := topS 38
abbrev N_d_law_begun : List Str := ["script", "cell"]
theorem sc_d_law_begun : FnScope N_d_law_begun ["script"] (defScope s_d_law_begun) := ⟨rfl, rfl, rfl, by decide +kernel, rfl, by decide +kernel, by decide +kernel⟩
abbrev s_d_law_next : Stmt := topS 39
abbrev N_d_law_next : List Str := ["m", "total", "rest", "k", "cell", "mixed"]
theorem sc_d_law_next : FnScope N_d_law_next ["m", "total"] (defScope s_d_law_next) := ⟨rfl, rfl, rfl, by decide +kernel, rfl, by decide +kernel, by decide +kernel⟩
abbrev s_d_law_want : Stmt := topS 40
abbrev N_d_law_want : List Str := ["m", "deeds", "states", "many", "size", "rows", "k", "good", "j"]
theorem sc_d_law_want : FnScope N_d_law_want ["m", "deeds", "states"] (defScope s_d_law_want) := ⟨rfl, rfl, rfl, by decide +kernel, rfl, by decide +kernel, by decide +kernel⟩
abbrev s_d_law_sort : Stmt := topS 41
abbrev N_d_law_sort : List Str := ["m", "deeds", "held", "ahead", "loose", "k"]
theorem sc_d_law_sort : FnScope N_d_law_sort ["m", "deeds", "held", "ahead"] (defScope s_d_law_sort) := ⟨rfl, rfl, rfl, by decide +kernel, rfl, by decide +kernel, by decide +kernel⟩
abbrev s_d_law_live : Stmt := topS 43
abbrev N_d_law_live : List Str := ["want", "found", "count", "spot", "one"]
theorem sc_d_law_live : FnScope N_d_law_live ["want"] (defScope s_d_law_live) := ⟨rfl, rfl, rfl, by decide +kernel, rfl, by decide +kernel, by decide +kernel⟩
abbrev s_d_law_rows : Stmt := topS 44
abbrev N_d_law_rows : List Str := ["deeds", "total", "found", "layer", "count", "fresh", "row", "one"]
theorem sc_d_law_rows : FnScope N_d_law_rows ["deeds", "total"] (defScope s_d_law_rows) := ⟨rfl, rfl, rfl, by decide +kernel, rfl, by decide +kernel, by decide +kernel⟩
abbrev s_d_law_is_whole : Stmt := topS 45
abbrev N_d_law_is_whole : List Str := ["thing", "lowest", "highest"]
theorem sc_d_law_is_whole : FnScope N_d_law_is_whole ["thing", "lowest", "highest"] (defScope s_d_law_is_whole) := ⟨rfl, rfl, rfl, by decide +kernel, rfl, by decide +kernel, by decide +kernel⟩
abbrev s_d_law_far : Stmt := topS 42
abbrev N_d_law_far : List Str := ["want", "spot", "row", "one"]
theorem sc_d_law_far : FnScope N_d_law_far ["want", "spot", "row"] (defScope s_d_law_far) := ⟨rfl, rfl, rfl, by decide +kernel, rfl, by decide +kernel, by decide +kernel⟩
abbrev s_d_law_is_spot : Stmt := topS 47
abbrev N_d_law_is_spot : List Str := ["want", "sort", "live", "thing", "held", "ahead", "loose", "good", "ends", "k", "one", "end"]
theorem sc_d_law_is_spot : FnScope N_d_law_is_spot ["want", "sort", "live", "thing"] (defScope s_d_law_is_spot) := ⟨rfl, rfl, rfl, by decide +kernel, rfl, by decide +kernel, by decide +kernel⟩
abbrev s_d_law_spots : Stmt := topS 48
abbrev N_d_law_spots : List Str := ["want", "sort", "live", "rows", "found", "spot", "one", "row"]
theorem sc_d_law_spots : FnScope N_d_law_spots ["want", "sort", "live"] (defScope s_d_law_spots) := ⟨rfl, rfl, rfl, by decide +kernel, rfl, by decide +kernel, by decide +kernel⟩
abbrev s_d_is_whole : Stmt := topS 7
abbrev N_d_is_whole : List Str := ["thing", "least", "most"]
theorem sc_d_is_whole : FnScope N_d_is_whole ["thing", "least", "most"] (defScope s_d_is_whole) := ⟨rfl, rfl, rfl, by decide +kernel, rfl, by decide +kernel, by decide +kernel⟩
abbrev s_d_is_row : Stmt := topS 8
abbrev N_d_is_row : List Str := ["thing", "most", "one"]
theorem sc_d_is_row : FnScope N_d_is_row ["thing", "most"] (defScope s_d_is_row) := ⟨rfl, rfl, rfl, by decide +kernel, rfl, by decide +kernel, by decide +kernel⟩
abbrev s_d_are_steps : Stmt := topS 10
abbrev N_d_are_steps : List Str := ["deeds", "thing", "row"]
theorem sc_d_are_steps : FnScope N_d_are_steps ["deeds", "thing"] (defScope s_d_are_steps) := ⟨rfl, rfl, rfl, by decide +kernel, rfl, by decide +kernel, by decide +kernel⟩
abbrev s_d_is_lot : Stmt := topS 9
abbrev N_d_is_lot : List Str := ["thing", "most", "one", "other"]
theorem sc_d_is_lot : FnScope N_d_is_lot ["thing", "most"] (defScope s_d_is_lot) := ⟨rfl, rfl, rfl, by decide +kernel, rfl, by decide +kernel, by decide +kernel⟩
abbrev s_d_need_wish : Stmt := topS 11
abbrev N_d_need_wish : List Str := ["thing"]
theorem sc_d_need_wish : FnScope N_d_need_wish ["thing"] (defScope s_d_need_wish) := ⟨rfl, rfl, rfl, by decide +kernel, rfl, by decide +kernel, by decide +kernel⟩
abbrev s_d_need_kind : Stmt := topS 18
abbrev N_d_need_kind : List Str := ["wish", "thing"]
theorem sc_d_need_kind : FnScope N_d_need_kind ["wish", "thing"] (defScope s_d_need_kind) := ⟨rfl, rfl, rfl, by decide +kernel, rfl, by decide +kernel, by decide +kernel⟩
abbrev s_d_live_in : Stmt := topS 14
abbrev N_d_live_in : List Str := ["wish", "found", "is_new", "more", "state", "row", "one"]
theorem sc_d_live_in : FnScope N_d_live_in ["wish"] (defScope s_d_live_in) := ⟨rfl, rfl, rfl, by decide +kernel, rfl, by decide +kernel, by decide +kernel⟩
abbrev s_d_is_waiting : Stmt := topS 25
abbrev N_d_is_waiting : List Str := ["wish", "state"]
theorem sc_d_is_waiting : FnScope N_d_is_waiting ["wish", "state"] (defScope s_d_is_waiting) := ⟨rfl, rfl, rfl, by decide +kernel, rfl, by decide +kernel, by decide +kernel⟩
abbrev s_d_behind : Stmt := topS 13
abbrev N_d_behind : List Str := ["wish", "state", "row", "deed"]
theorem sc_d_behind : FnScope N_d_behind ["wish", "state", "row"] (defScope s_d_behind) := ⟨rfl, rfl, rfl, by decide +kernel, rfl, by decide +kernel, by decide +kernel⟩
abbrev s_d_is_held : Stmt := topS 26
abbrev N_d_is_held : List Str := ["wish", "kind", "state", "row", "ends", "many", "deed", "end"]
theorem sc_d_is_held : FnScope N_d_is_held ["wish", "kind", "state", "row"] (defScope s_d_is_held) := ⟨rfl, rfl, rfl, by decide +kernel, rfl, by decide +kernel, by decide +kernel⟩
abbrev s_d_is_position_of : Stmt := topS 27
abbrev N_d_is_position_of : List Str := ["wish", "kind", "thing"]
theorem sc_d_is_position_of : FnScope N_d_is_position_of ["wish", "kind", "thing"] (defScope s_d_is_position_of) := ⟨rfl, rfl, rfl, by decide +kernel, rfl, by decide +kernel, by decide +kernel⟩
abbrev s_d_is_position : Stmt := topS 28
abbrev N_d_is_position : List Str := ["wish", "kind", "value"]
theorem sc_d_is_position : FnScope N_d_is_position ["wish", "kind", "value"] (defScope s_d_is_position) := ⟨rfl, rfl, rfl, by decide +kernel, rfl, by decide +kernel, by decide +kernel⟩
abbrev s_d_law_forms_right : Stmt := topS 52
abbrev N_d_law_forms_right : List Str := ["m", "want", "sort", "live", "row", "spot", "odds", "odd", "k"]
theorem sc_d_law_forms_right : FnScope N_d_law_forms_right ["m", "want", "sort", "live"] (defScope s_d_law_forms_right) := ⟨rfl, rfl, rfl, by decide +kernel, rfl, by decide +kernel, by decide +kernel⟩
abbrev s_d_need_deed : Stmt := topS 12
abbrev N_d_need_deed : List Str := ["wish", "deed"]
theorem sc_d_need_deed : FnScope N_d_need_deed ["wish", "deed"] (defScope s_d_need_deed) := ⟨rfl, rfl, rfl, by decide +kernel, rfl, by decide +kernel, by decide +kernel⟩
abbrev s_d_need_position : Stmt := topS 34
abbrev N_d_need_position : List Str := ["wish", "kind", "position", "deed"]
theorem sc_d_need_position : FnScope N_d_need_position ["wish", "kind", "position", "deed"] (defScope s_d_need_position) := ⟨rfl, rfl, rfl, by decide +kernel, rfl, by decide +kernel, by decide +kernel⟩
abbrev s_d_outputs_of : Stmt := topS 29
abbrev N_d_outputs_of : List Str := ["wish", "position"]
theorem sc_d_outputs_of : FnScope N_d_outputs_of ["wish", "position"] (defScope s_d_outputs_of) := ⟨rfl, rfl, rfl, by decide +kernel, rfl, by decide +kernel, by decide +kernel⟩
abbrev s_d_rows_up_to : Stmt := topS 24
abbrev N_d_rows_up_to : List Str := ["wish", "most", "found", "layer", "turn", "row", "deed"]
theorem sc_d_rows_up_to : FnScope N_d_rows_up_to ["wish", "most"] (defScope s_d_rows_up_to) := ⟨rfl, rfl, rfl, by decide +kernel, rfl, by decide +kernel, by decide +kernel⟩
abbrev s_d_live_behind : Stmt := topS 31
abbrev N_d_live_behind : List Str := ["wish", "kind", "position", "deed", "shown", "output", "state", "held", "ahead", "run", "wanted", "done", "more", "left"]
theorem sc_d_live_behind : FnScope N_d_live_behind ["wish", "kind", "position", "deed", "shown"] (defScope s_d_live_behind) := ⟨rfl, rfl, rfl, by decide +kernel, rfl, by decide +kernel, by decide +kernel⟩
abbrev s_d_doomed_behind : Stmt := topS 30
abbrev N_d_doomed_behind : List Str := ["wish", "kind", "position", "deed", "shown", "state"]
theorem sc_d_doomed_behind : FnScope N_d_doomed_behind ["wish", "kind", "position", "deed", "shown"] (defScope s_d_doomed_behind) := ⟨rfl, rfl, rfl, by decide +kernel, rfl, by decide +kernel, by decide +kernel⟩
abbrev s_d_behind_answer : Stmt := topS 32
abbrev N_d_behind_answer : List Str := ["wish", "kind", "position", "deed", "shown", "state"]
theorem sc_d_behind_answer : FnScope N_d_behind_answer ["wish", "kind", "position", "deed", "shown"] (defScope s_d_behind_answer) := ⟨rfl, rfl, rfl, by decide +kernel, rfl, by decide +kernel, by decide +kernel⟩
abbrev s_d_answers_in : Stmt := topS 33
abbrev N_d_answers_in : List Str := ["wish", "kind", "position", "deed", "output", "state", "held", "ahead", "some", "row", "more", "whole", "found", "shown", "there"]
theorem sc_d_answers_in : FnScope N_d_answers_in ["wish", "kind", "position", "deed"] (defScope s_d_answers_in) := ⟨rfl, rfl, rfl, by decide +kernel, rfl, by decide +kernel, by decide +kernel⟩
abbrev s_d_answers : Stmt := topS 35
abbrev N_d_answers : List Str := ["wish", "kind", "position", "deed", "shown", "there"]
theorem sc_d_answers : FnScope N_d_answers ["wish", "kind", "position", "deed"] (defScope s_d_answers) := ⟨rfl, rfl, rfl, by decide +kernel, rfl, by decide +kernel, by decide +kernel⟩
abbrev s_d_law_led : Stmt := topS 46
abbrev N_d_law_led : List Str := ["want", "sort", "live", "spot", "deed", "row", "held", "ahead", "loose", "base", "run", "out", "end", "state", "near"]
theorem sc_d_law_led : FnScope N_d_law_led ["want", "sort", "live", "spot", "deed", "row"] (defScope s_d_law_led) := ⟨rfl, rfl, rfl, by decide +kernel, rfl, by decide +kernel, by decide +kernel⟩
abbrev s_d_law_answers : Stmt := topS 49
abbrev N_d_law_answers : List Str := ["want", "sort", "live", "spot", "deed", "rows", "found", "row", "there"]
theorem sc_d_law_answers : FnScope N_d_law_answers ["want", "sort", "live", "spot", "deed", "rows"] (defScope s_d_law_answers) := ⟨rfl, rfl, rfl, by decide +kernel, rfl, by decide +kernel, by decide +kernel⟩
abbrev s_d_led : Stmt := topS 36
abbrev N_d_led : List Str := ["wish", "kind", "position", "deed", "shown", "there"]
theorem sc_d_led : FnScope N_d_led ["wish", "kind", "position", "deed", "shown"] (defScope s_d_led) := ⟨rfl, rfl, rfl, by decide +kernel, rfl, by decide +kernel, by decide +kernel⟩
abbrev s_d_law_outcome : Stmt := topS 50
abbrev N_d_law_outcome : List Str := ["want", "sort", "spot", "deed", "row", "found"]
theorem sc_d_law_outcome : FnScope N_d_law_outcome ["want", "sort", "spot", "deed", "row"] (defScope s_d_law_outcome) := ⟨rfl, rfl, rfl, by decide +kernel, rfl, by decide +kernel, by decide +kernel⟩
abbrev s_d_law_spot_right : Stmt := topS 51
abbrev N_d_law_spot_right : List Str := ["m", "want", "sort", "live", "spot", "rows", "deed", "some", "count", "row", "due", "odd"]
theorem sc_d_law_spot_right : FnScope N_d_law_spot_right ["m", "want", "sort", "live", "spot", "rows"] (defScope s_d_law_spot_right) := ⟨rfl, rfl, rfl, by decide +kernel, rfl, by decide +kernel, by decide +kernel⟩
abbrev s_d_law : Stmt := topS 53
abbrev N_d_law : List Str := ["script", "m", "turn", "want", "sort", "live", "rows", "spots", "count", "pair"]
theorem sc_d_law : FnScope N_d_law ["script"] (defScope s_d_law) := ⟨rfl, rfl, rfl, by decide +kernel, rfl, by decide +kernel, by decide +kernel⟩
instance : Lt where
  tabs := fun K _ => []
  lam := fun j => match j with
    | _ => lamOf noE "" [] [] []
structure Txt (P : Program) (K : PySem.W.Frag) (mg : Str → Option Value) where
  b_all : mg "all" = none
  b_any : mg "any" = none
  b_bool : mg "bool" = none
  b_enumerate : mg "enumerate" = none
  b_int : mg "int" = none
  b_isinstance : mg "isinstance" = none
  b_len : mg "len" = none
  b_list : mg "list" = none
  b_max : mg "max" = none
  b_min : mg "min" = none
  b_range : mg "range" = none
  b_repr : mg "repr" = none
  b_set : mg "set" = none
  b_sorted : mg "sorted" = none
  b_str : mg "str" = none
  b_tuple : mg "tuple" = none
  b_zip : mg "zip" = none
  t_AHEAD : Tok
  c_AHEAD : mg "AHEAD" = some (.str "ahead" t_AHEAD)
  t_BEHIND : Tok
  c_BEHIND : mg "BEHIND" = some (.str "behind" t_BEHIND)
  t_EVEN : Tok
  c_EVEN : mg "EVEN" = some (.str "even" t_EVEN)
  t_MOST_AHEAD : Tok
  c_MOST_AHEAD : mg "MOST_AHEAD" = some (.int 2 t_MOST_AHEAD)
  t_MOST_DEEDS : Tok
  c_MOST_DEEDS : mg "MOST_DEEDS" = some (.int 4 t_MOST_DEEDS)
  t_MOST_HOLD : Tok
  c_MOST_HOLD : mg "MOST_HOLD" = some (.int 3 t_MOST_HOLD)
  t_MOST_STATES : Tok
  c_MOST_STATES : mg "MOST_STATES" = some (.int 6 t_MOST_STATES)
  t_OFF : Tok
  c_OFF : mg "OFF" = some (.str "off" t_OFF)
  d_law_begun : DefT K mg "_law_begun" s_d_law_begun ["script"]
  d_law_next : DefT K mg "_law_next" s_d_law_next ["m", "total"]
  d_law_want : DefT K mg "_law_want" s_d_law_want ["m", "deeds", "states"]
  d_law_sort : DefT K mg "_law_sort" s_d_law_sort ["m", "deeds", "held", "ahead"]
  d_law_live : DefT K mg "_law_live" s_d_law_live ["want"]
  d_law_rows : DefT K mg "_law_rows" s_d_law_rows ["deeds", "total"]
  d_law_is_whole : DefT K mg "_law_is_whole" s_d_law_is_whole ["thing", "lowest", "highest"]
  d_law_far : DefT K mg "_law_far" s_d_law_far ["want", "spot", "row"]
  d_law_is_spot : DefT K mg "_law_is_spot" s_d_law_is_spot ["want", "sort", "live", "thing"]
  d_law_spots : DefT K mg "_law_spots" s_d_law_spots ["want", "sort", "live"]
  d_is_whole : DefT K mg "is_whole" s_d_is_whole ["thing", "least", "most"]
  d_is_row : DefT K mg "is_row" s_d_is_row ["thing", "most"]
  d_are_steps : DefT K mg "are_steps" s_d_are_steps ["deeds", "thing"]
  d_is_lot : DefT K mg "is_lot" s_d_is_lot ["thing", "most"]
  d_need_wish : DefT K mg "need_wish" s_d_need_wish ["thing"]
  d_need_kind : DefT K mg "need_kind" s_d_need_kind ["wish", "thing"]
  d_live_in : DefT K mg "live_in" s_d_live_in ["wish"]
  d_is_waiting : DefT K mg "is_waiting" s_d_is_waiting ["wish", "state"]
  d_behind : DefT K mg "behind" s_d_behind ["wish", "state", "row"]
  d_is_held : DefT K mg "is_held" s_d_is_held ["wish", "kind", "state", "row"]
  d_is_position_of : DefT K mg "is_position_of" s_d_is_position_of ["wish", "kind", "thing"]
  d_is_position : DefT K mg "is_position" s_d_is_position ["wish", "kind", "value"]
  d_law_forms_right : DefT K mg "_law_forms_right" s_d_law_forms_right ["m", "want", "sort", "live"]
  d_need_deed : DefT K mg "need_deed" s_d_need_deed ["wish", "deed"]
  d_need_position : DefT K mg "need_position" s_d_need_position ["wish", "kind", "position", "deed"]
  d_outputs_of : DefT K mg "outputs_of" s_d_outputs_of ["wish", "position"]
  d_rows_up_to : DefT K mg "rows_up_to" s_d_rows_up_to ["wish", "most"]
  d_live_behind : DefT K mg "live_behind" s_d_live_behind ["wish", "kind", "position", "deed", "shown"]
  d_doomed_behind : DefT K mg "doomed_behind" s_d_doomed_behind ["wish", "kind", "position", "deed", "shown"]
  d_behind_answer : DefT K mg "behind_answer" s_d_behind_answer ["wish", "kind", "position", "deed", "shown"]
  d_answers_in : DefT K mg "answers_in" s_d_answers_in ["wish", "kind", "position", "deed"]
  d_answers : DefT K mg "answers" s_d_answers ["wish", "kind", "position", "deed"]
  d_law_led : DefT K mg "_law_led" s_d_law_led ["want", "sort", "live", "spot", "deed", "row"]
  d_law_answers : DefT K mg "_law_answers" s_d_law_answers ["want", "sort", "live", "spot", "deed", "rows"]
  d_led : DefT K mg "led" s_d_led ["wish", "kind", "position", "deed", "shown"]
  d_law_outcome : DefT K mg "_law_outcome" s_d_law_outcome ["want", "sort", "spot", "deed", "row"]
  d_law_spot_right : DefT K mg "_law_spot_right" s_d_law_spot_right ["m", "want", "sort", "live", "spot", "rows"]
  d_law : DefT K mg "law" s_d_law ["script"]
  x_BadWish : ExT P K mg "BadWish" "part" (some "part")
  x_BadKind : ExT P K mg "BadKind" "part" (some "part")
  x_OutOfPlace : ExT P K mg "OutOfPlace" "text" none
  m_OutOfPlace : ExmT K mg known "OutOfPlace" x_OutOfPlace.C
structure Tbs {P : Program} {K : PySem.W.Frag} {mg : Str → Option Value} (T : Txt P K mg) (base : Heap) : Prop where
section
variable {P : Program} {w : World} {K : PySem.W.Frag} {mg : Str → Option Value} {base : Heap}
theorem ok_d_law_begun (T : Txt P K mg) (B : Tbs T base) : FnG P w K mg base 1 T.d_law_begun.a T.d_law_begun.fd ["script"] d_law_begun := def_ok T.d_law_begun.f sc_d_law_begun fun cdv A outer s H E hcd hgd hr => by
  have hu := hu_room hr
  have nd := sc_d_law_begun.nd
  have tk : Takes (cxOf (L2.CX P w) P w K mg base N_d_law_begun "_law_begun" (defScope s_d_law_begun) T.d_law_begun.a cdv A outer s H E) (fun cls d _ H' => E cls d H') := takes_of rfl rfl rfl rfl
  exact (pssv_one (psv_ret (pev_dict (pdv_cons (PFv.new (pfv_bT lv_list rfl T.b_list (by decide +kernel) (pav_cons (pev_var 0) pav_nil))) (pdv_cons (PFv.new (pfv_comp (own := [("cell", 1)]) rfl nd (piv_seq (pev_var 0)) (blkOk_by (N := N_d_law_begun) (sc := defScope s_d_law_begun) (by decide +kernel)) (fun _ _ _ _ _ => (pgv_name 1 nd)) (fun _ _ _ _ _ => (ptsv_one (ptv_cmp ov_ge (pev_var 1) (pev_op ov_pow pev_int pev_int) (nomark _)))) (fun _ _ _ _ _ => (pev_var 1)) (by decide))) (pdv_cons pev_int pdv_nil))) rfl rfl (fun z => by cases z) (by decide))))
theorem ok_d_law_next (T : Txt P K mg) (B : Tbs T base) : FnG P w K mg base 1 T.d_law_next.a T.d_law_next.fd ["m", "total"] d_law_next := def_ok T.d_law_next.f sc_d_law_next fun cdv A outer s H E hcd hgd hr => by
  have hu := hu_room hr
  have nd := sc_d_law_next.nd
  have tk : Takes (cxOf (L2.CX P w) P w K mg base N_d_law_next "_law_next" (defScope s_d_law_next) T.d_law_next.a cdv A outer s H E) (fun cls d _ H' => E cls d H') := takes_of rfl rfl rfl rfl
  have hpo : PassesOwn (model P w) (cxOf (L2.CX P w) P w K mg base N_d_law_next "_law_next" (defScope s_d_law_next) T.d_law_next.a cdv A outer s H E).A (cxOf (L2.CX P w) P w K mg base N_d_law_next "_law_next" (defScope s_d_law_next) T.d_law_next.a cdv A outer s H E).env (cxOf (L2.CX P w) P w K mg base N_d_law_next "_law_next" (defScope s_d_law_next) T.d_law_next.a cdv A outer s H E).xe := passes_of rfl
  exact (pssv_cons (psv_while hpo (PWv.pt (pwv_and (ptv_cmp (ov_ne hu) (pev_ix hu (pev_var 0) pev_str (fun _ _ => rfl)) (PFv.frz (pfv_lst pav_nil)) (nomark _)) (pwv_and1 (ptv_cmp (ov_eq hu) (pev_ix hu (pev_ix hu (pev_var 0) pev_str (fun _ _ => rfl)) pev_int (fun _ _ => rfl)) pev_int (nomark _))))) (pssv_one (psv_sub hu (pev_var 0) pev_str (PFv.new (pfv_slice (pev_ix hu (pev_var 0) pev_str (fun _ _ => rfl)) (pov_some pev_int) pov_none)) rfl)))
    (pssv_cons (psv_if (ptv_cmp (ov_ne hu) (pev_ix hu (pev_var 0) pev_str (fun _ _ => rfl)) (PFv.frz (pfv_lst pav_nil)) (nomark _)) (pssv_cons (psv_set 2 nd (pev_bT bv_int rfl T.b_int (by decide +kernel) (pav_cons (pev_ix hu (pev_ix hu (pev_var 0) pev_str (fun _ _ => rfl)) pev_int (fun _ _ => rfl)) pav_nil)))
    (pssv_cons (psv_sub hu (pev_ix hu (pev_var 0) pev_str (fun _ _ => rfl)) pev_int (pev_op ov_fdiv (pev_var 2) (pev_var 1)) rfl)
    (pssv_one (psv_ret (pev_op ov_mod (pev_var 2) (pev_var 1)))))) pssv_nil)
    (pssv_cons (psv_set 3 nd (pev_op ov_add (pev_ix hu (pev_var 0) pev_str (fun _ _ => rfl)) pev_int))
    (pssv_cons (psv_sub hu (pev_var 0) pev_str (pev_var 3) rfl)
    (pssv_cons (psv_set 4 nd (pev_if (ptv_cmp (ov_ne hu) (pev_ix hu (pev_var 0) pev_str (fun _ _ => rfl)) (PFv.frz (pfv_lst pav_nil)) (nomark _)) (pev_ix hu (pev_ix hu (pev_var 0) pev_str (fun _ _ => rfl)) (pev_op ov_mod (pev_bT bv_int rfl T.b_int (by decide +kernel) (pav_cons (pev_var 3) pav_nil)) (pev_b bv_len rfl T.b_len (by decide +kernel) (pav_cons (pev_ix hu (pev_var 0) pev_str (fun _ _ => rfl)) pav_nil))) (fun _ _ => rfl)) pev_int))
    (pssv_cons (psv_set 5 nd (pev_op ov_mul (pev_bT bv_int rfl T.b_int (by decide +kernel) (pav_cons (pev_op ov_add (pev_op ov_add (pev_op ov_mod (pev_bT bv_int rfl T.b_int (by decide +kernel) (pav_cons (pev_var 4) pav_nil)) pev_int) (pev_op ov_mul pev_int (pev_var 3))) (pev_op ov_mul (pev_op ov_mul pev_int (pev_var 3)) (pev_var 3))) pav_nil)) pev_int))
    (pssv_cons (psv_set 5 nd (pev_op ov_mul (pev_bT bv_int rfl T.b_int (by decide +kernel) (pav_cons (pev_op ov_add (pev_op ov_mod (pev_bT bv_int rfl T.b_int (by decide +kernel) (pav_cons (pev_var 5) pav_nil)) pev_int) (pev_op ov_mul pev_int (pev_var 3))) pav_nil)) pev_int))
    (pssv_one (psv_ret (pev_op ov_mod (pev_bT bv_int rfl T.b_int (by decide +kernel) (pav_cons (pev_op ov_fdiv (pev_op ov_mod (pev_bT bv_int rfl T.b_int (by decide +kernel) (pav_cons (pev_var 5) pav_nil)) pev_int) pev_int) pav_nil)) (pev_var 1)))))))))))
theorem ok_d_law_want (T : Txt P K mg) (B : Tbs T base) : FnG P w K mg base 2 T.d_law_want.a T.d_law_want.fd ["m", "deeds", "states"] d_law_want := def_ok T.d_law_want.f sc_d_law_want fun cdv A outer s H E hcd hgd hr => by
  have hu := hu_room hr
  have nd := sc_d_law_want.nd
  have tk : Takes (cxOf (L2.CX P w) P w K mg base N_d_law_want "_law_want" (defScope s_d_law_want) T.d_law_want.a cdv A outer s H E) (fun cls d _ H' => E cls d H') := takes_of rfl rfl rfl rfl
  have hpo : PassesOwn (model P w) (cxOf (L2.CX P w) P w K mg base N_d_law_want "_law_want" (defScope s_d_law_want) T.d_law_want.a cdv A outer s H E).A (cxOf (L2.CX P w) P w K mg base N_d_law_want "_law_want" (defScope s_d_law_want) T.d_law_want.a cdv A outer s H E).env (cxOf (L2.CX P w) P w K mg base N_d_law_want "_law_want" (defScope s_d_law_want) T.d_law_want.a cdv A outer s H E).xe := passes_of rfl
  exact (pssv_cons (psv_asg (pev_tup (pav_cons (pev_op ov_add pev_int (pev_f T.d_law_next (ok_d_law_next T B) hgd (hr.mono (by decide)) tk (pav_cons (pev_var 0) (pav_cons (pev_var 1) pav_nil)))) (pav_cons (pev_op ov_add pev_int (pev_f T.d_law_next (ok_d_law_next T B) hgd (hr.mono (by decide)) tk (pav_cons (pev_var 0) (pav_cons (pev_var 2) pav_nil)))) pav_nil))) (pgv_tup rfl (pgsv_cons (pgv_name 3 nd) (pgsv_cons (pgv_name 4 nd) pgsv_nil))))
    (pssv_cons (psv_set 5 nd (PFv.new (pfv_lst pav_nil)))
    (pssv_cons (psv_for hpo rfl (piv_rng1 rfl T.b_range (pev_var 4)) (pgv_name 6 nd) (pssv_one (psv_expr (pev_append (pev_var 5) (pev_bT bv_tuple rfl T.b_tuple (by decide +kernel) (pav_cons (PFv.frz (pfv_comp (own := [("j", 8)]) rfl nd (piv_rng1 rfl T.b_range (pev_var 3)) (blkOk_by (N := N_d_law_want) (sc := defScope s_d_law_want) (by decide +kernel)) (fun _ _ _ _ _ => (pgv_name 8 nd)) (fun _ _ _ _ _ => ptsv_nil) (fun _ _ _ _ _ => (pev_f T.d_law_next (ok_d_law_next T B) hgd (hr.mono (by decide)) takes0 (pav_cons (pev_var 0) (pav_cons (pev_var 4) pav_nil)))) (by decide))) pav_nil))))))
    (pssv_cons (psv_setLc 7 (own := [("k", 6)]) rfl nd (piv_rng1 rfl T.b_range (pev_var 4)) (blkOk_by (N := N_d_law_want) (sc := defScope s_d_law_want) (by decide +kernel)) (fun _ _ _ _ _ => (pgv_name 6 nd)) (fun _ _ _ _ _ => (ptsv_one (ptv_cmp (ov_eq hu) (pev_f T.d_law_next (ok_d_law_next T B) hgd (hr.mono (by decide)) takes0 (pav_cons (pev_var 0) (pav_cons pev_int pav_nil))) pev_int (nomark _)))) (fun _ _ _ _ _ => (pev_var 6)) (by decide) (sw_true rfl rfl rfl (by decide +kernel)))
    (pssv_one (psv_ret (pev_tup (pav_cons (pev_var 3) (pav_cons (pev_bT bv_tuple rfl T.b_tuple (by decide +kernel) (pav_cons (pev_var 5) pav_nil)) (pav_cons (pev_bT bv_tuple rfl T.b_tuple (by decide +kernel) (pav_cons (PFv.frz (pfv_sortset rfl rfl T.b_sorted rfl T.b_set (pev_op ov_add (pev_var 7) (PFv.frz (pfv_lst (pav_cons pev_int pav_nil)))))) pav_nil)) pav_nil))))))))))
theorem ok_d_law_sort (T : Txt P K mg) (B : Tbs T base) : FnG P w K mg base 2 T.d_law_sort.a T.d_law_sort.fd ["m", "deeds", "held", "ahead"] d_law_sort := def_ok T.d_law_sort.f sc_d_law_sort fun cdv A outer s H E hcd hgd hr => by
  have hu := hu_room hr
  have nd := sc_d_law_sort.nd
  have tk : Takes (cxOf (L2.CX P w) P w K mg base N_d_law_sort "_law_sort" (defScope s_d_law_sort) T.d_law_sort.a cdv A outer s H E) (fun cls d _ H' => E cls d H') := takes_of rfl rfl rfl rfl
  exact (pssv_cons (psv_set 4 nd (pev_bT bv_tuple rfl T.b_tuple (by decide +kernel) (pav_cons (PFv.frz (pfv_comp (own := [("k", 5)]) rfl nd (piv_rng1 rfl T.b_range (pev_var 1)) (blkOk_by (N := N_d_law_sort) (sc := defScope s_d_law_sort) (by decide +kernel)) (fun _ _ _ _ _ => (pgv_name 5 nd)) (fun _ _ _ _ _ => (ptsv_one (ptv_cmp (ov_eq hu) (pev_f T.d_law_next (ok_d_law_next T B) hgd (hr.mono (by decide)) takes0 (pav_cons (pev_var 0) (pav_cons pev_int pav_nil))) pev_int (nomark _)))) (fun _ _ _ _ _ => (pev_var 5)) (by decide))) pav_nil)))
    (pssv_one (psv_ret (pev_tup (pav_cons (pev_f T.d_law_next (ok_d_law_next T B) hgd (hr.mono (by decide)) tk (pav_cons (pev_var 0) (pav_cons (pev_op ov_add (pev_var 2) pev_int) pav_nil))) (pav_cons (pev_f T.d_law_next (ok_d_law_next T B) hgd (hr.mono (by decide)) tk (pav_cons (pev_var 0) (pav_cons (pev_op ov_add (pev_var 3) pev_int) pav_nil))) (pav_cons (pev_var 4) pav_nil)))))))
theorem ok_d_law_live (T : Txt P K mg) (B : Tbs T base) : FnG P w K mg base 1 T.d_law_live.a T.d_law_live.fd ["want"] d_law_live := def_okP T.d_law_live.f sc_d_law_live fun cdv A outer s H E hcd hgd hr => by
  have hu := hu_room hr
  have nd := sc_d_law_live.nd
  have tk : Takes (cxOf (L2.CX P w) P w K mg base N_d_law_live "_law_live" (defScope s_d_law_live) T.d_law_live.a cdv A outer s H E) (fun cls d _ H' => E cls d H') := takes_of rfl rfl rfl rfl
  have hpo : PassesOwn (model P w) (cxOf (L2.CX P w) P w K mg base N_d_law_live "_law_live" (defScope s_d_law_live) T.d_law_live.a cdv A outer s H E).A (cxOf (L2.CX P w) P w K mg base N_d_law_live "_law_live" (defScope s_d_law_live) T.d_law_live.a cdv A outer s H E).env (cxOf (L2.CX P w) P w K mg base N_d_law_live "_law_live" (defScope s_d_law_live) T.d_law_live.a cdv A outer s H E).xe := passes_of rfl
  exact (pssv_cons (psv_asg (pev_tup (pav_cons (PFv.new (pfv_bT lv_list rfl T.b_list (by decide +kernel) (pav_cons (pev_ix hu (pev_var 0) pev_int (fun _ _ => rfl)) pav_nil))) (pav_cons (pev_neg pev_int) pav_nil))) (pgv_tup rfl (pgsv_cons (pgv_name 1 nd) (pgsv_cons (pgv_name 2 nd) pgsv_nil))))
    (pssv_cons (psv_while hpo (ptv_cmp (ov_ne hu) (pev_var 2) (pev_b bv_len rfl T.b_len (by decide +kernel) (pav_cons (pev_var 1) pav_nil)) (nomark _)) (pssv_cons (psv_set 2 nd (pev_b bv_len rfl T.b_len (by decide +kernel) (pav_cons (pev_var 1) pav_nil)))
    (pssv_one (psv_for hpo rfl (piv_rng1 rfl T.b_range (pev_b bv_len rfl T.b_len (by decide +kernel) (pav_cons (pev_ix hu (pev_var 0) pev_int (fun _ _ => rfl)) pav_nil))) (pgv_name 3 nd) (pssv_one (psv_if (PWv.pt (pwv_and (ptv_cmp (ov_notIn hu) (pev_var 3) (pev_var 1) (by rfl)) (pwv_and1 (ptv_cmp (ov_ne hu) (PFv.frz (pfv_comp (own := [("one", 4)]) rfl nd (piv_seq (pev_ix hu (pev_ix hu (pev_var 0) pev_int (fun _ _ => rfl)) (pev_var 3) (fun _ _ => rfl))) (blkOk_by (N := N_d_law_live) (sc := defScope s_d_law_live) (by decide +kernel)) (fun _ _ _ _ _ => (pgv_name 4 nd)) (fun _ _ _ _ _ => (ptsv_one (ptv_cmp (ov_in hu) (pev_var 4) (pev_var 1) (by rfl)))) (fun _ _ _ _ _ => (pev_var 4)) (by decide))) (PFv.frz (pfv_lst pav_nil)) (nomark _))))) (pssv_one (psv_expr (pev_append (pev_var 1) (pev_var 3)))) pssv_nil))))))
    (pssv_one (psv_ret (PFv.frz (pfv_b lv_sortI rfl T.b_sorted (by decide +kernel) (pav_cons (pev_var 1) pav_nil)))))))
theorem ok_d_law_rows (T : Txt P K mg) (B : Tbs T base) : FnG P w K mg base 1 T.d_law_rows.a T.d_law_rows.fd ["deeds", "total"] d_law_rows := def_okP T.d_law_rows.f sc_d_law_rows fun cdv A outer s H E hcd hgd hr => by
  have hu := hu_room hr
  have nd := sc_d_law_rows.nd
  have tk : Takes (cxOf (L2.CX P w) P w K mg base N_d_law_rows "_law_rows" (defScope s_d_law_rows) T.d_law_rows.a cdv A outer s H E) (fun cls d _ H' => E cls d H') := takes_of rfl rfl rfl rfl
  have hpo : PassesOwn (model P w) (cxOf (L2.CX P w) P w K mg base N_d_law_rows "_law_rows" (defScope s_d_law_rows) T.d_law_rows.a cdv A outer s H E).A (cxOf (L2.CX P w) P w K mg base N_d_law_rows "_law_rows" (defScope s_d_law_rows) T.d_law_rows.a cdv A outer s H E).env (cxOf (L2.CX P w) P w K mg base N_d_law_rows "_law_rows" (defScope s_d_law_rows) T.d_law_rows.a cdv A outer s H E).xe := passes_of rfl
  exact (pssv_cons (psv_par (i := 2) (j := 3) rfl nd rfl rfl (by decide) rfl rfl (PFv.frz (pfv_lst (pav_cons (pev_tup pav_nil) pav_nil))) (PFv.frz (pfv_lst (pav_cons (pev_tup pav_nil) pav_nil))) (by rfl))
    (pssv_cons (psv_for hpo rfl (piv_rng1 rfl T.b_range (pev_var 1)) (pgv_name 4 nd) (pssv_cons (psv_set 5 nd (PFv.frz (pfv_lst pav_nil)))
    (pssv_cons (psv_for hpo rfl (piv_seq (pev_var 3)) (pgv_name 6 nd) (pssv_one (psv_set 5 nd (pev_op ov_add (pev_var 5) (PFv.frz (pfv_comp (own := [("one", 7)]) rfl nd (piv_rng1 rfl T.b_range (pev_var 0)) (blkOk_by (N := N_d_law_rows) (sc := defScope s_d_law_rows) (by decide +kernel)) (fun _ _ _ _ _ => (pgv_name 7 nd)) (fun _ _ _ _ _ => ptsv_nil) (fun _ _ _ _ _ => (pev_op ov_add (pev_var 6) (pev_tup (pav_cons (pev_var 7) pav_nil)))) (by decide)))))))
    (pssv_one (psv_par (i := 2) (j := 3) rfl nd rfl rfl (by decide) rfl rfl (pev_op ov_add (pev_var 2) (pev_var 5)) (pev_var 5) (by rfl))))))
    (pssv_one (psv_ret (pev_var 2)))))
theorem ok_d_law_is_whole (T : Txt P K mg) (B : Tbs T base) : FnG P w K mg base 1 T.d_law_is_whole.a T.d_law_is_whole.fd ["thing", "lowest", "highest"] d_law_is_whole := def_okP T.d_law_is_whole.f sc_d_law_is_whole fun cdv A outer s H E hcd hgd hr => by
  have hu := hu_room hr
  have nd := sc_d_law_is_whole.nd
  have tk : Takes (cxOf (L2.CX P w) P w K mg base N_d_law_is_whole "_law_is_whole" (defScope s_d_law_is_whole) T.d_law_is_whole.a cdv A outer s H E) (fun cls d _ H' => E cls d H') := takes_of rfl rfl rfl rfl
  exact (pssv_one (psv_ret (pev_and (pev_isa (by decide) rfl T.b_isinstance rfl T.b_int (by decide +kernel) (pev_var 0)) (pev_and (pev_not (pev_isa (by decide) rfl T.b_isinstance rfl T.b_bool (by decide +kernel) (pev_var 0))) (pev_one (pev_chain ov_le ov_le (pev_var 1) (pev_var 0) (pev_var 2)))))))
theorem ok_d_law_far (T : Txt P K mg) (B : Tbs T base) : FnG P w K mg base 1 T.d_law_far.a T.d_law_far.fd ["want", "spot", "row"] d_law_far := def_okP T.d_law_far.f sc_d_law_far fun cdv A outer s H E hcd hgd hr => by
  have hu := hu_room hr
  have nd := sc_d_law_far.nd
  have tk : Takes (cxOf (L2.CX P w) P w K mg base N_d_law_far "_law_far" (defScope s_d_law_far) T.d_law_far.a cdv A outer s H E) (fun cls d _ H' => E cls d H') := takes_of rfl rfl rfl rfl
  have hpo : PassesOwn (model P w) (cxOf (L2.CX P w) P w K mg base N_d_law_far "_law_far" (defScope s_d_law_far) T.d_law_far.a cdv A outer s H E).A (cxOf (L2.CX P w) P w K mg base N_d_law_far "_law_far" (defScope s_d_law_far) T.d_law_far.a cdv A outer s H E).env (cxOf (L2.CX P w) P w K mg base N_d_law_far "_law_far" (defScope s_d_law_far) T.d_law_far.a cdv A outer s H E).xe := passes_of rfl
  exact (pssv_cons (psv_for hpo rfl (piv_seq (pev_var 2)) (pgv_name 3 nd) (pssv_one (psv_set 1 nd (pev_ix hu (pev_ix hu (pev_ix hu (pev_var 0) pev_int (fun _ _ => rfl)) (pev_var 1) (fun _ _ => rfl)) (pev_var 3) (fun _ _ => rfl)))))
    (pssv_one (psv_ret (pev_var 1))))
theorem ok_d_law_is_spot (T : Txt P K mg) (B : Tbs T base) : FnG P w K mg base 2 T.d_law_is_spot.a T.d_law_is_spot.fd ["want", "sort", "live", "thing"] d_law_is_spot := def_okP T.d_law_is_spot.f sc_d_law_is_spot fun cdv A outer s H E hcd hgd hr => by
  have hu := hu_room hr
  have nd := sc_d_law_is_spot.nd
  have tk : Takes (cxOf (L2.CX P w) P w K mg base N_d_law_is_spot "_law_is_spot" (defScope s_d_law_is_spot) T.d_law_is_spot.a cdv A outer s H E) (fun cls d _ H' => E cls d H') := takes_of rfl rfl rfl rfl
  exact (pssv_cons (psv_asg (pev_var 1) (pgv_tup rfl (pgsv_cons (pgv_name 4 nd) (pgsv_cons (pgv_name 5 nd) (pgsv_cons (pgv_name 6 nd) pgsv_nil)))))
    (pssv_cons (psv_if (PWv.pt (pwv_or (ptv_not (ptv_truth (pev_isa (by decide) rfl T.b_isinstance rfl T.b_tuple (by decide +kernel) (pev_var 3)) (by intro _; rfl))) (pwv_or (ptv_not (ptv_chain ov_le ov_le pev_int (pev_b bv_len rfl T.b_len (by decide +kernel) (pav_cons (pev_var 3) pav_nil)) pev_int)) (pwv_or1 (ptv_not (ptv_truth (pev_isa (by decide) rfl T.b_isinstance rfl T.b_str (by decide +kernel) (pev_ix hu (pev_var 3) pev_int (fun _ _ => rfl))) (by intro _; rfl))))))) (pssv_one (psv_ret pev_bl)) pssv_nil)
    (pssv_cons (psv_if (ptv_not (ptv_truth (pev_f T.d_law_is_whole (ok_d_law_is_whole T B) hgd (hr.mono (by decide)) tk (pav_cons (pev_ix hu (pev_var 3) pev_int (fun _ _ => rfl)) (pav_cons pev_int (pav_cons (pev_op ov_sub (pev_b bv_len rfl T.b_len (by decide +kernel) (pav_cons (pev_ix hu (pev_var 0) pev_int (fun _ _ => rfl)) pav_nil)) pev_int) pav_nil)))) (by intro _; rfl))) (pssv_one (psv_ret pev_bl)) pssv_nil)
    (pssv_cons (psv_if (ptv_cmp (ov_eq hu) (pev_b bv_len rfl T.b_len (by decide +kernel) (pav_cons (pev_var 3) pav_nil)) pev_int (nomark _)) (pssv_one (psv_ret (pev_and (pev_cmp (ov_in hu) (pev_ix hu (pev_var 3) pev_int (fun _ _ => rfl)) (pev_tup (pav_cons pev_str (pav_cons pev_str pav_nil))) (by rfl)) (pev_one (pev_cmp (ov_in hu) (pev_ix hu (pev_var 3) pev_int (fun _ _ => rfl)) (pev_ix hu (pev_var 0) pev_int (fun _ _ => rfl)) (by rfl)))))) pssv_nil)
    (pssv_cons (psv_if (PWv.pt (pwv_or (ptv_cmp (ov_notIn hu) (pev_ix hu (pev_var 3) pev_int (fun _ _ => rfl)) (pev_tup (pav_cons pev_str (pav_cons pev_str pav_nil))) (by rfl)) (pwv_or (ptv_not (ptv_truth (pev_isa (by decide) rfl T.b_isinstance rfl T.b_tuple (by decide +kernel) (pev_ix hu (pev_var 3) pev_int (fun _ _ => rfl))) (by intro _; rfl))) (pwv_or1 (ptv_cmp (ov_eq hu) (pev_ix hu (pev_var 3) pev_int (fun _ _ => rfl)) (pev_tup pav_nil) (nomark _)))))) (pssv_one (psv_ret pev_bl)) pssv_nil)
    (pssv_cons (psv_if (ptv_cmp (ov_ne hu) (PFv.frz (pfv_comp (own := [("one", 10)]) rfl nd (piv_seq (pev_ix hu (pev_var 3) pev_int (fun _ _ => rfl))) (blkOk_by (N := N_d_law_is_spot) (sc := defScope s_d_law_is_spot) (by decide +kernel)) (fun _ _ _ _ _ => (pgv_name 10 nd)) (fun _ _ _ _ _ => (ptsv_one (ptv_not (ptv_truth (pev_f T.d_law_is_whole (ok_d_law_is_whole T B) hgd (hr.mono (by decide)) takes0 (pav_cons (pev_var 10) (pav_cons pev_int (pav_cons (pev_op ov_sub (pev_ix hu (pev_var 0) pev_int (fun _ _ => rfl)) pev_int) pav_nil)))) (by intro _; rfl))))) (fun _ _ _ _ _ => (pev_var 10)) (by decide))) (PFv.frz (pfv_lst pav_nil)) (nomark _)) (pssv_one (psv_ret pev_bl)) pssv_nil)
    (pssv_cons (psv_if (ptv_cmp (ov_eq hu) (pev_ix hu (pev_var 3) pev_int (fun _ _ => rfl)) pev_str (nomark _)) (pssv_cons (psv_set 7 nd (pev_and (pev_cmp (ov_in hu) (pev_ix hu (pev_var 3) pev_int (fun _ _ => rfl)) (pev_var 2) (by rfl)) (pev_and (pev_cmp (ov_notIn hu) (pev_ix hu (pev_var 3) pev_int (fun _ _ => rfl)) (pev_ix hu (pev_var 0) pev_int (fun _ _ => rfl)) (by rfl)) (pev_one (pev_cmp ov_le (pev_b bv_len rfl T.b_len (by decide +kernel) (pav_cons (pev_ix hu (pev_var 3) pev_int (fun _ _ => rfl)) pav_nil)) (pev_var 5) (nomark _))))))
    (pssv_one (psv_ret (pev_and (pev_var 7) (pev_one (pev_cmp (ov_in hu) (pev_f T.d_law_far (ok_d_law_far T B) hgd (hr.mono (by decide)) tk (pav_cons (pev_var 0) (pav_cons (pev_ix hu (pev_var 3) pev_int (fun _ _ => rfl)) (pav_cons (pev_ix hu (pev_var 3) pev_int (fun _ _ => rfl)) pav_nil)))) (pev_ix hu (pev_var 0) pev_int (fun _ _ => rfl)) (by rfl))))))) pssv_nil)
    (pssv_cons (psv_if (PWv.pt (pwv_or (ptv_cmp (ov_notIn hu) (pev_ix hu (pev_var 3) pev_int (fun _ _ => rfl)) (pev_ix hu (pev_var 0) pev_int (fun _ _ => rfl)) (by rfl)) (pwv_or (ptv_cmp ov_gt (pev_b bv_len rfl T.b_len (by decide +kernel) (pav_cons (pev_ix hu (pev_var 3) pev_int (fun _ _ => rfl)) pav_nil)) (pev_var 4) (nomark _)) (pwv_or1 (ptv_cmp (ov_ne hu) (PFv.frz (pfv_comp (own := [("one", 10)]) rfl nd (piv_seq (pev_ix hu (pev_var 3) pev_int (fun _ _ => rfl))) (blkOk_by (N := N_d_law_is_spot) (sc := defScope s_d_law_is_spot) (by decide +kernel)) (fun _ _ _ _ _ => (pgv_name 10 nd)) (fun _ _ _ _ _ => (ptsv_one (ptv_cmp (ov_in hu) (pev_var 10) (pev_var 6) (by rfl)))) (fun _ _ _ _ _ => (pev_var 10)) (by decide))) (PFv.frz (pfv_lst pav_nil)) (nomark _)))))) (pssv_one (psv_ret pev_bl)) pssv_nil)
    (pssv_cons (psv_setLc 8 (own := [("k", 9)]) rfl nd (piv_rng1 rfl T.b_range (pev_b bv_len rfl T.b_len (by decide +kernel) (pav_cons (pev_ix hu (pev_var 3) pev_int (fun _ _ => rfl)) pav_nil))) (blkOk_by (N := N_d_law_is_spot) (sc := defScope s_d_law_is_spot) (by decide +kernel)) (fun _ _ _ _ _ => (pgv_name 9 nd)) (fun _ _ _ _ _ => ptsv_nil) (fun _ _ _ _ _ => (pev_f T.d_law_far (ok_d_law_far T B) hgd (hr.mono (by decide)) takes0 (pav_cons (pev_var 0) (pav_cons (pev_ix hu (pev_var 3) pev_int (fun _ _ => rfl)) (pav_cons (pev_slice (pev_ix hu (pev_var 3) pev_int (fun _ _ => rfl)) pov_none (pov_some (pev_op ov_add (pev_var 9) pev_int))) pav_nil))))) (by decide) (sw_true rfl rfl rfl (by decide +kernel)))
    (pssv_one (psv_ret (pev_and (pev_cmp (ov_eq hu) (PFv.frz (pfv_comp (own := [("end", 11)]) rfl nd (piv_seq (pev_var 8)) (blkOk_by (N := N_d_law_is_spot) (sc := defScope s_d_law_is_spot) (by decide +kernel)) (fun _ _ _ _ _ => (pgv_name 11 nd)) (fun _ _ _ _ _ => (ptsv_one (ptv_cmp (ov_in hu) (pev_var 11) (pev_ix hu (pev_var 0) pev_int (fun _ _ => rfl)) (by rfl)))) (fun _ _ _ _ _ => (pev_var 11)) (by decide))) (PFv.frz (pfv_lst pav_nil)) (nomark _)) (pev_one (pev_cmp (ov_in hu) (pev_ix hu (pev_var 8) (pev_neg pev_int) (fun _ _ => rfl)) (pev_var 2) (by rfl)))))))))))))))
theorem ok_d_law_spots (T : Txt P K mg) (B : Tbs T base) : FnG P w K mg base 3 T.d_law_spots.a T.d_law_spots.fd ["want", "sort", "live"] d_law_spots := def_okP T.d_law_spots.f sc_d_law_spots fun cdv A outer s H E hcd hgd hr => by
  have hu := hu_room hr
  have nd := sc_d_law_spots.nd
  have tk : Takes (cxOf (L2.CX P w) P w K mg base N_d_law_spots "_law_spots" (defScope s_d_law_spots) T.d_law_spots.a cdv A outer s H E) (fun cls d _ H' => E cls d H') := takes_of rfl rfl rfl rfl
  have hpo : PassesOwn (model P w) (cxOf (L2.CX P w) P w K mg base N_d_law_spots "_law_spots" (defScope s_d_law_spots) T.d_law_spots.a cdv A outer s H E).A (cxOf (L2.CX P w) P w K mg base N_d_law_spots "_law_spots" (defScope s_d_law_spots) T.d_law_spots.a cdv A outer s H E).env (cxOf (L2.CX P w) P w K mg base N_d_law_spots "_law_spots" (defScope s_d_law_spots) T.d_law_spots.a cdv A outer s H E).xe := passes_of rfl
  exact (pssv_cons (psv_par (i := 3) (j := 4) rfl nd rfl rfl (by decide) rfl rfl (pev_f T.d_law_rows (ok_d_law_rows T B) hgd (hr.mono (by decide)) tk (pav_cons (pev_ix hu (pev_var 0) pev_int (fun _ _ => rfl)) (pav_cons (pev_b (bv_max2 rfl) rfl T.b_max (by decide +kernel) (pav_cons (pev_ix hu (pev_var 1) pev_int (fun _ _ => rfl)) (pav_cons (pev_ix hu (pev_var 1) pev_int (fun _ _ => rfl)) pav_nil))) pav_nil))) (PFv.frz (pfv_lst pav_nil)) (by rfl))
    (pssv_cons (psv_for hpo rfl (piv_rng1 rfl T.b_range (pev_b bv_len rfl T.b_len (by decide +kernel) (pav_cons (pev_ix hu (pev_var 0) pev_int (fun _ _ => rfl)) pav_nil))) (pgv_name 5 nd) (pssv_cons (psv_set 4 nd (pev_op ov_add (pev_var 4) (PFv.frz (pfv_lst (pav_cons (pev_tup (pav_cons pev_str (pav_cons (pev_var 5) pav_nil))) (pav_cons (pev_tup (pav_cons pev_str (pav_cons (pev_var 5) pav_nil))) pav_nil))))))
    (pssv_one (psv_set 4 nd (pev_op ov_add (pev_op ov_add (pev_var 4) (PFv.frz (pfv_comp (own := [("row", 7)]) rfl nd (piv_seq (pev_var 3)) (blkOk_by (N := N_d_law_spots) (sc := defScope s_d_law_spots) (by decide +kernel)) (fun _ _ _ _ _ => (pgv_name 7 nd)) (fun _ _ _ _ _ => ptsv_nil) (fun _ _ _ _ _ => (pev_tup (pav_cons pev_str (pav_cons (pev_var 5) (pav_cons (pev_var 7) pav_nil))))) (by decide)))) (PFv.frz (pfv_comp (own := [("row", 7)]) rfl nd (piv_seq (pev_var 3)) (blkOk_by (N := N_d_law_spots) (sc := defScope s_d_law_spots) (by decide +kernel)) (fun _ _ _ _ _ => (pgv_name 7 nd)) (fun _ _ _ _ _ => ptsv_nil) (fun _ _ _ _ _ => (pev_tup (pav_cons pev_str (pav_cons (pev_var 5) (pav_cons (pev_var 7) pav_nil))))) (by decide))))))))
    (pssv_one (psv_ret (PFv.frz (pfv_comp (own := [("one", 6)]) rfl nd (piv_seq (pev_var 4)) (blkOk_by (N := N_d_law_spots) (sc := defScope s_d_law_spots) (by decide +kernel)) (fun _ _ _ _ _ => (pgv_name 6 nd)) (fun _ _ _ _ _ => (ptsv_one (ptv_truth (pev_f T.d_law_is_spot (ok_d_law_is_spot T B) hgd (hr.mono (by decide)) takes0 (pav_cons (pev_var 0) (pav_cons (pev_var 1) (pav_cons (pev_var 2) (pav_cons (pev_var 6) pav_nil))))) (by intro _; rfl)))) (fun _ _ _ _ _ => (pev_var 6)) (by decide)))))))
theorem ok_d_is_whole (T : Txt P K mg) (B : Tbs T base) : FnG P w K mg base 1 T.d_is_whole.a T.d_is_whole.fd ["thing", "least", "most"] d_is_whole := def_okP T.d_is_whole.f sc_d_is_whole fun cdv A outer s H E hcd hgd hr => by
  have hu := hu_room hr
  have nd := sc_d_is_whole.nd
  have tk : Takes (cxOf (L2.CX P w) P w K mg base N_d_is_whole "is_whole" (defScope s_d_is_whole) T.d_is_whole.a cdv A outer s H E) (fun cls d _ H' => E cls d H') := takes_of rfl rfl rfl rfl
  exact (pssv_cons (psv_if (PWv.pt (pwv_or (ptv_not (ptv_truth (pev_isa (by decide) rfl T.b_isinstance rfl T.b_int (by decide +kernel) (pev_var 0)) (by intro _; rfl))) (pwv_or (ptv_truth (pev_isa (by decide) rfl T.b_isinstance rfl T.b_bool (by decide +kernel) (pev_var 0)) (by intro _; rfl)) (pwv_or1 (ptv_cmp ov_lt (pev_var 0) (pev_var 1) (nomark _)))))) (pssv_one (psv_ret pev_bl)) pssv_nil)
    (pssv_one (psv_ret (pev_or (pev_cmp ov_isN (pev_var 2) pev_non (nomark _)) (pev_one (pev_cmp ov_le (pev_var 0) (pev_var 2) (nomark _)))))))
theorem ok_d_is_row (T : Txt P K mg) (B : Tbs T base) : FnG P w K mg base 2 T.d_is_row.a T.d_is_row.fd ["thing", "most"] d_is_row := def_okP T.d_is_row.f sc_d_is_row fun cdv A outer s H E hcd hgd hr => by
  have hu := hu_room hr
  have nd := sc_d_is_row.nd
  have tk : Takes (cxOf (L2.CX P w) P w K mg base N_d_is_row "is_row" (defScope s_d_is_row) T.d_is_row.a cdv A outer s H E) (fun cls d _ H' => E cls d H') := takes_of rfl rfl rfl rfl
  exact (pssv_one (psv_ret (pev_and (pev_isa (by decide) rfl T.b_isinstance rfl T.b_tuple (by decide +kernel) (pev_var 0)) (pev_one (pev_b (bv_all rfl) rfl T.b_all (by decide +kernel) (pav_cons (PFv.frz (pfv_comp (own := [("one", 2)]) rfl nd (piv_seq (pev_var 0)) (blkOk_by (N := N_d_is_row) (sc := defScope s_d_is_row) (by decide +kernel)) (fun _ _ _ _ _ => (pgv_name 2 nd)) (fun _ _ _ _ _ => ptsv_nil) (fun _ _ _ _ _ => (pev_f T.d_is_whole (ok_d_is_whole T B) hgd (hr.mono (by decide)) takes0 (pav_cons (pev_var 2) (pav_cons pev_int (pav_cons (pev_var 1) pav_nil))))) (by decide))) pav_nil))))))
theorem ok_d_are_steps (T : Txt P K mg) (B : Tbs T base) : FnG P w K mg base 3 T.d_are_steps.a T.d_are_steps.fd ["deeds", "thing"] d_are_steps := def_okP T.d_are_steps.f sc_d_are_steps fun cdv A outer s H E hcd hgd hr => by
  have hu := hu_room hr
  have nd := sc_d_are_steps.nd
  have tk : Takes (cxOf (L2.CX P w) P w K mg base N_d_are_steps "are_steps" (defScope s_d_are_steps) T.d_are_steps.a cdv A outer s H E) (fun cls d _ H' => E cls d H') := takes_of rfl rfl rfl rfl
  exact (pssv_cons (psv_if (PWv.pt (pwv_or (ptv_not (ptv_truth (pev_isa (by decide) rfl T.b_isinstance rfl T.b_tuple (by decide +kernel) (pev_var 1)) (by intro _; rfl))) (pwv_or1 (ptv_not (ptv_chain ov_le ov_le pev_int (pev_b bv_len rfl T.b_len (by decide +kernel) (pav_cons (pev_var 1) pav_nil)) (pev_gint rfl T.c_MOST_STATES)))))) (pssv_one (psv_ret pev_bl)) pssv_nil)
    (pssv_one (psv_ret (pev_b (bv_all rfl) rfl T.b_all (by decide +kernel) (pav_cons (PFv.frz (pfv_comp (own := [("row", 2)]) rfl nd (piv_seq (pev_var 1)) (blkOk_by (N := N_d_are_steps) (sc := defScope s_d_are_steps) (by decide +kernel)) (fun _ _ _ _ _ => (pgv_name 2 nd)) (fun _ _ _ _ _ => ptsv_nil) (fun _ _ _ _ _ => (pev_and (pev_f T.d_is_row (ok_d_is_row T B) hgd (hr.mono (by decide)) takes0 (pav_cons (pev_var 2) (pav_cons (pev_op ov_sub (pev_b bv_len rfl T.b_len (by decide +kernel) (pav_cons (pev_var 1) pav_nil)) pev_int) pav_nil))) (pev_one (pev_cmp (ov_eq hu) (pev_b bv_len rfl T.b_len (by decide +kernel) (pav_cons (pev_var 2) pav_nil)) (pev_var 0) (nomark _))))) (by decide))) pav_nil)))))
theorem ok_d_is_lot (T : Txt P K mg) (B : Tbs T base) : FnG P w K mg base 3 T.d_is_lot.a T.d_is_lot.fd ["thing", "most"] d_is_lot := def_okP T.d_is_lot.f sc_d_is_lot fun cdv A outer s H E hcd hgd hr => by
  have hu := hu_room hr
  have nd := sc_d_is_lot.nd
  have tk : Takes (cxOf (L2.CX P w) P w K mg base N_d_is_lot "is_lot" (defScope s_d_is_lot) T.d_is_lot.a cdv A outer s H E) (fun cls d _ H' => E cls d H') := takes_of rfl rfl rfl rfl
  exact (pssv_one (psv_ret (pev_and (pev_f T.d_is_row (ok_d_is_row T B) hgd (hr.mono (by decide)) tk (pav_cons (pev_var 0) (pav_cons (pev_var 1) pav_nil))) (pev_one (pev_b (bv_all rfl) rfl T.b_all (by decide +kernel) (pav_cons (PFv.frz (pfv_comp (own := [("one", 2), ("other", 3)]) rfl nd (piv_zip rfl T.b_zip (pev_var 0) (pev_slice (pev_var 0) (pov_some pev_int) pov_none)) (blkOk_by (N := N_d_is_lot) (sc := defScope s_d_is_lot) (by decide +kernel)) (fun _ _ _ _ _ => (pgv_tup rfl (pgsv_cons (pgv_name 2 nd) (pgsv_cons (pgv_name 3 nd) pgsv_nil)))) (fun _ _ _ _ _ => ptsv_nil) (fun _ _ _ _ _ => (pev_cmp ov_lt (pev_var 2) (pev_var 3) (nomark _))) (by decide))) pav_nil))))))
theorem ok_d_need_wish (T : Txt P K mg) (B : Tbs T base) : FnG P w K mg base 4 T.d_need_wish.a T.d_need_wish.fd ["thing"] d_need_wish := def_okP T.d_need_wish.f sc_d_need_wish fun cdv A outer s H E hcd hgd hr => by
  have hu := hu_room hr
  have nd := sc_d_need_wish.nd
  have tk : Takes (cxOf (L2.CX P w) P w K mg base N_d_need_wish "need_wish" (defScope s_d_need_wish) T.d_need_wish.a cdv A outer s H E) (fun cls d _ H' => E cls d H') := takes_of rfl rfl rfl rfl
  exact (pssv_cons (psv_if (PWv.pt (pwv_or (ptv_not (ptv_truth (pev_isa (by decide) rfl T.b_isinstance rfl T.b_tuple (by decide +kernel) (pev_var 0)) (by intro _; rfl))) (pwv_or1 (ptv_cmp (ov_ne hu) (pev_b bv_len rfl T.b_len (by decide +kernel) (pav_cons (pev_var 0) pav_nil)) pev_int (nomark _))))) (pssv_one (psv_raise T.x_BadWish rfl (hr.mono (by decide)) tk pev_str)) pssv_nil)
    (pssv_cons (psv_if (ptv_not (ptv_truth (pev_f T.d_is_whole (ok_d_is_whole T B) hgd (hr.mono (by decide)) tk (pav_cons (pev_ix hu (pev_var 0) pev_int (fun _ _ => rfl)) (pav_cons pev_int (pav_cons (pev_gint rfl T.c_MOST_DEEDS) pav_nil)))) (by intro _; rfl))) (pssv_one (psv_raise T.x_BadWish rfl (hr.mono (by decide)) tk pev_str)) pssv_nil)
    (pssv_cons (psv_if (ptv_not (ptv_truth (pev_f T.d_are_steps (ok_d_are_steps T B) hgd (hr.mono (by decide)) tk (pav_cons (pev_ix hu (pev_var 0) pev_int (fun _ _ => rfl)) (pav_cons (pev_ix hu (pev_var 0) pev_int (fun _ _ => rfl)) pav_nil))) (by intro _; rfl))) (pssv_one (psv_raise T.x_BadWish rfl (hr.mono (by decide)) tk pev_str)) pssv_nil)
    (pssv_cons (psv_if (PWv.pt (pwv_or (ptv_not (ptv_truth (pev_f T.d_is_lot (ok_d_is_lot T B) hgd (hr.mono (by decide)) tk (pav_cons (pev_ix hu (pev_var 0) pev_int (fun _ _ => rfl)) (pav_cons (pev_op ov_sub (pev_b bv_len rfl T.b_len (by decide +kernel) (pav_cons (pev_ix hu (pev_var 0) pev_int (fun _ _ => rfl)) pav_nil)) pev_int) pav_nil))) (by intro _; rfl))) (pwv_or1 (ptv_cmp (ov_notIn hu) pev_int (pev_ix hu (pev_var 0) pev_int (fun _ _ => rfl)) (by rfl))))) (pssv_one (psv_raise T.x_BadWish rfl (hr.mono (by decide)) tk pev_str)) pssv_nil)
    (pssv_one (psv_ret (pev_var 0)))))))
theorem ok_d_need_kind (T : Txt P K mg) (B : Tbs T base) : FnG P w K mg base 5 T.d_need_kind.a T.d_need_kind.fd ["wish", "thing"] d_need_kind := def_okP T.d_need_kind.f sc_d_need_kind fun cdv A outer s H E hcd hgd hr => by
  have hu := hu_room hr
  have nd := sc_d_need_kind.nd
  have tk : Takes (cxOf (L2.CX P w) P w K mg base N_d_need_kind "need_kind" (defScope s_d_need_kind) T.d_need_kind.a cdv A outer s H E) (fun cls d _ H' => E cls d H') := takes_of rfl rfl rfl rfl
  exact (pssv_cons (psv_expr (pev_f T.d_need_wish (ok_d_need_wish T B) hgd (hr.mono (by decide)) tk (pav_cons (pev_var 0) pav_nil)))
    (pssv_cons (psv_if (PWv.pt (pwv_or (ptv_not (ptv_truth (pev_isa (by decide) rfl T.b_isinstance rfl T.b_tuple (by decide +kernel) (pev_var 1)) (by intro _; rfl))) (pwv_or1 (ptv_cmp (ov_ne hu) (pev_b bv_len rfl T.b_len (by decide +kernel) (pav_cons (pev_var 1) pav_nil)) pev_int (nomark _))))) (pssv_one (psv_raise T.x_BadKind rfl (hr.mono (by decide)) tk pev_str)) pssv_nil)
    (pssv_cons (psv_if (ptv_not (ptv_truth (pev_f T.d_is_whole (ok_d_is_whole T B) hgd (hr.mono (by decide)) tk (pav_cons (pev_ix hu (pev_var 1) pev_int (fun _ _ => rfl)) (pav_cons pev_int (pav_cons (pev_gint rfl T.c_MOST_HOLD) pav_nil)))) (by intro _; rfl))) (pssv_one (psv_raise T.x_BadKind rfl (hr.mono (by decide)) tk pev_str)) pssv_nil)
    (pssv_cons (psv_if (ptv_not (ptv_truth (pev_f T.d_is_whole (ok_d_is_whole T B) hgd (hr.mono (by decide)) tk (pav_cons (pev_ix hu (pev_var 1) pev_int (fun _ _ => rfl)) (pav_cons pev_int (pav_cons (pev_gint rfl T.c_MOST_AHEAD) pav_nil)))) (by intro _; rfl))) (pssv_one (psv_raise T.x_BadKind rfl (hr.mono (by decide)) tk pev_str)) pssv_nil)
    (pssv_cons (psv_if (ptv_not (ptv_truth (pev_f T.d_is_lot (ok_d_is_lot T B) hgd (hr.mono (by decide)) tk (pav_cons (pev_ix hu (pev_var 1) pev_int (fun _ _ => rfl)) (pav_cons (pev_op ov_sub (pev_ix hu (pev_var 0) pev_int (fun _ _ => rfl)) pev_int) pav_nil))) (by intro _; rfl))) (pssv_one (psv_raise T.x_BadKind rfl (hr.mono (by decide)) tk pev_str)) pssv_nil)
    (pssv_one (psv_ret (pev_var 1))))))))
theorem ok_d_live_in (T : Txt P K mg) (B : Tbs T base) : FnG P w K mg base 1 T.d_live_in.a T.d_live_in.fd ["wish"] d_live_in := def_okP T.d_live_in.f sc_d_live_in fun cdv A outer s H E hcd hgd hr => by
  have hu := hu_room hr
  have nd := sc_d_live_in.nd
  have tk : Takes (cxOf (L2.CX P w) P w K mg base N_d_live_in "live_in" (defScope s_d_live_in) T.d_live_in.a cdv A outer s H E) (fun cls d _ H' => E cls d H') := takes_of rfl rfl rfl rfl
  have hpo : PassesOwn (model P w) (cxOf (L2.CX P w) P w K mg base N_d_live_in "live_in" (defScope s_d_live_in) T.d_live_in.a cdv A outer s H E).A (cxOf (L2.CX P w) P w K mg base N_d_live_in "live_in" (defScope s_d_live_in) T.d_live_in.a cdv A outer s H E).env (cxOf (L2.CX P w) P w K mg base N_d_live_in "live_in" (defScope s_d_live_in) T.d_live_in.a cdv A outer s H E).xe := passes_of rfl
  exact (pssv_cons (psv_asg (pev_tup (pav_cons (PFv.frz (pfv_bT lv_list rfl T.b_list (by decide +kernel) (pav_cons (pev_ix hu (pev_var 0) pev_int (fun _ _ => rfl)) pav_nil))) (pav_cons pev_bl pav_nil))) (pgv_tup rfl (pgsv_cons (pgv_name 1 nd) (pgsv_cons (pgv_name 2 nd) pgsv_nil))))
    (pssv_cons (psv_while hpo (ptv_truth (pev_var 2) (by intro _; rfl)) (pssv_cons (psv_setLc 3 (own := [("state", 4), ("row", 5)]) rfl nd (piv_enum rfl T.b_enumerate (pev_ix hu (pev_var 0) pev_int (fun _ _ => rfl))) (blkOk_by (N := N_d_live_in) (sc := defScope s_d_live_in) (by decide +kernel)) (fun _ _ _ _ _ => (pgv_tup rfl (pgsv_cons (pgv_name 4 nd) (pgsv_cons (pgv_name 5 nd) pgsv_nil)))) (fun _ _ _ _ _ => (ptsv_one (PWv.pt (pwv_and (ptv_cmp (ov_notIn hu) (pev_var 4) (pev_var 1) (by rfl)) (pwv_and1 (ptv_truth (pev_b (bv_any rfl) rfl T.b_any (by decide +kernel) (pav_cons (PFv.frz (pfv_comp (own := [("one", 6)]) rfl nd (piv_seq (pev_var 5)) (blkOk_by (by rfl)) (fun _ _ _ _ _ => (pgv_name 6 nd)) (fun _ _ _ _ _ => ptsv_nil) (fun _ _ _ _ _ => (pev_cmp (ov_in hu) (pev_var 6) (pev_var 1) (by rfl))) (by decide))) pav_nil)) (by intro _; rfl))))))) (fun _ _ _ _ _ => (pev_var 4)) (by decide) (sw_true rfl rfl rfl (by decide +kernel)))
    (pssv_one (psv_asg (pev_tup (pav_cons (pev_op ov_add (pev_var 1) (pev_var 3)) (pav_cons (pev_cmp (ov_ne hu) (pev_var 3) (PFv.frz (pfv_lst pav_nil)) (nomark _)) pav_nil))) (pgv_tup rfl (pgsv_cons (pgv_name 1 nd) (pgsv_cons (pgv_name 2 nd) pgsv_nil)))))))
    (pssv_one (psv_ret (PFv.frz (pfv_b lv_sortI rfl T.b_sorted (by decide +kernel) (pav_cons (pev_var 1) pav_nil)))))))
theorem ok_d_is_waiting (T : Txt P K mg) (B : Tbs T base) : FnG P w K mg base 2 T.d_is_waiting.a T.d_is_waiting.fd ["wish", "state"] d_is_waiting := def_okP T.d_is_waiting.f sc_d_is_waiting fun cdv A outer s H E hcd hgd hr => by
  have hu := hu_room hr
  have nd := sc_d_is_waiting.nd
  have tk : Takes (cxOf (L2.CX P w) P w K mg base N_d_is_waiting "is_waiting" (defScope s_d_is_waiting) T.d_is_waiting.a cdv A outer s H E) (fun cls d _ H' => E cls d H') := takes_of rfl rfl rfl rfl
  exact (pssv_one (psv_ret (pev_and (pev_cmp (ov_in hu) (pev_var 1) (pev_f T.d_live_in (ok_d_live_in T B) hgd (hr.mono (by decide)) tk (pav_cons (pev_var 0) pav_nil)) (by rfl)) (pev_one (pev_cmp (ov_notIn hu) (pev_var 1) (pev_ix hu (pev_var 0) pev_int (fun _ _ => rfl)) (by rfl))))))
theorem ok_d_behind (T : Txt P K mg) (B : Tbs T base) : FnG P w K mg base 1 T.d_behind.a T.d_behind.fd ["wish", "state", "row"] d_behind := def_okP T.d_behind.f sc_d_behind fun cdv A outer s H E hcd hgd hr => by
  have hu := hu_room hr
  have nd := sc_d_behind.nd
  have tk : Takes (cxOf (L2.CX P w) P w K mg base N_d_behind "behind" (defScope s_d_behind) T.d_behind.a cdv A outer s H E) (fun cls d _ H' => E cls d H') := takes_of rfl rfl rfl rfl
  have hpo : PassesOwn (model P w) (cxOf (L2.CX P w) P w K mg base N_d_behind "behind" (defScope s_d_behind) T.d_behind.a cdv A outer s H E).A (cxOf (L2.CX P w) P w K mg base N_d_behind "behind" (defScope s_d_behind) T.d_behind.a cdv A outer s H E).env (cxOf (L2.CX P w) P w K mg base N_d_behind "behind" (defScope s_d_behind) T.d_behind.a cdv A outer s H E).xe := passes_of rfl
  exact (pssv_cons (psv_for hpo rfl (piv_seq (pev_var 2)) (pgv_name 3 nd) (pssv_one (psv_set 1 nd (pev_ix hu (pev_ix hu (pev_ix hu (pev_var 0) pev_int (fun _ _ => rfl)) (pev_var 1) (fun _ _ => rfl)) (pev_var 3) (fun _ _ => rfl)))))
    (pssv_one (psv_ret (pev_var 1))))
theorem ok_d_is_held (T : Txt P K mg) (B : Tbs T base) : FnG P w K mg base 3 T.d_is_held.a T.d_is_held.fd ["wish", "kind", "state", "row"] d_is_held := def_okP T.d_is_held.f sc_d_is_held fun cdv A outer s H E hcd hgd hr => by
  have hu := hu_room hr
  have nd := sc_d_is_held.nd
  have tk : Takes (cxOf (L2.CX P w) P w K mg base N_d_is_held "is_held" (defScope s_d_is_held) T.d_is_held.a cdv A outer s H E) (fun cls d _ H' => E cls d H') := takes_of rfl rfl rfl rfl
  exact (pssv_cons (psv_if (PWv.pt (pwv_or (ptv_not (ptv_truth (pev_f T.d_is_row (ok_d_is_row T B) hgd (hr.mono (by decide)) tk (pav_cons (pev_var 3) (pav_cons (pev_op ov_sub (pev_ix hu (pev_var 0) pev_int (fun _ _ => rfl)) pev_int) pav_nil))) (by intro _; rfl))) (pwv_or (ptv_not (ptv_chain ov_le ov_le pev_int (pev_b bv_len rfl T.b_len (by decide +kernel) (pav_cons (pev_var 3) pav_nil)) (pev_ix hu (pev_var 1) pev_int (fun _ _ => rfl)))) (pwv_or1 (ptv_truth (pev_b (bv_any rfl) rfl T.b_any (by decide +kernel) (pav_cons (PFv.frz (pfv_comp (own := [("deed", 6)]) rfl nd (piv_seq (pev_var 3)) (blkOk_by (N := N_d_is_held) (sc := defScope s_d_is_held) (by decide +kernel)) (fun _ _ _ _ _ => (pgv_name 6 nd)) (fun _ _ _ _ _ => ptsv_nil) (fun _ _ _ _ _ => (pev_cmp (ov_in hu) (pev_var 6) (pev_ix hu (pev_var 1) pev_int (fun _ _ => rfl)) (by rfl))) (by decide))) pav_nil)) (by intro _; rfl)))))) (pssv_one (psv_ret pev_bl)) pssv_nil)
    (pssv_cons (psv_setLc 4 (own := [("many", 5)]) rfl nd (piv_rng2 rfl T.b_range pev_int (pev_op ov_add (pev_b bv_len rfl T.b_len (by decide +kernel) (pav_cons (pev_var 3) pav_nil)) pev_int)) (blkOk_by (N := N_d_is_held) (sc := defScope s_d_is_held) (by decide +kernel)) (fun _ _ _ _ _ => (pgv_name 5 nd)) (fun _ _ _ _ _ => ptsv_nil) (fun _ _ _ _ _ => (pev_f T.d_behind (ok_d_behind T B) hgd (hr.mono (by decide)) takes0 (pav_cons (pev_var 0) (pav_cons (pev_var 2) (pav_cons (pev_slice (pev_var 3) pov_none (pov_some (pev_var 5))) pav_nil))))) (by decide) (sw_true rfl rfl rfl (by decide +kernel)))
    (pssv_one (psv_ret (pev_and (pev_not (pev_b (bv_any rfl) rfl T.b_any (by decide +kernel) (pav_cons (PFv.frz (pfv_comp (own := [("end", 7)]) rfl nd (piv_seq (pev_var 4)) (blkOk_by (N := N_d_is_held) (sc := defScope s_d_is_held) (by decide +kernel)) (fun _ _ _ _ _ => (pgv_name 7 nd)) (fun _ _ _ _ _ => ptsv_nil) (fun _ _ _ _ _ => (pev_cmp (ov_in hu) (pev_var 7) (pev_ix hu (pev_var 0) pev_int (fun _ _ => rfl)) (by rfl))) (by decide))) pav_nil))) (pev_one (pev_cmp (ov_in hu) (pev_ix hu (pev_var 4) (pev_neg pev_int) (fun _ _ => rfl)) (pev_f T.d_live_in (ok_d_live_in T B) hgd (hr.mono (by decide)) tk (pav_cons (pev_var 0) pav_nil)) (by rfl))))))))
theorem ok_d_is_position_of (T : Txt P K mg) (B : Tbs T base) : FnG P w K mg base 4 T.d_is_position_of.a T.d_is_position_of.fd ["wish", "kind", "thing"] d_is_position_of := def_okP T.d_is_position_of.f sc_d_is_position_of fun cdv A outer s H E hcd hgd hr => by
  have hu := hu_room hr
  have nd := sc_d_is_position_of.nd
  have tk : Takes (cxOf (L2.CX P w) P w K mg base N_d_is_position_of "is_position_of" (defScope s_d_is_position_of) T.d_is_position_of.a cdv A outer s H E) (fun cls d _ H' => E cls d H') := takes_of rfl rfl rfl rfl
  exact (pssv_cons (psv_if (PWv.pt (pwv_or (ptv_not (ptv_truth (pev_isa (by decide) rfl T.b_isinstance rfl T.b_tuple (by decide +kernel) (pev_var 2)) (by intro _; rfl))) (pwv_or (ptv_cmp (ov_notIn hu) (pev_b bv_len rfl T.b_len (by decide +kernel) (pav_cons (pev_var 2) pav_nil)) (pev_tup (pav_cons pev_int (pav_cons pev_int pav_nil))) (by rfl)) (pwv_or1 (ptv_not (ptv_truth (pev_isa (by decide) rfl T.b_isinstance rfl T.b_str (by decide +kernel) (pev_ix hu (pev_var 2) pev_int (fun _ _ => rfl))) (by intro _; rfl))))))) (pssv_one (psv_ret pev_bl)) pssv_nil)
    (pssv_cons (psv_if (ptv_not (ptv_truth (pev_f T.d_is_whole (ok_d_is_whole T B) hgd (hr.mono (by decide)) tk (pav_cons (pev_ix hu (pev_var 2) pev_int (fun _ _ => rfl)) (pav_cons pev_int (pav_cons (pev_op ov_sub (pev_b bv_len rfl T.b_len (by decide +kernel) (pav_cons (pev_ix hu (pev_var 0) pev_int (fun _ _ => rfl)) pav_nil)) pev_int) pav_nil)))) (by intro _; rfl))) (pssv_one (psv_ret pev_bl)) pssv_nil)
    (pssv_cons (psv_if (ptv_cmp (ov_in hu) (pev_ix hu (pev_var 2) pev_int (fun _ _ => rfl)) (pev_tup (pav_cons (pev_gstr rfl T.c_EVEN) (pav_cons (pev_gstr rfl T.c_OFF) pav_nil))) (by rfl)) (pssv_one (psv_ret (pev_and (pev_cmp (ov_eq hu) (pev_b bv_len rfl T.b_len (by decide +kernel) (pav_cons (pev_var 2) pav_nil)) pev_int (nomark _)) (pev_one (pev_cmp (ov_in hu) (pev_ix hu (pev_var 2) pev_int (fun _ _ => rfl)) (pev_ix hu (pev_var 0) pev_int (fun _ _ => rfl)) (by rfl)))))) pssv_nil)
    (pssv_cons (psv_if (PWv.pt (pwv_and (ptv_cmp (ov_eq hu) (pev_ix hu (pev_var 2) pev_int (fun _ _ => rfl)) (pev_gstr rfl T.c_BEHIND) (nomark _)) (pwv_and1 (ptv_cmp (ov_eq hu) (pev_b bv_len rfl T.b_len (by decide +kernel) (pav_cons (pev_var 2) pav_nil)) pev_int (nomark _))))) (pssv_one (psv_ret (pev_and (pev_cmp (ov_in hu) (pev_ix hu (pev_var 2) pev_int (fun _ _ => rfl)) (pev_ix hu (pev_var 0) pev_int (fun _ _ => rfl)) (by rfl)) (pev_one (pev_f T.d_is_held (ok_d_is_held T B) hgd (hr.mono (by decide)) tk (pav_cons (pev_var 0) (pav_cons (pev_var 1) (pav_cons (pev_ix hu (pev_var 2) pev_int (fun _ _ => rfl)) (pav_cons (pev_ix hu (pev_var 2) pev_int (fun _ _ => rfl)) pav_nil))))))))) pssv_nil)
    (pssv_cons (psv_if (PWv.pt (pwv_or (ptv_cmp (ov_ne hu) (pev_ix hu (pev_var 2) pev_int (fun _ _ => rfl)) (pev_gstr rfl T.c_AHEAD) (nomark _)) (pwv_or (ptv_cmp (ov_ne hu) (pev_b bv_len rfl T.b_len (by decide +kernel) (pav_cons (pev_var 2) pav_nil)) pev_int (nomark _)) (pwv_or (ptv_not (ptv_truth (pev_f T.d_is_row (ok_d_is_row T B) hgd (hr.mono (by decide)) tk (pav_cons (pev_ix hu (pev_var 2) pev_int (fun _ _ => rfl)) (pav_cons (pev_op ov_sub (pev_ix hu (pev_var 0) pev_int (fun _ _ => rfl)) pev_int) pav_nil))) (by intro _; rfl))) (pwv_or1 (ptv_not (ptv_chain ov_le ov_le pev_int (pev_b bv_len rfl T.b_len (by decide +kernel) (pav_cons (pev_ix hu (pev_var 2) pev_int (fun _ _ => rfl)) pav_nil)) (pev_ix hu (pev_var 1) pev_int (fun _ _ => rfl))))))))) (pssv_one (psv_ret pev_bl)) pssv_nil)
    (pssv_one (psv_ret (pev_and (pev_f T.d_is_waiting (ok_d_is_waiting T B) hgd (hr.mono (by decide)) tk (pav_cons (pev_var 0) (pav_cons (pev_ix hu (pev_var 2) pev_int (fun _ _ => rfl)) pav_nil))) (pev_one (pev_cmp (ov_in hu) (pev_f T.d_behind (ok_d_behind T B) hgd (hr.mono (by decide)) tk (pav_cons (pev_var 0) (pav_cons (pev_ix hu (pev_var 2) pev_int (fun _ _ => rfl)) (pav_cons (pev_ix hu (pev_var 2) pev_int (fun _ _ => rfl)) pav_nil)))) (pev_ix hu (pev_var 0) pev_int (fun _ _ => rfl)) (by rfl)))))))))))
theorem ok_d_is_position (T : Txt P K mg) (B : Tbs T base) : FnG P w K mg base 6 T.d_is_position.a T.d_is_position.fd ["wish", "kind", "value"] d_is_position := def_okP T.d_is_position.f sc_d_is_position fun cdv A outer s H E hcd hgd hr => by
  have hu := hu_room hr
  have nd := sc_d_is_position.nd
  have tk : Takes (cxOf (L2.CX P w) P w K mg base N_d_is_position "is_position" (defScope s_d_is_position) T.d_is_position.a cdv A outer s H E) (fun cls d _ H' => E cls d H') := takes_of rfl rfl rfl rfl
  exact (pssv_cons (psv_expr (pev_f T.d_need_kind (ok_d_need_kind T B) hgd (hr.mono (by decide)) tk (pav_cons (pev_var 0) (pav_cons (pev_var 1) pav_nil))))
    (pssv_one (psv_ret (pev_f T.d_is_position_of (ok_d_is_position_of T B) hgd (hr.mono (by decide)) tk (pav_cons (pev_var 0) (pav_cons (pev_var 1) (pav_cons (pev_var 2) pav_nil)))))))
theorem ok_d_law_forms_right (T : Txt P K mg) (B : Tbs T base) : FnG P w K mg base 7 T.d_law_forms_right.a T.d_law_forms_right.fd ["m", "want", "sort", "live"] d_law_forms_right := def_ok T.d_law_forms_right.f sc_d_law_forms_right fun cdv A outer s H E hcd hgd hr => by
  have hu := hu_room hr
  have nd := sc_d_law_forms_right.nd
  have tk : Takes (cxOf (L2.CX P w) P w K mg base N_d_law_forms_right "_law_forms_right" (defScope s_d_law_forms_right) T.d_law_forms_right.a cdv A outer s H E) (fun cls d _ H' => E cls d H') := takes_of rfl rfl rfl rfl
  have hpo : PassesOwn (model P w) (cxOf (L2.CX P w) P w K mg base N_d_law_forms_right "_law_forms_right" (defScope s_d_law_forms_right) T.d_law_forms_right.a cdv A outer s H E).A (cxOf (L2.CX P w) P w K mg base N_d_law_forms_right "_law_forms_right" (defScope s_d_law_forms_right) T.d_law_forms_right.a cdv A outer s H E).env (cxOf (L2.CX P w) P w K mg base N_d_law_forms_right "_law_forms_right" (defScope s_d_law_forms_right) T.d_law_forms_right.a cdv A outer s H E).xe := passes_of rfl
  exact (pssv_cons (psv_set 4 nd (pev_bT bv_tuple rfl T.b_tuple (by decide +kernel) (pav_cons (PFv.frz (pfv_comp (own := [("k", 8)]) rfl nd (piv_rng1 rfl T.b_range (pev_op ov_add pev_int (pev_f T.d_law_next (ok_d_law_next T B) hgd (hr.mono (by decide)) tk (pav_cons (pev_var 0) (pav_cons pev_int pav_nil))))) (blkOk_by (N := N_d_law_forms_right) (sc := defScope s_d_law_forms_right) (by decide +kernel)) (fun _ _ _ _ _ => (pgv_name 8 nd)) (fun _ _ _ _ _ => ptsv_nil) (fun _ _ _ _ _ => (pev_f T.d_law_next (ok_d_law_next T B) hgd (hr.mono (by decide)) takes0 (pav_cons (pev_var 0) (pav_cons (pev_ix hu (pev_var 1) pev_int (fun _ _ => rfl)) pav_nil)))) (by decide))) pav_nil)))
    (pssv_cons (psv_set 5 nd (pev_f T.d_law_next (ok_d_law_next T B) hgd (hr.mono (by decide)) tk (pav_cons (pev_var 0) (pav_cons (pev_b bv_len rfl T.b_len (by decide +kernel) (pav_cons (pev_ix hu (pev_var 1) pev_int (fun _ _ => rfl)) pav_nil)) pav_nil))))
    (pssv_cons (psv_set 6 nd (PFv.frz (pfv_lst (pav_cons pev_non (pav_cons (pev_tup pav_nil) (pav_cons (pev_tup (pav_cons pev_str pav_nil)) (pav_cons (pev_tup (pav_cons pev_str (pav_cons (pev_var 5) (pav_cons (pev_tup pav_nil) pav_nil)))) (pav_cons (pev_tup (pav_cons pev_str (pav_cons (pev_b bv_len rfl T.b_len (by decide +kernel) (pav_cons (pev_ix hu (pev_var 1) pev_int (fun _ _ => rfl)) pav_nil)) pav_nil))) (pav_cons (pev_tup (pav_cons pev_str (pav_cons pev_bl pav_nil))) (pav_cons (PFv.frz (pfv_lst (pav_cons pev_str (pav_cons pev_int pav_nil)))) (pav_cons (pev_tup (pav_cons pev_str (pav_cons pev_int pav_nil))) pav_nil)))))))))))
    (pssv_cons (psv_set 6 nd (pev_op ov_add (pev_var 6) (PFv.frz (pfv_lst (pav_cons (pev_tup (pav_cons pev_str (pav_cons (pev_var 5) (pav_cons (pev_var 4) pav_nil)))) (pav_cons (pev_tup (pav_cons pev_str (pav_cons (pev_var 5) (pav_cons (pev_var 4) pav_nil)))) (pav_cons (pev_tup (pav_cons pev_str (pav_cons (pev_var 5) (pav_cons (pev_tup pav_nil) pav_nil)))) (pav_cons (pev_tup (pav_cons pev_str (pav_cons (pev_var 5) (pav_cons (PFv.frz (pfv_bT lv_list rfl T.b_list (by decide +kernel) (pav_cons (pev_var 4) pav_nil))) pav_nil)))) pav_nil))))))))
    (pssv_cons (psv_set 6 nd (pev_op ov_add (pev_var 6) (PFv.frz (pfv_lst (pav_cons (pev_tup (pav_cons pev_str (pav_cons (pev_var 5) pav_nil))) (pav_cons (pev_tup (pav_cons pev_str (pav_cons (pev_var 5) pav_nil))) (pav_cons (pev_tup (pav_cons pev_int (pav_cons pev_int pav_nil))) (pav_cons (pev_tup (pav_cons pev_str (pav_cons (pev_var 5) pav_nil))) (pav_cons (pev_tup (pav_cons pev_str (pav_cons (pev_neg pev_int) (pav_cons (pev_var 4) pav_nil)))) (pav_cons (pev_tup (pav_cons pev_str (pav_cons pev_str pav_nil))) pav_nil))))))))))
    (pssv_cons (psv_for hpo rfl (piv_seq (pev_var 6)) (pgv_name 7 nd) (pssv_one (psv_if (ptv_cmp (ov_ne hu) (pev_b (bv_repr hu hgd) rfl T.b_repr (by decide +kernel) (pav_cons (pev_f T.d_is_position (ok_d_is_position T B) hgd (hr.mono (by decide)) tk (pav_cons (pev_var 1) (pav_cons (pev_var 2) (pav_cons (pev_var 7) pav_nil)))) pav_nil)) (pev_b (bv_repr hu hgd) rfl T.b_repr (by decide +kernel) (pav_cons (pev_f T.d_law_is_spot (ok_d_law_is_spot T B) hgd (hr.mono (by decide)) tk (pav_cons (pev_var 1) (pav_cons (pev_var 2) (pav_cons (pev_var 3) (pav_cons (pev_var 7) pav_nil))))) pav_nil)) (nomark _)) (pssv_one (psv_ret pev_bl)) pssv_nil)))
    (pssv_one (psv_ret pev_bl))))))))
theorem ok_d_need_deed (T : Txt P K mg) (B : Tbs T base) : FnG P w K mg base 3 T.d_need_deed.a T.d_need_deed.fd ["wish", "deed"] d_need_deed := def_okP T.d_need_deed.f sc_d_need_deed fun cdv A outer s H E hcd hgd hr => by
  have hu := hu_room hr
  have nd := sc_d_need_deed.nd
  have tk : Takes (cxOf (L2.CX P w) P w K mg base N_d_need_deed "need_deed" (defScope s_d_need_deed) T.d_need_deed.a cdv A outer s H E) (fun cls d _ H' => E cls d H') := takes_of rfl rfl rfl rfl
  exact (pssv_one (psv_if (ptv_not (ptv_truth (pev_f T.d_is_whole (ok_d_is_whole T B) hgd (hr.mono (by decide)) tk (pav_cons (pev_var 1) (pav_cons pev_int (pav_cons (pev_op ov_sub (pev_ix hu (pev_var 0) pev_int (fun _ _ => rfl)) pev_int) pav_nil)))) (by intro _; rfl))) (pssv_one (psv_raise T.x_OutOfPlace rfl (hr.mono (by decide)) tk pev_str)) pssv_nil))
theorem ok_d_need_position (T : Txt P K mg) (B : Tbs T base) : FnG P w K mg base 7 T.d_need_position.a T.d_need_position.fd ["wish", "kind", "position", "deed"] d_need_position := def_okP T.d_need_position.f sc_d_need_position fun cdv A outer s H E hcd hgd hr => by
  have hu := hu_room hr
  have nd := sc_d_need_position.nd
  have tk : Takes (cxOf (L2.CX P w) P w K mg base N_d_need_position "need_position" (defScope s_d_need_position) T.d_need_position.a cdv A outer s H E) (fun cls d _ H' => E cls d H') := takes_of rfl rfl rfl rfl
  exact (pssv_cons (psv_if (ptv_not (ptv_truth (pev_f T.d_is_position (ok_d_is_position T B) hgd (hr.mono (by decide)) tk (pav_cons (pev_var 0) (pav_cons (pev_var 1) (pav_cons (pev_var 2) pav_nil)))) (by intro _; rfl))) (pssv_one (psv_raise T.x_OutOfPlace rfl (hr.mono (by decide)) tk pev_str)) pssv_nil)
    (pssv_one (psv_expr (pev_f T.d_need_deed (ok_d_need_deed T B) hgd (hr.mono (by decide)) tk (pav_cons (pev_var 0) (pav_cons (pev_var 3) pav_nil))))))
theorem ok_d_outputs_of (T : Txt P K mg) (B : Tbs T base) : FnG P w K mg base 2 T.d_outputs_of.a T.d_outputs_of.fd ["wish", "position"] d_outputs_of := def_okP T.d_outputs_of.f sc_d_outputs_of fun cdv A outer s H E hcd hgd hr => by
  have hu := hu_room hr
  have nd := sc_d_outputs_of.nd
  have tk : Takes (cxOf (L2.CX P w) P w K mg base N_d_outputs_of "outputs_of" (defScope s_d_outputs_of) T.d_outputs_of.a cdv A outer s H E) (fun cls d _ H' => E cls d H') := takes_of rfl rfl rfl rfl
  exact (pssv_cons (psv_if (ptv_cmp (ov_eq hu) (pev_ix hu (pev_var 1) pev_int (fun _ _ => rfl)) (pev_gstr rfl T.c_OFF) (nomark _)) (pssv_one (psv_ret (pev_tup (pav_cons (pev_ix hu (pev_var 1) pev_int (fun _ _ => rfl)) (pav_cons pev_non (pav_cons (pev_tup pav_nil) (pav_cons (pev_tup pav_nil) pav_nil))))))) pssv_nil)
    (pssv_cons (psv_if (ptv_cmp (ov_eq hu) (pev_ix hu (pev_var 1) pev_int (fun _ _ => rfl)) (pev_gstr rfl T.c_EVEN) (nomark _)) (pssv_one (psv_ret (pev_tup (pav_cons (pev_ix hu (pev_var 1) pev_int (fun _ _ => rfl)) (pav_cons (pev_ix hu (pev_var 1) pev_int (fun _ _ => rfl)) (pav_cons (pev_tup pav_nil) (pav_cons (pev_tup pav_nil) pav_nil))))))) pssv_nil)
    (pssv_cons (psv_if (ptv_cmp (ov_eq hu) (pev_ix hu (pev_var 1) pev_int (fun _ _ => rfl)) (pev_gstr rfl T.c_BEHIND) (nomark _)) (pssv_one (psv_ret (pev_tup (pav_cons (pev_ix hu (pev_var 1) pev_int (fun _ _ => rfl)) (pav_cons (pev_f T.d_behind (ok_d_behind T B) hgd (hr.mono (by decide)) tk (pav_cons (pev_var 0) (pav_cons (pev_ix hu (pev_var 1) pev_int (fun _ _ => rfl)) (pav_cons (pev_ix hu (pev_var 1) pev_int (fun _ _ => rfl)) pav_nil)))) (pav_cons (pev_ix hu (pev_var 1) pev_int (fun _ _ => rfl)) (pav_cons (pev_tup pav_nil) pav_nil))))))) pssv_nil)
    (pssv_one (psv_ret (pev_tup (pav_cons (pev_f T.d_behind (ok_d_behind T B) hgd (hr.mono (by decide)) tk (pav_cons (pev_var 0) (pav_cons (pev_ix hu (pev_var 1) pev_int (fun _ _ => rfl)) (pav_cons (pev_ix hu (pev_var 1) pev_int (fun _ _ => rfl)) pav_nil)))) (pav_cons (pev_ix hu (pev_var 1) pev_int (fun _ _ => rfl)) (pav_cons (pev_tup pav_nil) (pav_cons (pev_ix hu (pev_var 1) pev_int (fun _ _ => rfl)) pav_nil))))))))))
theorem ok_d_rows_up_to (T : Txt P K mg) (B : Tbs T base) : FnG P w K mg base 1 T.d_rows_up_to.a T.d_rows_up_to.fd ["wish", "most"] d_rows_up_to := def_okP T.d_rows_up_to.f sc_d_rows_up_to fun cdv A outer s H E hcd hgd hr => by
  have hu := hu_room hr
  have nd := sc_d_rows_up_to.nd
  have tk : Takes (cxOf (L2.CX P w) P w K mg base N_d_rows_up_to "rows_up_to" (defScope s_d_rows_up_to) T.d_rows_up_to.a cdv A outer s H E) (fun cls d _ H' => E cls d H') := takes_of rfl rfl rfl rfl
  have hpo : PassesOwn (model P w) (cxOf (L2.CX P w) P w K mg base N_d_rows_up_to "rows_up_to" (defScope s_d_rows_up_to) T.d_rows_up_to.a cdv A outer s H E).A (cxOf (L2.CX P w) P w K mg base N_d_rows_up_to "rows_up_to" (defScope s_d_rows_up_to) T.d_rows_up_to.a cdv A outer s H E).env (cxOf (L2.CX P w) P w K mg base N_d_rows_up_to "rows_up_to" (defScope s_d_rows_up_to) T.d_rows_up_to.a cdv A outer s H E).xe := passes_of rfl
  exact (pssv_cons (psv_par (i := 2) (j := 3) rfl nd rfl rfl (by decide) rfl rfl (PFv.frz (pfv_lst (pav_cons (pev_tup pav_nil) pav_nil))) (PFv.frz (pfv_lst (pav_cons (pev_tup pav_nil) pav_nil))) (by rfl))
    (pssv_cons (psv_for hpo rfl (piv_rng1 rfl T.b_range (pev_var 1)) (pgv_name 4 nd) (pssv_cons (psv_setLc2 3 (own := [("row", 5), ("deed", 6)]) (vs1 := [6]) rfl nd (piv_seq (pev_var 3)) (blkOk_by (N := N_d_rows_up_to) (sc := defScope s_d_rows_up_to) (by decide +kernel)) (fun _ _ _ _ _ => (pgv_name 5 nd)) (fun _ _ _ _ _ => ptsv_nil) (fun _ _ _ _ _ => (piv_rng1 rfl T.b_range (pev_ix hu (pev_var 0) pev_int (fun _ _ => rfl)))) (fun _ _ _ _ _ => (pgv_name 6 nd)) (fun _ _ _ _ _ => ptsv_nil) (fun _ _ _ _ _ => (pev_tup (pav_star (pev_var 5) (pav_cons (pev_var 6) pav_nil)))) (by decide) (by decide) (by decide) (sw_true rfl rfl rfl (by decide +kernel)))
    (pssv_one (psv_set 2 nd (pev_op ov_add (pev_var 2) (pev_var 3))))))
    (pssv_one (psv_ret (pev_var 2)))))
theorem ok_d_live_behind (T : Txt P K mg) (B : Tbs T base) : FnG P w K mg base 4 T.d_live_behind.a T.d_live_behind.fd ["wish", "kind", "position", "deed", "shown"] d_live_behind := def_okP T.d_live_behind.f sc_d_live_behind fun cdv A outer s H E hcd hgd hr => by
  have hu := hu_room hr
  have nd := sc_d_live_behind.nd
  have tk : Takes (cxOf (L2.CX P w) P w K mg base N_d_live_behind "live_behind" (defScope s_d_live_behind) T.d_live_behind.a cdv A outer s H E) (fun cls d _ H' => E cls d H') := takes_of rfl rfl rfl rfl
  exact (pssv_cons (psv_asg (pev_f T.d_outputs_of (ok_d_outputs_of T B) hgd (hr.mono (by decide)) tk (pav_cons (pev_var 0) (pav_cons (pev_var 2) pav_nil))) (pgv_tup rfl (pgsv_cons (pgv_name 5 nd) (pgsv_cons (pgv_name 6 nd) (pgsv_cons (pgv_name 7 nd) (pgsv_cons (pgv_name 8 nd) pgsv_nil))))))
    (pssv_cons (psv_if (PWv.pt (pwv_and (ptv_cmp (ov_in hu) (pev_var 3) (pev_ix hu (pev_var 1) pev_int (fun _ _ => rfl)) (by rfl)) (pwv_and1 (ptv_cmp (ov_ne hu) (pev_slice (pev_var 4) pov_none (pov_some pev_int)) (pev_tup (pav_cons (pev_var 3) pav_nil)) (nomark _))))) (pssv_one (psv_ret pev_non)) pssv_nil)
    (pssv_cons (psv_set 9 nd (pev_f T.d_behind (ok_d_behind T B) hgd (hr.mono (by decide)) tk (pav_cons (pev_var 0) (pav_cons (pev_var 6) (pav_cons (pev_tup (pav_cons (pev_var 3) pav_nil)) pav_nil)))))
    (pssv_cons (psv_par (i := 10) (j := 11) rfl nd rfl rfl (by decide) rfl rfl (pev_tup (pav_star (pev_var 7) (pav_cons (pev_var 3) pav_nil))) (pev_tup (pav_star (pev_var 8) (pav_star (pev_var 4) pav_nil))) (by rfl))
    (pssv_cons (psv_if (ptv_cmp (ov_eq hu) (pev_var 11) (pev_var 10) (nomark _)) (pssv_one (psv_ret (pev_if (ptv_cmp (ov_in hu) (pev_var 9) (pev_ix hu (pev_var 0) pev_int (fun _ _ => rfl)) (by rfl)) (pev_tup (pav_cons (pev_gstr rfl T.c_EVEN) (pav_cons (pev_var 9) pav_nil))) pev_non))) pssv_nil)
    (pssv_cons (psv_if (ptv_cmp (ov_in hu) (pev_var 9) (pev_ix hu (pev_var 0) pev_int (fun _ _ => rfl)) (by rfl)) (pssv_one (psv_ret pev_non)) pssv_nil)
    (pssv_cons (psv_if (ptv_cmp (ov_eq hu) (pev_slice (pev_var 11) pov_none (pov_some (pev_b bv_len rfl T.b_len (by decide +kernel) (pav_cons (pev_var 10) pav_nil)))) (pev_var 10) (nomark _)) (pssv_cons (psv_set 12 nd (pev_slice (pev_var 11) (pov_some (pev_b bv_len rfl T.b_len (by decide +kernel) (pav_cons (pev_var 10) pav_nil))) pov_none))
    (pssv_one (psv_ret (pev_if (PWv.pt (pwv_and (ptv_cmp ov_le (pev_b bv_len rfl T.b_len (by decide +kernel) (pav_cons (pev_var 12) pav_nil)) (pev_ix hu (pev_var 1) pev_int (fun _ _ => rfl)) (nomark _)) (pwv_and1 (ptv_cmp (ov_in hu) (pev_f T.d_behind (ok_d_behind T B) hgd (hr.mono (by decide)) tk (pav_cons (pev_var 0) (pav_cons (pev_var 9) (pav_cons (pev_var 12) pav_nil)))) (pev_ix hu (pev_var 0) pev_int (fun _ _ => rfl)) (by rfl))))) (pev_tup (pav_cons (pev_gstr rfl T.c_AHEAD) (pav_cons (pev_var 9) (pav_cons (pev_var 12) pav_nil)))) pev_non)))) pssv_nil)
    (pssv_cons (psv_if (ptv_cmp (ov_ne hu) (pev_var 11) (pev_slice (pev_var 10) pov_none (pov_some (pev_b bv_len rfl T.b_len (by decide +kernel) (pav_cons (pev_var 11) pav_nil)))) (nomark _)) (pssv_one (psv_ret pev_non)) pssv_nil)
    (pssv_cons (psv_par (i := 13) (j := 6) rfl nd rfl rfl (by decide) rfl rfl (pev_slice (pev_var 10) (pov_some (pev_b bv_len rfl T.b_len (by decide +kernel) (pav_cons (pev_var 11) pav_nil))) pov_none) (pev_f T.d_behind (ok_d_behind T B) hgd (hr.mono (by decide)) tk (pav_cons (pev_var 0) (pav_cons (pev_var 5) (pav_cons (pev_var 4) pav_nil)))) (by rfl))
    (pssv_one (psv_ret (pev_if (PWv.pt (pwv_and (ptv_cmp (ov_in hu) (pev_var 6) (pev_ix hu (pev_var 0) pev_int (fun _ _ => rfl)) (by rfl)) (pwv_and1 (ptv_truth (pev_f T.d_is_held (ok_d_is_held T B) hgd (hr.mono (by decide)) tk (pav_cons (pev_var 0) (pav_cons (pev_var 1) (pav_cons (pev_var 6) (pav_cons (pev_var 13) pav_nil))))) (by intro _; rfl))))) (pev_tup (pav_cons (pev_gstr rfl T.c_BEHIND) (pav_cons (pev_var 6) (pav_cons (pev_var 13) pav_nil)))) pev_non))))))))))))
theorem ok_d_doomed_behind (T : Txt P K mg) (B : Tbs T base) : FnG P w K mg base 3 T.d_doomed_behind.a T.d_doomed_behind.fd ["wish", "kind", "position", "deed", "shown"] d_doomed_behind := def_okP T.d_doomed_behind.f sc_d_doomed_behind fun cdv A outer s H E hcd hgd hr => by
  have hu := hu_room hr
  have nd := sc_d_doomed_behind.nd
  have tk : Takes (cxOf (L2.CX P w) P w K mg base N_d_doomed_behind "doomed_behind" (defScope s_d_doomed_behind) T.d_doomed_behind.a cdv A outer s H E) (fun cls d _ H' => E cls d H') := takes_of rfl rfl rfl rfl
  exact (pssv_cons (psv_if (ptv_cmp (ov_notIn hu) (pev_var 3) (pev_ix hu (pev_var 1) pev_int (fun _ _ => rfl)) (by rfl)) (pssv_one (psv_ret (pev_if (ptv_cmp (ov_eq hu) (pev_var 4) (pev_tup pav_nil) (nomark _)) (pev_tup (pav_cons (pev_gstr rfl T.c_OFF) (pav_cons (pev_ix hu (pev_f T.d_outputs_of (ok_d_outputs_of T B) hgd (hr.mono (by decide)) tk (pav_cons (pev_var 0) (pav_cons (pev_var 2) pav_nil))) pev_int (fun _ _ => rfl)) pav_nil))) pev_non))) pssv_nil)
    (pssv_cons (psv_if (PWv.pt (pwv_or (ptv_cmp (ov_ne hu) (pev_slice (pev_var 4) pov_none (pov_some pev_int)) (pev_tup (pav_cons (pev_var 3) pav_nil)) (nomark _)) (pwv_or1 (ptv_cmp ov_gt (pev_b bv_len rfl T.b_len (by decide +kernel) (pav_cons (pev_var 4) pav_nil)) (pev_op ov_add (pev_ix hu (pev_var 1) pev_int (fun _ _ => rfl)) pev_int) (nomark _))))) (pssv_one (psv_ret pev_non)) pssv_nil)
    (pssv_cons (psv_set 5 nd (pev_f T.d_behind (ok_d_behind T B) hgd (hr.mono (by decide)) tk (pav_cons (pev_var 0) (pav_cons (pev_ix hu (pev_f T.d_outputs_of (ok_d_outputs_of T B) hgd (hr.mono (by decide)) tk (pav_cons (pev_var 0) (pav_cons (pev_var 2) pav_nil))) pev_int (fun _ _ => rfl)) (pav_cons (pev_var 4) pav_nil)))))
    (pssv_one (psv_ret (pev_if (ptv_cmp (ov_in hu) (pev_var 5) (pev_ix hu (pev_var 0) pev_int (fun _ _ => rfl)) (by rfl)) (pev_tup (pav_cons (pev_gstr rfl T.c_OFF) (pav_cons (pev_var 5) pav_nil))) pev_non))))))
theorem ok_d_behind_answer (T : Txt P K mg) (B : Tbs T base) : FnG P w K mg base 5 T.d_behind_answer.a T.d_behind_answer.fd ["wish", "kind", "position", "deed", "shown"] d_behind_answer := def_okP T.d_behind_answer.f sc_d_behind_answer fun cdv A outer s H E hcd hgd hr => by
  have hu := hu_room hr
  have nd := sc_d_behind_answer.nd
  have tk : Takes (cxOf (L2.CX P w) P w K mg base N_d_behind_answer "behind_answer" (defScope s_d_behind_answer) T.d_behind_answer.a cdv A outer s H E) (fun cls d _ H' => E cls d H') := takes_of rfl rfl rfl rfl
  exact (pssv_cons (psv_set 5 nd (pev_ix hu (pev_f T.d_outputs_of (ok_d_outputs_of T B) hgd (hr.mono (by decide)) tk (pav_cons (pev_var 0) (pav_cons (pev_var 2) pav_nil))) pev_int (fun _ _ => rfl)))
    (pssv_cons (psv_if (PWv.pt (pwv_or (ptv_cmp ov_isN (pev_var 5) pev_non (nomark _)) (pwv_or1 (ptv_cmp (ov_notIn hu) (pev_f T.d_behind (ok_d_behind T B) hgd (hr.mono (by decide)) tk (pav_cons (pev_var 0) (pav_cons (pev_var 5) (pav_cons (pev_tup (pav_cons (pev_var 3) pav_nil)) pav_nil)))) (pev_f T.d_live_in (ok_d_live_in T B) hgd (hr.mono (by decide)) tk (pav_cons (pev_var 0) pav_nil)) (by rfl))))) (pssv_one (psv_ret (pev_f T.d_doomed_behind (ok_d_doomed_behind T B) hgd (hr.mono (by decide)) tk (pav_cons (pev_var 0) (pav_cons (pev_var 1) (pav_cons (pev_var 2) (pav_cons (pev_var 3) (pav_cons (pev_var 4) pav_nil)))))))) pssv_nil)
    (pssv_one (psv_ret (pev_f T.d_live_behind (ok_d_live_behind T B) hgd (hr.mono (by decide)) tk (pav_cons (pev_var 0) (pav_cons (pev_var 1) (pav_cons (pev_var 2) (pav_cons (pev_var 3) (pav_cons (pev_var 4) pav_nil))))))))))
theorem ok_d_answers_in (T : Txt P K mg) (B : Tbs T base) : FnG P w K mg base 6 T.d_answers_in.a T.d_answers_in.fd ["wish", "kind", "position", "deed"] d_answers_in := def_okP T.d_answers_in.f sc_d_answers_in fun cdv A outer s H E hcd hgd hr => by
  have hu := hu_room hr
  have nd := sc_d_answers_in.nd
  have tk : Takes (cxOf (L2.CX P w) P w K mg base N_d_answers_in "answers_in" (defScope s_d_answers_in) T.d_answers_in.a cdv A outer s H E) (fun cls d _ H' => E cls d H') := takes_of rfl rfl rfl rfl
  have hpo : PassesOwn (model P w) (cxOf (L2.CX P w) P w K mg base N_d_answers_in "answers_in" (defScope s_d_answers_in) T.d_answers_in.a cdv A outer s H E).A (cxOf (L2.CX P w) P w K mg base N_d_answers_in "answers_in" (defScope s_d_answers_in) T.d_answers_in.a cdv A outer s H E).env (cxOf (L2.CX P w) P w K mg base N_d_answers_in "answers_in" (defScope s_d_answers_in) T.d_answers_in.a cdv A outer s H E).xe := passes_of rfl
  exact (pssv_cons (psv_asg (pev_f T.d_outputs_of (ok_d_outputs_of T B) hgd (hr.mono (by decide)) tk (pav_cons (pev_var 0) (pav_cons (pev_var 2) pav_nil))) (pgv_tup rfl (pgsv_cons (pgv_name 4 nd) (pgsv_cons (pgv_name 5 nd) (pgsv_cons (pgv_name 6 nd) (pgsv_cons (pgv_name 7 nd) pgsv_nil))))))
    (pssv_cons (psv_set 8 nd (pev_map1 hu (pev_tup pav_nil) pev_bl))
    (pssv_cons (psv_for hpo rfl (piv_seq (pev_f T.d_rows_up_to (ok_d_rows_up_to T B) hgd (hr.mono (by decide)) tk (pav_cons (pev_var 0) (pav_cons (pev_ix hu (pev_var 1) pev_int (fun _ _ => rfl)) pav_nil)))) (pgv_name 9 nd) (pssv_cons (psv_par (i := 10) (j := 11) rfl nd rfl rfl (by decide) rfl rfl (pev_tup (pav_cons (pev_var 3) (pav_star (pev_var 9) pav_nil))) (pev_tup (pav_star (pev_var 6) (pav_cons (pev_var 3) (pav_star (pev_var 9) pav_nil)))) (by rfl))
    (pssv_cons (psv_sub hu (pev_var 8) (pev_var 10) pev_bl rfl)
    (pssv_one (psv_sub hu (pev_var 8) (pev_slice (pev_var 11) (pov_some (pev_b bv_len rfl T.b_len (by decide +kernel) (pav_cons (pev_var 7) pav_nil))) pov_none) pev_bl rfl)))))
    (pssv_cons (psv_setLc 12 (own := [("shown", 13)]) rfl nd (piv_seq (PFv.frz (pfv_sortmap rfl hu rfl T.b_sorted rfl T.b_list (pev_var 8)))) (blkOk_by (N := N_d_answers_in) (sc := defScope s_d_answers_in) (by decide +kernel)) (fun _ _ _ _ _ => (pgv_name 13 nd)) (fun _ _ _ _ _ => ptsv_nil) (fun _ _ _ _ _ => (pev_tup (pav_cons (pev_var 13) (pav_cons (pev_f T.d_behind_answer (ok_d_behind_answer T B) hgd (hr.mono (by decide)) takes0 (pav_cons (pev_var 0) (pav_cons (pev_var 1) (pav_cons (pev_var 2) (pav_cons (pev_var 3) (pav_cons (pev_var 13) pav_nil)))))) pav_nil)))) (by decide) (sw_true rfl rfl rfl (by decide +kernel)))
    (pssv_one (psv_ret (PFv.frz (pfv_comp (own := [("shown", 13), ("there", 14)]) rfl nd (piv_seq (pev_var 12)) (blkOk_by (N := N_d_answers_in) (sc := defScope s_d_answers_in) (by decide +kernel)) (fun _ _ _ _ _ => (pgv_tup rfl (pgsv_cons (pgv_name 13 nd) (pgsv_cons (pgv_name 14 nd) pgsv_nil)))) (fun _ _ _ _ _ => (ptsv_one (ptv_cmp ov_notN (pev_var 14) pev_non (nomark _)))) (fun _ _ _ _ _ => (pev_tup (pav_cons (pev_var 13) (pav_cons (pev_var 14) pav_nil)))) (by decide)))))))))
theorem ok_d_answers (T : Txt P K mg) (B : Tbs T base) : FnG P w K mg base 8 T.d_answers.a T.d_answers.fd ["wish", "kind", "position", "deed"] d_answers := def_okP T.d_answers.f sc_d_answers fun cdv A outer s H E hcd hgd hr => by
  have hu := hu_room hr
  have nd := sc_d_answers.nd
  have tk : Takes (cxOf (L2.CX P w) P w K mg base N_d_answers "answers" (defScope s_d_answers) T.d_answers.a cdv A outer s H E) (fun cls d _ H' => E cls d H') := takes_of rfl rfl rfl rfl
  exact (pssv_cons (psv_expr (pev_f T.d_need_position (ok_d_need_position T B) hgd (hr.mono (by decide)) tk (pav_cons (pev_var 0) (pav_cons (pev_var 1) (pav_cons (pev_var 2) (pav_cons (pev_var 3) pav_nil))))))
    (pssv_one (psv_ret (pev_bT bv_tuple rfl T.b_tuple (by decide +kernel) (pav_cons (PFv.frz (pfv_comp (own := [("shown", 4), ("there", 5)]) rfl nd (piv_seq (pev_f T.d_answers_in (ok_d_answers_in T B) hgd (hr.mono (by decide)) tk (pav_cons (pev_var 0) (pav_cons (pev_var 1) (pav_cons (pev_var 2) (pav_cons (pev_var 3) pav_nil)))))) (blkOk_by (N := N_d_answers) (sc := defScope s_d_answers) (by decide +kernel)) (fun _ _ _ _ _ => (pgv_tup rfl (pgsv_cons (pgv_name 4 nd) (pgsv_cons (pgv_name 5 nd) pgsv_nil)))) (fun _ _ _ _ _ => ptsv_nil) (fun _ _ _ _ _ => (pev_var 4)) (by decide))) pav_nil)))))
theorem ok_d_law_led (T : Txt P K mg) (B : Tbs T base) : FnG P w K mg base 2 T.d_law_led.a T.d_law_led.fd ["want", "sort", "live", "spot", "deed", "row"] d_law_led := def_okP T.d_law_led.f sc_d_law_led fun cdv A outer s H E hcd hgd hr => by
  have hu := hu_room hr
  have nd := sc_d_law_led.nd
  have tk : Takes (cxOf (L2.CX P w) P w K mg base N_d_law_led "_law_led" (defScope s_d_law_led) T.d_law_led.a cdv A outer s H E) (fun cls d _ H' => E cls d H') := takes_of rfl rfl rfl rfl
  exact (pssv_cons (psv_asg (pev_var 1) (pgv_tup rfl (pgsv_cons (pgv_name 6 nd) (pgsv_cons (pgv_name 7 nd) (pgsv_cons (pgv_name 8 nd) pgsv_nil)))))
    (pssv_cons (psv_if (ptv_cmp (ov_eq hu) (pev_ix hu (pev_var 3) pev_int (fun _ _ => rfl)) pev_str (nomark _)) (pssv_one (psv_par3 (i := 9) (j := 10) (k := 11) rfl nd rfl rfl rfl (by decide) (by decide) (by decide) rfl rfl rfl (pev_ix hu (pev_var 3) pev_int (fun _ _ => rfl)) pev_non (pev_tup pav_nil) (by rfl))) (pssv_cons (psv_set 9 nd (pev_ix hu (pev_var 3) pev_int (fun _ _ => rfl)))
    (pssv_cons (psv_set 10 nd (pev_if (ptv_cmp (ov_eq hu) (pev_ix hu (pev_var 3) pev_int (fun _ _ => rfl)) pev_str (nomark _)) (pev_ix hu (pev_var 3) pev_int (fun _ _ => rfl)) (pev_tup pav_nil)))
    (pssv_one (psv_set 11 nd (pev_if (ptv_cmp (ov_eq hu) (pev_ix hu (pev_var 3) pev_int (fun _ _ => rfl)) pev_str (nomark _)) (pev_ix hu (pev_var 3) pev_int (fun _ _ => rfl)) (pev_tup pav_nil)))))))
    (pssv_cons (psv_set 11 nd (pev_op ov_add (pev_var 11) (pev_var 5)))
    (pssv_cons (psv_set 12 nd (pev_f T.d_law_far (ok_d_law_far T B) hgd (hr.mono (by decide)) tk (pav_cons (pev_var 0) (pav_cons (pev_var 9) (pav_cons (pev_var 11) pav_nil)))))
    (pssv_cons (psv_if (ptv_cmp (ov_notIn hu) (pev_var 12) (pev_ix hu (pev_var 0) pev_int (fun _ _ => rfl)) (by rfl)) (pssv_one (psv_ret pev_non)) pssv_nil)
    (pssv_cons (psv_set 13 nd (pev_if (ptv_cmp ov_isN (pev_var 10) pev_non (nomark _)) pev_non (pev_f T.d_law_far (ok_d_law_far T B) hgd (hr.mono (by decide)) tk (pav_cons (pev_var 0) (pav_cons (pev_var 9) (pav_cons (pev_op ov_add (pev_var 10) (pev_tup (pav_cons (pev_var 4) pav_nil))) pav_nil))))))
    (pssv_cons (psv_if (PWv.pt (pwv_or (ptv_cmp ov_isN (pev_var 13) pev_non (nomark _)) (pwv_or1 (ptv_cmp (ov_notIn hu) (pev_var 13) (pev_var 2) (by rfl))))) (pssv_cons (psv_if (ptv_cmp (ov_in hu) (pev_var 4) (pev_var 8) (by rfl)) (pssv_one (psv_ret (pev_if (PWv.pt (pwv_and (ptv_cmp (ov_eq hu) (pev_slice (pev_var 5) pov_none (pov_some pev_int)) (pev_tup (pav_cons (pev_var 4) pav_nil)) (nomark _)) (pwv_and1 (ptv_cmp ov_le (pev_b bv_len rfl T.b_len (by decide +kernel) (pav_cons (pev_var 5) pav_nil)) (pev_op ov_add (pev_var 7) pev_int) (nomark _))))) (pev_tup (pav_cons pev_str (pav_cons (pev_var 12) pav_nil))) pev_non))) pssv_nil)
    (pssv_one (psv_ret (pev_if (ptv_cmp (ov_eq hu) (pev_var 5) (pev_tup pav_nil) (nomark _)) (pev_tup (pav_cons pev_str (pav_cons (pev_var 12) pav_nil))) pev_non)))) pssv_nil)
    (pssv_cons (psv_set 10 nd (pev_op ov_add (pev_var 10) (pev_tup (pav_cons (pev_var 4) pav_nil))))
    (pssv_cons (psv_if (PWv.pt (pwv_and (ptv_cmp (ov_in hu) (pev_var 4) (pev_var 8) (by rfl)) (pwv_and1 (ptv_cmp (ov_ne hu) (pev_slice (pev_var 5) pov_none (pov_some pev_int)) (pev_tup (pav_cons (pev_var 4) pav_nil)) (nomark _))))) (pssv_one (psv_ret pev_non)) pssv_nil)
    (pssv_cons (psv_if (ptv_cmp (ov_in hu) (pev_var 13) (pev_ix hu (pev_var 0) pev_int (fun _ _ => rfl)) (by rfl)) (pssv_one (psv_ret (pev_if (ptv_cmp (ov_eq hu) (pev_var 11) (pev_var 10) (nomark _)) (pev_tup (pav_cons pev_str (pav_cons (pev_var 13) pav_nil))) pev_non))) pssv_nil)
    (pssv_cons (psv_if (ptv_cmp ov_lt (pev_b bv_len rfl T.b_len (by decide +kernel) (pav_cons (pev_var 11) pav_nil)) (pev_b bv_len rfl T.b_len (by decide +kernel) (pav_cons (pev_var 10) pav_nil)) (nomark _)) (pssv_cons (psv_set 14 nd (pev_and (pev_cmp ov_le (pev_op ov_sub (pev_b bv_len rfl T.b_len (by decide +kernel) (pav_cons (pev_var 10) pav_nil)) (pev_b bv_len rfl T.b_len (by decide +kernel) (pav_cons (pev_var 11) pav_nil))) (pev_var 6) (nomark _)) (pev_one (pev_cmp (ov_eq hu) (pev_slice (pev_var 10) pov_none (pov_some (pev_b bv_len rfl T.b_len (by decide +kernel) (pav_cons (pev_var 11) pav_nil)))) (pev_var 11) (nomark _)))))
    (pssv_one (psv_ret (pev_if (ptv_truth (pev_var 14) (by intro _; rfl)) (pev_tup (pav_cons pev_str (pav_cons (pev_var 12) (pav_cons (pev_slice (pev_var 10) (pov_some (pev_b bv_len rfl T.b_len (by decide +kernel) (pav_cons (pev_var 11) pav_nil))) pov_none) pav_nil)))) pev_non)))) pssv_nil)
    (pssv_cons (psv_set 14 nd (pev_and (pev_cmp ov_le (pev_op ov_sub (pev_b bv_len rfl T.b_len (by decide +kernel) (pav_cons (pev_var 11) pav_nil)) (pev_b bv_len rfl T.b_len (by decide +kernel) (pav_cons (pev_var 10) pav_nil))) (pev_var 7) (nomark _)) (pev_one (pev_cmp (ov_eq hu) (pev_slice (pev_var 11) pov_none (pov_some (pev_b bv_len rfl T.b_len (by decide +kernel) (pav_cons (pev_var 10) pav_nil)))) (pev_var 10) (nomark _)))))
    (pssv_one (psv_ret (pev_if (ptv_truth (pev_var 14) (by intro _; rfl)) (pev_tup (pav_cons pev_str (pav_cons (pev_var 13) (pav_cons (pev_slice (pev_var 11) (pov_some (pev_b bv_len rfl T.b_len (by decide +kernel) (pav_cons (pev_var 10) pav_nil))) pov_none) pav_nil)))) pev_non)))))))))))))))
theorem ok_d_law_answers (T : Txt P K mg) (B : Tbs T base) : FnG P w K mg base 3 T.d_law_answers.a T.d_law_answers.fd ["want", "sort", "live", "spot", "deed", "rows"] d_law_answers := def_okP T.d_law_answers.f sc_d_law_answers fun cdv A outer s H E hcd hgd hr => by
  have hu := hu_room hr
  have nd := sc_d_law_answers.nd
  have tk : Takes (cxOf (L2.CX P w) P w K mg base N_d_law_answers "_law_answers" (defScope s_d_law_answers) T.d_law_answers.a cdv A outer s H E) (fun cls d _ H' => E cls d H') := takes_of rfl rfl rfl rfl
  have hpo : PassesOwn (model P w) (cxOf (L2.CX P w) P w K mg base N_d_law_answers "_law_answers" (defScope s_d_law_answers) T.d_law_answers.a cdv A outer s H E).A (cxOf (L2.CX P w) P w K mg base N_d_law_answers "_law_answers" (defScope s_d_law_answers) T.d_law_answers.a cdv A outer s H E).env (cxOf (L2.CX P w) P w K mg base N_d_law_answers "_law_answers" (defScope s_d_law_answers) T.d_law_answers.a cdv A outer s H E).xe := passes_of rfl
  exact (pssv_cons (psv_set 6 nd pev_map0)
    (pssv_cons (psv_for hpo rfl (piv_seq (pev_var 5)) (pgv_name 7 nd) (pssv_cons (psv_set 8 nd (pev_f T.d_law_led (ok_d_law_led T B) hgd (hr.mono (by decide)) tk (pav_cons (pev_var 0) (pav_cons (pev_var 1) (pav_cons (pev_var 2) (pav_cons (pev_var 3) (pav_cons (pev_var 4) (pav_cons (pev_var 7) pav_nil))))))))
    (pssv_one (psv_if (ptv_cmp ov_notN (pev_var 8) pev_non (nomark _)) (pssv_one (psv_sub hu (pev_var 6) (pev_var 7) (pev_var 8) rfl)) pssv_nil))))
    (pssv_one (psv_ret (pev_var 6)))))
theorem ok_d_led (T : Txt P K mg) (B : Tbs T base) : FnG P w K mg base 8 T.d_led.a T.d_led.fd ["wish", "kind", "position", "deed", "shown"] d_led := def_okP T.d_led.f sc_d_led fun cdv A outer s H E hcd hgd hr => by
  have hu := hu_room hr
  have nd := sc_d_led.nd
  have tk : Takes (cxOf (L2.CX P w) P w K mg base N_d_led "led" (defScope s_d_led) T.d_led.a cdv A outer s H E) (fun cls d _ H' => E cls d H') := takes_of rfl rfl rfl rfl
  exact (pssv_cons (psv_expr (pev_f T.d_need_position (ok_d_need_position T B) hgd (hr.mono (by decide)) tk (pav_cons (pev_var 0) (pav_cons (pev_var 1) (pav_cons (pev_var 2) (pav_cons (pev_var 3) pav_nil))))))
    (pssv_cons (psv_set 5 nd (pev_if (ptv_truth (pev_f T.d_is_row (ok_d_is_row T B) hgd (hr.mono (by decide)) tk (pav_cons (pev_var 4) (pav_cons (pev_op ov_sub (pev_ix hu (pev_var 0) pev_int (fun _ _ => rfl)) pev_int) pav_nil))) (by intro _; rfl)) (pev_f T.d_behind_answer (ok_d_behind_answer T B) hgd (hr.mono (by decide)) tk (pav_cons (pev_var 0) (pav_cons (pev_var 1) (pav_cons (pev_var 2) (pav_cons (pev_var 3) (pav_cons (pev_var 4) pav_nil)))))) pev_non))
    (pssv_cons (psv_if (ptv_cmp ov_isN (pev_var 5) pev_non (nomark _)) (pssv_one (psv_raise T.x_OutOfPlace rfl (hr.mono (by decide)) tk pev_str)) pssv_nil)
    (pssv_one (psv_ret (pev_var 5))))))
theorem ok_d_law_outcome (T : Txt P K mg) (B : Tbs T base) : FnG P w K mg base 9 T.d_law_outcome.a T.d_law_outcome.fd ["want", "sort", "spot", "deed", "row"] d_law_outcome := def_okP T.d_law_outcome.f sc_d_law_outcome fun cdv A outer s H E hcd hgd hr => by
  have hu := hu_room hr
  have nd := sc_d_law_outcome.nd
  have tk : Takes (cxOf (L2.CX P w) P w K mg base N_d_law_outcome "_law_outcome" (defScope s_d_law_outcome) T.d_law_outcome.a cdv A outer s H E) (fun cls d _ H' => E cls d H') := takes_of rfl rfl rfl rfl
  exact (pssv_cons (psv_set 5 nd pev_str)
    (pssv_cons (psv_try rfl rfl tk (fun W pn xe tk hpo => (pssv_one (psv_set 5 nd (pev_f T.d_led (ok_d_led T B) hgd (hr.mono (by decide)) tk (pav_cons (pev_var 0) (pav_cons (pev_var 1) (pav_cons (pev_var 2) (pav_cons (pev_var 3) (pav_cons (pev_var 4) pav_nil))))))))) (.only ⟨rfl, by decide, .inl T.x_OutOfPlace.g⟩ T.m_OutOfPlace (fun a oe g pn hz hf hx => px_set 5 nd px_str) .nil))
    (pssv_one (psv_ret (pev_var 5)))))
theorem ok_d_law_spot_right (T : Txt P K mg) (B : Tbs T base) : FnG P w K mg base 10 T.d_law_spot_right.a T.d_law_spot_right.fd ["m", "want", "sort", "live", "spot", "rows"] d_law_spot_right := def_ok T.d_law_spot_right.f sc_d_law_spot_right fun cdv A outer s H E hcd hgd hr => by
  have hu := hu_room hr
  have nd := sc_d_law_spot_right.nd
  have tk : Takes (cxOf (L2.CX P w) P w K mg base N_d_law_spot_right "_law_spot_right" (defScope s_d_law_spot_right) T.d_law_spot_right.a cdv A outer s H E) (fun cls d _ H' => E cls d H') := takes_of rfl rfl rfl rfl
  have hpo : PassesOwn (model P w) (cxOf (L2.CX P w) P w K mg base N_d_law_spot_right "_law_spot_right" (defScope s_d_law_spot_right) T.d_law_spot_right.a cdv A outer s H E).A (cxOf (L2.CX P w) P w K mg base N_d_law_spot_right "_law_spot_right" (defScope s_d_law_spot_right) T.d_law_spot_right.a cdv A outer s H E).env (cxOf (L2.CX P w) P w K mg base N_d_law_spot_right "_law_spot_right" (defScope s_d_law_spot_right) T.d_law_spot_right.a cdv A outer s H E).xe := passes_of rfl
  exact (pssv_cons (psv_set 6 nd (pev_f T.d_law_next (ok_d_law_next T B) hgd (hr.mono (by decide)) tk (pav_cons (pev_var 0) (pav_cons (pev_ix hu (pev_var 1) pev_int (fun _ _ => rfl)) pav_nil))))
    (pssv_cons (psv_set 7 nd (pev_f T.d_law_answers (ok_d_law_answers T B) hgd (hr.mono (by decide)) tk (pav_cons (pev_var 1) (pav_cons (pev_var 2) (pav_cons (pev_var 3) (pav_cons (pev_var 4) (pav_cons (pev_var 6) (pav_cons (pev_var 5) pav_nil))))))))
    (pssv_cons (psv_if (ptv_cmp (ov_ne hu) (pev_b (bv_repr hu hgd) rfl T.b_repr (by decide +kernel) (pav_cons (pev_f T.d_answers (ok_d_answers T B) hgd (hr.mono (by decide)) tk (pav_cons (pev_var 1) (pav_cons (pev_var 2) (pav_cons (pev_var 4) (pav_cons (pev_var 6) pav_nil))))) pav_nil)) (pev_b (bv_repr hu hgd) rfl T.b_repr (by decide +kernel) (pav_cons (pev_bT bv_tuple rfl T.b_tuple (by decide +kernel) (pav_cons (PFv.frz (pfv_sortmap rfl hu rfl T.b_sorted rfl T.b_list (pev_var 7))) pav_nil)) pav_nil)) (nomark _)) (pssv_one (psv_ret pev_bl)) pssv_nil)
    (pssv_cons (psv_for hpo rfl (piv_rng1 rfl T.b_range pev_int) (pgv_name 8 nd) (pssv_cons (psv_set 9 nd (pev_ix hu (pev_var 5) (pev_f T.d_law_next (ok_d_law_next T B) hgd (hr.mono (by decide)) tk (pav_cons (pev_var 0) (pav_cons (pev_b bv_len rfl T.b_len (by decide +kernel) (pav_cons (pev_var 5) pav_nil)) pav_nil))) (fun _ _ => rfl)))
    (pssv_cons (psv_set 10 nd (pev_if (ptv_cmp (ov_in hu) (pev_var 9) (pev_var 7) (by rfl)) (pev_ix hu (pev_var 7) (pev_var 9) (fun _ _ => rfl)) pev_str))
    (pssv_one (psv_if (ptv_cmp (ov_ne hu) (pev_b (bv_repr hu hgd) rfl T.b_repr (by decide +kernel) (pav_cons (pev_f T.d_law_outcome (ok_d_law_outcome T B) hgd (hr.mono (by decide)) tk (pav_cons (pev_var 1) (pav_cons (pev_var 2) (pav_cons (pev_var 4) (pav_cons (pev_var 6) (pav_cons (pev_var 9) pav_nil)))))) pav_nil)) (pev_b (bv_repr hu hgd) rfl T.b_repr (by decide +kernel) (pav_cons (pev_var 10) pav_nil)) (nomark _)) (pssv_one (psv_ret pev_bl)) pssv_nil)))))
    (pssv_cons (psv_for hpo rfl (piv_seq (pev_tup (pav_cons pev_non (pav_cons (PFv.frz (pfv_lst (pav_cons pev_int pav_nil))) (pav_cons (pev_tup (pav_cons (pev_ix hu (pev_var 1) pev_int (fun _ _ => rfl)) pav_nil)) (pav_cons (pev_tup (pav_cons pev_bl pav_nil)) (pav_cons pev_int (pav_cons (pev_op ov_mulS (pev_tup (pav_cons (pev_var 6) pav_nil)) pev_int) pav_nil)))))))) (pgv_name 11 nd) (pssv_one (psv_if (ptv_cmp (ov_ne hu) (pev_f T.d_law_outcome (ok_d_law_outcome T B) hgd (hr.mono (by decide)) tk (pav_cons (pev_var 1) (pav_cons (pev_var 2) (pav_cons (pev_var 4) (pav_cons (pev_var 6) (pav_cons (pev_var 11) pav_nil)))))) pev_str (nomark _)) (pssv_one (psv_ret pev_bl)) pssv_nil)))
    (pssv_one (psv_ret pev_bl)))))))
theorem ok_d_law (T : Txt P K mg) (B : Tbs T base) : FnG P w K mg base 11 T.d_law.a T.d_law.fd ["script"] d_law := def_ok T.d_law.f sc_d_law fun cdv A outer s H E hcd hgd hr => by
  have hu := hu_room hr
  have nd := sc_d_law.nd
  have tk : Takes (cxOf (L2.CX P w) P w K mg base N_d_law "law" (defScope s_d_law) T.d_law.a cdv A outer s H E) (fun cls d _ H' => E cls d H') := takes_of rfl rfl rfl rfl
  have hpo : PassesOwn (model P w) (cxOf (L2.CX P w) P w K mg base N_d_law "law" (defScope s_d_law) T.d_law.a cdv A outer s H E).A (cxOf (L2.CX P w) P w K mg base N_d_law "law" (defScope s_d_law) T.d_law.a cdv A outer s H E).env (cxOf (L2.CX P w) P w K mg base N_d_law "law" (defScope s_d_law) T.d_law.a cdv A outer s H E).xe := passes_of rfl
  exact (pssv_cons (psv_set 1 nd (pev_f T.d_law_begun (ok_d_law_begun T B) hgd (hr.mono (by decide)) tk (pav_cons (pev_var 0) pav_nil)))
    (pssv_cons (psv_for hpo rfl (piv_rng1 rfl T.b_range (pev_op ov_add pev_int (pev_b (bv_min2 rfl) rfl T.b_min (by decide +kernel) (pav_cons (pev_b bv_len rfl T.b_len (by decide +kernel) (pav_cons (pev_var 0) pav_nil)) (pav_cons pev_int pav_nil))))) (pgv_name 2 nd) (pssv_cons (psv_set 3 nd (pev_f T.d_law_want (ok_d_law_want T B) hgd (hr.mono (by decide)) tk (pav_cons (pev_var 1) (pav_cons pev_int (pav_cons pev_int pav_nil)))))
    (pssv_cons (psv_par (i := 4) (j := 5) rfl nd rfl rfl (by decide) rfl rfl (pev_f T.d_law_sort (ok_d_law_sort T B) hgd (hr.mono (by decide)) tk (pav_cons (pev_var 1) (pav_cons (pev_ix hu (pev_var 3) pev_int (fun _ _ => rfl)) (pav_cons pev_int (pav_cons pev_int pav_nil))))) (pev_f T.d_law_live (ok_d_law_live T B) hgd (hr.mono (by decide)) tk (pav_cons (pev_var 3) pav_nil)) (by rfl))
    (pssv_cons (psv_par (i := 6) (j := 7) rfl nd rfl rfl (by decide) rfl rfl (pev_f T.d_law_rows (ok_d_law_rows T B) hgd (hr.mono (by decide)) tk (pav_cons (pev_ix hu (pev_var 3) pev_int (fun _ _ => rfl)) (pav_cons (pev_op ov_add (pev_op ov_add (pev_ix hu (pev_var 4) pev_int (fun _ _ => rfl)) (pev_ix hu (pev_var 4) pev_int (fun _ _ => rfl))) pev_int) pav_nil))) (pev_f T.d_law_spots (ok_d_law_spots T B) hgd (hr.mono (by decide)) tk (pav_cons (pev_var 3) (pav_cons (pev_var 4) (pav_cons (pev_var 5) pav_nil)))) (by rfl))
    (pssv_cons (psv_if (ptv_not (ptv_truth (pev_f T.d_law_forms_right (ok_d_law_forms_right T B) hgd (hr.mono (by decide)) tk (pav_cons (pev_var 1) (pav_cons (pev_var 3) (pav_cons (pev_var 4) (pav_cons (pev_var 5) pav_nil))))) (by intro _; rfl))) (pssv_one (psv_ret pev_bl)) pssv_nil)
    (pssv_one (psv_for hpo rfl (piv_rng1 rfl T.b_range pev_int) (pgv_name 8 nd) (pssv_one (psv_if (ptv_not (ptv_truth (pev_f T.d_law_spot_right (ok_d_law_spot_right T B) hgd (hr.mono (by decide)) tk (pav_cons (pev_var 1) (pav_cons (pev_var 3) (pav_cons (pev_var 4) (pav_cons (pev_var 5) (pav_cons (pev_ix hu (pev_var 7) (pev_f T.d_law_next (ok_d_law_next T B) hgd (hr.mono (by decide)) tk (pav_cons (pev_var 1) (pav_cons (pev_b bv_len rfl T.b_len (by decide +kernel) (pav_cons (pev_var 7) pav_nil)) pav_nil))) (fun _ _ => rfl)) (pav_cons (pev_var 6) pav_nil))))))) (by intro _; rfl))) (pssv_one (psv_ret pev_bl)) pssv_nil)))))))))
    (pssv_cons (psv_set 9 nd (pev_tup (pav_cons pev_int (pav_cons (pev_tup (pav_cons (pev_tup (pav_cons pev_int (pav_cons pev_int pav_nil))) (pav_cons (pev_tup (pav_cons pev_int (pav_cons pev_int pav_nil))) (pav_cons (pev_tup (pav_cons pev_int (pav_cons pev_int pav_nil))) pav_nil)))) (pav_cons (pev_tup (pav_cons pev_int (pav_cons pev_int pav_nil))) pav_nil)))))
    (pssv_one (psv_ret (pev_and (pev_cmp (ov_eq hu) (pev_f T.d_answers (ok_d_answers T B) hgd (hr.mono (by decide)) tk (pav_cons (pev_var 9) (pav_cons (pev_tup (pav_cons pev_int (pav_cons pev_int (pav_cons (pev_tup pav_nil) pav_nil)))) (pav_cons (pev_tup (pav_cons pev_str (pav_cons pev_int pav_nil))) (pav_cons pev_int pav_nil))))) (pev_tup (pav_cons (pev_tup pav_nil) (pav_cons (pev_tup (pav_cons pev_int (pav_cons pev_int pav_nil))) pav_nil))) (nomark _)) (pev_one (pev_cmp (ov_eq hu) (pev_f T.d_answers (ok_d_answers T B) hgd (hr.mono (by decide)) tk (pav_cons (pev_var 9) (pav_cons (pev_tup (pav_cons pev_int (pav_cons pev_int (pav_cons (pev_tup pav_nil) pav_nil)))) (pav_cons (pev_tup (pav_cons pev_str (pav_cons pev_int pav_nil))) (pav_cons pev_int pav_nil))))) (pev_tup pav_nil) (nomark _)))))))))
end
theorem all_mk {l : PySem.W.OpenLaw} {w : World} {K : PySem.W.Frag} {h : Heap} {mg : Str → Option Value} {fa : Addr} {q : Program} (X : K.In h) (G : h.Ns mainGlobals mg) (hfa : mg "law" = some (.ref fa))
    (tabs : ∀ (x : Str) (d : DefRec) (c P : Addr), (recsOf q).find? (fun e => e.name == x) = some d → PySem.W.tabIn K x = some (c, P) → PySem.W.CodeHd h c P ∧ h.get? P = some (PySem.W.tabObj #[]))
    {t_AHEAD : Tok}
    {t_BEHIND : Tok}
    {t_EVEN : Tok}
    {t_MOST_AHEAD : Tok}
    {t_MOST_DEEDS : Tok}
    {t_MOST_HOLD : Tok}
    {t_MOST_STATES : Tok}
    {t_OFF : Tok}
    {f_d_law_begun : Addr} {oc_d_law_begun kV_d_law_begun dc_d_law_begun pm_d_law_begun ct_d_law_begun : Value} {od_d_law_begun an_d_law_begun : Option Addr} {sl_d_law_begun : Array (Option Value)} {cd_d_law_begun : Value}
    {f_d_law_next : Addr} {oc_d_law_next kV_d_law_next dc_d_law_next pm_d_law_next ct_d_law_next : Value} {od_d_law_next an_d_law_next : Option Addr} {sl_d_law_next : Array (Option Value)} {cd_d_law_next : Value}
    {f_d_law_want : Addr} {oc_d_law_want kV_d_law_want dc_d_law_want pm_d_law_want ct_d_law_want : Value} {od_d_law_want an_d_law_want : Option Addr} {sl_d_law_want : Array (Option Value)} {cd_d_law_want : Value}
    {f_d_law_sort : Addr} {oc_d_law_sort kV_d_law_sort dc_d_law_sort pm_d_law_sort ct_d_law_sort : Value} {od_d_law_sort an_d_law_sort : Option Addr} {sl_d_law_sort : Array (Option Value)} {cd_d_law_sort : Value}
    {f_d_law_live : Addr} {oc_d_law_live kV_d_law_live dc_d_law_live pm_d_law_live ct_d_law_live : Value} {od_d_law_live an_d_law_live : Option Addr} {sl_d_law_live : Array (Option Value)} {cd_d_law_live : Value}
    {f_d_law_rows : Addr} {oc_d_law_rows kV_d_law_rows dc_d_law_rows pm_d_law_rows ct_d_law_rows : Value} {od_d_law_rows an_d_law_rows : Option Addr} {sl_d_law_rows : Array (Option Value)} {cd_d_law_rows : Value}
    {f_d_law_is_whole : Addr} {oc_d_law_is_whole kV_d_law_is_whole dc_d_law_is_whole pm_d_law_is_whole ct_d_law_is_whole : Value} {od_d_law_is_whole an_d_law_is_whole : Option Addr} {sl_d_law_is_whole : Array (Option Value)} {cd_d_law_is_whole : Value}
    {f_d_law_far : Addr} {oc_d_law_far kV_d_law_far dc_d_law_far pm_d_law_far ct_d_law_far : Value} {od_d_law_far an_d_law_far : Option Addr} {sl_d_law_far : Array (Option Value)} {cd_d_law_far : Value}
    {f_d_law_is_spot : Addr} {oc_d_law_is_spot kV_d_law_is_spot dc_d_law_is_spot pm_d_law_is_spot ct_d_law_is_spot : Value} {od_d_law_is_spot an_d_law_is_spot : Option Addr} {sl_d_law_is_spot : Array (Option Value)} {cd_d_law_is_spot : Value}
    {f_d_law_spots : Addr} {oc_d_law_spots kV_d_law_spots dc_d_law_spots pm_d_law_spots ct_d_law_spots : Value} {od_d_law_spots an_d_law_spots : Option Addr} {sl_d_law_spots : Array (Option Value)} {cd_d_law_spots : Value}
    {f_d_is_whole : Addr} {oc_d_is_whole kV_d_is_whole dc_d_is_whole pm_d_is_whole ct_d_is_whole : Value} {od_d_is_whole an_d_is_whole : Option Addr} {sl_d_is_whole : Array (Option Value)} {cd_d_is_whole : Value}
    {f_d_is_row : Addr} {oc_d_is_row kV_d_is_row dc_d_is_row pm_d_is_row ct_d_is_row : Value} {od_d_is_row an_d_is_row : Option Addr} {sl_d_is_row : Array (Option Value)} {cd_d_is_row : Value}
    {f_d_are_steps : Addr} {oc_d_are_steps kV_d_are_steps dc_d_are_steps pm_d_are_steps ct_d_are_steps : Value} {od_d_are_steps an_d_are_steps : Option Addr} {sl_d_are_steps : Array (Option Value)} {cd_d_are_steps : Value}
    {f_d_is_lot : Addr} {oc_d_is_lot kV_d_is_lot dc_d_is_lot pm_d_is_lot ct_d_is_lot : Value} {od_d_is_lot an_d_is_lot : Option Addr} {sl_d_is_lot : Array (Option Value)} {cd_d_is_lot : Value}
    {f_d_need_wish : Addr} {oc_d_need_wish kV_d_need_wish dc_d_need_wish pm_d_need_wish ct_d_need_wish : Value} {od_d_need_wish an_d_need_wish : Option Addr} {sl_d_need_wish : Array (Option Value)} {cd_d_need_wish : Value}
    {f_d_need_kind : Addr} {oc_d_need_kind kV_d_need_kind dc_d_need_kind pm_d_need_kind ct_d_need_kind : Value} {od_d_need_kind an_d_need_kind : Option Addr} {sl_d_need_kind : Array (Option Value)} {cd_d_need_kind : Value}
    {f_d_live_in : Addr} {oc_d_live_in kV_d_live_in dc_d_live_in pm_d_live_in ct_d_live_in : Value} {od_d_live_in an_d_live_in : Option Addr} {sl_d_live_in : Array (Option Value)} {cd_d_live_in : Value}
    {f_d_is_waiting : Addr} {oc_d_is_waiting kV_d_is_waiting dc_d_is_waiting pm_d_is_waiting ct_d_is_waiting : Value} {od_d_is_waiting an_d_is_waiting : Option Addr} {sl_d_is_waiting : Array (Option Value)} {cd_d_is_waiting : Value}
    {f_d_behind : Addr} {oc_d_behind kV_d_behind dc_d_behind pm_d_behind ct_d_behind : Value} {od_d_behind an_d_behind : Option Addr} {sl_d_behind : Array (Option Value)} {cd_d_behind : Value}
    {f_d_is_held : Addr} {oc_d_is_held kV_d_is_held dc_d_is_held pm_d_is_held ct_d_is_held : Value} {od_d_is_held an_d_is_held : Option Addr} {sl_d_is_held : Array (Option Value)} {cd_d_is_held : Value}
    {f_d_is_position_of : Addr} {oc_d_is_position_of kV_d_is_position_of dc_d_is_position_of pm_d_is_position_of ct_d_is_position_of : Value} {od_d_is_position_of an_d_is_position_of : Option Addr} {sl_d_is_position_of : Array (Option Value)} {cd_d_is_position_of : Value}
    {f_d_is_position : Addr} {oc_d_is_position kV_d_is_position dc_d_is_position pm_d_is_position ct_d_is_position : Value} {od_d_is_position an_d_is_position : Option Addr} {sl_d_is_position : Array (Option Value)} {cd_d_is_position : Value}
    {f_d_law_forms_right : Addr} {oc_d_law_forms_right kV_d_law_forms_right dc_d_law_forms_right pm_d_law_forms_right ct_d_law_forms_right : Value} {od_d_law_forms_right an_d_law_forms_right : Option Addr} {sl_d_law_forms_right : Array (Option Value)} {cd_d_law_forms_right : Value}
    {f_d_need_deed : Addr} {oc_d_need_deed kV_d_need_deed dc_d_need_deed pm_d_need_deed ct_d_need_deed : Value} {od_d_need_deed an_d_need_deed : Option Addr} {sl_d_need_deed : Array (Option Value)} {cd_d_need_deed : Value}
    {f_d_need_position : Addr} {oc_d_need_position kV_d_need_position dc_d_need_position pm_d_need_position ct_d_need_position : Value} {od_d_need_position an_d_need_position : Option Addr} {sl_d_need_position : Array (Option Value)} {cd_d_need_position : Value}
    {f_d_outputs_of : Addr} {oc_d_outputs_of kV_d_outputs_of dc_d_outputs_of pm_d_outputs_of ct_d_outputs_of : Value} {od_d_outputs_of an_d_outputs_of : Option Addr} {sl_d_outputs_of : Array (Option Value)} {cd_d_outputs_of : Value}
    {f_d_rows_up_to : Addr} {oc_d_rows_up_to kV_d_rows_up_to dc_d_rows_up_to pm_d_rows_up_to ct_d_rows_up_to : Value} {od_d_rows_up_to an_d_rows_up_to : Option Addr} {sl_d_rows_up_to : Array (Option Value)} {cd_d_rows_up_to : Value}
    {f_d_live_behind : Addr} {oc_d_live_behind kV_d_live_behind dc_d_live_behind pm_d_live_behind ct_d_live_behind : Value} {od_d_live_behind an_d_live_behind : Option Addr} {sl_d_live_behind : Array (Option Value)} {cd_d_live_behind : Value}
    {f_d_doomed_behind : Addr} {oc_d_doomed_behind kV_d_doomed_behind dc_d_doomed_behind pm_d_doomed_behind ct_d_doomed_behind : Value} {od_d_doomed_behind an_d_doomed_behind : Option Addr} {sl_d_doomed_behind : Array (Option Value)} {cd_d_doomed_behind : Value}
    {f_d_behind_answer : Addr} {oc_d_behind_answer kV_d_behind_answer dc_d_behind_answer pm_d_behind_answer ct_d_behind_answer : Value} {od_d_behind_answer an_d_behind_answer : Option Addr} {sl_d_behind_answer : Array (Option Value)} {cd_d_behind_answer : Value}
    {f_d_answers_in : Addr} {oc_d_answers_in kV_d_answers_in dc_d_answers_in pm_d_answers_in ct_d_answers_in : Value} {od_d_answers_in an_d_answers_in : Option Addr} {sl_d_answers_in : Array (Option Value)} {cd_d_answers_in : Value}
    {f_d_answers : Addr} {oc_d_answers kV_d_answers dc_d_answers pm_d_answers ct_d_answers : Value} {od_d_answers an_d_answers : Option Addr} {sl_d_answers : Array (Option Value)} {cd_d_answers : Value}
    {f_d_law_led : Addr} {oc_d_law_led kV_d_law_led dc_d_law_led pm_d_law_led ct_d_law_led : Value} {od_d_law_led an_d_law_led : Option Addr} {sl_d_law_led : Array (Option Value)} {cd_d_law_led : Value}
    {f_d_law_answers : Addr} {oc_d_law_answers kV_d_law_answers dc_d_law_answers pm_d_law_answers ct_d_law_answers : Value} {od_d_law_answers an_d_law_answers : Option Addr} {sl_d_law_answers : Array (Option Value)} {cd_d_law_answers : Value}
    {f_d_led : Addr} {oc_d_led kV_d_led dc_d_led pm_d_led ct_d_led : Value} {od_d_led an_d_led : Option Addr} {sl_d_led : Array (Option Value)} {cd_d_led : Value}
    {f_d_law_outcome : Addr} {oc_d_law_outcome kV_d_law_outcome dc_d_law_outcome pm_d_law_outcome ct_d_law_outcome : Value} {od_d_law_outcome an_d_law_outcome : Option Addr} {sl_d_law_outcome : Array (Option Value)} {cd_d_law_outcome : Value}
    {f_d_law_spot_right : Addr} {oc_d_law_spot_right kV_d_law_spot_right dc_d_law_spot_right pm_d_law_spot_right ct_d_law_spot_right : Value} {od_d_law_spot_right an_d_law_spot_right : Option Addr} {sl_d_law_spot_right : Array (Option Value)} {cd_d_law_spot_right : Value}
    {f_d_law : Addr} {oc_d_law kV_d_law dc_d_law pm_d_law ct_d_law : Value} {od_d_law an_d_law : Option Addr} {sl_d_law : Array (Option Value)} {cd_d_law : Value}
    {C_BadWish : Addr}
    {C_BadKind : Addr}
    {C_OutOfPlace : Addr}
    (z_all : PySem.W.nsIn K mainGlobals "all" = some none)
    (z_any : PySem.W.nsIn K mainGlobals "any" = some none)
    (z_bool : PySem.W.nsIn K mainGlobals "bool" = some none)
    (z_enumerate : PySem.W.nsIn K mainGlobals "enumerate" = some none)
    (z_int : PySem.W.nsIn K mainGlobals "int" = some none)
    (z_isinstance : PySem.W.nsIn K mainGlobals "isinstance" = some none)
    (z_len : PySem.W.nsIn K mainGlobals "len" = some none)
    (z_list : PySem.W.nsIn K mainGlobals "list" = some none)
    (z_max : PySem.W.nsIn K mainGlobals "max" = some none)
    (z_min : PySem.W.nsIn K mainGlobals "min" = some none)
    (z_range : PySem.W.nsIn K mainGlobals "range" = some none)
    (z_repr : PySem.W.nsIn K mainGlobals "repr" = some none)
    (z_set : PySem.W.nsIn K mainGlobals "set" = some none)
    (z_sorted : PySem.W.nsIn K mainGlobals "sorted" = some none)
    (z_str : PySem.W.nsIn K mainGlobals "str" = some none)
    (z_tuple : PySem.W.nsIn K mainGlobals "tuple" = some none)
    (z_zip : PySem.W.nsIn K mainGlobals "zip" = some none)
    (y_AHEAD : PySem.W.nsIn K mainGlobals "AHEAD" = some (some (.str "ahead" t_AHEAD)))
    (y_BEHIND : PySem.W.nsIn K mainGlobals "BEHIND" = some (some (.str "behind" t_BEHIND)))
    (y_EVEN : PySem.W.nsIn K mainGlobals "EVEN" = some (some (.str "even" t_EVEN)))
    (y_MOST_AHEAD : PySem.W.nsIn K mainGlobals "MOST_AHEAD" = some (some (.int 2 t_MOST_AHEAD)))
    (y_MOST_DEEDS : PySem.W.nsIn K mainGlobals "MOST_DEEDS" = some (some (.int 4 t_MOST_DEEDS)))
    (y_MOST_HOLD : PySem.W.nsIn K mainGlobals "MOST_HOLD" = some (some (.int 3 t_MOST_HOLD)))
    (y_MOST_STATES : PySem.W.nsIn K mainGlobals "MOST_STATES" = some (some (.int 6 t_MOST_STATES)))
    (y_OFF : PySem.W.nsIn K mainGlobals "OFF" = some (some (.str "off" t_OFF)))
    (a_d_law_begun : PySem.W.nsIn K mainGlobals "_law_begun" = some (some (.ref f_d_law_begun)))
    (l_d_law_begun : K.lookup f_d_law_begun = some ⟨oc_d_law_begun, od_d_law_begun, .func (PySem.W.fnOf "_law_begun" "_law_begun" (defArgs s_d_law_begun) (defBody s_d_law_begun) (defScope s_d_law_begun) .none kV_d_law_begun dc_d_law_begun pm_d_law_begun an_d_law_begun cd_d_law_begun ct_d_law_begun), sl_d_law_begun⟩)
    (c_d_law_begun : PySem.W.codeIn K cd_d_law_begun "_law_begun" = true)
    (k_d_law_begun : PySem.W.keepIn K (.ref f_d_law_begun) = true)
    (a_d_law_next : PySem.W.nsIn K mainGlobals "_law_next" = some (some (.ref f_d_law_next)))
    (l_d_law_next : K.lookup f_d_law_next = some ⟨oc_d_law_next, od_d_law_next, .func (PySem.W.fnOf "_law_next" "_law_next" (defArgs s_d_law_next) (defBody s_d_law_next) (defScope s_d_law_next) .none kV_d_law_next dc_d_law_next pm_d_law_next an_d_law_next cd_d_law_next ct_d_law_next), sl_d_law_next⟩)
    (c_d_law_next : PySem.W.codeIn K cd_d_law_next "_law_next" = true)
    (k_d_law_next : PySem.W.keepIn K (.ref f_d_law_next) = true)
    (a_d_law_want : PySem.W.nsIn K mainGlobals "_law_want" = some (some (.ref f_d_law_want)))
    (l_d_law_want : K.lookup f_d_law_want = some ⟨oc_d_law_want, od_d_law_want, .func (PySem.W.fnOf "_law_want" "_law_want" (defArgs s_d_law_want) (defBody s_d_law_want) (defScope s_d_law_want) .none kV_d_law_want dc_d_law_want pm_d_law_want an_d_law_want cd_d_law_want ct_d_law_want), sl_d_law_want⟩)
    (c_d_law_want : PySem.W.codeIn K cd_d_law_want "_law_want" = true)
    (k_d_law_want : PySem.W.keepIn K (.ref f_d_law_want) = true)
    (a_d_law_sort : PySem.W.nsIn K mainGlobals "_law_sort" = some (some (.ref f_d_law_sort)))
    (l_d_law_sort : K.lookup f_d_law_sort = some ⟨oc_d_law_sort, od_d_law_sort, .func (PySem.W.fnOf "_law_sort" "_law_sort" (defArgs s_d_law_sort) (defBody s_d_law_sort) (defScope s_d_law_sort) .none kV_d_law_sort dc_d_law_sort pm_d_law_sort an_d_law_sort cd_d_law_sort ct_d_law_sort), sl_d_law_sort⟩)
    (c_d_law_sort : PySem.W.codeIn K cd_d_law_sort "_law_sort" = true)
    (k_d_law_sort : PySem.W.keepIn K (.ref f_d_law_sort) = true)
    (a_d_law_live : PySem.W.nsIn K mainGlobals "_law_live" = some (some (.ref f_d_law_live)))
    (l_d_law_live : K.lookup f_d_law_live = some ⟨oc_d_law_live, od_d_law_live, .func (PySem.W.fnOf "_law_live" "_law_live" (defArgs s_d_law_live) (defBody s_d_law_live) (defScope s_d_law_live) .none kV_d_law_live dc_d_law_live pm_d_law_live an_d_law_live cd_d_law_live ct_d_law_live), sl_d_law_live⟩)
    (c_d_law_live : PySem.W.codeIn K cd_d_law_live "_law_live" = true)
    (k_d_law_live : PySem.W.keepIn K (.ref f_d_law_live) = true)
    (a_d_law_rows : PySem.W.nsIn K mainGlobals "_law_rows" = some (some (.ref f_d_law_rows)))
    (l_d_law_rows : K.lookup f_d_law_rows = some ⟨oc_d_law_rows, od_d_law_rows, .func (PySem.W.fnOf "_law_rows" "_law_rows" (defArgs s_d_law_rows) (defBody s_d_law_rows) (defScope s_d_law_rows) .none kV_d_law_rows dc_d_law_rows pm_d_law_rows an_d_law_rows cd_d_law_rows ct_d_law_rows), sl_d_law_rows⟩)
    (c_d_law_rows : PySem.W.codeIn K cd_d_law_rows "_law_rows" = true)
    (k_d_law_rows : PySem.W.keepIn K (.ref f_d_law_rows) = true)
    (a_d_law_is_whole : PySem.W.nsIn K mainGlobals "_law_is_whole" = some (some (.ref f_d_law_is_whole)))
    (l_d_law_is_whole : K.lookup f_d_law_is_whole = some ⟨oc_d_law_is_whole, od_d_law_is_whole, .func (PySem.W.fnOf "_law_is_whole" "_law_is_whole" (defArgs s_d_law_is_whole) (defBody s_d_law_is_whole) (defScope s_d_law_is_whole) .none kV_d_law_is_whole dc_d_law_is_whole pm_d_law_is_whole an_d_law_is_whole cd_d_law_is_whole ct_d_law_is_whole), sl_d_law_is_whole⟩)
    (c_d_law_is_whole : PySem.W.codeIn K cd_d_law_is_whole "_law_is_whole" = true)
    (k_d_law_is_whole : PySem.W.keepIn K (.ref f_d_law_is_whole) = true)
    (a_d_law_far : PySem.W.nsIn K mainGlobals "_law_far" = some (some (.ref f_d_law_far)))
    (l_d_law_far : K.lookup f_d_law_far = some ⟨oc_d_law_far, od_d_law_far, .func (PySem.W.fnOf "_law_far" "_law_far" (defArgs s_d_law_far) (defBody s_d_law_far) (defScope s_d_law_far) .none kV_d_law_far dc_d_law_far pm_d_law_far an_d_law_far cd_d_law_far ct_d_law_far), sl_d_law_far⟩)
    (c_d_law_far : PySem.W.codeIn K cd_d_law_far "_law_far" = true)
    (k_d_law_far : PySem.W.keepIn K (.ref f_d_law_far) = true)
    (a_d_law_is_spot : PySem.W.nsIn K mainGlobals "_law_is_spot" = some (some (.ref f_d_law_is_spot)))
    (l_d_law_is_spot : K.lookup f_d_law_is_spot = some ⟨oc_d_law_is_spot, od_d_law_is_spot, .func (PySem.W.fnOf "_law_is_spot" "_law_is_spot" (defArgs s_d_law_is_spot) (defBody s_d_law_is_spot) (defScope s_d_law_is_spot) .none kV_d_law_is_spot dc_d_law_is_spot pm_d_law_is_spot an_d_law_is_spot cd_d_law_is_spot ct_d_law_is_spot), sl_d_law_is_spot⟩)
    (c_d_law_is_spot : PySem.W.codeIn K cd_d_law_is_spot "_law_is_spot" = true)
    (k_d_law_is_spot : PySem.W.keepIn K (.ref f_d_law_is_spot) = true)
    (a_d_law_spots : PySem.W.nsIn K mainGlobals "_law_spots" = some (some (.ref f_d_law_spots)))
    (l_d_law_spots : K.lookup f_d_law_spots = some ⟨oc_d_law_spots, od_d_law_spots, .func (PySem.W.fnOf "_law_spots" "_law_spots" (defArgs s_d_law_spots) (defBody s_d_law_spots) (defScope s_d_law_spots) .none kV_d_law_spots dc_d_law_spots pm_d_law_spots an_d_law_spots cd_d_law_spots ct_d_law_spots), sl_d_law_spots⟩)
    (c_d_law_spots : PySem.W.codeIn K cd_d_law_spots "_law_spots" = true)
    (k_d_law_spots : PySem.W.keepIn K (.ref f_d_law_spots) = true)
    (a_d_is_whole : PySem.W.nsIn K mainGlobals "is_whole" = some (some (.ref f_d_is_whole)))
    (l_d_is_whole : K.lookup f_d_is_whole = some ⟨oc_d_is_whole, od_d_is_whole, .func (PySem.W.fnOf "is_whole" "is_whole" (defArgs s_d_is_whole) (defBody s_d_is_whole) (defScope s_d_is_whole) .none kV_d_is_whole dc_d_is_whole pm_d_is_whole an_d_is_whole cd_d_is_whole ct_d_is_whole), sl_d_is_whole⟩)
    (c_d_is_whole : PySem.W.codeIn K cd_d_is_whole "is_whole" = true)
    (k_d_is_whole : PySem.W.keepIn K (.ref f_d_is_whole) = true)
    (a_d_is_row : PySem.W.nsIn K mainGlobals "is_row" = some (some (.ref f_d_is_row)))
    (l_d_is_row : K.lookup f_d_is_row = some ⟨oc_d_is_row, od_d_is_row, .func (PySem.W.fnOf "is_row" "is_row" (defArgs s_d_is_row) (defBody s_d_is_row) (defScope s_d_is_row) .none kV_d_is_row dc_d_is_row pm_d_is_row an_d_is_row cd_d_is_row ct_d_is_row), sl_d_is_row⟩)
    (c_d_is_row : PySem.W.codeIn K cd_d_is_row "is_row" = true)
    (k_d_is_row : PySem.W.keepIn K (.ref f_d_is_row) = true)
    (a_d_are_steps : PySem.W.nsIn K mainGlobals "are_steps" = some (some (.ref f_d_are_steps)))
    (l_d_are_steps : K.lookup f_d_are_steps = some ⟨oc_d_are_steps, od_d_are_steps, .func (PySem.W.fnOf "are_steps" "are_steps" (defArgs s_d_are_steps) (defBody s_d_are_steps) (defScope s_d_are_steps) .none kV_d_are_steps dc_d_are_steps pm_d_are_steps an_d_are_steps cd_d_are_steps ct_d_are_steps), sl_d_are_steps⟩)
    (c_d_are_steps : PySem.W.codeIn K cd_d_are_steps "are_steps" = true)
    (k_d_are_steps : PySem.W.keepIn K (.ref f_d_are_steps) = true)
    (a_d_is_lot : PySem.W.nsIn K mainGlobals "is_lot" = some (some (.ref f_d_is_lot)))
    (l_d_is_lot : K.lookup f_d_is_lot = some ⟨oc_d_is_lot, od_d_is_lot, .func (PySem.W.fnOf "is_lot" "is_lot" (defArgs s_d_is_lot) (defBody s_d_is_lot) (defScope s_d_is_lot) .none kV_d_is_lot dc_d_is_lot pm_d_is_lot an_d_is_lot cd_d_is_lot ct_d_is_lot), sl_d_is_lot⟩)
    (c_d_is_lot : PySem.W.codeIn K cd_d_is_lot "is_lot" = true)
    (k_d_is_lot : PySem.W.keepIn K (.ref f_d_is_lot) = true)
    (a_d_need_wish : PySem.W.nsIn K mainGlobals "need_wish" = some (some (.ref f_d_need_wish)))
    (l_d_need_wish : K.lookup f_d_need_wish = some ⟨oc_d_need_wish, od_d_need_wish, .func (PySem.W.fnOf "need_wish" "need_wish" (defArgs s_d_need_wish) (defBody s_d_need_wish) (defScope s_d_need_wish) .none kV_d_need_wish dc_d_need_wish pm_d_need_wish an_d_need_wish cd_d_need_wish ct_d_need_wish), sl_d_need_wish⟩)
    (c_d_need_wish : PySem.W.codeIn K cd_d_need_wish "need_wish" = true)
    (k_d_need_wish : PySem.W.keepIn K (.ref f_d_need_wish) = true)
    (a_d_need_kind : PySem.W.nsIn K mainGlobals "need_kind" = some (some (.ref f_d_need_kind)))
    (l_d_need_kind : K.lookup f_d_need_kind = some ⟨oc_d_need_kind, od_d_need_kind, .func (PySem.W.fnOf "need_kind" "need_kind" (defArgs s_d_need_kind) (defBody s_d_need_kind) (defScope s_d_need_kind) .none kV_d_need_kind dc_d_need_kind pm_d_need_kind an_d_need_kind cd_d_need_kind ct_d_need_kind), sl_d_need_kind⟩)
    (c_d_need_kind : PySem.W.codeIn K cd_d_need_kind "need_kind" = true)
    (k_d_need_kind : PySem.W.keepIn K (.ref f_d_need_kind) = true)
    (a_d_live_in : PySem.W.nsIn K mainGlobals "live_in" = some (some (.ref f_d_live_in)))
    (l_d_live_in : K.lookup f_d_live_in = some ⟨oc_d_live_in, od_d_live_in, .func (PySem.W.fnOf "live_in" "live_in" (defArgs s_d_live_in) (defBody s_d_live_in) (defScope s_d_live_in) .none kV_d_live_in dc_d_live_in pm_d_live_in an_d_live_in cd_d_live_in ct_d_live_in), sl_d_live_in⟩)
    (c_d_live_in : PySem.W.codeIn K cd_d_live_in "live_in" = true)
    (k_d_live_in : PySem.W.keepIn K (.ref f_d_live_in) = true)
    (a_d_is_waiting : PySem.W.nsIn K mainGlobals "is_waiting" = some (some (.ref f_d_is_waiting)))
    (l_d_is_waiting : K.lookup f_d_is_waiting = some ⟨oc_d_is_waiting, od_d_is_waiting, .func (PySem.W.fnOf "is_waiting" "is_waiting" (defArgs s_d_is_waiting) (defBody s_d_is_waiting) (defScope s_d_is_waiting) .none kV_d_is_waiting dc_d_is_waiting pm_d_is_waiting an_d_is_waiting cd_d_is_waiting ct_d_is_waiting), sl_d_is_waiting⟩)
    (c_d_is_waiting : PySem.W.codeIn K cd_d_is_waiting "is_waiting" = true)
    (k_d_is_waiting : PySem.W.keepIn K (.ref f_d_is_waiting) = true)
    (a_d_behind : PySem.W.nsIn K mainGlobals "behind" = some (some (.ref f_d_behind)))
    (l_d_behind : K.lookup f_d_behind = some ⟨oc_d_behind, od_d_behind, .func (PySem.W.fnOf "behind" "behind" (defArgs s_d_behind) (defBody s_d_behind) (defScope s_d_behind) .none kV_d_behind dc_d_behind pm_d_behind an_d_behind cd_d_behind ct_d_behind), sl_d_behind⟩)
    (c_d_behind : PySem.W.codeIn K cd_d_behind "behind" = true)
    (k_d_behind : PySem.W.keepIn K (.ref f_d_behind) = true)
    (a_d_is_held : PySem.W.nsIn K mainGlobals "is_held" = some (some (.ref f_d_is_held)))
    (l_d_is_held : K.lookup f_d_is_held = some ⟨oc_d_is_held, od_d_is_held, .func (PySem.W.fnOf "is_held" "is_held" (defArgs s_d_is_held) (defBody s_d_is_held) (defScope s_d_is_held) .none kV_d_is_held dc_d_is_held pm_d_is_held an_d_is_held cd_d_is_held ct_d_is_held), sl_d_is_held⟩)
    (c_d_is_held : PySem.W.codeIn K cd_d_is_held "is_held" = true)
    (k_d_is_held : PySem.W.keepIn K (.ref f_d_is_held) = true)
    (a_d_is_position_of : PySem.W.nsIn K mainGlobals "is_position_of" = some (some (.ref f_d_is_position_of)))
    (l_d_is_position_of : K.lookup f_d_is_position_of = some ⟨oc_d_is_position_of, od_d_is_position_of, .func (PySem.W.fnOf "is_position_of" "is_position_of" (defArgs s_d_is_position_of) (defBody s_d_is_position_of) (defScope s_d_is_position_of) .none kV_d_is_position_of dc_d_is_position_of pm_d_is_position_of an_d_is_position_of cd_d_is_position_of ct_d_is_position_of), sl_d_is_position_of⟩)
    (c_d_is_position_of : PySem.W.codeIn K cd_d_is_position_of "is_position_of" = true)
    (k_d_is_position_of : PySem.W.keepIn K (.ref f_d_is_position_of) = true)
    (a_d_is_position : PySem.W.nsIn K mainGlobals "is_position" = some (some (.ref f_d_is_position)))
    (l_d_is_position : K.lookup f_d_is_position = some ⟨oc_d_is_position, od_d_is_position, .func (PySem.W.fnOf "is_position" "is_position" (defArgs s_d_is_position) (defBody s_d_is_position) (defScope s_d_is_position) .none kV_d_is_position dc_d_is_position pm_d_is_position an_d_is_position cd_d_is_position ct_d_is_position), sl_d_is_position⟩)
    (c_d_is_position : PySem.W.codeIn K cd_d_is_position "is_position" = true)
    (k_d_is_position : PySem.W.keepIn K (.ref f_d_is_position) = true)
    (a_d_law_forms_right : PySem.W.nsIn K mainGlobals "_law_forms_right" = some (some (.ref f_d_law_forms_right)))
    (l_d_law_forms_right : K.lookup f_d_law_forms_right = some ⟨oc_d_law_forms_right, od_d_law_forms_right, .func (PySem.W.fnOf "_law_forms_right" "_law_forms_right" (defArgs s_d_law_forms_right) (defBody s_d_law_forms_right) (defScope s_d_law_forms_right) .none kV_d_law_forms_right dc_d_law_forms_right pm_d_law_forms_right an_d_law_forms_right cd_d_law_forms_right ct_d_law_forms_right), sl_d_law_forms_right⟩)
    (c_d_law_forms_right : PySem.W.codeIn K cd_d_law_forms_right "_law_forms_right" = true)
    (k_d_law_forms_right : PySem.W.keepIn K (.ref f_d_law_forms_right) = true)
    (a_d_need_deed : PySem.W.nsIn K mainGlobals "need_deed" = some (some (.ref f_d_need_deed)))
    (l_d_need_deed : K.lookup f_d_need_deed = some ⟨oc_d_need_deed, od_d_need_deed, .func (PySem.W.fnOf "need_deed" "need_deed" (defArgs s_d_need_deed) (defBody s_d_need_deed) (defScope s_d_need_deed) .none kV_d_need_deed dc_d_need_deed pm_d_need_deed an_d_need_deed cd_d_need_deed ct_d_need_deed), sl_d_need_deed⟩)
    (c_d_need_deed : PySem.W.codeIn K cd_d_need_deed "need_deed" = true)
    (k_d_need_deed : PySem.W.keepIn K (.ref f_d_need_deed) = true)
    (a_d_need_position : PySem.W.nsIn K mainGlobals "need_position" = some (some (.ref f_d_need_position)))
    (l_d_need_position : K.lookup f_d_need_position = some ⟨oc_d_need_position, od_d_need_position, .func (PySem.W.fnOf "need_position" "need_position" (defArgs s_d_need_position) (defBody s_d_need_position) (defScope s_d_need_position) .none kV_d_need_position dc_d_need_position pm_d_need_position an_d_need_position cd_d_need_position ct_d_need_position), sl_d_need_position⟩)
    (c_d_need_position : PySem.W.codeIn K cd_d_need_position "need_position" = true)
    (k_d_need_position : PySem.W.keepIn K (.ref f_d_need_position) = true)
    (a_d_outputs_of : PySem.W.nsIn K mainGlobals "outputs_of" = some (some (.ref f_d_outputs_of)))
    (l_d_outputs_of : K.lookup f_d_outputs_of = some ⟨oc_d_outputs_of, od_d_outputs_of, .func (PySem.W.fnOf "outputs_of" "outputs_of" (defArgs s_d_outputs_of) (defBody s_d_outputs_of) (defScope s_d_outputs_of) .none kV_d_outputs_of dc_d_outputs_of pm_d_outputs_of an_d_outputs_of cd_d_outputs_of ct_d_outputs_of), sl_d_outputs_of⟩)
    (c_d_outputs_of : PySem.W.codeIn K cd_d_outputs_of "outputs_of" = true)
    (k_d_outputs_of : PySem.W.keepIn K (.ref f_d_outputs_of) = true)
    (a_d_rows_up_to : PySem.W.nsIn K mainGlobals "rows_up_to" = some (some (.ref f_d_rows_up_to)))
    (l_d_rows_up_to : K.lookup f_d_rows_up_to = some ⟨oc_d_rows_up_to, od_d_rows_up_to, .func (PySem.W.fnOf "rows_up_to" "rows_up_to" (defArgs s_d_rows_up_to) (defBody s_d_rows_up_to) (defScope s_d_rows_up_to) .none kV_d_rows_up_to dc_d_rows_up_to pm_d_rows_up_to an_d_rows_up_to cd_d_rows_up_to ct_d_rows_up_to), sl_d_rows_up_to⟩)
    (c_d_rows_up_to : PySem.W.codeIn K cd_d_rows_up_to "rows_up_to" = true)
    (k_d_rows_up_to : PySem.W.keepIn K (.ref f_d_rows_up_to) = true)
    (a_d_live_behind : PySem.W.nsIn K mainGlobals "live_behind" = some (some (.ref f_d_live_behind)))
    (l_d_live_behind : K.lookup f_d_live_behind = some ⟨oc_d_live_behind, od_d_live_behind, .func (PySem.W.fnOf "live_behind" "live_behind" (defArgs s_d_live_behind) (defBody s_d_live_behind) (defScope s_d_live_behind) .none kV_d_live_behind dc_d_live_behind pm_d_live_behind an_d_live_behind cd_d_live_behind ct_d_live_behind), sl_d_live_behind⟩)
    (c_d_live_behind : PySem.W.codeIn K cd_d_live_behind "live_behind" = true)
    (k_d_live_behind : PySem.W.keepIn K (.ref f_d_live_behind) = true)
    (a_d_doomed_behind : PySem.W.nsIn K mainGlobals "doomed_behind" = some (some (.ref f_d_doomed_behind)))
    (l_d_doomed_behind : K.lookup f_d_doomed_behind = some ⟨oc_d_doomed_behind, od_d_doomed_behind, .func (PySem.W.fnOf "doomed_behind" "doomed_behind" (defArgs s_d_doomed_behind) (defBody s_d_doomed_behind) (defScope s_d_doomed_behind) .none kV_d_doomed_behind dc_d_doomed_behind pm_d_doomed_behind an_d_doomed_behind cd_d_doomed_behind ct_d_doomed_behind), sl_d_doomed_behind⟩)
    (c_d_doomed_behind : PySem.W.codeIn K cd_d_doomed_behind "doomed_behind" = true)
    (k_d_doomed_behind : PySem.W.keepIn K (.ref f_d_doomed_behind) = true)
    (a_d_behind_answer : PySem.W.nsIn K mainGlobals "behind_answer" = some (some (.ref f_d_behind_answer)))
    (l_d_behind_answer : K.lookup f_d_behind_answer = some ⟨oc_d_behind_answer, od_d_behind_answer, .func (PySem.W.fnOf "behind_answer" "behind_answer" (defArgs s_d_behind_answer) (defBody s_d_behind_answer) (defScope s_d_behind_answer) .none kV_d_behind_answer dc_d_behind_answer pm_d_behind_answer an_d_behind_answer cd_d_behind_answer ct_d_behind_answer), sl_d_behind_answer⟩)
    (c_d_behind_answer : PySem.W.codeIn K cd_d_behind_answer "behind_answer" = true)
    (k_d_behind_answer : PySem.W.keepIn K (.ref f_d_behind_answer) = true)
    (a_d_answers_in : PySem.W.nsIn K mainGlobals "answers_in" = some (some (.ref f_d_answers_in)))
    (l_d_answers_in : K.lookup f_d_answers_in = some ⟨oc_d_answers_in, od_d_answers_in, .func (PySem.W.fnOf "answers_in" "answers_in" (defArgs s_d_answers_in) (defBody s_d_answers_in) (defScope s_d_answers_in) .none kV_d_answers_in dc_d_answers_in pm_d_answers_in an_d_answers_in cd_d_answers_in ct_d_answers_in), sl_d_answers_in⟩)
    (c_d_answers_in : PySem.W.codeIn K cd_d_answers_in "answers_in" = true)
    (k_d_answers_in : PySem.W.keepIn K (.ref f_d_answers_in) = true)
    (a_d_answers : PySem.W.nsIn K mainGlobals "answers" = some (some (.ref f_d_answers)))
    (l_d_answers : K.lookup f_d_answers = some ⟨oc_d_answers, od_d_answers, .func (PySem.W.fnOf "answers" "answers" (defArgs s_d_answers) (defBody s_d_answers) (defScope s_d_answers) .none kV_d_answers dc_d_answers pm_d_answers an_d_answers cd_d_answers ct_d_answers), sl_d_answers⟩)
    (c_d_answers : PySem.W.codeIn K cd_d_answers "answers" = true)
    (k_d_answers : PySem.W.keepIn K (.ref f_d_answers) = true)
    (a_d_law_led : PySem.W.nsIn K mainGlobals "_law_led" = some (some (.ref f_d_law_led)))
    (l_d_law_led : K.lookup f_d_law_led = some ⟨oc_d_law_led, od_d_law_led, .func (PySem.W.fnOf "_law_led" "_law_led" (defArgs s_d_law_led) (defBody s_d_law_led) (defScope s_d_law_led) .none kV_d_law_led dc_d_law_led pm_d_law_led an_d_law_led cd_d_law_led ct_d_law_led), sl_d_law_led⟩)
    (c_d_law_led : PySem.W.codeIn K cd_d_law_led "_law_led" = true)
    (k_d_law_led : PySem.W.keepIn K (.ref f_d_law_led) = true)
    (a_d_law_answers : PySem.W.nsIn K mainGlobals "_law_answers" = some (some (.ref f_d_law_answers)))
    (l_d_law_answers : K.lookup f_d_law_answers = some ⟨oc_d_law_answers, od_d_law_answers, .func (PySem.W.fnOf "_law_answers" "_law_answers" (defArgs s_d_law_answers) (defBody s_d_law_answers) (defScope s_d_law_answers) .none kV_d_law_answers dc_d_law_answers pm_d_law_answers an_d_law_answers cd_d_law_answers ct_d_law_answers), sl_d_law_answers⟩)
    (c_d_law_answers : PySem.W.codeIn K cd_d_law_answers "_law_answers" = true)
    (k_d_law_answers : PySem.W.keepIn K (.ref f_d_law_answers) = true)
    (a_d_led : PySem.W.nsIn K mainGlobals "led" = some (some (.ref f_d_led)))
    (l_d_led : K.lookup f_d_led = some ⟨oc_d_led, od_d_led, .func (PySem.W.fnOf "led" "led" (defArgs s_d_led) (defBody s_d_led) (defScope s_d_led) .none kV_d_led dc_d_led pm_d_led an_d_led cd_d_led ct_d_led), sl_d_led⟩)
    (c_d_led : PySem.W.codeIn K cd_d_led "led" = true)
    (k_d_led : PySem.W.keepIn K (.ref f_d_led) = true)
    (a_d_law_outcome : PySem.W.nsIn K mainGlobals "_law_outcome" = some (some (.ref f_d_law_outcome)))
    (l_d_law_outcome : K.lookup f_d_law_outcome = some ⟨oc_d_law_outcome, od_d_law_outcome, .func (PySem.W.fnOf "_law_outcome" "_law_outcome" (defArgs s_d_law_outcome) (defBody s_d_law_outcome) (defScope s_d_law_outcome) .none kV_d_law_outcome dc_d_law_outcome pm_d_law_outcome an_d_law_outcome cd_d_law_outcome ct_d_law_outcome), sl_d_law_outcome⟩)
    (c_d_law_outcome : PySem.W.codeIn K cd_d_law_outcome "_law_outcome" = true)
    (k_d_law_outcome : PySem.W.keepIn K (.ref f_d_law_outcome) = true)
    (a_d_law_spot_right : PySem.W.nsIn K mainGlobals "_law_spot_right" = some (some (.ref f_d_law_spot_right)))
    (l_d_law_spot_right : K.lookup f_d_law_spot_right = some ⟨oc_d_law_spot_right, od_d_law_spot_right, .func (PySem.W.fnOf "_law_spot_right" "_law_spot_right" (defArgs s_d_law_spot_right) (defBody s_d_law_spot_right) (defScope s_d_law_spot_right) .none kV_d_law_spot_right dc_d_law_spot_right pm_d_law_spot_right an_d_law_spot_right cd_d_law_spot_right ct_d_law_spot_right), sl_d_law_spot_right⟩)
    (c_d_law_spot_right : PySem.W.codeIn K cd_d_law_spot_right "_law_spot_right" = true)
    (k_d_law_spot_right : PySem.W.keepIn K (.ref f_d_law_spot_right) = true)
    (a_d_law : PySem.W.nsIn K mainGlobals "law" = some (some (.ref f_d_law)))
    (l_d_law : K.lookup f_d_law = some ⟨oc_d_law, od_d_law, .func (PySem.W.fnOf "law" "law" (defArgs s_d_law) (defBody s_d_law) (defScope s_d_law) .none kV_d_law dc_d_law pm_d_law an_d_law cd_d_law ct_d_law), sl_d_law⟩)
    (c_d_law : PySem.W.codeIn K cd_d_law "law" = true)
    (k_d_law : PySem.W.keepIn K (.ref f_d_law) = true)
    (xa_BadWish : PySem.W.nsIn K mainGlobals "BadWish" = some (some (.ref C_BadWish)))
    (xx_BadWish : ∃ T : ExT l.prog K mg "BadWish" "part" (some "part"), T.C = C_BadWish)
    (xa_BadKind : PySem.W.nsIn K mainGlobals "BadKind" = some (some (.ref C_BadKind)))
    (xx_BadKind : ∃ T : ExT l.prog K mg "BadKind" "part" (some "part"), T.C = C_BadKind)
    (xa_OutOfPlace : PySem.W.nsIn K mainGlobals "OutOfPlace" = some (some (.ref C_OutOfPlace)))
    (xx_OutOfPlace : ∃ T : ExT l.prog K mg "OutOfPlace" "text" none, T.C = C_OutOfPlace)
    (em_BadWish_OutOfPlace : PySem.W.exmOne K (.ref C_BadWish) (.ref C_OutOfPlace) = some false)
    (em_BadKind_OutOfPlace : PySem.W.exmOne K (.ref C_BadKind) (.ref C_OutOfPlace) = some false)
    (em_OutOfPlace_OutOfPlace : PySem.W.exmOne K (.ref C_OutOfPlace) (.ref C_OutOfPlace) = some true)
    : ∃ (fd : FuncData) (cs : List (Addr × Addr)), (∀ p ∈ cs, h.get? p.2 = some { cls := .none, data := .fields #[] }) ∧ (∀ p ∈ cs, K.lookup p.2 = none) ∧ (∀ p ∈ cs, PySem.W.CodeHd h p.1 p.2) ∧ (∀ p ∈ Lt.tabs K mg, p.1 ∈ cs.map (·.2)) ∧
      (∀ (s : Shared) (u : Value), BindsTo s fd ⟨[u], []⟩ [("script", u)]) ∧ ∀ base : Heap, K.In base → base.Ns mainGlobals mg → (∀ p ∈ cs, LamX.TabB base mg p.1 p.2) → FnG l.prog w K mg base 11 fa fd ["script"] d_law := by
  have e := hfa.symm.trans (PySem.W.mg_of X G a_d_law)
  cases e
  obtain ⟨x_BadWish, e_BadWish⟩ := xx_BadWish
  obtain ⟨x_BadKind, e_BadKind⟩ := xx_BadKind
  obtain ⟨x_OutOfPlace, e_OutOfPlace⟩ := xx_OutOfPlace
  let T : Txt l.prog K mg :=
    { b_all := PySem.W.mg_none_of X G z_all
      b_any := PySem.W.mg_none_of X G z_any
      b_bool := PySem.W.mg_none_of X G z_bool
      b_enumerate := PySem.W.mg_none_of X G z_enumerate
      b_int := PySem.W.mg_none_of X G z_int
      b_isinstance := PySem.W.mg_none_of X G z_isinstance
      b_len := PySem.W.mg_none_of X G z_len
      b_list := PySem.W.mg_none_of X G z_list
      b_max := PySem.W.mg_none_of X G z_max
      b_min := PySem.W.mg_none_of X G z_min
      b_range := PySem.W.mg_none_of X G z_range
      b_repr := PySem.W.mg_none_of X G z_repr
      b_set := PySem.W.mg_none_of X G z_set
      b_sorted := PySem.W.mg_none_of X G z_sorted
      b_str := PySem.W.mg_none_of X G z_str
      b_tuple := PySem.W.mg_none_of X G z_tuple
      b_zip := PySem.W.mg_none_of X G z_zip
      t_AHEAD := t_AHEAD
      c_AHEAD := PySem.W.mg_of X G y_AHEAD
      t_BEHIND := t_BEHIND
      c_BEHIND := PySem.W.mg_of X G y_BEHIND
      t_EVEN := t_EVEN
      c_EVEN := PySem.W.mg_of X G y_EVEN
      t_MOST_AHEAD := t_MOST_AHEAD
      c_MOST_AHEAD := PySem.W.mg_of X G y_MOST_AHEAD
      t_MOST_DEEDS := t_MOST_DEEDS
      c_MOST_DEEDS := PySem.W.mg_of X G y_MOST_DEEDS
      t_MOST_HOLD := t_MOST_HOLD
      c_MOST_HOLD := PySem.W.mg_of X G y_MOST_HOLD
      t_MOST_STATES := t_MOST_STATES
      c_MOST_STATES := PySem.W.mg_of X G y_MOST_STATES
      t_OFF := t_OFF
      c_OFF := PySem.W.mg_of X G y_OFF
      d_law_begun := defT_mk X G a_d_law_begun l_d_law_begun c_d_law_begun k_d_law_begun fun _ _ _ _ _ _ us hl => match us, hl with | [_], _ => rfl
      d_law_next := defT_mk X G a_d_law_next l_d_law_next c_d_law_next k_d_law_next fun _ _ _ _ _ _ us hl => match us, hl with | [_, _], _ => rfl
      d_law_want := defT_mk X G a_d_law_want l_d_law_want c_d_law_want k_d_law_want fun _ _ _ _ _ _ us hl => match us, hl with | [_, _, _], _ => rfl
      d_law_sort := defT_mk X G a_d_law_sort l_d_law_sort c_d_law_sort k_d_law_sort fun _ _ _ _ _ _ us hl => match us, hl with | [_, _, _, _], _ => rfl
      d_law_live := defT_mk X G a_d_law_live l_d_law_live c_d_law_live k_d_law_live fun _ _ _ _ _ _ us hl => match us, hl with | [_], _ => rfl
      d_law_rows := defT_mk X G a_d_law_rows l_d_law_rows c_d_law_rows k_d_law_rows fun _ _ _ _ _ _ us hl => match us, hl with | [_, _], _ => rfl
      d_law_is_whole := defT_mk X G a_d_law_is_whole l_d_law_is_whole c_d_law_is_whole k_d_law_is_whole fun _ _ _ _ _ _ us hl => match us, hl with | [_, _, _], _ => rfl
      d_law_far := defT_mk X G a_d_law_far l_d_law_far c_d_law_far k_d_law_far fun _ _ _ _ _ _ us hl => match us, hl with | [_, _, _], _ => rfl
      d_law_is_spot := defT_mk X G a_d_law_is_spot l_d_law_is_spot c_d_law_is_spot k_d_law_is_spot fun _ _ _ _ _ _ us hl => match us, hl with | [_, _, _, _], _ => rfl
      d_law_spots := defT_mk X G a_d_law_spots l_d_law_spots c_d_law_spots k_d_law_spots fun _ _ _ _ _ _ us hl => match us, hl with | [_, _, _], _ => rfl
      d_is_whole := defT_mk X G a_d_is_whole l_d_is_whole c_d_is_whole k_d_is_whole fun _ _ _ _ _ _ us hl => match us, hl with | [_, _, _], _ => rfl
      d_is_row := defT_mk X G a_d_is_row l_d_is_row c_d_is_row k_d_is_row fun _ _ _ _ _ _ us hl => match us, hl with | [_, _], _ => rfl
      d_are_steps := defT_mk X G a_d_are_steps l_d_are_steps c_d_are_steps k_d_are_steps fun _ _ _ _ _ _ us hl => match us, hl with | [_, _], _ => rfl
      d_is_lot := defT_mk X G a_d_is_lot l_d_is_lot c_d_is_lot k_d_is_lot fun _ _ _ _ _ _ us hl => match us, hl with | [_, _], _ => rfl
      d_need_wish := defT_mk X G a_d_need_wish l_d_need_wish c_d_need_wish k_d_need_wish fun _ _ _ _ _ _ us hl => match us, hl with | [_], _ => rfl
      d_need_kind := defT_mk X G a_d_need_kind l_d_need_kind c_d_need_kind k_d_need_kind fun _ _ _ _ _ _ us hl => match us, hl with | [_, _], _ => rfl
      d_live_in := defT_mk X G a_d_live_in l_d_live_in c_d_live_in k_d_live_in fun _ _ _ _ _ _ us hl => match us, hl with | [_], _ => rfl
      d_is_waiting := defT_mk X G a_d_is_waiting l_d_is_waiting c_d_is_waiting k_d_is_waiting fun _ _ _ _ _ _ us hl => match us, hl with | [_, _], _ => rfl
      d_behind := defT_mk X G a_d_behind l_d_behind c_d_behind k_d_behind fun _ _ _ _ _ _ us hl => match us, hl with | [_, _, _], _ => rfl
      d_is_held := defT_mk X G a_d_is_held l_d_is_held c_d_is_held k_d_is_held fun _ _ _ _ _ _ us hl => match us, hl with | [_, _, _, _], _ => rfl
      d_is_position_of := defT_mk X G a_d_is_position_of l_d_is_position_of c_d_is_position_of k_d_is_position_of fun _ _ _ _ _ _ us hl => match us, hl with | [_, _, _], _ => rfl
      d_is_position := defT_mk X G a_d_is_position l_d_is_position c_d_is_position k_d_is_position fun _ _ _ _ _ _ us hl => match us, hl with | [_, _, _], _ => rfl
      d_law_forms_right := defT_mk X G a_d_law_forms_right l_d_law_forms_right c_d_law_forms_right k_d_law_forms_right fun _ _ _ _ _ _ us hl => match us, hl with | [_, _, _, _], _ => rfl
      d_need_deed := defT_mk X G a_d_need_deed l_d_need_deed c_d_need_deed k_d_need_deed fun _ _ _ _ _ _ us hl => match us, hl with | [_, _], _ => rfl
      d_need_position := defT_mk X G a_d_need_position l_d_need_position c_d_need_position k_d_need_position fun _ _ _ _ _ _ us hl => match us, hl with | [_, _, _, _], _ => rfl
      d_outputs_of := defT_mk X G a_d_outputs_of l_d_outputs_of c_d_outputs_of k_d_outputs_of fun _ _ _ _ _ _ us hl => match us, hl with | [_, _], _ => rfl
      d_rows_up_to := defT_mk X G a_d_rows_up_to l_d_rows_up_to c_d_rows_up_to k_d_rows_up_to fun _ _ _ _ _ _ us hl => match us, hl with | [_, _], _ => rfl
      d_live_behind := defT_mk X G a_d_live_behind l_d_live_behind c_d_live_behind k_d_live_behind fun _ _ _ _ _ _ us hl => match us, hl with | [_, _, _, _, _], _ => rfl
      d_doomed_behind := defT_mk X G a_d_doomed_behind l_d_doomed_behind c_d_doomed_behind k_d_doomed_behind fun _ _ _ _ _ _ us hl => match us, hl with | [_, _, _, _, _], _ => rfl
      d_behind_answer := defT_mk X G a_d_behind_answer l_d_behind_answer c_d_behind_answer k_d_behind_answer fun _ _ _ _ _ _ us hl => match us, hl with | [_, _, _, _, _], _ => rfl
      d_answers_in := defT_mk X G a_d_answers_in l_d_answers_in c_d_answers_in k_d_answers_in fun _ _ _ _ _ _ us hl => match us, hl with | [_, _, _, _], _ => rfl
      d_answers := defT_mk X G a_d_answers l_d_answers c_d_answers k_d_answers fun _ _ _ _ _ _ us hl => match us, hl with | [_, _, _, _], _ => rfl
      d_law_led := defT_mk X G a_d_law_led l_d_law_led c_d_law_led k_d_law_led fun _ _ _ _ _ _ us hl => match us, hl with | [_, _, _, _, _, _], _ => rfl
      d_law_answers := defT_mk X G a_d_law_answers l_d_law_answers c_d_law_answers k_d_law_answers fun _ _ _ _ _ _ us hl => match us, hl with | [_, _, _, _, _, _], _ => rfl
      d_led := defT_mk X G a_d_led l_d_led c_d_led k_d_led fun _ _ _ _ _ _ us hl => match us, hl with | [_, _, _, _, _], _ => rfl
      d_law_outcome := defT_mk X G a_d_law_outcome l_d_law_outcome c_d_law_outcome k_d_law_outcome fun _ _ _ _ _ _ us hl => match us, hl with | [_, _, _, _, _], _ => rfl
      d_law_spot_right := defT_mk X G a_d_law_spot_right l_d_law_spot_right c_d_law_spot_right k_d_law_spot_right fun _ _ _ _ _ _ us hl => match us, hl with | [_, _, _, _, _, _], _ => rfl
      d_law := defT_mk X G a_d_law l_d_law c_d_law k_d_law fun _ _ _ _ _ _ us hl => match us, hl with | [_], _ => rfl
      x_BadWish := x_BadWish
      x_BadKind := x_BadKind
      x_OutOfPlace := x_OutOfPlace
      m_OutOfPlace := by
        intro k hk
        simp only [known, List.mem_cons, List.not_mem_nil, or_false] at hk
        rcases hk with rfl | rfl | rfl
        · exact ⟨_, x_BadWish.g, by rw [e_BadWish, e_OutOfPlace, em_BadWish_OutOfPlace]; try decide⟩
        · exact ⟨_, x_BadKind.g, by rw [e_BadKind, e_OutOfPlace, em_BadKind_OutOfPlace]; try decide⟩
        · exact ⟨_, x_OutOfPlace.g, by rw [e_OutOfPlace, em_OutOfPlace_OutOfPlace]; try decide⟩ }
  refine ⟨T.d_law.fd, [], ?_, ?_, ?_, ?_, fun s v => .of_eq rfl, fun base _ _ TB => ok_d_law T ⟨⟩⟩
  · intro p hp
    simp only [List.mem_cons, List.not_mem_nil, or_false] at hp
  · intro p hp
    simp only [List.mem_cons, List.not_mem_nil, or_false] at hp
  · intro p hp
    simp only [List.mem_cons, List.not_mem_nil, or_false] at hp
  · intro p hp
    exact absurd hp (by show p ∉ []; simp)
--NAMES z_all z_any z_bool z_enumerate z_int z_isinstance z_len z_list z_max z_min z_range z_repr z_set z_sorted z_str z_tuple z_zip y_AHEAD y_BEHIND y_EVEN y_MOST_AHEAD y_MOST_DEEDS y_MOST_HOLD y_MOST_STATES y_OFF a_d_law_begun l_d_law_begun c_d_law_begun k_d_law_begun a_d_law_next l_d_law_next c_d_law_next k_d_law_next a_d_law_want l_d_law_want c_d_law_want k_d_law_want a_d_law_sort l_d_law_sort c_d_law_sort k_d_law_sort a_d_law_live l_d_law_live c_d_law_live k_d_law_live a_d_law_rows l_d_law_rows c_d_law_rows k_d_law_rows a_d_law_is_whole l_d_law_is_whole c_d_law_is_whole k_d_law_is_whole a_d_law_far l_d_law_far c_d_law_far k_d_law_far a_d_law_is_spot l_d_law_is_spot c_d_law_is_spot k_d_law_is_spot a_d_law_spots l_d_law_spots c_d_law_spots k_d_law_spots a_d_is_whole l_d_is_whole c_d_is_whole k_d_is_whole a_d_is_row l_d_is_row c_d_is_row k_d_is_row a_d_are_steps l_d_are_steps c_d_are_steps k_d_are_steps a_d_is_lot l_d_is_lot c_d_is_lot k_d_is_lot a_d_need_wish l_d_need_wish c_d_need_wish k_d_need_wish a_d_need_kind l_d_need_kind c_d_need_kind k_d_need_kind a_d_live_in l_d_live_in c_d_live_in k_d_live_in a_d_is_waiting l_d_is_waiting c_d_is_waiting k_d_is_waiting a_d_behind l_d_behind c_d_behind k_d_behind a_d_is_held l_d_is_held c_d_is_held k_d_is_held a_d_is_position_of l_d_is_position_of c_d_is_position_of k_d_is_position_of a_d_is_position l_d_is_position c_d_is_position k_d_is_position a_d_law_forms_right l_d_law_forms_right c_d_law_forms_right k_d_law_forms_right a_d_need_deed l_d_need_deed c_d_need_deed k_d_need_deed a_d_need_position l_d_need_position c_d_need_position k_d_need_position a_d_outputs_of l_d_outputs_of c_d_outputs_of k_d_outputs_of a_d_rows_up_to l_d_rows_up_to c_d_rows_up_to k_d_rows_up_to a_d_live_behind l_d_live_behind c_d_live_behind k_d_live_behind a_d_doomed_behind l_d_doomed_behind c_d_doomed_behind k_d_doomed_behind a_d_behind_answer l_d_behind_answer c_d_behind_answer k_d_behind_answer a_d_answers_in l_d_answers_in c_d_answers_in k_d_answers_in a_d_answers l_d_answers c_d_answers k_d_answers a_d_law_led l_d_law_led c_d_law_led k_d_law_led a_d_law_answers l_d_law_answers c_d_law_answers k_d_law_answers a_d_led l_d_led c_d_led k_d_led a_d_law_outcome l_d_law_outcome c_d_law_outcome k_d_law_outcome a_d_law_spot_right l_d_law_spot_right c_d_law_spot_right k_d_law_spot_right a_d_law l_d_law c_d_law k_d_law xa_BadWish xx_BadWish xa_BadKind xx_BadKind xa_OutOfPlace xx_OutOfPlace em_BadWish_OutOfPlace em_BadKind_OutOfPlace em_OutOfPlace_OutOfPlace
--HOW z_all k_is
--HOW z_any k_is
--HOW z_bool k_is
--HOW z_enumerate k_is
--HOW z_int k_is
--HOW z_isinstance k_is
--HOW z_len k_is
--HOW z_list k_is
--HOW z_max k_is
--HOW z_min k_is
--HOW z_range k_is
--HOW z_repr k_is
--HOW z_set k_is
--HOW z_sorted k_is
--HOW z_str k_is
--HOW z_tuple k_is
--HOW z_zip k_is
--HOW y_AHEAD k_is
--HOW y_BEHIND k_is
--HOW y_EVEN k_is
--HOW y_MOST_AHEAD k_is
--HOW y_MOST_DEEDS k_is
--HOW y_MOST_HOLD k_is
--HOW y_MOST_STATES k_is
--HOW y_OFF k_is
--HOW a_d_law_begun k_is
--HOW l_d_law_begun k_is
--HOW c_d_law_begun k_is
--HOW k_d_law_begun k_is
--HOW a_d_law_next k_is
--HOW l_d_law_next k_is
--HOW c_d_law_next k_is
--HOW k_d_law_next k_is
--HOW a_d_law_want k_is
--HOW l_d_law_want k_is
--HOW c_d_law_want k_is
--HOW k_d_law_want k_is
--HOW a_d_law_sort k_is
--HOW l_d_law_sort k_is
--HOW c_d_law_sort k_is
--HOW k_d_law_sort k_is
--HOW a_d_law_live k_is
--HOW l_d_law_live k_is
--HOW c_d_law_live k_is
--HOW k_d_law_live k_is
--HOW a_d_law_rows k_is
--HOW l_d_law_rows k_is
--HOW c_d_law_rows k_is
--HOW k_d_law_rows k_is
--HOW a_d_law_is_whole k_is
--HOW l_d_law_is_whole k_is
--HOW c_d_law_is_whole k_is
--HOW k_d_law_is_whole k_is
--HOW a_d_law_far k_is
--HOW l_d_law_far k_is
--HOW c_d_law_far k_is
--HOW k_d_law_far k_is
--HOW a_d_law_is_spot k_is
--HOW l_d_law_is_spot k_is
--HOW c_d_law_is_spot k_is
--HOW k_d_law_is_spot k_is
--HOW a_d_law_spots k_is
--HOW l_d_law_spots k_is
--HOW c_d_law_spots k_is
--HOW k_d_law_spots k_is
--HOW a_d_is_whole k_is
--HOW l_d_is_whole k_is
--HOW c_d_is_whole k_is
--HOW k_d_is_whole k_is
--HOW a_d_is_row k_is
--HOW l_d_is_row k_is
--HOW c_d_is_row k_is
--HOW k_d_is_row k_is
--HOW a_d_are_steps k_is
--HOW l_d_are_steps k_is
--HOW c_d_are_steps k_is
--HOW k_d_are_steps k_is
--HOW a_d_is_lot k_is
--HOW l_d_is_lot k_is
--HOW c_d_is_lot k_is
--HOW k_d_is_lot k_is
--HOW a_d_need_wish k_is
--HOW l_d_need_wish k_is
--HOW c_d_need_wish k_is
--HOW k_d_need_wish k_is
--HOW a_d_need_kind k_is
--HOW l_d_need_kind k_is
--HOW c_d_need_kind k_is
--HOW k_d_need_kind k_is
--HOW a_d_live_in k_is
--HOW l_d_live_in k_is
--HOW c_d_live_in k_is
--HOW k_d_live_in k_is
--HOW a_d_is_waiting k_is
--HOW l_d_is_waiting k_is
--HOW c_d_is_waiting k_is
--HOW k_d_is_waiting k_is
--HOW a_d_behind k_is
--HOW l_d_behind k_is
--HOW c_d_behind k_is
--HOW k_d_behind k_is
--HOW a_d_is_held k_is
--HOW l_d_is_held k_is
--HOW c_d_is_held k_is
--HOW k_d_is_held k_is
--HOW a_d_is_position_of k_is
--HOW l_d_is_position_of k_is
--HOW c_d_is_position_of k_is
--HOW k_d_is_position_of k_is
--HOW a_d_is_position k_is
--HOW l_d_is_position k_is
--HOW c_d_is_position k_is
--HOW k_d_is_position k_is
--HOW a_d_law_forms_right k_is
--HOW l_d_law_forms_right k_is
--HOW c_d_law_forms_right k_is
--HOW k_d_law_forms_right k_is
--HOW a_d_need_deed k_is
--HOW l_d_need_deed k_is
--HOW c_d_need_deed k_is
--HOW k_d_need_deed k_is
--HOW a_d_need_position k_is
--HOW l_d_need_position k_is
--HOW c_d_need_position k_is
--HOW k_d_need_position k_is
--HOW a_d_outputs_of k_is
--HOW l_d_outputs_of k_is
--HOW c_d_outputs_of k_is
--HOW k_d_outputs_of k_is
--HOW a_d_rows_up_to k_is
--HOW l_d_rows_up_to k_is
--HOW c_d_rows_up_to k_is
--HOW k_d_rows_up_to k_is
--HOW a_d_live_behind k_is
--HOW l_d_live_behind k_is
--HOW c_d_live_behind k_is
--HOW k_d_live_behind k_is
--HOW a_d_doomed_behind k_is
--HOW l_d_doomed_behind k_is
--HOW c_d_doomed_behind k_is
--HOW k_d_doomed_behind k_is
--HOW a_d_behind_answer k_is
--HOW l_d_behind_answer k_is
--HOW c_d_behind_answer k_is
--HOW k_d_behind_answer k_is
--HOW a_d_answers_in k_is
--HOW l_d_answers_in k_is
--HOW c_d_answers_in k_is
--HOW k_d_answers_in k_is
--HOW a_d_answers k_is
--HOW l_d_answers k_is
--HOW c_d_answers k_is
--HOW k_d_answers k_is
--HOW a_d_law_led k_is
--HOW l_d_law_led k_is
--HOW c_d_law_led k_is
--HOW k_d_law_led k_is
--HOW a_d_law_answers k_is
--HOW l_d_law_answers k_is
--HOW c_d_law_answers k_is
--HOW k_d_law_answers k_is
--HOW a_d_led k_is
--HOW l_d_led k_is
--HOW c_d_led k_is
--HOW k_d_led k_is
--HOW a_d_law_outcome k_is
--HOW l_d_law_outcome k_is
--HOW c_d_law_outcome k_is
--HOW k_d_law_outcome k_is
--HOW a_d_law_spot_right k_is
--HOW l_d_law_spot_right k_is
--HOW c_d_law_spot_right k_is
--HOW k_d_law_spot_right k_is
--HOW a_d_law k_is
--HOW l_d_law k_is
--HOW c_d_law k_is
--HOW k_d_law k_is
--HOW xa_BadWish k_is
--HOW xx_BadWish p_exc exb_V fld txt
--HOW xa_BadKind k_is
--HOW xx_BadKind p_exc exb_V fld txt
--HOW xa_OutOfPlace k_is
--HOW xx_OutOfPlace p_exc exb_V bare nm
--HOW em_BadWish_OutOfPlace kernel_rfl
--HOW em_BadKind_OutOfPlace kernel_rfl
--HOW em_OutOfPlace_OutOfPlace kernel_rfl
--LEVEL 11
end Mp
end SOkk03

section SMpS
set_option Elab.async false
set_option linter.all false
open PySem
namespace Mp
/-! plain: evaluation by simp -/
section
variable (e : Ev) (S : Sto)
@[simp] theorem mVar_e (i : Nat) : mVar i e S = match e[i]? with | some (some d) => .ok d S | _ => .bad := rfl
@[simp] theorem mC_e (d : D) : mC d e S = .ok d S := rfl
@[simp] theorem mOp_e (f : Op2) (a b : MEx) : mOp f a b e S = (a e S).bind fun x S => (b e S).bind fun y S => oo S (f S x y) := rfl
@[simp] theorem mIx_e (a b : MEx) : mIx a b e S = (a e S).bind fun x S => (b e S).bind fun y S => oo S (oIx S x y) := rfl
@[simp] theorem mNeg_e (a : MEx) : mNeg a e S = (a e S).bind fun x S => match x with | .int i => .ok (.int (-i)) S | _ => .bad := rfl
@[simp] theorem mChain_e (f g : Op2) (a b c : MEx) : mChain f g a b c e S = (a e S).bind fun x S => (b e S).bind fun y S => (oo S (f S x y)).bind fun r S => match r with
  | .bl true => (c e S).bind fun z S => oo S (g S y z)
  | .bl false => .ok (.bl false) S
  | _ => .bad := rfl
@[simp] theorem mtVal_e (a : MEx) : mtVal a e S = (a e S).bind fun x S => match x with | .bl b => .ok b S | _ => .bad := rfl
@[simp] theorem mtTruth_e (a : MEx) : mtTruth a e S = (a e S).bind fun x S => match truth S x with | some b => .ok b S | none => .bad := rfl
@[simp] theorem mtAnd_e (a b : MTs) : mtAnd a b e S = (a e S).bind fun x S => if x = true then b e S else .ok false S := rfl
@[simp] theorem mtOr_e (a b : MTs) : mtOr a b e S = (a e S).bind fun x S => if x = true then .ok true S else b e S := rfl
@[simp] theorem mtNot_e (a : MTs) : mtNot a e S = (a e S).bind fun x S => .ok (!x) S := rfl
@[simp] theorem mAnd_e (a b : MEx) : mAnd a b e S = (a e S).bind fun x S => match x with | .bl true => b e S | .bl false => .ok (.bl false) S | _ => .bad := rfl
@[simp] theorem mOr_e (a b : MEx) : mOr a b e S = (a e S).bind fun x S => match x with | .bl true => .ok (.bl true) S | .bl false => b e S | _ => .bad := rfl
@[simp] theorem mNot_e (a : MEx) : mNot a e S = (a e S).bind fun x S => match x with | .bl b => .ok (.bl (!b)) S | _ => .bad := rfl
@[simp] theorem mIf_e (t : MTs) (a b : MEx) : mIf t a b e S = (t e S).bind fun x S => if x = true then a e S else b e S := rfl
@[simp] theorem aNil_e : aNil e S = .ok [] S := rfl
@[simp] theorem aCons_e (a : MEx) (r : MAs) : aCons a r e S = (a e S).bind fun x S => (r e S).bind fun xs S => .ok (x :: xs) S := rfl
@[simp] theorem aOf_nil : aOf [] = aNil := rfl
@[simp] theorem aOf_cons (m : MEx) (r : List MEx) : aOf (m :: r) = aCons m (aOf r) := rfl
@[simp] theorem mTup_e (a : MAs) : mTup a e S = (a e S).bind fun xs S => if xs.length ≤ sizeLine then .ok (.tup xs) S else .bad := rfl
@[simp] theorem mFrz_e (l : MAs) : mFrz l e S = (l e S).bind fun xs S => .ok (.lst xs) S := rfl
@[simp] theorem mNew_e (l : MAs) : mNew l e S = (l e S).bind fun xs S => if noCloL xs = true then .ok (.loc S.length) (S ++ [.list xs]) else .bad := rfl
@[simp] theorem lDisp_e (a : MAs) : lDisp a e S = (a e S).bind fun xs S => if xs.length ≤ sizeLine then .ok xs S else .bad := rfl
@[simp] theorem lCat_e (a b : MEx) : lCat a b e S = (a e S).bind fun x S => (b e S).bind fun y S => match lstOf S x, lstOf S y with
  | some a, some b => if a.length + b.length ≤ sizeLine then .ok (a ++ b) S else .bad
  | _, _ => .bad := rfl
@[simp] theorem lB_e (f : Ln) (a : MAs) : lB f a e S = (a e S).bind fun xs S => oo S (f S xs) := rfl
@[simp] theorem pNone_e : pNone e S = .ok none S := rfl
@[simp] theorem pSome_e (a : MEx) : pSome a e S = (a e S).bind fun x S => match x with | .int i => .ok (some i) S | _ => .bad := rfl
@[simp] theorem lSlice_e (a : MEx) (lo hi : MOp) : lSlice a lo hi e S = (a e S).bind fun x S => (lo e S).bind fun l S => (hi e S).bind fun h S => match lstOf S x with
  | some xs => .ok (cut xs l h) S
  | none => .bad := rfl
@[simp] theorem mSlT_e (a : MEx) (lo hi : MOp) : mSlT a lo hi e S = (a e S).bind fun x S => (lo e S).bind fun l S => (hi e S).bind fun h S => match x with
  | .tup xs => .ok (.tup (cut xs l h)) S
  | _ => .bad := rfl
@[simp] theorem mSlA_e (a : MEx) (lo hi : MOp) : mSlA a lo hi e S = (a e S).bind fun x S => (lo e S).bind fun l S => (hi e S).bind fun h S => match x with
  | .tup xs => .ok (.tup (cut xs l h)) S
  | x => match lstOf S x with
    | some xs => .ok (.lst (cut xs l h)) S
    | none => .bad := rfl
@[simp] theorem mCall_e (f : Dn) (a : MAs) : mCall f a e S = (a e S).bind fun xs S => match f xs S with
  | .ok d S => .ok d S
  | .exc x _ S => .exc x e S
  | .bad => .bad := rfl
@[simp] theorem mB_e (f : Bn) (a : MAs) : mB f a e S = (a e S).bind fun xs S => oo S (f S xs) := rfl
@[simp] theorem mIsA_e (c : String) (a : MEx) : mIsA c a e S = (a e S).bind fun x S => oo S ((isA S x c).map .bl) := rfl
@[simp] theorem wSeq_e (a : MEx) : wSeq a e S = (a e S).bind fun x S => match x with
  | .tup xs => .ok ⟨xs, none⟩ S
  | .lst xs => .ok ⟨xs, none⟩ S
  | .loc n => match S[n]? with
    | some (.list xs) => .ok ⟨xs, some n⟩ S
    | _ => .bad
  | _ => .bad := rfl
def rngOk (j : Int) : Prop := -(2 ^ 62) ≤ j ∧ j < 2 ^ 62
noncomputable instance (j : Int) : Decidable (rngOk j) := Classical.propDecidable _
theorem rngOk_of {j : Int} (h0 : 0 ≤ j) (h : j < 1000000) : rngOk j := ⟨by omega, by omega⟩
@[simp] theorem wRng1_e (a : MEx) : wRng1 a e S = (a e S).bind fun x S => match x with
  | .int j => if rngOk j then .ok ⟨rng 0 j.toNat, none⟩ S else .bad
  | _ => .bad := by
  unfold wRng1
  congr
  funext x S
  cases x <;> try rfl
  rename_i j
  by_cases h : rngOk j
  · simp only [if_pos h]; exact if_pos h
  · simp only [if_neg h]; exact if_neg h
@[simp] theorem wRng2_e (a b : MEx) : wRng2 a b e S = (a e S).bind fun x S => (b e S).bind fun y S => match x, y with
  | .int i, .int j => if rngOk i ∧ rngOk j then .ok ⟨rng i (j - i).toNat, none⟩ S else .bad
  | _, _ => .bad := by
  unfold wRng2
  congr
  funext x S
  congr
  funext y S
  cases x <;> try rfl
  cases y <;> try rfl
  rename_i i j
  by_cases h : rngOk i ∧ rngOk j
  · simp only [if_pos h]; exact if_pos h
  · simp only [if_neg h]; exact if_neg h
@[simp] theorem wEnum_e (a : MEx) : wEnum a e S = (a e S).bind fun x S => match x with
  | .tup xs => .ok ⟨enumD xs, none⟩ S
  | .lst xs => .ok ⟨enumD xs, none⟩ S
  | _ => .bad := rfl
@[simp] theorem wZip_e (a b : MEx) : wZip a b e S = (a e S).bind fun x S => (b e S).bind fun y S => match x, y with
  | .tup xs, .tup ys => .ok ⟨zipD xs ys, none⟩ S
  | .lst xs, .lst ys => .ok ⟨zipD xs ys, none⟩ S
  | _, _ => .bad := rfl
@[simp] theorem tYes_e : tYes e S = .ok true S := rfl
@[simp] theorem lComp_e (s : MSrc) (own : List Nat) (p : Pat) (t : MTs) (f : MEx) : lComp s own p t f e S = (s e S).bind fun r S => if r.items.length < sizeLine then calm (compGo r (wipeE e own) p t f r.items S) else .bad := rfl
@[simp] theorem sPass_e : sPass e S = .ok (.nx e) S := rfl
theorem sSeq_e (a b : MSt) : sSeq a b e S = (a e S).bind fun f S => match f with | .nx e => b e S | f => .ok f S := rfl
@[simp] theorem sAsg_e (p : Pat) (a : MEx) : sAsg p a e S = (a e S).bind fun d S => match bindP p d e with | some e => .ok (.nx e) S | none => .bad := rfl
@[simp] theorem sEx_e (a : MEx) : sEx a e S = (a e S).bind fun _ S => .ok (.nx e) S := rfl
@[simp] theorem sRet_e (a : MEx) : sRet a e S = (a e S).bind fun d S => .ok (.rt d) S := rfl
@[simp] theorem sIf_e (t : MTs) (a b : MSt) : sIf t a b e S = (t e S).bind fun x S => if x = true then a e S else b e S := rfl
@[simp] theorem sSet_e (o i v : MEx) : sSet o i v e S = (v e S).bind fun v S => (o e S).bind fun o S => (i e S).bind fun i S => match oSet S o i v with
  | some S => .ok (.nx e) S
  | none => .bad := rfl
@[simp] theorem sAug_e (i : Nat) (f : Op2) (a : MEx) : sAug i f a e S = match e[i]? with
  | some (some x) => (a e S).bind fun y S => match f S x y with
    | some d => .ok (.nx (e.set i (some d))) S
    | none => .bad
  | _ => .bad := rfl
@[simp] theorem mAppend_e (o v : MEx) : mAppend o v e S = (o e S).bind fun o S => match lstOf S o with
  | none => .bad
  | some _ => (v e S).bind fun v S => match o with
    | .loc n => match S[n]? with
      | some (.list xs) => if xs.length < sizeLine ∧ noClo v = true then .ok .non (S.set n (.list (xs ++ [v]))) else .bad
      | _ => .bad
    | _ => .bad := rfl
@[simp] theorem sFor_e (s : MSrc) (p : Pat) (b : MSt) : sFor s p b e S = (s e S).bind fun r S => forGo r p b r.items e S := rfl
@[simp] theorem sWhile_e (t : MTs) (b : MSt) : sWhile t b e S = whileGo t b fuel e S := rfl
@[simp] theorem mDict_e (ks : List Str) (a : MAs) : mDict ks a e S = (calm (a e S)).bind fun vs S => if vs.length = ks.length ∧ ks.Nodup ∧ ks.length ≤ 15 ∧ noCloL vs = true then .ok (.loc S.length) (S ++ [.dict ((ks.map D.str).zip vs)]) else .bad := rfl
theorem mDef_e (k n : Nat) (b : MSt) (ds : List D) : mDef k n b ds S = if ds.length = k then (b (ds.map some ++ List.replicate n none) S).bind fun f S => match f with
  | .rt d => .ok d S
  | .nx _ => .ok .non S
  | _ => .bad
  else .bad := rfl
end
theorem get_last (S : Sto) (a : O) : (S ++ [a])[S.length]? = some a := by simp
theorem set_last (S : Sto) (a b : O) : (S ++ [a]).set S.length b = S ++ [b] := by simp
@[simp] theorem bindP_nm (i : Nat) (d : D) (e : Ev) : bindP (.nm i) d e = some (e.set i (some d)) := by rw [bindP]
@[simp] theorem bindP_tp (ps : List Pat) (ds : List D) (e : Ev) : bindP (.tp ps) (.tup ds) e = bindPs ps ds e := by rw [bindP]
@[simp] theorem bindPs_nil (e : Ev) : bindPs [] [] e = some e := by rw [bindPs]
@[simp] theorem bindPs_cons (p : Pat) (ps : List Pat) (d : D) (ds : List D) (e : Ev) : bindPs (p :: ps) (d :: ds) e = match bindP p d e with | some e => bindPs ps ds e | none => none := by rw [bindPs]; all_goals (cases bindP p d e <;> rfl)
@[simp] theorem wipeE_nil (e : Ev) : wipeE e [] = e := rfl
@[simp] theorem wipeE_cons (e : Ev) (i : Nat) (r : List Nat) : wipeE e (i :: r) = (wipeE e r).set i none := rfl
section
variable (S : Sto) (i j : Int) (a b : Bool)
@[simp] theorem oAdd_ii : oAdd S (.int i) (.int j) = some (.int (i + j)) := rfl
@[simp] theorem oSub_ii : oSub S (.int i) (.int j) = some (.int (i - j)) := rfl
@[simp] theorem oMul_ii : oMul S (.int i) (.int j) = if small i ∨ small j then some (.int (i * j)) else none := rfl
@[simp] theorem oFdiv_ii : oFdiv S (.int i) (.int j) = if 0 < j ∧ j < 1073741824 then some (.int (i / j)) else none := rfl
@[simp] theorem oMod_ii : oMod S (.int i) (.int j) = if 0 < j then some (.int (i % j)) else none := rfl
@[simp] theorem oPow_ii : oPow S (.int i) (.int j) = if 0 ≤ j ∧ j ≤ 1000000 ∧ i.natAbs < 2 ^ 64 then some (.int (i ^ j.toNat)) else none := rfl
@[simp] theorem cLt_ii : cLt S (.int i) (.int j) = some (.bl (decide (i < j))) := rfl
@[simp] theorem cLe_ii : cLe S (.int i) (.int j) = some (.bl (decide (i ≤ j))) := rfl
@[simp] theorem cGt_ii : cGt S (.int i) (.int j) = some (.bl (decide (j < i))) := rfl
@[simp] theorem cGe_ii : cGe S (.int i) (.int j) = some (.bl (decide (j ≤ i))) := rfl
@[simp] theorem bInt_i : bInt S [.int i] = some (.int i) := rfl
@[simp] theorem bMin2_ii : bMin2 S [.int i, .int j] = some (.int (if j < i then j else i)) := rfl
@[simp] theorem bMax2_ii : bMax2 S [.int i, .int j] = some (.int (if j > i then j else i)) := rfl
@[simp] theorem eqP_ii : eqP (.int i) (.int j) = decide (i = j) := by simp [eqP, toP, PyData.eqv]; rfl
@[simp] theorem eqP_ss (x y : Str) : eqP (.str x) (.str y) = decide (x = y) := by simp [eqP, toP, PyData.eqv]; rfl
@[simp] theorem cEq_ii : cEq S (.int i) (.int j) = some (.bl (decide (i = j))) := by simp [cEq, oEq, rs, fin, isStr]
@[simp] theorem cNe_ii : cNe S (.int i) (.int j) = some (.bl (!decide (i = j))) := by simp [cNe, oEq, rs, fin, isStr]
@[simp] theorem cNe_ss (x y : Str) : cNe S (.str x) (.str y) = some (.bl (!decide (x = y))) := by simp [cNe, oEq, isStr]
@[simp] theorem cEq_ss (x y : Str) : cEq S (.str x) (.str y) = some (.bl (decide (x = y))) := by simp [cEq, oEq, isStr]
@[simp] theorem cIsN_i : cIsN S (.int i) .non = some (.bl false) := by simp [cIsN]
@[simp] theorem cIsN_n : cIsN S .non .non = some (.bl true) := by simp [cIsN]
@[simp] theorem truth_b : truth S (.bl a) = some a := rfl
@[simp] theorem bLen_t (xs : List D) : bLen S [.tup xs] = some (.int xs.length) := rfl
@[simp] theorem bLen_l (xs : List D) : bLen S [.lst xs] = some (.int xs.length) := rfl
@[simp] theorem bLen_loc (n : Nat) : bLen S [.loc n] = match S[n]? with | some (.list ys) => some (.int ys.length) | _ => none := rfl
@[simp] theorem bTuple_l (xs : List D) : bTuple S [.lst xs] = some (.tup xs) := rfl
@[simp] theorem bTuple_t (xs : List D) : bTuple S [.tup xs] = some (.tup xs) := rfl
@[simp] theorem bTuple_loc (n : Nat) : bTuple S [.loc n] = match S[n]? with | some (.list ys) => some (.tup ys) | _ => none := by
  simp only [bTuple, seqOf, lstOf]
  cases h : S[n]? with
  | none => rfl
  | some o => cases o <;> rfl
@[simp] theorem fList_l (xs : List D) : fList S [.lst xs] = some xs := rfl
@[simp] theorem fList_t (xs : List D) : fList S [.tup xs] = some xs := rfl
@[simp] theorem bAll_l (bs : List Bool) : bAll S [.lst (bs.map .bl)] = some (.bl (bs.all id)) := by simp [bAll, lstOf, boolsD_map]
@[simp] theorem bAny_l (bs : List Bool) : bAny S [.lst (bs.map .bl)] = some (.bl (bs.any id)) := by simp [bAny, lstOf, boolsD_map]
@[simp] theorem bAll_m {α : Type} (xs : List α) (P : α → Bool) : bAll S [.lst (xs.map fun x => .bl (P x))] = some (.bl (xs.all P)) := by
  have := bAll_l S (xs.map P)
  simpa [List.map_map, Function.comp_def] using this
@[simp] theorem bAny_m {α : Type} (xs : List α) (P : α → Bool) : bAny S [.lst (xs.map fun x => .bl (P x))] = some (.bl (xs.any P)) := by
  have := bAny_l S (xs.map P)
  simpa [List.map_map, Function.comp_def] using this
@[simp] theorem fSortI_l (bs : List Int) : fSortI S [.lst (bs.map .int)] = some ((sortI bs).map .int) := by simp [fSortI, lstOf, intsD_map]
@[simp] theorem lstOf_l (xs : List D) : lstOf S (.lst xs) = some xs := rfl
@[simp] theorem lstOf_loc (n : Nat) : lstOf S (.loc n) = match S[n]? with | some (.list xs) => some xs | _ => none := rfl
@[simp] theorem isA_i (c : String) : isA S (.int i) c = some (isAB "int" c) := rfl
@[simp] theorem isA_b (c : String) : isA S (.bl a) c = some (isAB "bool" c) := rfl
@[simp] theorem isA_t (xs : List D) (c : String) : isA S (.tup xs) c = some (isAB "tuple" c) := rfl
@[simp] theorem isA_l (xs : List D) (c : String) : isA S (.lst xs) c = some (isAB "list" c) := rfl
@[simp] theorem isAB_ii : isAB "int" "int" = true := by decide
@[simp] theorem isAB_ib : isAB "int" "bool" = false := by decide
@[simp] theorem isAB_tt : isAB "tuple" "tuple" = true := by decide
@[simp] theorem oIx_t (xs : List D) : oIx S (.tup xs) (.int i) = (ixN xs.length i).bind fun j => xs[j]? := rfl
@[simp] theorem oIx_l (xs : List D) : oIx S (.lst xs) (.int i) = (ixN xs.length i).bind fun j => xs[j]? := rfl
@[simp] theorem oIx_loc (n : Nat) (y : D) : oIx S (.loc n) y = match S[n]? with
    | some (.dict kvs) => dget y kvs
    | some (.map _ kvs) => if keyOk y = true then dget y kvs else none
    | some (.list xs) => match y with
      | .int i => (ixN xs.length i).bind fun j => xs[j]?
      | _ => none
    | _ => none := rfl
theorem ixN_lt {n : Nat} {k : Nat} (h : k < n) : ixN n (k : Int) = some k := by
  rw [ixN, if_neg (by omega), if_pos (by omega)]
  rfl
theorem ixN_int {n : Nat} {i : Int} (h0 : 0 ≤ i) (h : i < n) : ixN n i = some i.toNat := by
  rw [ixN, if_neg (by omega), if_pos h]
end
@[simp] theorem ok_or (x y : Bool) (S : Sto) : (if x = true then Out.ok true S else Out.ok y S) = .ok (x || y) S := by cases x <;> rfl
@[simp] theorem ok_and (x y : Bool) (S : Sto) : (if x = true then Out.ok y S else Out.ok false S) = .ok (x && y) S := by cases x <;> rfl
/-! plain data: no locations, no dicts, no closures -/
mutual
def plain : D → Bool
  | .tup xs => plainL xs
  | .lst xs => plainL xs
  | .loc _ => false
  | .dct _ _ _ => false
  | .clo _ _ => false
  | _ => true
def plainL : List D → Bool
  | [] => true
  | x :: xs => plain x && plainL xs
end
mutual
theorem plain_noClo : ∀ (d : D), plain d = true → noClo d = true
  | .non, _ => by simp [noClo]
  | .bl _, _ => by simp [noClo]
  | .int _, _ => by simp [noClo]
  | .str _, _ => by simp [noClo]
  | .tup xs, h => by simp [plain] at h; simp [noClo, plainL_noClo xs h]
  | .lst xs, h => by simp [plain] at h; simp [noClo, plainL_noClo xs h]
  | .loc _, h => by simp [plain] at h
  | .dct _ _ _, h => by simp [plain] at h
  | .clo _ _, h => by simp [plain] at h
theorem plainL_noClo : ∀ (ds : List D), plainL ds = true → noCloL ds = true
  | [], _ => by simp [noCloL]
  | d :: ds, h => by simp [plainL] at h; simp [noCloL, plain_noClo d h.1, plainL_noClo ds h.2]
end
mutual
theorem plain_old (n : Nat) : ∀ (d : D), plain d = true → old n d = true
  | .non, _ => by simp [old]
  | .bl _, _ => by simp [old]
  | .int _, _ => by simp [old]
  | .str _, _ => by simp [old]
  | .tup xs, h => by simp [plain] at h; simp [old, plainL_old n xs h]
  | .lst xs, h => by simp [plain] at h; simp [old, plainL_old n xs h]
  | .loc _, h => by simp [plain] at h
  | .dct _ _ _, h => by simp [plain] at h
  | .clo _ _, h => by simp [plain] at h
theorem plainL_old (n : Nat) : ∀ (ds : List D), plainL ds = true → oldL n ds = true
  | [], _ => by simp [oldL]
  | d :: ds, h => by simp [plainL] at h; simp [oldL, plain_old n d h.1, plainL_old n ds h.2]
end
mutual
theorem plain_frz (n : Nat) (g : Nat → Option D) : ∀ (d : D), plain d = true → frzD n g d = some d
  | .non, _ => by simp [frzD]
  | .bl _, _ => by simp [frzD]
  | .int _, _ => by simp [frzD]
  | .str _, _ => by simp [frzD]
  | .tup xs, h => by simp [plain] at h; simp [frzD, plainL_frz n g xs h]
  | .lst xs, h => by simp [plain] at h; simp [frzD, plainL_frz n g xs h]
  | .loc _, h => by simp [plain] at h
  | .dct _ _ _, h => by simp [plain] at h
  | .clo _ _, h => by simp [plain] at h
theorem plainL_frz (n : Nat) (g : Nat → Option D) : ∀ (ds : List D), plainL ds = true → frzL n g ds = some ds
  | [], _ => by simp [frzL]
  | d :: ds, h => by simp [plainL] at h; simp [frzL, plain_frz n g d h.1, plainL_frz n g ds h.2]
end
theorem plainL_all : ∀ (ds : List D), plainL ds = ds.all plain
  | [] => by simp [plainL]
  | d :: ds => by simp [plainL, plainL_all ds]
theorem plainL_ints (ns : List Int) : plainL (ns.map .int) = true := by
  rw [plainL_all]; simp [plain]
@[simp] theorem noClo_non : noClo .non = true := by simp [noClo]
@[simp] theorem noClo_bl (b : Bool) : noClo (.bl b) = true := by simp [noClo]
@[simp] theorem noClo_int (b : Int) : noClo (.int b) = true := by simp [noClo]
@[simp] theorem noClo_str (b : Str) : noClo (.str b) = true := by simp [noClo]
@[simp] theorem noClo_loc (b : Nat) : noClo (.loc b) = true := by simp [noClo]
@[simp] theorem noClo_tup (b : List D) : noClo (.tup b) = noCloL b := by simp [noClo]
@[simp] theorem noClo_lst (b : List D) : noClo (.lst b) = noCloL b := by simp [noClo]
@[simp] theorem noCloL_nil : noCloL [] = true := by simp [noCloL]
@[simp] theorem noCloL_cons (d : D) (b : List D) : noCloL (d :: b) = (noClo d && noCloL b) := by simp [noCloL]
@[simp] theorem noCloL_ints (ns : List Int) : noCloL (ns.map .int) = true := plainL_noClo _ (plainL_ints ns)
/-! == of data with itself -/
mutual
theorem eqP_refl : ∀ (n : Nat) (d : D), fin n d = true → PyData.eqv (toP d) (toP d) = true
  | _, .non, _ => by simp [toP, PyData.eqv]
  | _, .bl _, _ => by simp [toP, PyData.eqv]
  | _, .int _, _ => by simp [toP, PyData.eqv]
  | _, .str _, _ => by simp [toP, PyData.eqv]
  | 0, .tup _, h => by simp [fin] at h
  | n + 1, .tup xs, h => by
    simp [fin] at h
    simp [toP, PyData.eqv, eqPs_refl n xs h]
  | 0, .lst _, h => by simp [fin] at h
  | n + 1, .lst xs, h => by
    simp [fin] at h
    simp [toP, PyData.eqv, eqPs_refl n xs h]
  | _, .loc _, h => by simp [fin] at h
  | _, .dct _ _ _, h => by simp [fin] at h
  | _, .clo _ _, h => by simp [fin] at h
theorem eqPs_refl : ∀ (n : Nat) (ds : List D), finL n ds = true → PyData.eqvAll (toPs ds) (toPs ds) = true
  | _, [], _ => by simp [toPs, PyData.eqvAll]
  | n, d :: ds, h => by
    simp [finL] at h
    simp [toPs, PyData.eqvAll, eqP_refl n d h.1, eqPs_refl n ds h.2]
end
theorem cNe_self (S : Sto) (d : D) (h : fin deepN (rs S d) = true) : cNe S d d = some (.bl false) := by
  have := eqP_refl _ _ h
  unfold cNe oEq
  split
  · rename_i c
    cases d <;> simp [isStr] at c
    simp [eqP, toP, PyData.eqv]
  · simp [h, eqP, this]
theorem fin_ints (n : Nat) : ∀ ns : List Int, finL n (ns.map .int) = true
  | [] => by simp [finL]
  | x :: xs => by simp [finL, fin, fin_ints n xs]
theorem any_ints (x : Int) : ∀ ns : List Int, (ns.map D.int).any (fun z => eqP z (.int x)) = decide (x ∈ ns)
  | [] => by simp
  | y :: ns => by
    rw [List.map_cons, List.any_cons, any_ints x ns]
    simp [eq_comm]
theorem flat_ints : ∀ ns : List Int, (ns.map D.int).all flatD = true
  | [] => rfl
  | x :: xs => by rw [List.map_cons, List.all_cons, flat_ints xs]; rfl
theorem oIn_t (S : Sto) (x : Int) (ns : List Int) : oIn S (.int x) (.tup (ns.map .int)) = some (decide (x ∈ ns)) := by
  simp only [oIn, flat_ints, any_ints, flatD, and_self, if_true]
theorem oIn_l (S : Sto) (x : Int) (ns : List Int) : oIn S (.int x) (.lst (ns.map .int)) = some (decide (x ∈ ns)) := by
  simp only [oIn, lstOf_l, fin, fin_ints, any_ints, and_self, if_true]
theorem oIn_loc {S : Sto} {n : Nat} (x : Int) {ns : List Int} (h : S[n]? = some (.list (ns.map .int))) : oIn S (.int x) (.loc n) = some (decide (x ∈ ns)) := by
  simp only [oIn, lstOf_loc, h, fin, fin_ints, any_ints, and_self, if_true]
@[simp] theorem cIn_t (S : Sto) (x : Int) (ns : List Int) : cIn S (.int x) (.tup (ns.map .int)) = some (.bl (decide (x ∈ ns))) := by simp [cIn, oIn_t]
@[simp] theorem cNotIn_t (S : Sto) (x : Int) (ns : List Int) : cNotIn S (.int x) (.tup (ns.map .int)) = some (.bl (!decide (x ∈ ns))) := by simp [cNotIn, oIn_t]
@[simp] theorem cIn_l (S : Sto) (x : Int) (ns : List Int) : cIn S (.int x) (.lst (ns.map .int)) = some (.bl (decide (x ∈ ns))) := by simp [cIn, oIn_l]
@[simp] theorem cNotIn_l (S : Sto) (x : Int) (ns : List Int) : cNotIn S (.int x) (.lst (ns.map .int)) = some (.bl (!decide (x ∈ ns))) := by simp [cNotIn, oIn_l]
theorem cut_1 (xs : List D) : cut xs (some 1) none = xs.tail := by
  cases xs with
  | nil => simp [cut, sIx]
  | cons x r => simp [cut, sIx]
theorem zip_asc : ∀ {xs : List Int}, xs.Pairwise (· < ·) → ∀ p ∈ xs.zip xs.tail, p.1 < p.2
  | [], _, p, hp => by simp at hp
  | [x], _, p, hp => by simp at hp
  | x :: y :: r, h, p, hp => by
    simp only [List.tail_cons, List.zip_cons_cons, List.mem_cons] at hp
    rcases hp with rfl | hp
    · exact (List.pairwise_cons.1 h).1 y (by simp)
    · exact zip_asc (List.pairwise_cons.1 h).2 p hp
theorem zipD_ints (xs ys : List Int) : zipD (xs.map .int) (ys.map .int) = (xs.zip ys).map fun p => .tup [.int p.1, .int p.2] := by
  simp [zipD, List.zip_map, List.map_map, Function.comp_def]
/-! sorting -/
theorem sort_asc {F : List Int} (h : F.Nodup) : (sortI F).Pairwise (· < ·) := by
  have p := List.mergeSort_perm F (fun a b => decide (a ≤ b))
  have s : (sortI F).Pairwise (fun a b => decide (a ≤ b) = true) := List.pairwise_mergeSort (fun a b c h1 h2 => by simp at h1 h2 ⊢; omega) (fun a b => by simp; omega) F
  have n : (sortI F).Nodup := p.symm.nodup h
  have := List.pairwise_and_iff.2 ⟨s, n⟩
  refine this.imp ?_
  rintro a b ⟨h1, h2⟩
  simp at h1
  omega
theorem mem_sort {F : List Int} {x : Int} : x ∈ sortI F ↔ x ∈ F := List.mem_mergeSort
theorem asc_nodup {F : List Int} (h : F.Pairwise (· < ·)) : F.Nodup := h.imp (fun h => by omega)
theorem asc_unique {A B : List Int} (hA : A.Pairwise (· < ·)) (hB : B.Pairwise (· < ·)) (h : ∀ x, x ∈ A ↔ x ∈ B) : A = B :=
  List.Perm.eq_of_pairwise (le := (· < ·)) (fun a b _ _ h1 h2 => by omega) hA hB ((List.perm_ext_iff_of_nodup (asc_nodup hA) (asc_nodup hB)).2 h)
theorem nodup_len {F : List Int} {n : Nat} (h : F.Nodup) (hr : ∀ x ∈ F, 0 ≤ x ∧ x < n) : F.length ≤ n := by
  have := h.length_le_of_subset (l₂ := (List.range n).map fun (k : Nat) => (k : Int)) (fun x hx => by
    have := hr x hx
    simp only [List.mem_map, List.mem_range]
    exact ⟨x.toNat, by omega, by omega⟩)
  simpa using this
theorem once_all : ∀ F : List Int, (once F).Nodup ∧ ∀ x, x ∈ once F ↔ x ∈ F
  | [] => by simp [once]
  | y :: F => by
    obtain ⟨h1, h2⟩ := once_all F
    unfold once
    split
    · rename_i hy
      refine ⟨h1, fun x => ?_⟩
      rw [h2]
      constructor
      · exact fun h => .tail _ h
      · intro h
        cases h with
        | head => exact hy
        | tail _ h => exact h
    · rename_i hy
      refine ⟨List.nodup_cons.2 ⟨by rw [h2]; exact hy, h1⟩, fun x => ?_⟩
      simp [h2]
/-! walks -/
theorem compGo_pure {r : Src} {e : Ev} {p : Pat} {t : MTs} {f : MEx} {S : Sto} {α : Type} (g : α → D) (q : α → Bool) (o : α → D) (e1 : α → Ev) (hc : chk r S = true) :
    ∀ xs : List α, (∀ x ∈ xs, bindP p (g x) e = some (e1 x) ∧ t (e1 x) S = .ok (q x) S ∧ (q x = true → f (e1 x) S = .ok (o x) S)) → compGo r e p t f (xs.map g) S = .ok ((xs.filter q).map o) S
  | [], _ => by simp [compGo, hc]
  | x :: xs, h => by
    obtain ⟨h1, h2, h3⟩ := h x (by simp)
    have ih := compGo_pure g q o e1 hc xs (fun y hy => h y (by simp [hy]))
    simp only [List.map_cons, compGo, hc, if_true, h1, h2, bind_ok]
    cases hq : q x with
    | true => simp [h3 hq, ih, hq]
    | false => simp [ih, hq]
theorem compGo_map {r : Src} {e : Ev} {p : Pat} {f : MEx} {S : Sto} {α : Type} (g : α → D) (o : α → D) (e1 : α → Ev) (hc : chk r S = true)
    (xs : List α) (h : ∀ x ∈ xs, bindP p (g x) e = some (e1 x) ∧ f (e1 x) S = .ok (o x) S) : compGo r e p tYes f (xs.map g) S = .ok (xs.map o) S := by
  have := compGo_pure (t := tYes) g (fun _ => true) o e1 hc xs (fun x hx => ⟨(h x hx).1, rfl, fun _ => (h x hx).2⟩)
  rw [List.filter_eq_self.2 (by simp)] at this
  exact this
/-- it ends well, with this; an inductive, so that nothing unfolds it -/
inductive Tot {α : Type} : Out α → (α → Sto → Prop) → Prop where
  | mk {a : α} {S : Sto} {Q : α → Sto → Prop} : Q a S → Tot (.ok a S) Q
@[simp] theorem tot_ok {α : Type} (a : α) (S : Sto) (Q : α → Sto → Prop) : Tot (.ok a S) Q ↔ Q a S := ⟨fun h => by cases h; assumption, .mk⟩
theorem tot_bind {α β : Type} {o : Out α} {f : α → Sto → Out β} {Q : β → Sto → Prop} (h : Tot o fun a S => Tot (f a S) Q) : Tot (o.bind f) Q := by
  cases h with
  | mk h => exact h
theorem tot_mono {α : Type} {o : Out α} {P Q : α → Sto → Prop} (h : Tot o P) (k : ∀ a S, P a S → Q a S) : Tot o Q := by
  cases h with
  | mk h => exact .mk (k _ _ h)
theorem tot_gen {α : Type} {o : Out α} {P : α → Sto → Prop} (h : ∀ Q : α → Sto → Prop, (∀ a S, P a S → Q a S) → Tot o Q) : Tot o P := h P (fun _ _ h => h)
theorem tot_calm {α : Type} {o : Out α} {P : α → Sto → Prop} (h : Tot o P) : Tot (calm o) P := by
  cases h with
  | mk h => exact .mk h
theorem tot_ex {α : Type} {o : Out α} {P : α → Sto → Prop} (h : Tot o P) : ∃ a S, o = .ok a S ∧ P a S := by
  cases h with
  | mk h => exact ⟨_, _, rfl, h⟩
def retQ (Q : D → Sto → Prop) : Fl → Sto → Prop
  | .rt d, S => Q d S
  | .nx _, S => Q .non S
  | _, _ => False
def nxQ (b : MSt) (Q : Fl → Sto → Prop) : Fl → Sto → Prop
  | .nx e, S => Tot (b e S) Q
  | f, S => Q f S
@[simp] theorem retQ_rt (Q : D → Sto → Prop) (d : D) (S : Sto) : retQ Q (.rt d) S = Q d S := rfl
@[simp] theorem retQ_nx (Q : D → Sto → Prop) (e : Ev) (S : Sto) : retQ Q (.nx e) S = Q .non S := rfl
@[simp] theorem nxQ_nx (b : MSt) (Q : Fl → Sto → Prop) (e : Ev) (S : Sto) : nxQ b Q (.nx e) S = Tot (b e S) Q := rfl
@[simp] theorem nxQ_rt (b : MSt) (Q : Fl → Sto → Prop) (d : D) (S : Sto) : nxQ b Q (.rt d) S = Q (.rt d) S := rfl
theorem tot_def {k n : Nat} {b : MSt} {ds : List D} {S : Sto} {Q : D → Sto → Prop} (h : ds.length = k) (q : Tot (b (ds.map some ++ List.replicate n none) S) (retQ Q)) : Tot (mDef k n b ds S) Q := by
  rw [mDef_e, if_pos h]
  refine tot_bind (tot_mono q ?_)
  intro f S h
  cases f <;> first | exact .mk h | exact absurd h id
theorem shut_plain {S : Sto} {d : D} (h : plain d = true) : shut S.length S d S = .ok d S := by
  unfold shut
  rw [if_pos (by simp)]
  unfold frz
  rw [plain_frz _ _ _ h]
/-- a pure def that leaves the store -/
theorem defP_ok {k n : Nat} {b : MSt} {ds : List D} {S : Sto} {d : D} (h : ds.length = k) (q : Tot (b (ds.map some ++ List.replicate n none) S) (retQ fun d' S' => d' = d ∧ S' = S)) (hp : plain d = true) : mDefP k n b ds S = .ok d S := by
  unfold mDefP
  rw [if_pos h]
  cases hb : b (ds.map some ++ List.replicate n none) S with
  | bad => rw [hb] at q; cases q
  | exc x e S' => rw [hb] at q; cases q
  | ok f S' =>
    rw [hb] at q
    cases f with
    | rt d' => obtain ⟨rfl, rfl⟩ := (tot_ok _ _ _).1 q; exact shut_plain hp
    | nx e =>
      obtain ⟨e1, rfl⟩ := (tot_ok _ _ _).1 q
      subst e1
      exact shut_plain hp
    | bk e => cases q with | mk q => exact q.elim
    | ct e => cases q with | mk q => exact q.elim
theorem defP_tot {k n : Nat} {b : MSt} {ds : List D} {S : Sto} {Q : D → Sto → Prop} (h : ds.length = k) (hp : ∀ d S', Q d S' → S' = S ∧ plain d = true) (q : Tot (b (ds.map some ++ List.replicate n none) S) (retQ Q)) : Tot (mDefP k n b ds S) Q := by
  unfold mDefP
  rw [if_pos h]
  cases hb : b (ds.map some ++ List.replicate n none) S with
  | bad => rw [hb] at q; cases q
  | exc x e S' => rw [hb] at q; cases q
  | ok f S' =>
    rw [hb] at q
    cases f with
    | rt d' =>
      have q' := (tot_ok _ _ _).1 q
      obtain ⟨rfl, h2⟩ := hp _ _ q'
      show Tot (shut _ _ _ _) _
      rw [shut_plain h2]
      exact .mk q'
    | nx e =>
      have q' : Q .non S' := (tot_ok (Fl.nx e) S' (retQ Q)).1 q
      obtain ⟨rfl, h2⟩ := hp _ _ q'
      show Tot (shut _ _ _ _) _
      rw [shut_plain h2]
      exact .mk q'
    | bk e => cases q with | mk q => exact q.elim
    | ct e => cases q with | mk q => exact q.elim
/-- .. with lists of its own -/
theorem defP_new {k n : Nat} {b : MSt} {ds : List D} {S : Sto} {d : D} (h : ds.length = k) (q : Tot (b (ds.map some ++ List.replicate n none) S) (retQ fun d' S' => S'.take S.length = S ∧ frz S.length S' d' = some d)) : mDefP k n b ds S = .ok d S := by
  unfold mDefP
  rw [if_pos h]
  cases hb : b (ds.map some ++ List.replicate n none) S with
  | bad => rw [hb] at q; cases q
  | exc x e S' => rw [hb] at q; cases q
  | ok f S' =>
    rw [hb] at q
    cases f with
    | rt d' => obtain ⟨h1, h2⟩ := (tot_ok _ _ _).1 q; show shut _ _ _ _ = _; unfold shut; rw [if_pos h1, h2]
    | nx e => obtain ⟨h1, h2⟩ := (tot_ok _ _ _).1 q; show shut _ _ _ _ = _; unfold shut; rw [if_pos h1, h2]
    | bk e => cases q with | mk q => exact q.elim
    | ct e => cases q with | mk q => exact q.elim
/-- .. and is not told exactly -/
theorem defP_some {k n : Nat} {b : MSt} {ds : List D} {S : Sto} {P : D → Prop} (h : ds.length = k) (q : Tot (b (ds.map some ++ List.replicate n none) S) (retQ fun d' S' => ∃ d, S'.take S.length = S ∧ frz S.length S' d' = some d ∧ P d)) : ∃ d, mDefP k n b ds S = .ok d S ∧ P d := by
  obtain ⟨f, S', h1, h2⟩ := tot_ex q
  cases f with
  | rt d' => obtain ⟨d, k1, k2, k3⟩ := h2; exact ⟨d, defP_new h (by rw [h1]; exact .mk ⟨k1, k2⟩), k3⟩
  | nx e => obtain ⟨d, k1, k2, k3⟩ := h2; exact ⟨d, defP_new h (by rw [h1]; exact .mk ⟨k1, k2⟩), k3⟩
  | bk e => exact h2.elim
  | ct e => exact h2.elim
theorem frz_plain {n : Nat} {S : Sto} {d : D} (h : plain d = true) : frz n S d = some d := by
  unfold frz
  exact plain_frz _ _ _ h
/-- .. that raises -/
theorem defP_exc {k n : Nat} {b : MSt} {ds : List D} {S : Sto} {x : Exn} {e : Ev} (h : ds.length = k) (q : b (ds.map some ++ List.replicate n none) S = .exc x e S) (hp : plainL (x.fs.map (·.2)) = true) : mDefP k n b ds S = .exc x [] S := by
  unfold mDefP
  rw [if_pos h, q]
  simp [plainL_old _ _ hp]
theorem tot_seq {a b : MSt} {e : Ev} {S : Sto} {Q : Fl → Sto → Prop} (q : Tot (a e S) (nxQ b Q)) : Tot (sSeq a b e S) Q := by
  rw [sSeq_e]
  refine tot_bind (tot_mono q ?_)
  intro f S h
  cases f <;> first | exact h | exact .mk h
theorem tot_call {f : Dn} {a : MAs} {e : Ev} {S : Sto} {Q : D → Sto → Prop} (q : Tot (a e S) fun xs S => Tot (f xs S) Q) : Tot (mCall f a e S) Q := by
  rw [mCall_e]
  refine tot_bind (tot_mono q ?_)
  intro xs S h
  obtain ⟨d, S', h1, h2⟩ := tot_ex h
  rw [h1]; exact .mk h2
@[simp] theorem tot_seq_iff {a b : MSt} {e : Ev} {S : Sto} {Q : Fl → Sto → Prop} : Tot (sSeq a b e S) Q ↔ Tot (a e S) (nxQ b Q) := by
  refine ⟨fun h => ?_, tot_seq⟩
  rw [sSeq_e] at h
  cases ha : a e S with
  | ok f S' =>
    rw [ha, bind_ok] at h
    cases f with
    | nx e => exact .mk h
    | _ => exact .mk (show Q _ S' from (tot_ok _ S' Q).1 h)
  | exc _ _ _ => rw [ha] at h; cases h
  | bad => rw [ha] at h; cases h
theorem eq_of_tot {α : Type} {o : Out α} {v : α} {S : Sto} (h : Tot o fun a S' => a = v ∧ S' = S) : o = .ok v S := by
  obtain ⟨a, S', h1, rfl, rfl⟩ := tot_ex h
  exact h1
/-- a comprehension that changes the store -/
theorem compGo_tot {r : Src} {e : Ev} {p : Pat} {f : MEx} {t : MTs} (J : Nat → Sto → Prop) (P : D → Prop) :
    ∀ (xs : List D) (k : Nat) (S : Sto), J k S → (∀ k S, J k S → chk r S = true) → (∀ i (hi : i < xs.length) S, J (k + i) S → ∃ e1, bindP p xs[i] e = some e1 ∧ Tot (t e1 S) fun b S => if b = true then Tot (f e1 S) fun y S => P y ∧ J (k + i + 1) S else J (k + i + 1) S) →
      Tot (compGo r e p t f xs S) fun ys S => J (k + xs.length) S ∧ ys.length ≤ xs.length ∧ ∀ y ∈ ys, P y
  | [], k, S, h, hc, _ => by simp [compGo, hc k S h, h]
  | x :: xs, k, S, h, hc, hx => by
    obtain ⟨e1, h1, h2⟩ := hx 0 (by simp) S h
    simp only [List.getElem_cons_zero] at h1
    simp only [compGo, hc k S h, if_true, h1]
    have hx' : ∀ i (hi : i < xs.length) S, J (k + 1 + i) S → ∃ e1, bindP p xs[i] e = some e1 ∧ Tot (t e1 S) fun b S => if b = true then Tot (f e1 S) fun y S => P y ∧ J (k + 1 + i + 1) S else J (k + 1 + i + 1) S := by
      intro i hi S h4
      have := hx (i + 1) (by simpa using hi) S (by rwa [Nat.add_right_comm, Nat.add_assoc] at h4)
      simpa [Nat.add_assoc, Nat.add_comm 1, Nat.add_left_comm] using this
    refine tot_bind (tot_mono h2 ?_)
    intro b S h3
    cases b with
    | true =>
      simp only [if_true] at h3 ⊢
      refine tot_bind (tot_mono h3 ?_)
      intro y S h4
      refine tot_bind (tot_mono (compGo_tot J P xs (k + 1) S h4.2 hc hx') ?_)
      intro ys S h5
      simp only [tot_ok, List.length_cons]
      refine ⟨by have := h5.1; rwa [Nat.add_right_comm] at this, by omega, ?_⟩
      intro z hz
      cases hz with
      | head => exact h4.1
      | tail _ hz => exact h5.2.2 z hz
    | false =>
      simp only [Bool.false_eq_true, if_false] at h3 ⊢
      refine tot_mono (compGo_tot J P xs (k + 1) S h3 hc hx') ?_
      intro ys S h5
      simp only [List.length_cons]
      exact ⟨by have := h5.1; rwa [Nat.add_right_comm] at this, by omega, h5.2.2⟩
/-- the same, each item kept -/
theorem compGo_each {r : Src} {e : Ev} {p : Pat} {f : MEx} (J : Nat → Sto → Prop) (P : D → Prop) :
    ∀ (xs : List D) (k : Nat) (S : Sto), J k S → (∀ k S, J k S → chk r S = true) → (∀ i (hi : i < xs.length) S, J (k + i) S → ∃ e1, bindP p xs[i] e = some e1 ∧ Tot (f e1 S) fun y S => P y ∧ J (k + i + 1) S) →
      Tot (compGo r e p tYes f xs S) fun ys S => J (k + xs.length) S ∧ ys.length = xs.length ∧ ∀ y ∈ ys, P y
  | [], k, S, h, hc, _ => by simp [compGo, hc k S h, h]
  | x :: xs, k, S, h, hc, hx => by
    obtain ⟨e1, h1, h2⟩ := hx 0 (by simp) S h
    simp only [List.getElem_cons_zero] at h1
    simp only [compGo, hc k S h, if_true, h1, tYes_e, bind_ok]
    have hx' : ∀ i (hi : i < xs.length) S, J (k + 1 + i) S → ∃ e1, bindP p xs[i] e = some e1 ∧ Tot (f e1 S) fun y S => P y ∧ J (k + 1 + i + 1) S := by
      intro i hi S h4
      have := hx (i + 1) (by simpa using hi) S (by rwa [Nat.add_right_comm, Nat.add_assoc] at h4)
      simpa [Nat.add_assoc, Nat.add_comm 1, Nat.add_left_comm] using this
    refine tot_bind (tot_mono h2 ?_)
    intro y S h4
    refine tot_bind (tot_mono (compGo_each J P xs (k + 1) S h4.2 hc hx') ?_)
    intro ys S h5
    simp only [tot_ok, List.length_cons]
    refine ⟨by have := h5.1; rwa [Nat.add_right_comm] at this, by omega, ?_⟩
    intro z hz
    cases hz with
    | head => exact h4.1
    | tail _ hz => exact h5.2.2 z hz
/-- a for that runs to its end -/
theorem forGo_tot {r : Src} {p : Pat} {b : MSt} (J : Nat → Ev → Sto → Prop) :
    ∀ (xs : List D) (k : Nat) (e : Ev) (S : Sto), J k e S → (∀ k e S, J k e S → chk r S = true) → (∀ i (hi : i < xs.length) e S, J (k + i) e S → ∃ e1, bindP p xs[i] e = some e1 ∧ Tot (b e1 S) fun f S => ∃ e2, f = .nx e2 ∧ J (k + i + 1) e2 S) →
      Tot (forGo r p b xs e S) fun f S => ∃ e2, f = .nx e2 ∧ J (k + xs.length) e2 S
  | [], k, e, S, h, hc, _ => by simp [forGo, hc k e S h, h]
  | x :: xs, k, e, S, h, hc, hx => by
    obtain ⟨e1, h1, h2⟩ := hx 0 (by simp) e S h
    simp only [List.getElem_cons_zero] at h1
    simp only [forGo, hc k e S h, if_true, h1]
    refine tot_bind (tot_mono h2 ?_)
    rintro f S ⟨e2, rfl, h3⟩
    refine tot_mono (forGo_tot J xs (k + 1) e2 S h3 hc (fun i hi e S h4 => ?_)) ?_
    · have := hx (i + 1) (by simpa using hi) e S (by rwa [Nat.add_right_comm, Nat.add_assoc] at h4)
      simpa [Nat.add_assoc, Nat.add_comm 1, Nat.add_left_comm] using this
    · rintro f S ⟨e3, rfl, h5⟩
      exact ⟨e3, rfl, by simpa [Nat.add_assoc, Nat.add_comm 1] using h5⟩
/-- a while by a measure -/
theorem whileGo_tot {t : MTs} {b : MSt} (J : Nat → Ev → Sto → Prop) (Z : Ev → Sto → Prop)
    (hs : ∀ k e S, J k e S → Tot (t e S) fun c S => if c = true then Tot (b e S) fun f S => ∃ e2 k', f = .nx e2 ∧ k' < k ∧ J k' e2 S else Z e S) :
    ∀ (n k : Nat) (e : Ev) (S : Sto), k < n → J k e S → Tot (whileGo t b n e S) fun f S => ∃ e2, f = .nx e2 ∧ Z e2 S
  | 0, k, e, S, hk, _ => absurd hk (Nat.not_lt_zero _)
  | n + 1, k, e, S, hk, h => by
    simp only [whileGo]
    refine tot_bind (tot_mono (hs k e S h) ?_)
    intro c S h1
    cases c with
    | true =>
      simp only [if_true] at h1 ⊢
      refine tot_bind (tot_mono h1 ?_)
      rintro f S ⟨e2, k', rfl, hk', h2⟩
      exact whileGo_tot J Z hs n k' e2 S (by omega) h2
    | false =>
      simp only [Bool.false_eq_true, if_false] at h1 ⊢
      exact ⟨e, rfl, h1⟩
end Mp
end SMpS

section SMnk03
set_option Elab.async false
set_option linter.all false
open PySem
namespace Mp
/-! the drawer -/
def kv (c l : Nat) (k : Int) : List (D × D) := [(.str "cells", .loc c), (.str "left", .loc l), (.str "at", .int k)]
@[simp] theorem kv_c (c l : Nat) (k : Int) : dget (.str "cells") (kv c l k) = some (.loc c) := rfl
@[simp] theorem kv_l (c l : Nat) (k : Int) : dget (.str "left") (kv c l k) = some (.loc l) := rfl
@[simp] theorem kv_k (c l : Nat) (k : Int) : dget (.str "at") (kv c l k) = some (.int k) := rfl
@[simp] theorem kv_sl (c l n : Nat) (k : Int) : dput (.str "left") (.loc n) (kv c l k) = kv c n k := rfl
@[simp] theorem kv_sk (c l : Nat) (k j : Int) : dput (.str "at") (.int j) (kv c l k) = kv c l j := rfl
@[simp] theorem kv_len (c l : Nat) (k : Int) : (kv c l k).length = 3 := rfl
structure Inv1 (B : List (Nat × O)) (K : Nat) (S : Sto) (m c l : Nat) (k : Int) (cells left : List Int) : Prop where
  hm : S[m]? = some (.dict (kv c l k))
  hc : S[c]? = some (.list (cells.map .int))
  hl : S[l]? = some (.list (left.map .int))
  cm : c ≠ m
  lm : l ≠ m
  cl : c ≠ l
  k0 : 0 ≤ k
  kK : k ≤ K
  ll : left.length < 1000
  hB : ∀ p ∈ B, S[p.1]? = some p.2 ∧ p.1 ≠ m ∧ p.1 ≠ l ∧ p.1 ≠ c
def Inv (m : Nat) (B : List (Nat × O)) (K : Nat) (S : Sto) : Prop := ∃ c l k cells left, Inv1 B K S m c l k cells left
theorem Inv.up {m : Nat} {B : List (Nat × O)} {K K' : Nat} {S : Sto} (h : Inv m B K S) (hK : K ≤ K') : Inv m B K' S := by
  obtain ⟨c, l, k, cells, left, h⟩ := h
  exact ⟨c, l, k, cells, left, { h with kK := by have := h.kK; omega }⟩
theorem cNe_nil {S : Sto} {l : Nat} {ns : List Int} (h : S[l]? = some (.list (ns.map .int))) : cNe S (.loc l) (.lst []) = some (.bl (!ns.isEmpty)) := by
  have e : rs S (.loc l) = .lst (ns.map .int) := by simp [rs, h]
  unfold cNe oEq
  rw [e]
  have f : fin deepN (.lst (ns.map .int)) = true := by simp [deepN, fin, fin_ints]
  have f2 : fin deepN (rs S (.lst [])) = true := by simp [deepN, fin, finL, rs]
  simp only [f, f2, isStr]
  cases ns <;> simp [eqP, toP, toPs, rs, PyData.eqv, PyData.eqvAll]
theorem get_set {S : Sto} {n k : Nat} {o x : O} (h : S[n]? = some x) (hk : k ≠ n) : (S.set k o)[n]? = some x := by
  rw [List.getElem?_set_ne hk]; exact h
theorem get_at {S : Sto} {n : Nat} {o x : O} (h : S[n]? = some x) : (S.set n o)[n]? = some o := by
  have := (List.getElem?_eq_some_iff.1 h).1
  simp [this]
theorem get_app {S : Sto} {n : Nat} {x : O} (T : Sto) (h : S[n]? = some x) : (S ++ T)[n]? = some x := by
  have := (List.getElem?_eq_some_iff.1 h).1
  rw [List.getElem?_append_left this]; exact h
theorem lt_of_get {S : Sto} {n : Nat} {x : O} (h : S[n]? = some x) : n < S.length := (List.getElem?_eq_some_iff.1 h).1
theorem Inv1.pop {B : List (Nat × O)} {K : Nat} {S : Sto} {m c l : Nat} {k : Int} {cells left left' : List Int} (h : Inv1 B K S m c l k cells left) (hl : left'.length < 1000) :
    Inv1 B K ((S ++ [O.list (left'.map .int)]).set m (.dict (kv c S.length k))) m c S.length k cells left' := by
  have l1 := lt_of_get h.hm
  have l2 := lt_of_get h.hc
  exact { hm := get_at (get_app _ h.hm), hc := get_set (get_app _ h.hc) (Ne.symm h.cm), hl := get_set (by simp) (by omega), cm := h.cm, lm := by omega, cl := by omega, k0 := h.k0, kK := h.kK, ll := hl
          hB := fun p hp => ⟨get_set (get_app _ (h.hB p hp).1) (Ne.symm (h.hB p hp).2.1), (h.hB p hp).2.1, by have := lt_of_get (h.hB p hp).1; omega, (h.hB p hp).2.2.2⟩ }
theorem Inv1.at_ {B : List (Nat × O)} {K : Nat} {S : Sto} {m c l : Nat} {k : Int} {cells left : List Int} (h : Inv1 B K S m c l k cells left) :
    Inv1 B (K + 1) (S.set m (.dict (kv c l (k + 1)))) m c l (k + 1) cells left := by
  have := h.k0
  have := h.kK
  exact { hm := get_at h.hm, hc := get_set h.hc (Ne.symm h.cm), hl := get_set h.hl (Ne.symm h.lm), cm := h.cm, lm := h.lm, cl := h.cl, k0 := by omega, kK := by omega, ll := h.ll
          hB := fun p hp => ⟨get_set (h.hB p hp).1 (Ne.symm (h.hB p hp).2.1), (h.hB p hp).2.1, (h.hB p hp).2.2⟩ }
theorem Inv1.put {B : List (Nat × O)} {K : Nat} {S : Sto} {m c l : Nat} {k : Int} {cells left left' : List Int} (h : Inv1 B K S m c l k cells left) (hl : left'.length < 1000) :
    Inv1 B K (S.set l (.list (left'.map .int))) m c l k cells left' := by
  exact { hm := get_set h.hm h.lm, hc := get_set h.hc (Ne.symm h.cl), hl := get_at h.hl, cm := h.cm, lm := h.lm, cl := h.cl, k0 := h.k0, kK := h.kK, ll := hl
          hB := fun p hp => ⟨get_set (h.hB p hp).1 (Ne.symm (h.hB p hp).2.2.1), (h.hB p hp).2.1, (h.hB p hp).2.2⟩ }
theorem Inv.app {m : Nat} {B : List (Nat × O)} {K : Nat} {S : Sto} (h : Inv m B K S) (T : Sto) : Inv m B K (S ++ T) := by
  obtain ⟨c, l, k, cells, left, h⟩ := h
  exact ⟨c, l, k, cells, left, { h with hm := get_app _ h.hm, hc := get_app _ h.hc, hl := get_app _ h.hl, hB := fun p hp => ⟨get_app _ (h.hB p hp).1, (h.hB p hp).2⟩ }⟩
theorem Inv.new {m : Nat} {B : List (Nat × O)} {K : Nat} {S : Sto} (h : Inv m B K S) (o : O) : Inv m ((S.length, o) :: B) K (S ++ [o]) := by
  obtain ⟨c, l, k, cells, left, h⟩ := h
  refine ⟨c, l, k, cells, left, { h with hm := get_app _ h.hm, hc := get_app _ h.hc, hl := get_app _ h.hl, hB := fun p hp => ?_ }⟩
  cases hp with
  | head =>
    have := lt_of_get h.hm
    have := lt_of_get h.hc
    have := lt_of_get h.hl
    exact ⟨by simp, by simp; omega, by simp; omega, by simp; omega⟩
  | tail _ hp => exact ⟨get_app _ (h.hB p hp).1, (h.hB p hp).2⟩
theorem Inv.setf {m n : Nat} {o o' : O} {K : Nat} {S : Sto} (h : Inv m [(n, o)] K S) : Inv m [(n, o')] K (S.set n o') := by
  obtain ⟨c, l, k, cells, left, h⟩ := h
  obtain ⟨h1, h2, h3, h4⟩ := h.hB (n, o) (by simp)
  refine ⟨c, l, k, cells, left, { h with hm := get_set h.hm h2, hc := get_set h.hc h4, hl := get_set h.hl h3, hB := fun p hp => ?_ }⟩
  simp at hp
  subst hp
  exact ⟨get_at h1, h2, h3, h4⟩
theorem Inv.get {m n : Nat} {o : O} {B : List (Nat × O)} {K : Nat} {S : Sto} (h : Inv m B K S) (hp : (n, o) ∈ B) : S[n]? = some o := by
  obtain ⟨c, l, k, cells, left, h⟩ := h
  exact (h.hB _ hp).1
theorem Inv.sub {m : Nat} {B B' : List (Nat × O)} {K : Nat} {S : Sto} (h : Inv m B K S) (hs : ∀ p ∈ B', p ∈ B) : Inv m B' K S := by
  obtain ⟨c, l, k, cells, left, h⟩ := h
  exact ⟨c, l, k, cells, left, { h with hB := fun p hp => h.hB p (hs p hp) }⟩
theorem ints_of {P : Int → Prop} : ∀ {ys : List D}, (∀ y ∈ ys, ∃ i : Int, y = .int i ∧ P i) → ∃ gs : List Int, ys = gs.map .int ∧ ∀ i ∈ gs, P i
  | [], _ => ⟨[], rfl, by simp⟩
  | y :: ys, h => by
    obtain ⟨i, rfl, hi⟩ := h y (by simp)
    obtain ⟨gs, rfl, hg⟩ := ints_of (ys := ys) (fun z hz => h z (by simp [hz]))
    refine ⟨i :: gs, rfl, ?_⟩
    intro j hj
    cases hj with
    | head => exact hi
    | tail _ hj => exact hg j hj
theorem cut1 (x : D) (xs : List D) : cut (x :: xs) (some 1) none = xs := by
  simp [cut, sIx]
theorem small_of {i : Int} (h0 : 0 ≤ i) (h : i < 2 ^ 64) : small i := ⟨by omega, h⟩
theorem next_ok {B : List (Nat × O)} {K m : Nat} {S : Sto} (T : Int) (hT : 0 < T) (hT2 : T < 1073741824) (hK : K < 1000000) (h : Inv m B K S) :
    Tot (d_law_next [.loc m, .int T] S) fun d S' => (∃ r : Int, d = .int r ∧ 0 ≤ r ∧ r < T) ∧ Inv m B (K + 1) S' := by
  obtain ⟨c, l, k, cells, left, h⟩ := h
  refine tot_def rfl (tot_seq ?_)
  rw [sWhile_e]
  let e0 : Ev := [some (.loc m), some (.int T), none, none, none, none]
  show Tot (whileGo _ _ fuel e0 S) _
  refine tot_mono (whileGo_tot (fun n e S => e = e0 ∧ ∃ l left, Inv1 B K S m c l k cells left ∧ n = left.length) (fun e S => e = e0 ∧ ∃ l left, Inv1 B K S m c l k cells left ∧ (left = [] ∨ ∃ x r, left = x :: r ∧ x ≠ 0)) ?_ fuel left.length _ _ ?_ ⟨rfl, l, left, h, rfl⟩) ?_
  · rintro n e S ⟨rfl, l, left, h, rfl⟩
    cases left with
    | nil =>
      simp [e0, h.hm, cNe_nil h.hl, sizeLine]
      exact ⟨l, [], h, by simp⟩
    | cons x r =>
      have hl := h.hl
      simp [e0, h.hm, cNe_nil h.hl, sizeLine, hl, ixN]
      by_cases hx : x = 0
      · subst hx
        simp [oSet, get_app _ h.hm, sizeLine, cut1]
        exact ⟨r.length, by omega, S.length, r, h.pop (by have := h.ll; simp at this; omega), rfl⟩
      · simp [hx]
        exact ⟨l, x :: r, h, .inr ⟨x, ⟨r, rfl⟩, hx⟩⟩
  · have := h.ll
    simp [fuel]; omega
  rintro f S ⟨e2, rfl, rfl, l, left, h, hd⟩
  rw [nxQ_nx]
  refine tot_seq ?_
  have hl := h.hl
  have hc := h.hc
  rcases hd with rfl | ⟨x, r, rfl, hx⟩
  · simp [e0, h.hm, cNe_nil h.hl, sizeLine, oSet]
    have h2 := h.at_
    simp [h2.hm, cNe_nil h2.hc, h2.hc]
    refine tot_bind (tot_mono (P := fun d S' => (∃ v, d = .int v) ∧ S' = S.set m (.dict (kv c l (k + 1)))) ?_ ?_)
    · cases cells with
      | nil => simp
      | cons x r =>
        have a1 : 0 ≤ (k + 1) % ((r.length + 1 : Nat) : Int) := Int.emod_nonneg _ (by omega)
        have a2 : (k + 1) % ((r.length + 1 : Nat) : Int) < ((x :: r).length : Nat) := Int.emod_lt_of_pos _ (by omega)
        have a2' := a2
        simp only [List.length_cons] at a2'
        have a3 : ((k + 1) % ((r.length + 1 : Nat) : Int)).toNat < ((x :: r).map D.int).length := by rw [List.length_map, List.length_cons]; omega
        have hc2 := h2.hc
        simp only [reduceCtorEq, if_false, List.length_cons, Nat.zero_lt_succ, if_true, oo_some, bind_ok]
        rw [hc2]
        simp only [List.length_map]
        rw [ixN_int a1 a2]
        simp only [Option.bind_some]
        rw [List.getElem?_eq_getElem a3]
        simp only [oo_some, tot_ok, and_true]
        rw [List.getElem_map]
        exact ⟨_, rfl⟩
    · rintro d S' ⟨⟨v, rfl⟩, rfl⟩
      have s1 : small (k + 1) := by
        have := h.k0
        have := h.kK
        exact small_of (by omega) (by omega)
      simp (decide := true) [s1, hT]
      exact ⟨⟨Int.emod_nonneg _ (by omega), Int.emod_lt_of_pos _ hT⟩, c, l, _, cells, [], h2⟩
  · simp [e0, h.hm, cNe_nil h.hl, sizeLine, hl, ixN, hT, hT2, oSet]
    refine ⟨⟨Int.emod_nonneg _ (by omega), Int.emod_lt_of_pos _ hT⟩, ?_⟩
    have := (h.put (left' := x / T :: r) (by have := h.ll; simpa using this))
    exact Inv.up ⟨c, l, k, cells, x / T :: r, by simpa using this⟩ (by omega)
end Mp
end SMnk03

section SMxk03
set_option Elab.async false
set_option linter.all false
open PySem
namespace Mp
/-! data that is plain and short -/
mutual
def tame : D → Bool
  | .tup xs => decide (xs.length < 1000) && tameL xs
  | .lst xs => decide (xs.length < 1000) && tameL xs
  | .loc _ => false
  | .dct _ _ _ => false
  | .clo _ _ => false
  | _ => true
def tameL : List D → Bool
  | [] => true
  | x :: xs => tame x && tameL xs
end
theorem tameL_all : ∀ (ds : List D), tameL ds = ds.all tame
  | [] => by simp [tameL]
  | d :: ds => by simp [tameL, tameL_all ds]
mutual
theorem tame_plain : ∀ (d : D), tame d = true → plain d = true
  | .non, _ => by simp [plain]
  | .bl _, _ => by simp [plain]
  | .int _, _ => by simp [plain]
  | .str _, _ => by simp [plain]
  | .tup xs, h => by simp [tame] at h; simp [plain, tameL_plain xs h.2]
  | .lst xs, h => by simp [tame] at h; simp [plain, tameL_plain xs h.2]
  | .loc _, h => by simp [tame] at h
  | .dct _ _ _, h => by simp [tame] at h
  | .clo _ _, h => by simp [tame] at h
theorem tameL_plain : ∀ (ds : List D), tameL ds = true → plainL ds = true
  | [], _ => by simp [plainL]
  | d :: ds, h => by simp [tameL] at h; simp [plainL, tame_plain d h.1, tameL_plain ds h.2]
end
theorem tame_tup {xs : List D} (h : tame (.tup xs) = true) : xs.length < 1000 ∧ ∀ x ∈ xs, tame x = true := by
  simp [tame, tameL_all] at h; exact h
theorem tame_mk {xs : List D} (h1 : xs.length < 1000) (h2 : ∀ x ∈ xs, tame x = true) : tame (.tup xs) = true := by
  simp [tame, tameL_all]; exact ⟨h1, h2⟩
theorem tame_mkL {xs : List D} (h1 : xs.length < 1000) (h2 : ∀ x ∈ xs, tame x = true) : tame (.lst xs) = true := by
  simp [tame, tameL_all]; exact ⟨h1, h2⟩
@[simp] theorem tame_int (i : Int) : tame (.int i) = true := by simp [tame]
@[simp] theorem tame_non : tame .non = true := by simp [tame]
@[simp] theorem tame_bl (i : Bool) : tame (.bl i) = true := by simp [tame]
@[simp] theorem tame_str (i : Str) : tame (.str i) = true := by simp [tame]
/-! what the checks say -/
def isW (x : D) (lo hi : Int) : Bool := match x with
  | .int i => decide (lo ≤ i) && decide (i ≤ hi)
  | _ => false
def isR (x : D) (hi : Int) : Bool := match x with
  | .tup xs => xs.all fun y => isW y 0 hi
  | _ => false
def ascD : List D → Bool
  | .int a :: .int b :: r => decide (a < b) && ascD (.int b :: r)
  | _ => true
def isL (x : D) (hi : Int) : Bool := isR x hi && match x with
  | .tup xs => ascD xs
  | _ => false
def lenT : D → Nat
  | .tup xs => xs.length
  | _ => 0
def isS (q : Int) (x : D) : Bool := match x with
  | .tup xs => decide (1 ≤ xs.length) && decide (xs.length ≤ 6) && xs.all fun r => isR r ((xs.length : Int) - 1) && decide ((lenT r : Int) = q)
  | _ => false
def has0 : D → Bool
  | .tup xs => xs.any fun x => decide (x = .int 0)
  | _ => false
def intD : D → Int
  | .int i => i
  | _ => 0
def needW (x : D) : Option Str := match x with
  | .tup [a, b, c] => if isW a 1 4 = false then some "deeds" else if isS (intD a) b = false then some "steps" else if isL c ((lenT b : Int) - 1) = false ∨ has0 c = false then some "good" else none
  | _ => some "form"
@[simp] theorem isA_n (S : Sto) (c : String) : isA S .non c = some (isAB "NoneType" c) := rfl
@[simp] theorem isA_s (S : Sto) (x : Str) (c : String) : isA S (.str x) c = some (isAB "str" c) := rfl
@[simp] theorem isAB_1 : isAB "NoneType" "int" = false := by decide
@[simp] theorem isAB_2 : isAB "str" "int" = false := by decide
@[simp] theorem isAB_3 : isAB "tuple" "int" = false := by decide
@[simp] theorem isAB_4 : isAB "list" "int" = false := by decide
@[simp] theorem isAB_5 : isAB "bool" "int" = true := by decide
@[simp] theorem isAB_6 : isAB "bool" "bool" = true := by decide
@[simp] theorem isAB_7 : isAB "NoneType" "tuple" = false := by decide
@[simp] theorem isAB_8 : isAB "str" "tuple" = false := by decide
@[simp] theorem isAB_9 : isAB "int" "tuple" = false := by decide
@[simp] theorem isAB_10 : isAB "list" "tuple" = false := by decide
@[simp] theorem isAB_11 : isAB "bool" "tuple" = false := by decide
theorem is_whole_s (x : D) (lo hi : Int) (S : Sto) (h : tame x = true) : d_is_whole [x, .int lo, .int hi] S = .ok (.bl (isW x lo hi)) S := by
  refine defP_ok rfl ?_ rfl
  cases x with
  | int a =>
    simp [isW]
    by_cases h : a < lo
    · simp [h]; omega
    · simp [h]; omega
  | loc n => simp [tame] at h
  | dct t a b => simp [tame] at h
  | clo t a => simp [tame] at h
  | _ => simp [isW]
theorem compGo_D {r : Src} {e : Ev} {p : Pat} {f : MEx} {S : Sto} (o : D → D) (e1 : D → Ev) (hc : chk r S = true) (xs : List D) (h : ∀ x ∈ xs, bindP p x e = some (e1 x) ∧ f (e1 x) S = .ok (o x) S) : compGo r e p tYes f xs S = .ok (xs.map o) S := by
  have := compGo_map (p := p) (f := f) (e := e) (g := id) o e1 hc xs (by simpa using h)
  simpa using this
theorem lt_size {n : Nat} (h : n < 10000) : n < sizeLine := by rw [sizeLine_eq]; omega
theorem is_row_s (x : D) (hi : Int) (S : Sto) (h : tame x = true) : d_is_row [x, .int hi] S = .ok (.bl (isR x hi)) S := by
  refine defP_ok rfl ?_ rfl
  cases x with
  | tup xs =>
    obtain ⟨h1, h2⟩ := tame_tup h
    simp
    rw [if_pos (lt_size (by omega)), compGo_D (fun y => .bl (isW y 0 hi)) (fun y => [some (.tup xs), some (.int hi), some y]) rfl]
    · simp [isR]
    · intro y hy
      simp [is_whole_s y 0 hi S (h2 y hy)]
  | loc n => simp [tame] at h
  | dct t a b => simp [tame] at h
  | clo t a => simp [tame] at h
  | _ => simp [isR]
theorem isR_ints : ∀ {xs : List D} {hi : Int}, isR (.tup xs) hi = true → ∃ ns : List Int, xs = ns.map .int ∧ ∀ n ∈ ns, 0 ≤ n ∧ n ≤ hi := by
  intro xs hi h
  simp [isR] at h
  refine ints_of (P := fun n => 0 ≤ n ∧ n ≤ hi) fun y hy => ?_
  have := h y hy
  cases y <;> simp [isW] at this
  exact ⟨_, rfl, this⟩
theorem ascD_zip : ∀ (ns : List Int), ascD (ns.map .int) = ((ns.zip ns.tail).all fun p => decide (p.1 < p.2))
  | [] => by simp [ascD]
  | [a] => by simp [ascD]
  | a :: b :: r => by
    have := ascD_zip (b :: r)
    simp only [List.map_cons] at this
    simp [ascD, this]
theorem has0_ints (ns : List Int) : has0 (.tup (ns.map .int)) = decide ((0 : Int) ∈ ns) := by
  rw [Bool.eq_iff_iff]
  simp only [has0, List.any_eq_true, List.mem_map, decide_eq_true_eq]
  constructor
  · rintro ⟨_, ⟨a, ha, rfl⟩, h⟩
    cases h
    exact ha
  · intro h
    exact ⟨_, ⟨0, h, rfl⟩, rfl⟩
theorem is_lot_s (x : D) (hi : Int) (S : Sto) (h : tame x = true) : d_is_lot [x, .int hi] S = .ok (.bl (isL x hi)) S := by
  refine defP_ok rfl ?_ rfl
  simp [is_row_s x hi S h]
  cases hr : isR x hi with
  | false => simp [isL, hr]
  | true =>
    cases x with
    | tup xs =>
      obtain ⟨h1, h2⟩ := tame_tup h
      obtain ⟨ns, rfl, hn⟩ := isR_ints hr
      simp at h1
      simp [cut_1, ← List.map_tail, zipD_ints]
      rw [if_pos (lt_size (by omega)), compGo_map (α := Int × Int) _ (fun p => .bl (decide (p.1 < p.2))) (fun x => [some (.tup (ns.map .int)), some (.int hi), some (.int x.1), some (.int x.2)]) rfl]
      · simp [isL, hr, ascD_zip]
      · intro p hp
        simp
    | _ => simp [isR] at hr
theorem are_steps_s (q : Int) (x : D) (S : Sto) (h : tame x = true) : d_are_steps [.int q, x] S = .ok (.bl (isS q x)) S := by
  refine defP_ok rfl ?_ rfl
  cases x with
  | tup xs =>
    obtain ⟨h1, h2⟩ := tame_tup h
    by_cases a1 : 1 ≤ xs.length
    · by_cases a2 : xs.length ≤ 6
      · have a1' : (1 : Int) ≤ xs.length := by omega
        have a2' : (xs.length : Int) ≤ 6 := by omega
        simp [a1', a2']
        rw [if_pos (lt_size (by omega)), compGo_D (fun r => .bl (isR r ((xs.length : Int) - 1) && decide ((lenT r : Int) = q))) (fun y => [some (.int q), some (.tup xs), some y]) rfl]
        · simp [isS, a1, a2]
        · intro y hy
          simp [is_row_s y _ S (h2 y hy)]
          cases hr : isR y ((xs.length : Int) - 1) with
          | false => simp
          | true =>
            cases y with
            | tup ys => by_cases hq : (ys.length : Int) = q <;> simp [lenT, hq]
            | _ => simp [isR] at hr
      · have a1' : (1 : Int) ≤ xs.length := by omega
        have a2' : ¬ (xs.length : Int) ≤ 6 := by omega
        simp [a1', a2', isS, a2]
    · have a1' : ¬ (1 : Int) ≤ xs.length := by omega
      simp [a1', isS, a1]
  | loc n => simp [tame] at h
  | dct t a b => simp [tame] at h
  | clo t a => simp [tame] at h
  | _ => simp [isS]
def bad (c : Str) (p : Str) : Exn := ⟨c, [("part", .str p)]⟩
@[simp] theorem bind_exc' {α β : Type} (x : Exn) (e : Ev) (S : Sto) (f : α → Sto → Out β) : (Out.exc x e S).bind f = .exc x e S := rfl
theorem sRaise_e (c : Str) (f : Option Str) (a : MEx) (e : Ev) (S : Sto) : sRaise c f a e S = (a e S).bind fun d S => .exc ⟨c, match f with | some f => [(f, d)] | none => []⟩ e S := rfl
theorem need_wish_s (x : D) (S : Sto) (h : tame x = true) : d_need_wish [x] S = match needW x with
    | none => .ok x S
    | some p => .exc (bad "BadWish" p) [] S := by
  have hl : ∀ xs, x = .tup xs → xs.length ≠ 3 → needW x = some ("form" : Str) := by
    rintro xs rfl hn
    match xs, hn with
    | [], _ => rfl
    | [_], _ => rfl
    | [_, _], _ => rfl
    | [_, _, _], hn => simp at hn
    | _ :: _ :: _ :: _ :: _, _ => rfl
  cases x with
  | tup xs =>
    by_cases h3 : xs.length = 3
    · match xs, h3 with
      | [a, b, c], _ =>
        obtain ⟨_, h2⟩ := tame_tup h
        have ha := h2 a (by simp)
        have hb := h2 b (by simp)
        have hc := h2 c (by simp)
        by_cases w1 : isW a 1 4 = true
        case neg =>
          have e1 : needW (.tup [a, b, c]) = some ("deeds" : Str) := by simp [needW, w1]
          rw [e1]
          refine defP_exc (e := [some (.tup [a, b, c])]) rfl ?_ rfl
          simp [sSeq_e, sRaise_e, ixN, is_whole_s a 1 4 S ha, w1, bad]
        cases a with
        | int q =>
          by_cases w2 : isS q b = true
          case neg =>
            have e1 : needW (.tup [.int q, b, c]) = some ("steps" : Str) := by simp [needW, w1, w2, intD]
            rw [e1]
            refine defP_exc (e := [some (.tup [.int q, b, c])]) rfl ?_ rfl
            simp [sSeq_e, sRaise_e, ixN, is_whole_s (.int q) 1 4 S ha, w1, are_steps_s q b S hb, w2, bad]
          cases b with
          | tup rows =>
            by_cases w3 : isL c ((rows.length : Int) - 1) = true
            case neg =>
              have e1 : needW (.tup [.int q, .tup rows, c]) = some ("good" : Str) := by simp [needW, w1, w2, intD, w3, lenT]
              rw [e1]
              refine defP_exc (e := [some (.tup [.int q, .tup rows, c])]) rfl ?_ rfl
              simp [sSeq_e, sRaise_e, ixN, is_whole_s (.int q) 1 4 S ha, w1, are_steps_s q _ S hb, w2, is_lot_s c _ S hc, w3, bad]
            have hr : isR c ((rows.length : Int) - 1) = true := by simp [isL] at w3; exact w3.1
            cases c with
            | tup cs =>
              obtain ⟨ns, rfl, hn⟩ := isR_ints hr
              have e0 := has0_ints ns
              by_cases w4 : (0 : Int) ∈ ns
              · have e1 : needW (.tup [.int q, .tup rows, .tup (ns.map .int)]) = none := by simp [needW, w1, w2, intD, w3, lenT, e0, w4]
                rw [e1]
                refine defP_ok rfl ?_ (tame_plain _ h)
                simp [ixN, is_whole_s (.int q) 1 4 S ha, w1, are_steps_s q _ S hb, w2, is_lot_s _ _ S hc, w3, w4]
              · have e1 : needW (.tup [.int q, .tup rows, .tup (ns.map .int)]) = some ("good" : Str) := by simp [needW, w1, w2, intD, w3, lenT, e0, w4]
                rw [e1]
                refine defP_exc (e := [some (.tup [.int q, .tup rows, .tup (ns.map .int)])]) rfl ?_ rfl
                simp [sSeq_e, sRaise_e, ixN, is_whole_s (.int q) 1 4 S ha, w1, are_steps_s q _ S hb, w2, is_lot_s _ _ S hc, w3, w4, bad]
            | _ => simp [isR] at hr
          | _ => simp [isS] at w2
        | _ => simp [isW] at w1
    · rw [hl xs rfl h3]
      refine defP_exc (e := [some (.tup xs)]) rfl ?_ rfl
      have : ¬ ((xs.length : Int) = 3) := by omega
      simp [sSeq_e, sRaise_e, this, bad]
  | loc n => simp [tame] at h
  | dct t a b => simp [tame] at h
  | clo t a => simp [tame] at h
  | _ =>
    show _ = Out.exc (bad "BadWish" "form") [] S
    refine defP_exc rfl (by simp [sSeq_e, sRaise_e, bad]; rfl) rfl
end Mp
end SMxk03

section SMy1k03
set_option Elab.async false
set_option linter.all false
open PySem
namespace Mp
def rowD (r : List Int) : D := .tup (r.map .int)
def stD (st : List (List Int)) : D := .tup (st.map rowD)
def wD (q : Int) (st : List (List Int)) (gd : List Int) : D := .tup [.int q, stD st, rowD gd]
structure WF (q : Int) (st : List (List Int)) (gd : List Int) : Prop where
  q1 : 1 ≤ q
  q4 : q ≤ 4
  s1 : 1 ≤ st.length
  s6 : st.length ≤ 6
  rows : ∀ r ∈ st, (r.length : Int) = q ∧ ∀ x ∈ r, 0 ≤ x ∧ x ≤ (st.length : Int) - 1
  asc : gd.Pairwise (· < ·)
  gr : ∀ x ∈ gd, 0 ≤ x ∧ x ≤ (st.length : Int) - 1
  g0 : 0 ∈ gd
  gl : gd.length < 64
theorem all_in {r : List Int} {c : Int} (h : ∀ x ∈ r, 0 ≤ x ∧ x ≤ c) : (r.all fun x => decide (0 ≤ x) && decide (x ≤ c)) = true := by
  simpa using h
theorem tame_row {r : List Int} (h : r.length < 1000) : tame (rowD r) = true := tame_mk (by simpa using h) (by simp)
theorem isR_row (r : List Int) (c : Int) : isR (rowD r) c = r.all fun x => decide (0 ≤ x) && decide (x ≤ c) := by
  simp [rowD, isR, isW, Function.comp_def]
theorem tame_st {q : Int} {st : List (List Int)} {gd : List Int} (w : WF q st gd) : tame (stD st) = true := by
  refine tame_mk (by have := w.s6; simp; omega) ?_
  intro x hx
  simp at hx
  obtain ⟨r, hr, rfl⟩ := hx
  have := (w.rows r hr).1
  have := w.q4
  exact tame_row (by omega)
theorem tame_wD {q : Int} {st : List (List Int)} {gd : List Int} (w : WF q st gd) : tame (wD q st gd) = true := by
  refine tame_mk (by simp) ?_
  intro x hx
  simp at hx
  rcases hx with rfl | rfl | rfl
  · simp
  · exact tame_st w
  · exact tame_row (by have := w.gl; omega)
theorem isS_st {q : Int} {st : List (List Int)} {gd : List Int} (w : WF q st gd) : isS q (stD st) = true := by
  have := w.s1
  have := w.s6
  simp [isS, stD]
  refine ⟨⟨by omega, by omega⟩, fun r hr => ?_⟩
  obtain ⟨h1, h2⟩ := w.rows r hr
  refine ⟨?_, by simpa [rowD, lenT] using h1⟩
  rw [isR_row, all_in h2]
theorem isL_gd {q : Int} {st : List (List Int)} {gd : List Int} (w : WF q st gd) : isL (rowD gd) ((st.length : Int) - 1) = true := by
  unfold isL
  rw [isR_row, all_in w.gr]
  simp [rowD, ascD_zip]
  intro a b h
  exact zip_asc w.asc (a, b) h
theorem isW_q {q : Int} {st : List (List Int)} {gd : List Int} (w : WF q st gd) : isW (.int q) 1 4 = true := by
  simp [isW, w.q1, w.q4]
theorem has0_gd {q : Int} {st : List (List Int)} {gd : List Int} (w : WF q st gd) : has0 (rowD gd) = true := by
  rw [rowD, has0_ints]; simpa using w.g0
theorem needW_wD {q : Int} {st : List (List Int)} {gd : List Int} (w : WF q st gd) : needW (wD q st gd) = none := by
  have := isL_gd w
  simp [needW, wD, isW_q w, intD, isS_st w, has0_gd w]
  simp [stD, lenT, this]
theorem need_wish_ok {q : Int} {st : List (List Int)} {gd : List Int} (w : WF q st gd) (S : Sto) : d_need_wish [wD q st gd] S = .ok (wD q st gd) S := by
  rw [need_wish_s _ S (tame_wD w), needW_wD w]
end Mp
end SMy1k03

section SMq1k03
set_option Elab.async false
set_option linter.all false
open PySem
namespace Mp
theorem rng_get (n i : Nat) (h : i < (rng 0 n).length) : (rng 0 n)[i] = .int i := by simp [rng]
theorem rng_len (n : Nat) (k : Int) : (rng k n).length = n := by simp [rng]
theorem rows_of {P : List Int → Prop} : ∀ {ys : List D}, (∀ y ∈ ys, ∃ r : List Int, y = rowD r ∧ P r) → ∃ gs : List (List Int), ys = gs.map rowD ∧ ∀ i ∈ gs, P i
  | [], _ => ⟨[], rfl, by simp⟩
  | y :: ys, h => by
    obtain ⟨i, rfl, hi⟩ := h y (by simp)
    obtain ⟨gs, rfl, hg⟩ := rows_of (ys := ys) (fun z hz => h z (by simp [hz]))
    refine ⟨i :: gs, rfl, ?_⟩
    intro j hj
    cases hj with
    | head => exact hi
    | tail _ hj => exact hg j hj
theorem law_want_ok (a b : Int) (ha : 1 ≤ a) (ha4 : a ≤ 4) (hb : 1 ≤ b) (hb6 : b ≤ 6) {m K : Nat} {S : Sto} (hK : K < 900000) (h : Inv m [] K S) :
    Tot (d_law_want [.loc m, .int a, .int b] S) fun d S' => (∃ q st gd, d = wD q st gd ∧ WF q st gd ∧ q ≤ a ∧ (st.length : Int) ≤ b) ∧ Inv m [] (K + 100) S' := by
  obtain ⟨d1, S1, h1, ⟨q, rfl, q0, q1⟩, h2⟩ := tot_ex (next_ok a (by omega) (by omega) (by omega) h)
  obtain ⟨d2, S2, h3, ⟨n, rfl, n0, n1⟩, h4⟩ := tot_ex (next_ok b (by omega) (by omega) (by omega) h2)
  refine tot_def rfl ?_
  refine tot_gen fun Q hQ => ?_
  have ro : rngOk (1 + n) := rngOk_of (by omega) (by omega)
  simp [h1, h3, sizeLine, ro]
  have h5 := h4.new (.list [])
  refine tot_mono (forGo_tot (fun k e S' => ∃ T x, e = [some (.loc m), some (.int a), some (.int b), some (.int (1 + q)), some (.int (1 + n)), some (.loc S2.length), x, none, none] ∧ Inv m [(S2.length, .list (T.map rowD))] (K + 2 + 4 * k) S' ∧ T.length = k ∧ ∀ r ∈ T, (r.length : Int) = 1 + q ∧ ∀ x ∈ r, 0 ≤ x ∧ x ≤ n) _ 0 _ _ ⟨[], none, rfl, h5, rfl, by simp⟩ (fun _ _ _ _ => rfl) ?_) ?_
  · rintro i hi e S' ⟨T, x, rfl, hT, hT2, hT3⟩
    rw [rng_len] at hi
    refine ⟨_, bindP_nm .., ?_⟩
    have hn := hT.get (List.mem_singleton.2 rfl)
    have ro : rngOk (1 + q) := rngOk_of (by omega) (by omega)
    refine tot_gen fun Q hQ => ?_
    simp [hn, ro]
    rw [rng_len, if_pos (lt_size (by omega))]
    refine tot_bind (tot_bind (tot_bind (tot_bind (tot_bind (tot_calm (tot_mono (compGo_each (r := ⟨rng 0 (1 + q).toNat, none⟩) (fun j S => Inv m [(S2.length, .list (T.map rowD))] (K + 2 + 4 * (0 + i) + j) S) (fun d => ∃ i : Int, d = .int i ∧ (0 ≤ i ∧ i ≤ n)) (rng 0 (1 + q).toNat) 0 S' hT (fun _ _ _ => rfl) ?_) ?_))))))
    · intro j hj S hS
      rw [rng_len] at hj
      refine ⟨_, bindP_nm .., ?_⟩
      refine tot_call ?_
      simp
      refine tot_mono (next_ok (1 + n) (by omega) (by omega) (by omega) hS) ?_
      rintro d S' ⟨⟨r, rfl, r0, r1⟩, h3⟩
      exact ⟨⟨r, rfl, r0, by omega⟩, h3.up (by omega)⟩
    · rintro ys S3 ⟨g3, g4, g5⟩
      rw [rng_len] at g3 g4
      obtain ⟨gs, rfl, hg⟩ := ints_of g5
      have hn2 := g3.get (List.mem_singleton.2 rfl)
      simp only [bTuple_l, tot_ok, oo_some, hn2]
      rw [if_pos ⟨lt_size (by rw [List.length_map]; omega), by simp⟩]
      simp only [tot_ok]
      refine hQ _ _ ⟨_, rfl, T ++ [gs], _, rfl, ?_, by simp; omega, ?_⟩
      · have := (g3.setf (o' := .list ((T ++ [gs]).map rowD))).up (K' := K + 2 + 4 * (0 + i + 1)) (by omega)
        simpa [rowD] using this
      · intro z hz
        simp only [List.mem_append, List.mem_singleton] at hz
        rcases hz with hz | rfl
        · exact hT3 z hz
        · exact ⟨by simp at g4; omega, hg⟩
  · rintro f S3 ⟨e2, rfl, T, x, rfl, hT, hT2, hT3⟩
    rw [rng_len] at hT hT2
    rw [nxQ_nx, tot_seq_iff]
    simp [ro]
    rw [rng_len, if_pos (lt_size (by omega))]
    refine tot_bind (tot_bind (tot_calm (tot_mono (compGo_tot (r := ⟨rng 0 (1 + n).toNat, none⟩) (fun j S => Inv m [(S2.length, .list (T.map rowD))] (K + 2 + 4 * (0 + (1 + n).toNat) + j) S) (fun d => ∃ i : Int, d = .int i ∧ (0 ≤ i ∧ i ≤ n)) (rng 0 (1 + n).toNat) 0 S3 hT (fun _ _ _ => rfl) ?_) ?_)))
    · intro j hj S hS
      have hj' := hj
      rw [rng_len] at hj'
      rw [rng_get]
      refine ⟨_, bindP_nm .., ?_⟩
      obtain ⟨d, S4, k1, ⟨r, rfl, r0, r1⟩, k2⟩ := tot_ex (next_ok 2 (by omega) (by omega) (by omega) hS)
      refine tot_gen fun Q hQ => ?_
      simp [k1]
      refine hQ _ _ ?_
      split
      · exact .mk ⟨⟨j, rfl, by omega, by omega⟩, k2.up (by omega)⟩
      · exact k2.up (by omega)
    · rintro ys S4 ⟨g3, g4, g5⟩
      rw [rng_len] at g3 g4
      obtain ⟨gs, rfl, hg⟩ := ints_of g5
      have hn2 := g3.get (List.mem_singleton.2 rfl)
      rw [List.length_map] at g4
      have b1 : (gs.map D.int ++ [D.int 0]) = (gs ++ [0]).map .int := by simp
      have b2 := once_all (gs ++ [0])
      have b3 : ∀ x ∈ sortI (once (gs ++ [0])), 0 ≤ x ∧ x ≤ n := by
        intro x hx
        rw [mem_sort, b2.2] at hx
        simp only [List.mem_append, List.mem_singleton] at hx
        rcases hx with hx | rfl
        · exact hg x hx
        · exact ⟨by omega, n0⟩
      have b4 : (sortI (once (gs ++ [0]))).length ≤ (1 + n).toNat := nodup_len (asc_nodup (sort_asc b2.1)) (fun x hx => by have := b3 x hx; omega)
      have b5 : fSortSet S4 [.lst (gs.map D.int ++ [D.int 0])] = some ((sortI (once (gs ++ [0]))).map .int) := by
        rw [b1]
        simp only [fSortSet, lstOf_l, Option.bind_some, intsD_map]
        rw [if_pos (by simp; omega)]
      simp [hn2, sizeLine, oAdd, lstOf, show gs.length + 1 ≤ 16777216 by omega, b5]
      refine hQ _ _ ?_
      refine ⟨⟨1 + q, T, sortI (once (gs ++ [0])), rfl, ?_, by omega, by omega⟩, (g3.sub (by simp)).up (by omega)⟩
      refine { q1 := by omega, q4 := by omega, s1 := by omega, s6 := by omega, rows := ?_, asc := sort_asc b2.1, gr := ?_, g0 := ?_, gl := by omega }
      · intro r hr
        obtain ⟨z1, z2⟩ := hT3 r hr
        exact ⟨z1, fun x hx => by have := z2 x hx; omega⟩
      · intro x hx
        have := b3 x hx
        omega
      · rw [mem_sort, b2.2]; simp
theorem law_begun_ok (ns : List Int) (h : ns.length ≤ 63) : ∃ k S, d_law_begun [.lst (ns.map .int)] [] = .ok (.loc k) S ∧ Inv k [] 0 S := by
  have : d_law_begun [.lst (ns.map .int)] [] = .ok (.loc 2) [.list (ns.map .int), .list ((ns.filter fun x => decide (10 ^ 18 ≤ x)).map .int), .dict (kv 0 1 0)] := by
    refine eq_of_tot (tot_def rfl ?_)
    simp [sizeLine, show ns.length < 16777216 by omega]
    rw [compGo_pure (α := Int) .int (fun x => decide (10 ^ 18 ≤ x)) .int (fun x => [some (.lst (ns.map .int)), some (.int x)]) rfl]
    · simp [kv, show Str.ofString "cells" ≠ Str.ofString "left" by decide, show Str.ofString "cells" ≠ Str.ofString "at" by decide, show Str.ofString "left" ≠ Str.ofString "at" by decide]
    · intro x hx
      simp
  refine ⟨_, _, this, 0, 1, 0, ns, _, rfl, rfl, rfl, by omega, by omega, by omega, by omega, by omega, ?_, by simp⟩
  have := List.length_filter_le (fun x : Int => decide (10 ^ 18 ≤ x)) ns
  omega
end Mp
end SMq1k03

section SMy2k03
set_option Elab.async false
set_option linter.all false
open PySem
namespace Mp
/-! where a row leads -/
def nxt (st : List (List Int)) (s d : Int) : Int := (st[s.toNat]?.getD [])[d.toNat]?.getD 0
def far (st : List (List Int)) (s : Int) (r : List Int) : Int := r.foldl (nxt st) s
theorem ix_row {r : List Int} {i : Int} (S : Sto) (h0 : 0 ≤ i) (h : i < r.length) : oIx S (rowD r) (.int i) = some (.int (r[i.toNat]?.getD 0)) := by
  have hl : i.toNat < r.length := by omega
  rw [rowD, oIx_t, List.length_map, ixN_int h0 h]
  simp [hl]
theorem ix_st {st : List (List Int)} {i : Int} (S : Sto) (h0 : 0 ≤ i) (h : i < st.length) : oIx S (stD st) (.int i) = some (rowD (st[i.toNat]?.getD [])) := by
  have hl : i.toNat < st.length := by omega
  rw [stD, oIx_t, List.length_map, ixN_int h0 h]
  simp [hl]
theorem st_row {q : Int} {st : List (List Int)} {gd : List Int} (w : WF q st gd) {s : Int} (h0 : 0 ≤ s) (h1 : s < st.length) : st[s.toNat]?.getD [] ∈ st := by
  have hl : s.toNat < st.length := by omega
  simp [hl]
theorem nxt_in {q : Int} {st : List (List Int)} {gd : List Int} (w : WF q st gd) {s d : Int} (h0 : 0 ≤ s) (h1 : s < st.length) (d0 : 0 ≤ d) (d1 : d < q) : 0 ≤ nxt st s d ∧ nxt st s d < st.length := by
  obtain ⟨a, b⟩ := w.rows _ (st_row w h0 h1)
  have hl : d.toNat < (st[s.toNat]?.getD []).length := by omega
  have := b _ (List.getElem_mem hl)
  unfold nxt
  rw [List.getElem?_eq_getElem hl]
  simp only [Option.getD_some]
  omega
theorem far_in {q : Int} {st : List (List Int)} {gd : List Int} (w : WF q st gd) : ∀ (r : List Int) (s : Int), 0 ≤ s → s < st.length → (∀ x ∈ r, 0 ≤ x ∧ x ≤ q - 1) → 0 ≤ far st s r ∧ far st s r < st.length
  | [], s, h0, h1, _ => ⟨h0, h1⟩
  | d :: r, s, h0, h1, hr => by
    obtain ⟨a, b⟩ := nxt_in w h0 h1 (hr d (by simp)).1 (by have := (hr d (by simp)).2; omega)
    exact far_in w r _ a b (fun x hx => hr x (by simp [hx]))
theorem behind_ok {q : Int} {st : List (List Int)} {gd r : List Int} (w : WF q st gd) (hr : ∀ x ∈ r, 0 ≤ x ∧ x ≤ q - 1) (S : Sto) : d_behind [wD q st gd, .int 0, rowD r] S = .ok (.int (far st 0 r)) S := by
  have := w.s1
  refine defP_ok rfl ?_ rfl
  simp [rowD]
  refine tot_mono (forGo_tot (fun k e S' => S' = S ∧ ∃ x, e = [some (wD q st gd), some (.int (far st 0 (r.take k))), some (rowD r), x]) _ 0 _ _ ⟨rfl, none, rfl⟩ (fun _ _ _ _ => rfl) ?_) ?_
  · rintro i hi e S' ⟨rfl, x, rfl⟩
    simp only [List.length_map] at hi
    refine ⟨_, rfl, ?_⟩
    obtain ⟨d0, d1⟩ := hr r[i] (List.getElem_mem hi)
    obtain ⟨a, b⟩ := far_in w (r.take i) 0 (by omega) (by omega) (fun x hx => hr x (List.mem_of_mem_take hx))
    obtain ⟨c, d⟩ := w.rows _ (st_row w a b)
    simp [wD, ixN]
    simp [ix_st S' a b]
    simp [ix_row S' d0 (by omega : r[i] < (st[(far st 0 (r.take i)).toNat]?.getD []).length)]
    have e3 : far st 0 (r.take (i + 1)) = nxt st (far st 0 (r.take i)) r[i] := by
      rw [← List.take_append_getElem hi, far, List.foldl_append]; rfl
    simp [e3, nxt]
  · rintro f S' ⟨e2, rfl, rfl, x, rfl⟩
    simp
end Mp
end SMy2k03

section SMy3k03
set_option Elab.async false
set_option linter.all false
open PySem
namespace Mp
/-! what is live -/
inductive Live (st : List (List Int)) (gd : List Int) : Int → Prop where
  | base {x : Int} : x ∈ gd → Live st gd x
  | step {x o : Int} : 0 ≤ x → x < st.length → o ∈ st[x.toNat]?.getD [] → Live st gd o → Live st gd x
structure Fd (st : List (List Int)) (gd : List Int) (F : List Int) : Prop where
  nd : F.Nodup
  lv : ∀ x ∈ F, Live st gd x
  rg : ∀ x ∈ F, 0 ≤ x ∧ x < st.length
  gs : ∀ x ∈ gd, x ∈ F
def Closed (st : List (List Int)) (F : List Int) : Prop := ∀ x : Int, 0 ≤ x → x < st.length → (∃ o ∈ st[x.toNat]?.getD [], o ∈ F) → x ∈ F
theorem Fd.all {st : List (List Int)} {gd F : List Int} (h : Fd st gd F) (c : Closed st F) (x : Int) : x ∈ F ↔ Live st gd x := by
  refine ⟨h.lv x, fun l => ?_⟩
  induction l with
  | base h' => exact h.gs _ h'
  | step h0 h1 ho _ ih => exact c _ h0 h1 ⟨_, ho, ih⟩
theorem Fd.add {st : List (List Int)} {gd F : List Int} (h : Fd st gd F) {x : Int} (h0 : 0 ≤ x) (h1 : x < st.length) (hn : x ∉ F) (ho : ∃ o ∈ st[x.toNat]?.getD [], o ∈ F) : Fd st gd (F ++ [x]) := by
  obtain ⟨o, o1, o2⟩ := ho
  refine ⟨?_, ?_, ?_, ?_⟩
  · rw [List.nodup_append]
    refine ⟨h.nd, by simp, ?_⟩
    intro a ha b hb
    simp at hb
    subst hb
    intro e
    subst e
    exact hn ha
  · intro y hy
    simp at hy
    rcases hy with hy | rfl
    · exact h.lv y hy
    · exact .step h0 h1 o1 (h.lv o o2)
  · intro y hy
    simp at hy
    rcases hy with hy | rfl
    · exact h.rg y hy
    · exact ⟨h0, h1⟩
  · intro y hy
    simp [h.gs y hy]
theorem Fd.len {st : List (List Int)} {gd F : List Int} (h : Fd st gd F) : F.length ≤ st.length := nodup_len h.nd h.rg
theorem Fd.start {q : Int} {st : List (List Int)} {gd : List Int} (w : WF q st gd) : Fd st gd gd :=
  ⟨asc_nodup w.asc, fun x hx => .base hx, fun x hx => by have := w.gr x hx; omega, fun x hx => hx⟩
/-- many at once, none of them found, each by what was found -/
theorem Fd.adds {st : List (List Int)} {gd F : List Int} (h : Fd st gd F) {M : List Int} (hM : M.Nodup) (hm : ∀ x ∈ M, (0 ≤ x ∧ x < st.length) ∧ x ∉ F ∧ ∃ o ∈ st[x.toNat]?.getD [], o ∈ F) : Fd st gd (F ++ M) := by
  refine ⟨?_, ?_, ?_, ?_⟩
  · rw [List.nodup_append]
    refine ⟨h.nd, hM, ?_⟩
    intro a ha b hb e
    subst e
    exact (hm a hb).2.1 ha
  · intro y hy
    simp at hy
    rcases hy with hy | hy
    · exact h.lv y hy
    · obtain ⟨⟨h0, h1⟩, h2, o, o1, o2⟩ := hm y hy
      exact .step h0 h1 o1 (h.lv o o2)
  · intro y hy
    simp at hy
    rcases hy with hy | hy
    · exact h.rg y hy
    · exact (hm y hy).1
  · intro y hy
    simp [h.gs y hy]
def moreOf (st : List (List Int)) (F : List Int) : List Int := ((st.zipIdx).filter fun p => (!decide ((p.2 : Int) ∈ F)) && p.1.any fun o => decide (o ∈ F)).map fun p => (p.2 : Int)
theorem mem_more {st : List (List Int)} {F : List Int} {x : Int} : x ∈ moreOf st F ↔ (0 ≤ x ∧ x < st.length) ∧ x ∉ F ∧ ∃ o ∈ st[x.toNat]?.getD [], o ∈ F := by
  unfold moreOf
  simp only [List.mem_map, List.mem_filter, Bool.and_eq_true, List.any_eq_true]
  constructor
  · rintro ⟨⟨r, i⟩, ⟨h1, h2, o, h3, h4⟩, rfl⟩
    rw [List.mem_zipIdx_iff_getElem?] at h1
    have := (List.getElem?_eq_some_iff.1 h1).1
    refine ⟨by omega, by simpa using h2, o, ?_, by simpa using h4⟩
    simp only [Int.toNat_natCast]
    simp at h1
    rw [h1]
    exact h3
  · rintro ⟨⟨h0, h1⟩, h2, o, h3, h4⟩
    have hl : x.toNat < st.length := by omega
    refine ⟨(st[x.toNat], x.toNat), ⟨?_, ?_, o, ?_, by simpa using h4⟩, by omega⟩
    · rw [List.mem_zipIdx_iff_getElem?]; simp [hl]
    · simpa [Int.toNat_of_nonneg h0] using h2
    · simpa [hl] using h3
theorem more_nodup (st : List (List Int)) (F : List Int) : (moreOf st F).Nodup := by
  unfold moreOf
  have h : ((st.zipIdx).filter fun p => (!decide ((p.2 : Int) ∈ F)) && p.1.any fun o => decide (o ∈ F)).Pairwise (fun p p' => p.2 < p'.2) := by
    refine List.Pairwise.filter _ ?_
    have : (st.zipIdx.map Prod.snd).Pairwise (· < ·) := by
      rw [List.zipIdx_map_snd]
      exact List.pairwise_lt_range' ..
    rw [List.pairwise_map] at this
    exact this
  rw [List.Nodup, List.pairwise_map]
  exact h.imp (fun h => by omega)
theorem more_nil {st : List (List Int)} {F : List Int} (h : moreOf st F = []) : Closed st F := by
  intro x h0 h1 ho
  refine Classical.byContradiction fun hn => ?_
  have : x ∈ moreOf st F := mem_more.2 ⟨⟨h0, h1⟩, hn, ho⟩
  rw [h] at this
  cases this
theorem cNe_lnil (S : Sto) (ns : List Int) : cNe S (.lst (ns.map .int)) (.lst []) = some (.bl (!ns.isEmpty)) := by
  have f : fin deepN (.lst (ns.map .int)) = true := by simp [deepN, fin, fin_ints]
  have f2 : fin deepN (.lst []) = true := by simp [deepN, fin, finL]
  simp only [cNe, oEq, f, f2, isStr, rs]
  cases ns <;> simp [eqP, toP, toPs, rs, PyData.eqv, PyData.eqvAll]
theorem enum_st (st : List (List Int)) : enumD (st.map rowD) = (st.zipIdx).map fun p => .tup [.int p.2, rowD p.1] := by
  simp [enumD, List.zipIdx_map, List.map_map, Function.comp_def]
theorem live_in_ok {q : Int} {st : List (List Int)} {gd : List Int} (w : WF q st gd) (S : Sto) : ∃ F, Fd st gd F ∧ Closed st F ∧ d_live_in [wD q st gd] S = .ok (.lst ((sortI F).map .int)) S := by
  have hs := w.s6
  have key : Tot (d_live_in [wD q st gd] S) fun d S' => S' = S ∧ ∃ F, Fd st gd F ∧ Closed st F ∧ d = .lst ((sortI F).map .int) := by
    refine defP_tot rfl (fun d S' ⟨h1, F, _, _, h2⟩ => ⟨h1, by rw [h2]; simp [plain, plainL_ints]⟩) ?_
    simp [wD, ixN, rowD, sizeLine]
    rw [← rowD, ← wD]
    refine tot_mono (whileGo_tot (fun n e S' => S' = S ∧ ∃ F b x3, e = [some (wD q st gd), some (.lst (F.map .int)), some (.bl b), x3, none, none, none] ∧ Fd st gd F ∧ (b = false → Closed st F) ∧ n = if b = true then st.length - F.length + 1 else 0)
      (fun e S' => S' = S ∧ ∃ F b x3, e = [some (wD q st gd), some (.lst (F.map .int)), some (.bl b), x3, none, none, none] ∧ Fd st gd F ∧ Closed st F) ?_ fuel (st.length - gd.length + 1) _ _ ?_ ⟨rfl, gd, true, none, rfl, Fd.start w, by simp, by simp⟩) ?_
    · rintro n e S' ⟨rfl, F, b, x3, rfl, hF, hC, rfl⟩
      cases b with
      | false => simp; exact ⟨F, rfl, hF, hC rfl⟩
      | true =>
        have hF2 := hF.adds (more_nodup st F) (fun x hx => mem_more.1 hx)
        have l2 := hF2.len
        have l1 := hF.len
        simp only [List.length_append] at l2
        have l3 : F.length + (moreOf st F).length ≤ 16777216 := by omega
        simp only [mtTruth_e, mVar_e, List.getElem?_cons_succ, List.getElem?_cons_zero, bind_ok, truth_b, tot_ok, if_true]
        refine tot_mono (P := fun f S'' => f = .nx [some (wD q st gd), some (.lst ((F ++ moreOf st F).map .int)), some (.bl (!(moreOf st F).isEmpty)), some (.lst ((moreOf st F).map .int)), none, none, none] ∧ S'' = S') ?_ ?_
        rotate_left
        · rintro f S'' ⟨rfl, rfl⟩
          refine ⟨_, if (!(moreOf st F).isEmpty) = true then st.length - (F ++ moreOf st F).length + 1 else 0, rfl, ?_, rfl, F ++ moreOf st F, _, _, rfl, hF2, ?_, rfl⟩
          · cases hm : moreOf st F with
            | nil => simp
            | cons a b => simp [hm] at l2 ⊢; omega
          · intro hb
            have : moreOf st F = [] := by simpa using hb
            rw [this, List.append_nil]
            exact more_nil this
        simp [wD, ixN]
        simp [stD, enum_st, sizeLine, show st.length < 16777216 by omega]
        rw [compGo_pure (α := List Int × Nat) _ (fun p => (!decide ((p.2 : Int) ∈ F)) && p.1.any fun o => decide (o ∈ F)) (fun p => .int p.2) (fun p => [some (wD q st gd), some (.lst (F.map .int)), some (.bl true), x3, some (.int p.2), some (rowD p.1), none]) rfl]
        · have e1 : (List.map (fun p : List Int × Nat => D.int p.2) (List.filter (fun p => (!decide ((p.2 : Int) ∈ F)) && p.1.any fun o => decide (o ∈ F)) st.zipIdx)) = (moreOf st F).map .int := by
            simp [moreOf, List.map_map, Function.comp_def]
          rw [e1]
          simp [oAdd, lstOf, cNe_lnil, sizeLine, l3]
        · rintro ⟨r, i⟩ hp
          refine ⟨rfl, ?_, fun _ => rfl⟩
          have : r ∈ st := by
            rw [List.mem_zipIdx_iff_getElem?] at hp
            exact List.mem_of_getElem? hp
          obtain ⟨h1, h2⟩ := w.rows r this
          have h4 := w.q4
          simp [rowD, sizeLine, show r.length < 16777216 by omega]
          rw [compGo_map (α := Int) .int (fun x => .bl (decide (x ∈ F))) (fun x => [some (wD q st gd), some (.lst (F.map .int)), some (.bl true), x3, some (.int i), some (rowD r), some (.int x)]) rfl]
          · by_cases hi : (i : Int) ∈ F <;> simp [hi]
          · intro x hx
            simp [rowD]
    · simp [fuel]; omega
    · rintro f S' ⟨e2, rfl, rfl, F, b, x3, rfl, hF, hC⟩
      simp
      exact ⟨F, hF, hC, rfl⟩
  obtain ⟨d, S', h1, rfl, F, h2, h3, rfl⟩ := tot_ex key
  exact ⟨F, h2, h3, h1⟩
end Mp
end SMy3k03

section SMm1k03
set_option Elab.async false
set_option linter.all false
open PySem
namespace Mp
abbrev llBody : MSt := (sSeq (sAsg (.nm 2) (mB bLen (aCons (mVar 1) aNil)))
  (sFor (wRng1 (mB bLen (aCons (mIx (mVar 0) (mC (.int 1))) aNil))) (.nm 3) (sIf (mtAnd (mtVal (mOp cNotIn (mVar 3) (mVar 1))) (mtVal (mOp cNe (mFrz (lComp (wSeq (mIx (mIx (mVar 0) (mC (.int 1))) (mVar 3))) [4] (.nm 4) (mtVal (mOp cIn (mVar 4) (mVar 1))) (mVar 4))) (mFrz (lDisp aNil))))) (sEx (mAppend (mVar 1) (mVar 3))) sPass)))
theorem llBody_ok {q : Int} {st : List (List Int)} {gd F : List Int} (w : WF q st gd) (S : Sto) (cnt : Int) (x3 : Option D) (hF : Fd st gd F) (ro : rngOk (st.length : Int)) :
    Tot (llBody [some (wD q st gd), some (.loc S.length), some (.int cnt), x3, none] (S ++ [.list (F.map .int)])) fun f S' => ∃ e2 k', f = .nx e2 ∧ k' < st.length - F.length + 1 ∧ ∃ F cnt x3, S' = S ++ [.list (F.map .int)] ∧ e2 = [some (wD q st gd), some (.loc S.length), some (.int cnt), x3, none] ∧ Fd st gd F ∧ (cnt = F.length → Closed st F) ∧ k' = if cnt = F.length then 0 else st.length - F.length + 1 := by
  have l1 := hF.len
  have hs := w.s6
  refine tot_gen fun Q' hQ' => ?_
  simp [wD, ixN]
  simp [stD, ro]
  rw [← stD, ← wD]
  refine tot_mono (forGo_tot (fun k e S'' => ∃ F' x3, S'' = S ++ [.list (F'.map .int)] ∧ e = [some (wD q st gd), some (.loc S.length), some (.int F.length), x3, none] ∧ Fd st gd F' ∧ F.length ≤ F'.length ∧ (F'.length = F.length → F' = F ∧ ∀ j : Int, 0 ≤ j → j < k → (∃ o ∈ st[j.toNat]?.getD [], o ∈ F) → j ∈ F)) _ 0 _ _ ⟨F, x3, rfl, rfl, hF, Nat.le_refl _, fun _ => ⟨rfl, fun j h0 h1 => by omega⟩⟩ (fun _ _ _ _ => rfl) ?_) ?_
  · rintro i hi e S'' ⟨F', x3, rfl, rfl, hF', hle, hsame⟩
    rw [rng_len] at hi
    rw [rng_get]
    refine ⟨_, rfl, ?_⟩
    have i0 : (0 : Int) ≤ (i : Int) := by omega
    have i1 : (i : Int) < st.length := by omega
    have hrow := w.rows _ (st_row w i0 i1)
    have h4 := w.q4
    refine tot_gen fun Q2 hQ2 => ?_
    have l2 := hF'.len
    have ei := ix_st (st := st) (S ++ [.list (F'.map .int)]) i0 i1
    simp [wD, ixN, oIn_loc (S := S ++ [.list (F'.map .int)]) (n := S.length) (i : Int) (get_last ..), cNotIn, ei]
    rw [← wD]
    by_cases hi : (i : Int) ∈ F'
    · simp [hi]
      refine hQ2 _ _ ⟨_, rfl, F', _, rfl, rfl, hF', hle, fun hh => ?_⟩
      obtain ⟨rfl, h2⟩ := hsame hh
      refine ⟨rfl, fun j h0 h1 ho => ?_⟩
      by_cases hj : j = i
      · rw [hj]; exact hi
      · exact h2 j h0 (by omega) ho
    · simp at hrow
      simp [hi, rowD, sizeLine, show (st[i]?.getD []).length < 16777216 by omega]
      rw [compGo_pure (α := Int) .int (fun x => decide (x ∈ F')) .int (fun x => [some (wD q st gd), some (.loc S.length), some (.int F.length), some (.int i), some (.int x)]) rfl]
      rotate_left
      · intro x hx
        simp [oIn_loc (S := S ++ [.list (F'.map .int)]) (n := S.length) x (get_last ..), cIn]
      simp [cNe_lnil]
      by_cases ho : ∃ x, x ∈ st[i]?.getD [] ∧ x ∈ F'
      · rw [if_pos ho, if_pos (by omega)]
        simp only [bind_ok, tot_ok]
        refine hQ2 _ _ ⟨_, rfl, F' ++ [(i : Int)], _, by simp, rfl, hF'.add i0 i1 hi (by simpa using ho), by simp; omega, fun hh => ?_⟩
        simp at hh
        omega
      · rw [if_neg ho]
        simp only [tot_ok]
        refine hQ2 _ _ ⟨_, rfl, F', _, rfl, rfl, hF', hle, fun hh => ?_⟩
        obtain ⟨rfl, h2⟩ := hsame hh
        refine ⟨rfl, fun j h0 h1 ho2 => ?_⟩
        by_cases hj : j = i
        · rw [hj] at ho2; simp at ho2; exact absurd ho2 ho
        · exact h2 j h0 (by omega) ho2
  · rintro f S'' ⟨e2, rfl, F', x3, rfl, rfl, hF', hle, hsame⟩
    rw [rng_len] at hsame
    have l2 := hF'.len
    refine hQ' _ _ ?_
    refine ⟨_, if (F.length : Int) = F'.length then 0 else st.length - F'.length + 1, rfl, ?_, F', _, x3, rfl, rfl, hF', ?_, rfl⟩
    · split <;> omega
    · intro he
      obtain ⟨rfl, h2⟩ := hsame (by omega)
      intro x h0 h1 ho
      exact h2 x h0 (by omega) ho
theorem law_live_ok {q : Int} {st : List (List Int)} {gd : List Int} (w : WF q st gd) (S : Sto) : ∃ F, Fd st gd F ∧ Closed st F ∧ d_law_live [wD q st gd] S = .ok (.lst ((sortI F).map .int)) S := by
  have hs := w.s6
  have key : ∃ d, d_law_live [wD q st gd] S = .ok d S ∧ ∃ F, Fd st gd F ∧ Closed st F ∧ d = .lst ((sortI F).map .int) := by
    refine defP_some rfl ?_
    simp [wD, ixN, rowD, sizeLine]
    rw [← rowD, ← wD]
    refine tot_mono (whileGo_tot (fun n e S' => ∃ F cnt x3, S' = S ++ [.list (F.map .int)] ∧ e = [some (wD q st gd), some (.loc S.length), some (.int cnt), x3, none] ∧ Fd st gd F ∧ (cnt = F.length → Closed st F) ∧ n = if cnt = F.length then 0 else st.length - F.length + 1)
      (fun e S' => ∃ F cnt x3, S' = S ++ [.list (F.map .int)] ∧ e = [some (wD q st gd), some (.loc S.length), some (.int cnt), x3, none] ∧ Fd st gd F ∧ Closed st F) ?_ fuel (st.length - gd.length + 1) _ _ ?_ ⟨gd, -1, none, rfl, rfl, Fd.start w, by intro h; omega, by rw [if_neg (by omega)]⟩) ?_
    · rintro n e S' ⟨F, cnt, x3, rfl, rfl, hF, hC, rfl⟩
      have l1 := hF.len
      by_cases hc : cnt = F.length
      · simp [hc]
        exact ⟨F, rfl, hF, hC hc⟩
      · simp only [if_neg hc]
        have ro : rngOk (st.length : Int) := rngOk_of (by omega) (by omega)
        refine tot_gen fun Q hQ => ?_
        simp [hc]
        refine hQ _ _ ?_
        simp only [if_true]
        exact llBody_ok w S cnt x3 hF ro
    · simp [fuel]; omega
    · rintro f S' ⟨e2, rfl, F, b, x3, rfl, rfl, hF, hC⟩
      simp [fSortI, intsD_map]
      exact ⟨.lst ((sortI F).map .int), frz_plain (by simp [plain, plainL_ints]), F, hF, hC, rfl⟩
  obtain ⟨d, h1, F, h2, h3, rfl⟩ := key
  exact ⟨F, h2, h3, h1⟩
theorem live_ok {q : Int} {st : List (List Int)} {gd : List Int} (w : WF q st gd) : ∃ L : List Int, L.Pairwise (· < ·) ∧ (∀ x ∈ L, 0 ≤ x ∧ x < st.length) ∧ (∀ x, x ∈ L ↔ Live st gd x) ∧
    (∀ S, d_live_in [wD q st gd] S = .ok (.lst (L.map .int)) S) ∧ (∀ S, d_law_live [wD q st gd] S = .ok (.lst (L.map .int)) S) := by
  obtain ⟨F, f1, f2, f3⟩ := live_in_ok w []
  refine ⟨sortI F, sort_asc f1.nd, fun x hx => f1.rg x (mem_sort.1 hx), fun x => by rw [mem_sort, f1.all f2], fun S => ?_, fun S => ?_⟩
  · obtain ⟨G, g1, g2, g3⟩ := live_in_ok w S
    rw [g3, asc_unique (sort_asc g1.nd) (sort_asc f1.nd) (fun x => by rw [mem_sort, mem_sort, f1.all f2, g1.all g2])]
  · obtain ⟨G, g1, g2, g3⟩ := law_live_ok w S
    rw [g3, asc_unique (sort_asc g1.nd) (sort_asc f1.nd) (fun x => by rw [mem_sort, mem_sort, f1.all f2, g1.all g2])]
/-! small things shown -/
theorem intsOk_ints : ∀ {L : List Int}, (∀ x ∈ L, 0 ≤ x ∧ x < 1000) → intsOkL (L.map .int) = true
  | [], _ => by simp [intsOkL]
  | x :: L, h => by
    have hx := h x (by simp)
    have ih := intsOk_ints (L := L) (fun y hy => h y (by simp [hy]))
    simp only [List.map_cons, intsOkL, intsOk, ih, Bool.and_true, decide_eq_true_eq]
    omega
theorem wt_ints : ∀ L : List Int, wtL (L.map .int) = 42 * L.length
  | [] => by simp [wtL]
  | x :: L => by simp [wtL, wt, wt_ints L]; omega
theorem shR_row {L : List Int} (h : ∀ x ∈ L, 0 ≤ x ∧ x < 1000) (hl : L.length ≤ 1000) : shR (rowD L) = true := by
  simp [shR, rowD, deepN, fin, fin_ints, intsOk, intsOk_ints h, wt, wt_ints]
  omega
theorem fin_rows (n : Nat) : ∀ st : List (List Int), finL (n + 1) (st.map rowD) = true
  | [] => by simp [finL]
  | x :: xs => by simp [finL, fin, fin_ints, fin_rows n xs, rowD]
theorem fin_wD (q : Int) (st : List (List Int)) (gd : List Int) : fin deepN (wD q st gd) = true := by
  simp [wD, deepN, fin, finL, stD, fin_rows, rowD, fin_ints]
theorem repr_row {L : List Int} (S : Sto) (h : ∀ x ∈ L, 0 ≤ x ∧ x < 1000) (hl : L.length ≤ 1000) : bRepr S [rowD L] = some (.str (toP (rowD L)).shown) := by
  simp only [bRepr]
  rw [show rs S (rowD L) = rowD L from rfl, shR_row h hl]
  rfl
theorem repr_b {b : Bool} (S : Sto) : bRepr S [.bl b] = some (.str (toP (.bl b)).shown) := by
  have : shR (.bl b) = true := by simp [shR, deepN, fin, intsOk, wt]
  simp only [bRepr]
  rw [show rs S (.bl b) = .bl b from rfl, this]
  rfl
end Mp
end SMm1k03

section SMak03
set_option Elab.async false
set_option linter.all false
open PySem
namespace Mp
/-! positions, and what leads on from them; plain -/
inductive Ps where
  | even (s : Int) | off (s : Int) | behind (s : Int) (r : List Int) | ahead (s : Int) (r : List Int)
deriving DecidableEq
namespace Ps
def base : Ps → Int
  | even s => s | off s => s | behind s _ => s | ahead s _ => s
def held : Ps → List Int
  | behind _ r => r | _ => []
def early : Ps → List Int
  | ahead _ r => r | _ => []
def isOff : Ps → Bool
  | off _ => true | _ => false
end Ps
theorem far_nil (st : List (List Int)) (s : Int) : far st s [] = s := rfl
theorem far_app (st : List (List Int)) (s : Int) (a b : List Int) : far st s (a ++ b) = far st (far st s a) b := List.foldl_append
section
variable (st : List (List Int)) (gd L lo : List Int) (q h a : Int)
def InR (r : List Int) : Prop := ∀ x ∈ r, 0 ≤ x ∧ x ≤ q - 1
structure Held (s : Int) (r : List Int) : Prop where
  inr : InR q r
  ne : r ≠ []
  le : (r.length : Int) ≤ h
  no : ∀ x ∈ r, x ∉ lo
  mid : ∀ k, 1 ≤ k → k ≤ r.length → far st s (r.take k) ∉ gd
  liv : far st s r ∈ L
def Valid : Ps → Prop
  | .even s => s ∈ gd
  | .off s => s ∈ gd
  | .behind s r => s ∈ gd ∧ Held st gd L lo q h s r
  | .ahead s r => InR q r ∧ r ≠ [] ∧ (r.length : Int) ≤ a ∧ s ∈ L ∧ s ∉ gd ∧ far st s r ∈ gd
/-- the state that the program has shown so far, and the one that was fed -/
def outS (p : Ps) : Int := far st p.base p.early
def runS (p : Ps) : Int := far st p.base p.held
open Classical in
noncomputable def doomP (p : Ps) (d : Int) (sh : List Int) : Option Ps :=
  if d ∉ lo then (if sh = [] then some (.off (outS st p)) else none)
  else if sh.take 1 ≠ [d] ∨ (sh.length : Int) > a + 1 then none
  else if far st (outS st p) sh ∈ gd then some (.off (far st (outS st p) sh)) else none
open Classical in
noncomputable def liveP (p : Ps) (d : Int) (sh : List Int) : Option Ps :=
  if d ∈ lo ∧ sh.take 1 ≠ [d] then none
  else if p.early ++ sh = p.held ++ [d] then (if far st (runS st p) [d] ∈ gd then some (.even (far st (runS st p) [d])) else none)
  else if far st (runS st p) [d] ∈ gd then none
  else if (p.early ++ sh).take (p.held ++ [d]).length = p.held ++ [d] then
    (if (((p.early ++ sh).drop (p.held ++ [d]).length).length : Int) ≤ a ∧ far st (far st (runS st p) [d]) ((p.early ++ sh).drop (p.held ++ [d]).length) ∈ gd then some (.ahead (far st (runS st p) [d]) ((p.early ++ sh).drop (p.held ++ [d]).length)) else none)
  else if p.early ++ sh ≠ (p.held ++ [d]).take (p.early ++ sh).length then none
  else if far st (outS st p) sh ∈ gd ∧ Held st gd L lo q h (far st (outS st p) sh) ((p.held ++ [d]).drop (p.early ++ sh).length) then some (.behind (far st (outS st p) sh) ((p.held ++ [d]).drop (p.early ++ sh).length)) else none
open Classical in
/-- the program's -/
noncomputable def ansP (p : Ps) (d : Int) (sh : List Int) : Option Ps :=
  if p.isOff = true ∨ far st (runS st p) [d] ∉ L then doomP st gd lo a p d sh else liveP st gd L lo q h a p d sh
/-- the law's -/
def ansL (p : Ps) (d : Int) (row : List Int) : Option Ps :=
  if far st p.base (p.early ++ row) ∉ gd then none
  else if p.isOff = true ∨ far st p.base (p.held ++ [d]) ∉ L then
    (if d ∈ lo then (if row.take 1 = [d] ∧ (row.length : Int) ≤ a + 1 then some (.off (far st p.base (p.early ++ row))) else none)
    else if row = [] then some (.off (far st p.base (p.early ++ row))) else none)
  else if d ∈ lo ∧ row.take 1 ≠ [d] then none
  else if far st p.base (p.held ++ [d]) ∈ gd then (if p.early ++ row = p.held ++ [d] then some (.even (far st p.base (p.held ++ [d]))) else none)
  else if (p.early ++ row).length < (p.held ++ [d]).length then
    (if (((p.held ++ [d]).length : Int) - (p.early ++ row).length ≤ h) ∧ (p.held ++ [d]).take (p.early ++ row).length = p.early ++ row then some (.behind (far st p.base (p.early ++ row)) ((p.held ++ [d]).drop (p.early ++ row).length)) else none)
  else (if (((p.early ++ row).length : Int) - (p.held ++ [d]).length ≤ a) ∧ (p.early ++ row).take (p.held ++ [d]).length = p.held ++ [d] then some (.ahead (far st p.base (p.held ++ [d])) ((p.early ++ row).drop (p.held ++ [d]).length)) else none)
end
section
variable {st : List (List Int)} {gd L lo : List Int} {q h a : Int}
theorem Valid.out {p : Ps} (v : Valid st gd L lo q h a p) : outS st p ∈ gd := by
  cases p with
  | even s => exact v
  | off s => exact v
  | behind s r => exact v.1
  | ahead s r => exact v.2.2.2.2.2
theorem far_early (p : Ps) (row : List Int) : far st p.base (p.early ++ row) = far st (outS st p) row := far_app ..
theorem far_held (p : Ps) (d : Int) : far st p.base (p.held ++ [d]) = far st (runS st p) [d] := far_app ..
theorem one_side (p : Ps) : p.held = [] ∨ p.early = [] := by cases p <;> simp [Ps.held, Ps.early]
theorem Valid.heldNo {p : Ps} (v : Valid st gd L lo q h a p) : ∀ x ∈ p.held, x ∉ lo := by
  cases p with
  | behind s r => exact v.2.no
  | _ => simp [Ps.held]
theorem Valid.heldIn {p : Ps} (v : Valid st gd L lo q h a p) : InR q p.held := by
  cases p with
  | behind s r => exact v.2.inr
  | _ => intro x hx; simp [Ps.held] at hx
theorem Valid.earlyIn {p : Ps} (v : Valid st gd L lo q h a p) : InR q p.early := by
  cases p with
  | ahead s r => exact v.1
  | _ => intro x hx; simp [Ps.early] at hx
theorem Valid.heldMid {p : Ps} (v : Valid st gd L lo q h a p) (k : Nat) (h1 : 1 ≤ k) (h2 : k ≤ p.held.length) : far st p.base (p.held.take k) ∉ gd := by
  cases p with
  | behind s r => exact v.2.mid k h1 h2
  | _ => simp [Ps.held] at h2; omega
/-- the program's and the law's are one -/
theorem ans_eq {p : Ps} (v : Valid st gd L lo q h a p) {d : Int} (hd : 0 ≤ d ∧ d ≤ q - 1) (row : List Int) (ha : 0 ≤ a) : ansP st gd L lo q h a p d row = ansL st gd L lo h a p d row := by
  have ho := v.out
  unfold ansP ansL
  rw [far_early, far_held]
  generalize hO : outS st p = O at *
  by_cases c : p.isOff = true ∨ far st (runS st p) [d] ∉ L
  · rw [if_pos c, if_pos c]
    unfold doomP
    rw [hO]
    by_cases dl : d ∈ lo
    · rcases Int.lt_or_le (a + 1) (row.length : Int) with l | l
      · by_cases e : far st O row ∈ gd <;> by_cases t : row.take 1 = [d] <;> simp [dl, e, t, l, Int.not_le.mpr l]
      · by_cases e : far st O row ∈ gd <;> by_cases t : row.take 1 = [d] <;> simp [dl, e, t, l, Int.not_lt.mpr l]
    · by_cases r0 : row = []
      · subst r0
        simp [dl, far_nil, ho]
      · simp [dl, r0]
  · rw [if_neg c, if_neg c]
    simp only [not_or, Classical.not_not] at c
    obtain ⟨c1, c2⟩ := c
    unfold liveP
    rw [hO]
    generalize hR : far st (runS st p) [d] = R at *
    by_cases s1 : d ∈ lo ∧ row.take 1 ≠ [d]
    · rw [if_pos s1, if_pos s1]; split <;> rfl
    rw [if_neg s1, if_neg s1]
    have fw : far st p.base (p.held ++ [d]) = R := by rw [far_held, hR]
    have fe : far st p.base (p.early ++ row) = far st O row := by rw [far_early, hO]
    by_cases s2 : p.early ++ row = p.held ++ [d]
    · have er : far st O row = R := by rw [← fe, s2, fw]
      rw [if_pos s2, er]
      by_cases g : R ∈ gd
      · rw [if_pos g, if_neg (by simpa using g), if_pos g, if_pos s2]
      · rw [if_neg g, if_pos g]
    rw [if_neg s2]
    by_cases g : R ∈ gd
    · rw [if_pos g, if_pos g, if_neg s2]; split <;> rfl
    rw [if_neg g, if_neg g]
    by_cases s3 : (p.early ++ row).take (p.held ++ [d]).length = p.held ++ [d]
    · have le : (p.held ++ [d]).length ≤ (p.early ++ row).length := by
        have := congrArg List.length s3
        rw [List.length_take] at this; omega
      rw [if_pos s3, if_neg (Nat.not_lt.mpr le)]
      have split_ : p.early ++ row = (p.held ++ [d]) ++ (p.early ++ row).drop (p.held ++ [d]).length := by
        conv => lhs; rw [← List.take_append_drop (p.held ++ [d]).length (p.early ++ row), s3]
      have ef : far st O row = far st R ((p.early ++ row).drop (p.held ++ [d]).length) := by rw [← fe, ← fw, ← far_app, ← split_]
      rw [ef]
      have el : (((p.early ++ row).drop (p.held ++ [d]).length).length : Int) = ((p.early ++ row).length : Int) - (p.held ++ [d]).length := by rw [List.length_drop]; omega
      rw [el]
      generalize far st R ((p.early ++ row).drop (p.held ++ [d]).length) = e1
      generalize (p.early ++ row).drop (p.held ++ [d]).length = dr
      generalize ((p.early ++ row).length : Int) - (p.held ++ [d]).length = l1
      by_cases c3 : l1 ≤ a <;> by_cases c4 : e1 ∈ gd <;> simp only [c3, c4, s3, if_true, if_false, not_true, not_false_iff, true_and, and_true, false_and, and_false]
    rw [if_neg s3]
    by_cases s4 : p.early ++ row = (p.held ++ [d]).take (p.early ++ row).length
    · have lt : (p.early ++ row).length < (p.held ++ [d]).length := by
        rcases Nat.lt_or_ge (p.early ++ row).length (p.held ++ [d]).length with z | z
        · exact z
        · rw [List.take_of_length_le z] at s4; exact absurd s4 s2
      rw [if_neg (by simpa using s4), if_pos lt]
      -- the early part is none
      have e0 : p.early = [] := by
        rcases one_side p with z | z
        · rw [z] at lt
          have l0 : (p.early ++ row).length = 0 := by simp only [List.nil_append, List.length_singleton] at lt; omega
          exact (List.append_eq_nil_iff.mp (List.eq_nil_of_length_eq_zero l0)).1
        · exact z
      rw [e0, List.nil_append] at s4 lt ⊢
      have hb : O = p.base := by rw [← hO, outS, e0, far_nil]
      subst hb
      by_cases g2 : far st p.base row ∈ gd
      case neg => rw [if_neg (fun z => g2 z.1), if_pos g2]
      rw [if_neg (show ¬ far st p.base row ∉ gd by simpa using g2)]
      by_cases c3 : ((p.held ++ [d]).length : Int) - row.length ≤ h
      case neg =>
        have nh : ¬ (far st p.base row ∈ gd ∧ Held st gd L lo q h (far st p.base row) ((p.held ++ [d]).drop row.length)) := by
          rintro ⟨_, z⟩
          have := z.le
          rw [List.length_drop] at this
          omega
        rw [if_neg nh, if_neg (fun z => c3 z.1)]
      suffices hh : Held st gd L lo q h (far st p.base row) ((p.held ++ [d]).drop row.length) by
        rw [if_pos ⟨g2, hh⟩, if_pos ⟨c3, s4.symm⟩]
      have spl : p.held ++ [d] = row ++ (p.held ++ [d]).drop row.length := by
        conv => lhs; rw [← List.take_append_drop row.length (p.held ++ [d]), ← s4]
      -- row is none: else one of the held beginnings were good
      have r0 : row = [] := by
        rcases Nat.eq_zero_or_pos row.length with z | z
        · exact List.eq_nil_of_length_eq_zero z
        · exfalso
          have l2 : row.length ≤ p.held.length := by simp at lt; omega
          refine v.heldMid row.length z l2 ?_
          rw [List.take_append_of_le_length l2] at s4
          rw [← s4]; exact g2
      subst r0
      simp only [List.length_nil, List.drop_zero, far_nil] at *
      have dn : d ∉ lo := fun z => s1 ⟨z, by simp⟩
      refine ⟨?_, by simp, by simpa using c3, ?_, ?_, ?_⟩
      · intro x hx
        rcases List.mem_append.mp hx with hx | hx
        · exact v.heldIn x hx
        · simp at hx; rw [hx]; exact hd
      · intro x hx
        rcases List.mem_append.mp hx with hx | hx
        · exact v.heldNo x hx
        · simp at hx; rw [hx]; exact dn
      · intro k k1 k2
        rcases Nat.lt_or_ge p.held.length k with z | z
        · rw [List.take_of_length_le (by simp; omega), fw]; exact g
        · rw [List.take_append_of_le_length z]; exact v.heldMid k k1 z
      · rw [fw]; exact c2
    · rw [if_pos (by simpa using s4)]
      have ge : ¬ (p.early ++ row).length < (p.held ++ [d]).length ∨ ¬ ((p.held ++ [d]).take (p.early ++ row).length = p.early ++ row) := .inr (fun z => s4 z.symm)
      by_cases lt : (p.early ++ row).length < (p.held ++ [d]).length
      · rw [if_pos lt, if_neg (show ¬ (_ ∧ _) from fun z => s4 z.2.symm)]; split <;> rfl
      · rw [if_neg lt, if_neg (show ¬ (_ ∧ _) from fun z => s3 z.2)]; split <;> rfl
end
end Mp
end SMak03

section SMbk03
set_option Elab.async false
set_option linter.all false
open PySem
namespace Mp
/-! all rows, and which of them lead on; plain -/
def layerR (q : Int) : Nat → List (List Int)
  | 0 => [[]]
  | n + 1 => (layerR q n).flatMap fun r => (List.range q.toNat).map fun (x : Nat) => r ++ [(x : Int)]
def allR (q : Int) : Nat → List (List Int)
  | 0 => [[]]
  | n + 1 => allR q n ++ layerR q (n + 1)
theorem mem_layer {q : Int} (hq : 1 ≤ q) : ∀ (n : Nat) (r : List Int), r ∈ layerR q n ↔ InR q r ∧ r.length = n
  | 0, r => by
    simp only [layerR, List.mem_singleton]
    constructor
    · rintro rfl; exact ⟨fun x hx => by simp at hx, rfl⟩
    · rintro ⟨_, h⟩; exact List.eq_nil_of_length_eq_zero h
  | n + 1, r => by
    simp only [layerR, List.mem_flatMap, List.mem_map, List.mem_range, mem_layer hq n]
    constructor
    · rintro ⟨r0, ⟨h1, h2⟩, x, hx, rfl⟩
      refine ⟨fun y hy => ?_, by simp [h2]⟩
      rcases List.mem_append.mp hy with hy | hy
      · exact h1 y hy
      · simp at hy; subst hy; omega
    · rintro ⟨h1, h2⟩
      have ne : r ≠ [] := by intro e; rw [e] at h2; simp at h2
      have hl := h1 _ (List.getLast_mem ne)
      refine ⟨r.dropLast, ⟨fun x hx => h1 x ((List.dropLast_sublist r).mem hx), by simp [h2]⟩, (r.getLast ne).toNat, by omega, ?_⟩
      rw [show (((r.getLast ne).toNat : Nat) : Int) = r.getLast ne by omega]
      exact List.dropLast_concat_getLast ne
theorem mem_all {q : Int} (hq : 1 ≤ q) : ∀ (n : Nat) (r : List Int), r ∈ allR q n ↔ InR q r ∧ r.length ≤ n
  | 0, r => by
    rw [show allR q 0 = layerR q 0 from rfl, mem_layer hq]
    constructor
    · rintro ⟨h1, h2⟩; exact ⟨h1, by omega⟩
    · rintro ⟨h1, h2⟩; exact ⟨h1, by omega⟩
  | n + 1, r => by
    rw [allR, List.mem_append, mem_all hq n, mem_layer hq]
    constructor
    · rintro (⟨h1, h2⟩ | ⟨h1, h2⟩)
      · exact ⟨h1, by omega⟩
      · exact ⟨h1, by omega⟩
    · rintro ⟨h1, h2⟩
      rcases Nat.lt_or_ge r.length (n + 1) with z | z
      · exact .inl ⟨h1, by omega⟩
      · exact .inr ⟨h1, by omega⟩
theorem all_head (q : Int) : ∀ n, ∃ t, allR q n = [] :: t
  | 0 => ⟨[], rfl⟩
  | n + 1 => by
    obtain ⟨t, e⟩ := all_head q n
    exact ⟨t ++ layerR q (n + 1), by rw [allR, e]; rfl⟩
/-- the rows that the program tries -/
def Tried (q a : Int) (p : Ps) (d : Int) (r : List Int) : Prop := r = [] ∨ ∃ row, (InR q row ∧ (row.length : Int) ≤ a) ∧ (r = d :: row ∨ r = (p.held ++ d :: row).drop p.early.length)
section
variable {st : List (List Int)} {gd L lo : List Int} {q h a : Int}
theorem InR.app {x y : List Int} (h1 : InR q x) (h2 : InR q y) : InR q (x ++ y) := fun z hz => (List.mem_append.mp hz).elim (h1 z) (h2 z)
theorem InR.cons {d : Int} {y : List Int} (h1 : 0 ≤ d ∧ d ≤ q - 1) (h2 : InR q y) : InR q (d :: y) := fun z hz => by
  rcases List.mem_cons.mp hz with rfl | hz
  · exact h1
  · exact h2 z hz
theorem InR.drop {x : List Int} (h1 : InR q x) (n : Nat) : InR q (x.drop n) := fun z hz => h1 z (List.mem_of_mem_drop hz)
theorem Valid.heldLe {p : Ps} (v : Valid st gd L lo q h a p) (hh : 0 ≤ h) : (p.held.length : Int) ≤ h := by
  cases p with
  | behind s r => exact v.2.le
  | _ => simpa [Ps.held] using hh
theorem tried_in {p : Ps} (v : Valid st gd L lo q h a p) {d : Int} (hd : 0 ≤ d ∧ d ≤ q - 1) (hh : 0 ≤ h) (ha : 0 ≤ a) {r : List Int} (t : Tried q a p d r) : InR q r ∧ (r.length : Int) ≤ h + a + 1 := by
  rcases t with rfl | ⟨row, ⟨i, l⟩, rfl | rfl⟩
  · exact ⟨fun x hx => by simp at hx, by simp; omega⟩
  · exact ⟨i.cons hd, by simp; omega⟩
  · refine ⟨(v.heldIn.app (i.cons hd)).drop _, ?_⟩
    have := v.heldLe hh
    rw [List.length_drop, List.length_append, List.length_cons]
    omega
theorem drop_early {e r w : List Int} (x : e ++ r = w) : r = w.drop e.length := by rw [← x]; simp
theorem led_tried {p : Ps} (v : Valid st gd L lo q h a p) {d : Int} {r : List Int} (i : InR q r) (ha : 0 ≤ a) (n : ansL st gd L lo h a p d r ≠ none) : Tried q a p d r := by
  unfold ansL at n
  split at n
  · exact absurd rfl n
  rename_i eg
  simp only [Classical.not_not] at eg
  split at n
  · split at n
    · split at n
      · rename_i c
        obtain ⟨c1, c2⟩ := c
        cases r with
        | nil => exact .inl rfl
        | cons x r =>
          simp at c1
          subst c1
          refine .inr ⟨r, ⟨fun y hy => i y (.tail _ hy), ?_⟩, .inl rfl⟩
          simp at c2; omega
      · exact absurd rfl n
    · split at n
      · rename_i c; exact .inl c
      · exact absurd rfl n
  split at n
  · exact absurd rfl n
  split at n
  · split at n
    · rename_i c
      refine .inr ⟨[], ⟨fun x hx => by simp at hx, by simpa using ha⟩, .inr (drop_early c)⟩
    · exact absurd rfl n
  split at n
  · rename_i lt
    split at n
    · rename_i c
      obtain ⟨_, c⟩ := c
      refine .inl ?_
      rcases one_side p with z | z
      · have l0 : (p.early ++ r).length = 0 := by rw [z] at lt; simp only [List.nil_append, List.length_singleton] at lt; omega
        exact (List.append_eq_nil_iff.mp (List.eq_nil_of_length_eq_zero l0)).2
      · rw [z, List.nil_append] at lt c eg
        rcases Nat.eq_zero_or_pos r.length with w | w
        · exact List.eq_nil_of_length_eq_zero w
        · exfalso
          have l2 : r.length ≤ p.held.length := by simp at lt; omega
          refine v.heldMid r.length w l2 ?_
          rw [List.take_append_of_le_length l2] at c
          rw [c]; exact eg
    · exact absurd rfl n
  · split at n
    · rename_i lt c
      obtain ⟨c1, c2⟩ := c
      have le : (p.held ++ [d]).length ≤ (p.early ++ r).length := Nat.le_of_not_lt lt
      refine .inr ⟨(p.early ++ r).drop (p.held ++ [d]).length, ⟨(v.earlyIn.app i).drop _, ?_⟩, .inr (drop_early ?_)⟩
      · rw [List.length_drop]; omega
      · conv => lhs; rw [← List.take_append_drop (p.held ++ [d]).length (p.early ++ r), c2]
        simp
    · exact absurd rfl n
/-- a row of nine deeds leads nowhere -/
theorem long_none {p : Ps} (v : Valid st gd L lo q h a p) {d : Int} (hd : 0 ≤ d ∧ d ≤ q - 1) (hh : 0 ≤ h) (ha : 0 ≤ a) {r : List Int} (i : InR q r) (l : h + a + 1 < r.length) : ansL st gd L lo h a p d r = none := by
  by_cases n : ansL st gd L lo h a p d r = none
  · exact n
  · have := (tried_in v hd hh ha (led_tried v i ha n)).2
    omega
end
end Mp
end SMbk03

section SMck03
set_option Elab.async false
set_option linter.all false
set_option maxHeartbeats 1000000
open PySem
namespace Mp
/-! rows and positions as data -/
theorem eqvAll_ints : ∀ x y : List Int, PyData.eqvAll (toPs (x.map .int)) (toPs (y.map .int)) = decide (x = y)
  | [], [] => by simp [toPs, PyData.eqvAll]
  | [], y :: ys => by simp [toPs, PyData.eqvAll]
  | x :: xs, [] => by simp [toPs, PyData.eqvAll]
  | x :: xs, y :: ys => by
    have ih := eqvAll_ints xs ys
    have e := eqP_ii (i := x) (j := y)
    unfold eqP at e
    simp only [List.map_cons, toPs, PyData.eqvAll, ih, e]
    by_cases h1 : x = y <;> by_cases h2 : xs = ys <;> simp [h1, h2]
theorem eqP_rows (x y : List Int) : eqP (rowD x) (rowD y) = decide (x = y) := by
  unfold eqP rowD
  simp only [toP, PyData.eqv]
  exact eqvAll_ints x y
theorem cEq_rows (S : Sto) (x y : List Int) : cEq S (rowD x) (rowD y) = some (.bl (decide (x = y))) := by
  have h := eqP_rows x y
  simp only [cEq, oEq]
  rw [if_neg (by simp [rowD, isStr]), if_pos ⟨by simp [rs, rowD, deepN, fin, fin_ints], by simp [rs, rowD, deepN, fin, fin_ints]⟩]
  simp only [rowD, rs] at h ⊢
  rw [h]; rfl
theorem cNe_rows (S : Sto) (x y : List Int) : cNe S (rowD x) (rowD y) = some (.bl (!decide (x = y))) := by
  have h := cEq_rows S x y
  simp only [cEq, cNe] at h ⊢
  cases q : oEq S (rowD x) (rowD y) with
  | none => rw [q] at h; simp at h
  | some b => rw [q] at h; simp at h; simp [h]
theorem cut_to (r : List Int) (k : Nat) : cut (r.map .int) none (some (k : Int)) = (r.take k).map .int := by
  simp only [cut, sIx]
  rw [if_pos (by omega)]
  simp only [List.drop_zero, Int.toNat_natCast, Nat.sub_zero, List.length_map, ← List.map_take]
  rcases Nat.le_total k r.length with h | h
  · rw [Nat.min_eq_left h]
  · rw [Nat.min_eq_right h, List.take_of_length_le h, List.take_length]
theorem cut_from (r : List Int) (k : Nat) : cut (r.map .int) (some (k : Int)) none = (r.drop k).map .int := by
  simp only [cut, sIx]
  rw [if_pos (by omega)]
  simp only [Int.toNat_natCast, List.length_map, ← List.map_drop, ← List.map_take]
  congr 1
  rcases Nat.le_total k r.length with h | h
  · rw [Nat.min_eq_left h, List.take_of_length_le (by simp)]
  · rw [Nat.min_eq_right h, List.drop_of_length_le h]; simp
theorem cut_to1 (r : List Int) : cut (r.map .int) none (some 1) = (r.take 1).map .int := cut_to r 1
theorem seqOf_row (S : Sto) (r : List Int) : seqOf S (rowD r) = some (r.map .int) := rfl
theorem aStar_row (S : Sto) (e : Ev) (r : List Int) (a : MEx) (m : MAs) (h : a e S = .ok (rowD r) S) : aStar a m e S = (m e S).bind fun ys S => .ok (r.map .int ++ ys) S := by
  unfold aStar; rw [h]; rfl
def kD (h a : Int) (lo : List Int) : D := .tup [.int h, .int a, rowD lo]
def posD : Ps → D
  | .even s => .tup [.str "even", .int s]
  | .off s => .tup [.str "off", .int s]
  | .behind s r => .tup [.str "behind", .int s, rowD r]
  | .ahead s r => .tup [.str "ahead", .int s, rowD r]
def resD : Option Ps → D
  | none => .non
  | some p => posD p
section
variable {q : Int} {st : List (List Int)} {gd : List Int}
theorem wD_0 (S : Sto) : oIx S (wD q st gd) (.int 0) = some (.int q) := by simp [wD, ixN]
theorem wD_1 (S : Sto) : oIx S (wD q st gd) (.int 1) = some (stD st) := by simp [wD, ixN]
theorem wD_2 (S : Sto) : oIx S (wD q st gd) (.int 2) = some (rowD gd) := by simp [wD, ixN]
theorem kD_0 (S : Sto) (h a : Int) (lo : List Int) : oIx S (kD h a lo) (.int 0) = some (.int h) := by simp [kD, ixN]
theorem kD_1 (S : Sto) (h a : Int) (lo : List Int) : oIx S (kD h a lo) (.int 1) = some (.int a) := by simp [kD, ixN]
theorem kD_2 (S : Sto) (h a : Int) (lo : List Int) : oIx S (kD h a lo) (.int 2) = some (rowD lo) := by simp [kD, ixN]
theorem cIn_row (S : Sto) (x : Int) (r : List Int) : cIn S (.int x) (rowD r) = some (.bl (decide (x ∈ r))) := cIn_t ..
theorem cNotIn_row (S : Sto) (x : Int) (r : List Int) : cNotIn S (.int x) (rowD r) = some (.bl (!decide (x ∈ r))) := cNotIn_t ..
theorem bLen_row (S : Sto) (r : List Int) : bLen S [rowD r] = some (.int r.length) := by simp [rowD]
theorem behind_s (w : WF q st gd) {s : Int} (s0 : 0 ≤ s) (s1 : s < st.length) {r : List Int} (hr : InR q r) (S : Sto) : d_behind [wD q st gd, .int s, rowD r] S = .ok (.int (far st s r)) S := by
  have := w.s1
  refine defP_ok rfl ?_ rfl
  simp [rowD]
  refine tot_mono (forGo_tot (fun k e S' => S' = S ∧ ∃ x, e = [some (wD q st gd), some (.int (far st s (r.take k))), some (rowD r), x]) _ 0 _ _ ⟨rfl, none, rfl⟩ (fun _ _ _ _ => rfl) ?_) ?_
  · rintro i hi e S' ⟨rfl, x, rfl⟩
    simp only [List.length_map] at hi
    refine ⟨_, rfl, ?_⟩
    obtain ⟨d0, d1⟩ := hr r[i] (List.getElem_mem hi)
    obtain ⟨a, b⟩ := far_in w (r.take i) s s0 s1 (fun x hx => hr x (List.mem_of_mem_take hx))
    obtain ⟨c, d⟩ := w.rows _ (st_row w a b)
    simp [wD, ixN]
    simp [ix_st S' a b]
    simp [ix_row S' d0 (by omega : r[i] < (st[(far st s (r.take i)).toNat]?.getD []).length)]
    have e3 : far st s (r.take (i + 1)) = nxt st (far st s (r.take i)) r[i] := by
      rw [← List.take_append_getElem hi, far, List.foldl_append]; rfl
    simp [e3, nxt]
  · rintro f S' ⟨e2, rfl, rfl, x, rfl⟩
    simp
theorem law_far_s (w : WF q st gd) {s : Int} (s0 : 0 ≤ s) (s1 : s < st.length) {r : List Int} (hr : InR q r) (S : Sto) : d_law_far [wD q st gd, .int s, rowD r] S = .ok (.int (far st s r)) S := behind_s w s0 s1 hr S
/-- a position's parts lie within bounds -/
structure PIn (q : Int) (st : List (List Int)) (p : Ps) : Prop where
  s0 : 0 ≤ p.base
  s1 : p.base < st.length
  hi : InR q p.held
  ei : InR q p.early
theorem PIn.out {p : Ps} (w : WF q st gd) (v : PIn q st p) : 0 ≤ outS st p ∧ outS st p < st.length := far_in w _ _ v.s0 v.s1 v.ei
theorem PIn.run {p : Ps} (w : WF q st gd) (v : PIn q st p) : 0 ≤ runS st p ∧ runS st p < st.length := far_in w _ _ v.s0 v.s1 v.hi
def offD (st : List (List Int)) (p : Ps) : D := if p.isOff = true then .non else .int (runS st p)
theorem nil_row : D.tup [] = rowD [] := rfl
theorem outputs_ok (w : WF q st gd) {p : Ps} (v : PIn q st p) (S : Sto) : d_outputs_of [wD q st gd, posD p] S = .ok (.tup [.int (outS st p), offD st p, rowD p.held, rowD p.early]) S := by
  have n1 : ¬ (Str.ofString "even" = Str.ofString "off") := by decide
  have n2 : ¬ (Str.ofString "behind" = Str.ofString "off") := by decide
  have n3 : ¬ (Str.ofString "behind" = Str.ofString "even") := by decide
  have n4 : ¬ (Str.ofString "ahead" = Str.ofString "off") := by decide
  have n5 : ¬ (Str.ofString "ahead" = Str.ofString "even") := by decide
  have n6 : ¬ (Str.ofString "ahead" = Str.ofString "behind") := by decide
  refine defP_ok rfl ?_ ?_
  · cases p with
    | off s => simp [posD, ixN, sizeLine, outS, offD, Ps.base, Ps.early, Ps.held, Ps.isOff, far_nil, rowD]
    | even s => simp [posD, ixN, sizeLine, outS, runS, offD, Ps.base, Ps.early, Ps.held, Ps.isOff, far_nil, rowD, n1]
    | behind s r => 
      have b := behind_s w v.s0 v.s1 v.hi S
      simp only [Ps.base, Ps.held] at b
      simp [posD, ixN, sizeLine, outS, runS, offD, Ps.base, Ps.early, Ps.held, Ps.isOff, far_nil, n2, n3, b, nil_row]
    | ahead s r =>
      have b := behind_s w v.s0 v.s1 v.ei S
      simp only [Ps.base, Ps.early] at b
      simp [posD, ixN, sizeLine, outS, runS, offD, Ps.base, Ps.early, Ps.held, Ps.isOff, far_nil, n4, n5, n6, b, nil_row]
  · unfold offD; split <;> simp [plain, plainL, rowD, plainL_ints]
end
end Mp
end SMck03

section SMdk03
set_option Elab.async false
set_option linter.all false
set_option maxHeartbeats 1000000
open PySem
namespace Mp
section
variable {q : Int} {st : List (List Int)} {gd L lo : List Int} {h a : Int}
def endsOf (st : List (List Int)) (s : Int) (r : List Int) : List Int := (List.range r.length).map fun k => far st s (r.take (k + 1))
theorem ends_last {s : Int} {r : List Int} (ne : r ≠ []) (S : Sto) : oIx S (.lst ((endsOf st s r).map .int)) (.int (-1)) = some (.int (far st s r)) := by
  have hl : 0 < r.length := List.length_pos_iff.mpr ne
  have e1 : ixN ((endsOf st s r).map D.int).length (-1) = some (r.length - 1) := by
    rw [ixN, if_pos (by omega), if_pos (by simp [endsOf]; omega)]
    simp [endsOf]; omega
  rw [oIx_l, e1]
  simp [endsOf, show r.length - 1 < r.length by omega, show r.length - 1 + 1 = r.length by omega]
theorem mem_ends {s x : Int} {r : List Int} : x ∈ endsOf st s r ↔ ∃ k, 1 ≤ k ∧ k ≤ r.length ∧ far st s (r.take k) = x := by
  simp only [endsOf, List.mem_map, List.mem_range]
  constructor
  · rintro ⟨k, hk, e⟩; exact ⟨k + 1, by omega, by omega, e⟩
  · rintro ⟨k, h1, h2, e⟩; exact ⟨k - 1, by omega, by rw [show k - 1 + 1 = k by omega]; exact e⟩
theorem held_ok (w : WF q st gd) (hL : ∀ S, d_live_in [wD q st gd] S = .ok (.lst (L.map .int)) S) {s : Int} (s0 : 0 ≤ s) (s1 : s < st.length) {r : List Int} (hr : InR q r) (hl : r.length < 1000) (S : Sto) :
    ∃ b, d_is_held [wD q st gd, kD h a lo, .int s, rowD r] S = .ok (.bl b) S ∧ (b = true ↔ Held st gd L lo q h s r) := by
  have hrow : d_is_row [rowD r, .int (q - 1)] S = .ok (.bl true) S := by rw [is_row_s _ _ S (tame_row (by omega)), isR_row, all_in hr]
  have any1 : ∀ e : Ev, compGo ⟨r.map .int, none⟩ [some (wD q st gd), some (kD h a lo), some (.int s), some (rowD r), none, none, none, none] (.nm 6) tYes (mOp cIn (mVar 6) (mIx (mVar 1) (mC (.int 2)))) (r.map .int) S = .ok (r.map fun x => .bl (decide (x ∈ lo))) S := fun _ =>
    compGo_map (g := D.int) (fun x => .bl (decide (x ∈ lo))) (fun x => [some (wD q st gd), some (kD h a lo), some (.int s), some (rowD r), none, none, some (.int x), none]) rfl r (fun x _ => ⟨by simp, by simp [kD_2, cIn_row]⟩)
  by_cases n1 : (1 : Int) ≤ r.length
  case neg =>
    refine ⟨false, defP_ok rfl ?_ rfl, ?_⟩
    · simp [wD_0, hrow, bLen_row, n1]
    · constructor
      · intro z; cases z
      · intro z; exact absurd (List.length_pos_iff.mpr z.ne) (by omega)
  by_cases n2 : (r.length : Int) ≤ h
  case neg =>
    refine ⟨false, defP_ok rfl ?_ rfl, ?_⟩
    · simp [wD_0, hrow, bLen_row, n1, n2, kD_0]
    · constructor
      · intro z; cases z
      · intro z; exact absurd z.le n2
  by_cases n3 : ∃ x ∈ r, x ∈ lo
  case pos =>
    refine ⟨false, defP_ok rfl ?_ rfl, ?_⟩
    · have e := any1 []
      simp [wD_0, hrow, bLen_row, n1, n2, kD_0]
      simp only [rowD, List.length_map, if_pos (lt_size (by omega : r.length < 10000)), bind_ok] at e ⊢
      rw [e]
      simp [calm]
      rw [if_pos n3]
      simp
    · constructor
      · intro z; cases z
      · intro z; obtain ⟨x, h1, h2⟩ := n3; exact absurd h2 (z.no x h1)
  have ne : r ≠ [] := by intro z; rw [z] at n1; simp at n1
  have mid : ∀ x ∈ endsOf st s r, True := fun _ _ => trivial
  refine ⟨!((endsOf st s r).any fun x => decide (x ∈ gd)) && decide (far st s r ∈ L), defP_ok rfl ?_ rfl, ?_⟩
  · have e := any1 []
    simp [wD_0, hrow, bLen_row, n1, n2, kD_0]
    simp only [rowD, List.length_map, if_pos (lt_size (by omega : r.length < 10000)), bind_ok] at e ⊢
    rw [e]
    simp [calm]
    rw [if_neg n3]
    simp only [tot_ok, nxQ_nx, tot_seq_iff]
    have ro : rngOk (1 : Int) ∧ rngOk ((r.length : Int) + 1) := ⟨rngOk_of (by omega) (by omega), rngOk_of (by omega) (by omega)⟩
    have e2 : compGo ⟨rng 1 r.length, none⟩ [some (wD q st gd), some (kD h a lo), some (.int s), some (.tup (r.map .int)), none, none, none, none] (.nm 5) tYes (mCall d_behind (aCons (mVar 0) (aCons (mVar 2) (aCons (mSlA (mVar 3) pNone (pSome (mVar 5))) aNil)))) (rng 1 r.length) S = .ok ((endsOf st s r).map .int) S := by
      have := compGo_map (r := ⟨rng 1 r.length, none⟩) (S := S) (f := mCall d_behind (aCons (mVar 0) (aCons (mVar 2) (aCons (mSlA (mVar 3) pNone (pSome (mVar 5))) aNil)))) (p := .nm 5) (e := [some (wD q st gd), some (kD h a lo), some (.int s), some (.tup (r.map .int)), none, none, none, none]) (g := fun (k : Nat) => D.int (1 + (k : Int))) (fun k => .int (far st s (r.take (k + 1)))) (fun k => [some (wD q st gd), some (kD h a lo), some (.int s), some (.tup (r.map .int)), none, some (.int (1 + (k : Int))), none, none]) rfl (List.range r.length) (fun k hk => ⟨by simp, ?_⟩)
      · rw [show (List.range r.length).map (fun (k : Nat) => D.int (1 + (k : Int))) = rng 1 r.length from rfl] at this
        rw [this, endsOf, List.map_map]; rfl
      · have ct : cut (r.map .int) none (some (1 + (k : Int))) = (r.take (k + 1)).map .int := by
          have := cut_to r (k + 1)
          rwa [show (((k + 1 : Nat)) : Int) = 1 + (k : Int) by omega] at this
        have bs := behind_s w s0 s1 (fun x hx => hr x (List.mem_of_mem_take hx) : InR q (r.take (k + 1))) S
        simp [ct, -List.map_take]
        rw [← rowD, ← rowD, bs]
    have le : (endsOf st s r).length = r.length := by simp [endsOf]
    have e3 : compGo ⟨(endsOf st s r).map .int, none⟩ [some (wD q st gd), some (kD h a lo), some (.int s), some (.tup (r.map .int)), some (.lst ((endsOf st s r).map .int)), none, none, none] (.nm 7) tYes (mOp cIn (mVar 7) (mIx (mVar 0) (mC (.int 2)))) ((endsOf st s r).map .int) S = .ok ((endsOf st s r).map fun x => .bl (decide (x ∈ gd))) S :=
      compGo_map (g := D.int) (fun x => .bl (decide (x ∈ gd))) (fun x => [some (wD q st gd), some (kD h a lo), some (.int s), some (.tup (r.map .int)), some (.lst ((endsOf st s r).map .int)), none, none, some (.int x)]) rfl _ (fun x _ => ⟨by simp, by simp [wD_2, cIn_row]⟩)
    simp [ro, show ((r.length : Int) + 1 - 1).toNat = r.length by omega]
    rw [show (rng 1 r.length).length = r.length by simp [rng], if_pos (lt_size (by omega)), e2]
    simp [calm, le]
    rw [if_pos (lt_size (by omega)), e3]
    have last := ends_last (st := st) (s := s) ne S
    simp [le] at last
    simp [calm, hL, last]
    cases (endsOf st s r).any fun x => decide (x ∈ gd) <;> simp
  · simp only [Bool.and_eq_true, Bool.not_eq_true', List.any_eq_false, decide_eq_true_eq]
    constructor
    · rintro ⟨z1, z2⟩
      exact ⟨hr, ne, n2, fun x hx hlo => n3 ⟨x, hx, hlo⟩, fun k k1 k2 => z1 _ (mem_ends.mpr ⟨k, k1, k2, rfl⟩), z2⟩
    · intro z
      refine ⟨fun x hx => ?_, z.liv⟩
      obtain ⟨k, k1, k2, rfl⟩ := mem_ends.mp hx
      exact z.mid k k1 k2
end
end Mp
end SMdk03

section SMek03
set_option Elab.async false
set_option linter.all false
set_option maxHeartbeats 2000000
open PySem
namespace Mp
section
variable {e : Ev} {S : Sto} {i j : Nat} {r t : List Int}
theorem slTo1 (r : List Int) (h : e[i]? = some (some (rowD r))) : mSlA (mVar i) pNone (pSome (mC (.int 1))) e S = .ok (rowD (r.take 1)) S := by
  simp only [mSlA_e, mVar_e, h, bind_ok, pNone_e, pSome_e, mC_e, rowD, cut_to1]
theorem slTo (r t : List Int) (h : e[i]? = some (some (rowD r))) (h2 : e[j]? = some (some (rowD t))) : mSlA (mVar i) pNone (pSome (mB bLen (aCons (mVar j) aNil))) e S = .ok (rowD (r.take t.length)) S := by
  simp only [mSlA_e, mVar_e, h, h2, bind_ok, pNone_e, pSome_e, mB_e, aCons_e, aNil_e, bLen_row, oo_some]
  simp only [rowD, cut_to]
theorem slFrom (r t : List Int) (h : e[i]? = some (some (rowD r))) (h2 : e[j]? = some (some (rowD t))) : mSlA (mVar i) (pSome (mB bLen (aCons (mVar j) aNil))) pNone e S = .ok (rowD (r.drop t.length)) S := by
  simp only [mSlA_e, mVar_e, h, h2, bind_ok, pNone_e, pSome_e, mB_e, aCons_e, aNil_e, bLen_row, oo_some]
  simp only [rowD, cut_from]
theorem aStar_e (a : MEx) (m : MAs) : aStar a m e S = (a e S).bind fun x S => match seqOf S x with
  | some xs => (m e S).bind fun ys S => .ok (xs ++ ys) S
  | none => .bad := rfl
theorem one_row (d : Int) : D.tup [.int d] = rowD [d] := rfl
theorem app1_row (x : List Int) (d : Int) : D.tup (x.map .int ++ [.int d]) = rowD (x ++ [d]) := by simp [rowD]
theorem app2_row (x y : List Int) : D.tup (x.map .int ++ y.map .int) = rowD (x ++ y) := by simp [rowD]
end
section
variable {q : Int} {st : List (List Int)} {gd L lo : List Int} {h a : Int}
theorem far1 (w : WF q st gd) {p : Ps} (v : PIn q st p) {d : Int} (hd : 0 ≤ d ∧ d ≤ q - 1) (S : Sto) : d_behind [wD q st gd, .int (runS st p), rowD [d]] S = .ok (.int (far st (runS st p) [d])) S :=
  behind_s w (v.run w).1 (v.run w).2 (fun x hx => by simp at hx; rw [hx]; exact hd) S
theorem far2 (w : WF q st gd) {p : Ps} (v : PIn q st p) {r : List Int} (hr : InR q r) (S : Sto) : d_behind [wD q st gd, .int (outS st p), rowD r] S = .ok (.int (far st (outS st p) r)) S :=
  behind_s w (v.out w).1 (v.out w).2 hr S
theorem resD_none : resD none = .non := rfl
theorem resD_off (x : Int) : resD (some (.off x)) = .tup [.str "off", .int x] := rfl
theorem resD_even (x : Int) : resD (some (.even x)) = .tup [.str "even", .int x] := rfl
theorem resD_behind (x : Int) (r : List Int) : resD (some (.behind x r)) = .tup [.str "behind", .int x, rowD r] := rfl
theorem resD_ahead (x : Int) (r : List Int) : resD (some (.ahead x r)) = .tup [.str "ahead", .int x, rowD r] := rfl
theorem res_plain (o : Option Ps) : plain (resD o) = true := by
  cases o with
  | none => rfl
  | some p => cases p <;> simp [resD, posD, plain, plainL, rowD, plainL_ints]
theorem doom_ok (w : WF q st gd) {p : Ps} (v : PIn q st p) {d : Int} {r : List Int} (hr : InR q r) (S : Sto) : d_doomed_behind [wD q st gd, kD h a lo, posD p, .int d, rowD r] S = .ok (resD (doomP st gd lo a p d r)) S := by
  have ho := outputs_ok w v S
  have hf := far2 w v hr S
  refine defP_ok rfl ?_ (res_plain _)
  unfold doomP
  have c0 := cEq_rows S r []
  have c1 := cNe_rows S (r.take 1) [d]
  by_cases dl : d ∈ lo
  · rcases Int.lt_or_le (a + 1) (r.length : Int) with l | l
    · by_cases t : r.take 1 = [d]
      · simp [kD_2, cNotIn_row, dl, slTo1 r, sizeLine, one_row, cNe_rows, t, bLen_row, kD_1, l, resD_none, -mSlA_e]
      · simp [kD_2, cNotIn_row, dl, slTo1 r, sizeLine, one_row, cNe_rows, t, bLen_row, kD_1, l, resD_none, -mSlA_e]
    · by_cases t : r.take 1 = [d]
      · by_cases g : far st (outS st p) r ∈ gd
        · simp [kD_2, cNotIn_row, dl, slTo1 r, sizeLine, one_row, cNe_rows, t, bLen_row, kD_1, l, Int.not_lt.mpr l, ho, ixN, hf, wD_2, cIn_row, g, resD_none, resD_off, -mSlA_e]
        · simp [kD_2, cNotIn_row, dl, slTo1 r, sizeLine, one_row, cNe_rows, t, bLen_row, kD_1, l, Int.not_lt.mpr l, ho, ixN, hf, wD_2, cIn_row, g, resD_none, resD_off, -mSlA_e]
      · simp [kD_2, cNotIn_row, dl, slTo1 r, sizeLine, one_row, cNe_rows, t, bLen_row, kD_1, l, resD_none, -mSlA_e]
  · by_cases r0 : r = []
    · simp [kD_2, cNotIn_row, dl, sizeLine, nil_row, cEq_rows, r0, ho, ixN, resD_off]
    · simp [kD_2, cNotIn_row, dl, sizeLine, nil_row, cEq_rows, r0, resD_none]
theorem live_ok2 (w : WF q st gd) (hL : ∀ S, d_live_in [wD q st gd] S = .ok (.lst (L.map .int)) S) {p : Ps} (v : PIn q st p) (no : p.isOff = false) (hl : p.held.length < 100) (el : p.early.length < 100) {d : Int} (hd : 0 ≤ d ∧ d ≤ q - 1) {r : List Int} (hr : InR q r) (rl : r.length < 100) (S : Sto) :
    d_live_behind [wD q st gd, kD h a lo, posD p, .int d, rowD r] S = .ok (resD (liveP st gd L lo q h a p d r)) S := by
  have ho := outputs_ok w v S
  have hf := far2 w v hr S
  have hf1 := far1 w v hd S
  have od : offD st p = .int (runS st p) := by unfold offD; rw [no]; rfl
  rw [od] at ho
  have z1 : p.held.length + 1 ≤ 16777216 := by omega
  have z2 : p.early.length + r.length ≤ 16777216 := by omega
  have z3 : (p.held.map D.int ++ [D.int d]).length ≤ 16777216 := by simp; omega
  have z4 : (p.early.map D.int ++ r.map D.int).length ≤ 16777216 := by simp; omega
  have inw : InR q (p.held ++ [d]) := v.hi.app (fun x hx => by simp at hx; rw [hx]; exact hd)
  have hmore := fun k => behind_s w (far_in w [d] (runS st p) (v.run w).1 (v.run w).2 (fun x hx => by simp at hx; rw [hx]; exact hd)).1 (far_in w [d] (runS st p) (v.run w).1 (v.run w).2 (fun x hx => by simp at hx; rw [hx]; exact hd)).2 ((v.ei.app hr).drop k) S
  refine defP_ok rfl ?_ (res_plain _)
  unfold liveP
  by_cases s1 : d ∈ lo ∧ r.take 1 ≠ [d]
  · obtain ⟨dl, t⟩ := s1
    simp [ho, kD_2, cIn_row, dl, slTo1 r, sizeLine, one_row, cNe_rows, t, resD_none, -mSlA_e]
  rw [if_neg s1]
  by_cases dl : d ∈ lo
  · have t : r.take 1 = [d] := Classical.byContradiction fun t => s1 ⟨dl, t⟩
    by_cases s2 : p.early ++ r = p.held ++ [d]
    · by_cases g : far st (runS st p) [d] ∈ gd
      · simp [ho, kD_0, kD_1, kD_2, wD_2, cIn_row, slTo1 r, slTo (p.early ++ r) (p.held ++ [d]), slTo (p.held ++ [d]) (p.early ++ r), slFrom (p.early ++ r) (p.held ++ [d]), slFrom (p.held ++ [d]) (p.early ++ r), sizeLine, one_row, cNe_rows, cEq_rows, bLen_row, aStar_e, seqOf_row, app1_row, app2_row, hf, hf1, z1, z2, z3, z4, resD_none, resD_even, resD_ahead, resD_behind, dl, t, s2, g, -mSlA_e]
      · simp [ho, kD_0, kD_1, kD_2, wD_2, cIn_row, slTo1 r, slTo (p.early ++ r) (p.held ++ [d]), slTo (p.held ++ [d]) (p.early ++ r), slFrom (p.early ++ r) (p.held ++ [d]), slFrom (p.held ++ [d]) (p.early ++ r), sizeLine, one_row, cNe_rows, cEq_rows, bLen_row, aStar_e, seqOf_row, app1_row, app2_row, hf, hf1, z1, z2, z3, z4, resD_none, resD_even, resD_ahead, resD_behind, dl, t, s2, g, -mSlA_e]
    by_cases g : far st (runS st p) [d] ∈ gd
    · simp [ho, kD_0, kD_1, kD_2, wD_2, cIn_row, slTo1 r, slTo (p.early ++ r) (p.held ++ [d]), slTo (p.held ++ [d]) (p.early ++ r), slFrom (p.early ++ r) (p.held ++ [d]), slFrom (p.held ++ [d]) (p.early ++ r), sizeLine, one_row, cNe_rows, cEq_rows, bLen_row, aStar_e, seqOf_row, app1_row, app2_row, hf, hf1, z1, z2, z3, z4, resD_none, resD_even, resD_ahead, resD_behind, dl, t, s2, g, -mSlA_e]
    by_cases s3 : (p.early ++ r).take (p.held ++ [d]).length = p.held ++ [d]
    · have hm := hmore (p.held ++ [d]).length
      rw [if_neg s2, if_neg g, if_pos s3]
      generalize hdr : (p.early ++ r).drop (p.held ++ [d]).length = dr at hm ⊢
      by_cases c3 : (dr.length : Int) ≤ a
      · by_cases c4 : far st (far st (runS st p) [d]) dr ∈ gd
        · simp only [if_pos (And.intro c3 c4)]; simp [ho, kD_0, kD_1, kD_2, wD_2, cIn_row, slTo1 r, slTo (p.early ++ r) (p.held ++ [d]), slTo (p.held ++ [d]) (p.early ++ r), slFrom (p.early ++ r) (p.held ++ [d]), slFrom (p.held ++ [d]) (p.early ++ r), sizeLine, one_row, cNe_rows, cEq_rows, bLen_row, aStar_e, seqOf_row, app1_row, app2_row, hf, hf1, z1, z2, z3, z4, resD_none, resD_even, resD_ahead, resD_behind, dl, t, s2, g, s3, hm, hdr, c3, c4, -mSlA_e, -List.length_append]
        · simp only [if_neg (fun z : _ ∧ _ => c4 z.2)]; simp [ho, kD_0, kD_1, kD_2, wD_2, cIn_row, slTo1 r, slTo (p.early ++ r) (p.held ++ [d]), slTo (p.held ++ [d]) (p.early ++ r), slFrom (p.early ++ r) (p.held ++ [d]), slFrom (p.held ++ [d]) (p.early ++ r), sizeLine, one_row, cNe_rows, cEq_rows, bLen_row, aStar_e, seqOf_row, app1_row, app2_row, hf, hf1, z1, z2, z3, z4, resD_none, resD_even, resD_ahead, resD_behind, dl, t, s2, g, s3, hm, hdr, c3, c4, -mSlA_e, -List.length_append]
      · simp only [if_neg (fun z : _ ∧ _ => c3 z.1)]; simp [ho, kD_0, kD_1, kD_2, wD_2, cIn_row, slTo1 r, slTo (p.early ++ r) (p.held ++ [d]), slTo (p.held ++ [d]) (p.early ++ r), slFrom (p.early ++ r) (p.held ++ [d]), slFrom (p.held ++ [d]) (p.early ++ r), sizeLine, one_row, cNe_rows, cEq_rows, bLen_row, aStar_e, seqOf_row, app1_row, app2_row, hf, hf1, z1, z2, z3, z4, resD_none, resD_even, resD_ahead, resD_behind, dl, t, s2, g, s3, hm, hdr, c3, -mSlA_e, -List.length_append]
    by_cases s4 : p.early ++ r = (p.held ++ [d]).take (p.early ++ r).length
    · obtain ⟨b, hb1, hb2⟩ := held_ok (h := h) (a := a) (lo := lo) w hL (far_in w r _ (v.out w).1 (v.out w).2 hr).1 (far_in w r _ (v.out w).1 (v.out w).2 hr).2 (inw.drop (p.early ++ r).length) (by simp; omega) S
      rw [if_neg s2, if_neg g, if_neg s3, if_neg (by simpa using s4)]
      generalize hdr : (p.held ++ [d]).drop (p.early ++ r).length = dr at hb1 hb2 ⊢
      by_cases g2 : far st (outS st p) r ∈ gd
      · by_cases hh : Held st gd L lo q h (far st (outS st p) r) dr
        · have bt := hb2.mpr hh; subst bt; simp only [if_pos (And.intro g2 hh)]; simp [ho, kD_0, kD_1, kD_2, wD_2, cIn_row, slTo1 r, slTo (p.early ++ r) (p.held ++ [d]), slTo (p.held ++ [d]) (p.early ++ r), slFrom (p.early ++ r) (p.held ++ [d]), slFrom (p.held ++ [d]) (p.early ++ r), sizeLine, one_row, cNe_rows, cEq_rows, bLen_row, aStar_e, seqOf_row, app1_row, app2_row, hf, hf1, z1, z2, z3, z4, resD_none, resD_even, resD_ahead, resD_behind, dl, t, s2, g, s3, ← s4, hb1, hdr, g2, -mSlA_e, -List.length_append]
        · have bt : b = false := by cases b with | false => rfl | true => exact absurd (hb2.mp rfl) hh
          subst bt; simp only [if_neg (fun z : _ ∧ _ => hh z.2)]; simp [ho, kD_0, kD_1, kD_2, wD_2, cIn_row, slTo1 r, slTo (p.early ++ r) (p.held ++ [d]), slTo (p.held ++ [d]) (p.early ++ r), slFrom (p.early ++ r) (p.held ++ [d]), slFrom (p.held ++ [d]) (p.early ++ r), sizeLine, one_row, cNe_rows, cEq_rows, bLen_row, aStar_e, seqOf_row, app1_row, app2_row, hf, hf1, z1, z2, z3, z4, resD_none, resD_even, resD_ahead, resD_behind, dl, t, s2, g, s3, ← s4, hb1, hdr, g2, -mSlA_e, -List.length_append]
      · simp only [if_neg (fun z : _ ∧ _ => g2 z.1)]; simp [ho, kD_0, kD_1, kD_2, wD_2, cIn_row, slTo1 r, slTo (p.early ++ r) (p.held ++ [d]), slTo (p.held ++ [d]) (p.early ++ r), slFrom (p.early ++ r) (p.held ++ [d]), slFrom (p.held ++ [d]) (p.early ++ r), sizeLine, one_row, cNe_rows, cEq_rows, bLen_row, aStar_e, seqOf_row, app1_row, app2_row, hf, hf1, z1, z2, z3, z4, resD_none, resD_even, resD_ahead, resD_behind, dl, t, s2, g, s3, ← s4, hdr, g2, -mSlA_e, -List.length_append]
    · rw [if_neg s2, if_neg g, if_neg s3, if_pos s4]; simp [ho, kD_0, kD_1, kD_2, wD_2, cIn_row, slTo1 r, slTo (p.early ++ r) (p.held ++ [d]), slTo (p.held ++ [d]) (p.early ++ r), slFrom (p.early ++ r) (p.held ++ [d]), slFrom (p.held ++ [d]) (p.early ++ r), sizeLine, one_row, cNe_rows, cEq_rows, bLen_row, aStar_e, seqOf_row, app1_row, app2_row, hf, hf1, z1, z2, z3, z4, resD_none, resD_even, resD_ahead, resD_behind, dl, t, s2, g, s3, s4, -mSlA_e, -List.length_append]
  · skip
    by_cases s2 : p.early ++ r = p.held ++ [d]
    · by_cases g : far st (runS st p) [d] ∈ gd
      · simp [ho, kD_0, kD_1, kD_2, wD_2, cIn_row, slTo1 r, slTo (p.early ++ r) (p.held ++ [d]), slTo (p.held ++ [d]) (p.early ++ r), slFrom (p.early ++ r) (p.held ++ [d]), slFrom (p.held ++ [d]) (p.early ++ r), sizeLine, one_row, cNe_rows, cEq_rows, bLen_row, aStar_e, seqOf_row, app1_row, app2_row, hf, hf1, z1, z2, z3, z4, resD_none, resD_even, resD_ahead, resD_behind, dl, s2, g, -mSlA_e]
      · simp [ho, kD_0, kD_1, kD_2, wD_2, cIn_row, slTo1 r, slTo (p.early ++ r) (p.held ++ [d]), slTo (p.held ++ [d]) (p.early ++ r), slFrom (p.early ++ r) (p.held ++ [d]), slFrom (p.held ++ [d]) (p.early ++ r), sizeLine, one_row, cNe_rows, cEq_rows, bLen_row, aStar_e, seqOf_row, app1_row, app2_row, hf, hf1, z1, z2, z3, z4, resD_none, resD_even, resD_ahead, resD_behind, dl, s2, g, -mSlA_e]
    by_cases g : far st (runS st p) [d] ∈ gd
    · simp [ho, kD_0, kD_1, kD_2, wD_2, cIn_row, slTo1 r, slTo (p.early ++ r) (p.held ++ [d]), slTo (p.held ++ [d]) (p.early ++ r), slFrom (p.early ++ r) (p.held ++ [d]), slFrom (p.held ++ [d]) (p.early ++ r), sizeLine, one_row, cNe_rows, cEq_rows, bLen_row, aStar_e, seqOf_row, app1_row, app2_row, hf, hf1, z1, z2, z3, z4, resD_none, resD_even, resD_ahead, resD_behind, dl, s2, g, -mSlA_e]
    by_cases s3 : (p.early ++ r).take (p.held ++ [d]).length = p.held ++ [d]
    · have hm := hmore (p.held ++ [d]).length
      rw [if_neg s2, if_neg g, if_pos s3]
      generalize hdr : (p.early ++ r).drop (p.held ++ [d]).length = dr at hm ⊢
      by_cases c3 : (dr.length : Int) ≤ a
      · by_cases c4 : far st (far st (runS st p) [d]) dr ∈ gd
        · simp only [if_pos (And.intro c3 c4)]; simp [ho, kD_0, kD_1, kD_2, wD_2, cIn_row, slTo1 r, slTo (p.early ++ r) (p.held ++ [d]), slTo (p.held ++ [d]) (p.early ++ r), slFrom (p.early ++ r) (p.held ++ [d]), slFrom (p.held ++ [d]) (p.early ++ r), sizeLine, one_row, cNe_rows, cEq_rows, bLen_row, aStar_e, seqOf_row, app1_row, app2_row, hf, hf1, z1, z2, z3, z4, resD_none, resD_even, resD_ahead, resD_behind, dl, s2, g, s3, hm, hdr, c3, c4, -mSlA_e, -List.length_append]
        · simp only [if_neg (fun z : _ ∧ _ => c4 z.2)]; simp [ho, kD_0, kD_1, kD_2, wD_2, cIn_row, slTo1 r, slTo (p.early ++ r) (p.held ++ [d]), slTo (p.held ++ [d]) (p.early ++ r), slFrom (p.early ++ r) (p.held ++ [d]), slFrom (p.held ++ [d]) (p.early ++ r), sizeLine, one_row, cNe_rows, cEq_rows, bLen_row, aStar_e, seqOf_row, app1_row, app2_row, hf, hf1, z1, z2, z3, z4, resD_none, resD_even, resD_ahead, resD_behind, dl, s2, g, s3, hm, hdr, c3, c4, -mSlA_e, -List.length_append]
      · simp only [if_neg (fun z : _ ∧ _ => c3 z.1)]; simp [ho, kD_0, kD_1, kD_2, wD_2, cIn_row, slTo1 r, slTo (p.early ++ r) (p.held ++ [d]), slTo (p.held ++ [d]) (p.early ++ r), slFrom (p.early ++ r) (p.held ++ [d]), slFrom (p.held ++ [d]) (p.early ++ r), sizeLine, one_row, cNe_rows, cEq_rows, bLen_row, aStar_e, seqOf_row, app1_row, app2_row, hf, hf1, z1, z2, z3, z4, resD_none, resD_even, resD_ahead, resD_behind, dl, s2, g, s3, hm, hdr, c3, -mSlA_e, -List.length_append]
    by_cases s4 : p.early ++ r = (p.held ++ [d]).take (p.early ++ r).length
    · obtain ⟨b, hb1, hb2⟩ := held_ok (h := h) (a := a) (lo := lo) w hL (far_in w r _ (v.out w).1 (v.out w).2 hr).1 (far_in w r _ (v.out w).1 (v.out w).2 hr).2 (inw.drop (p.early ++ r).length) (by simp; omega) S
      rw [if_neg s2, if_neg g, if_neg s3, if_neg (by simpa using s4)]
      generalize hdr : (p.held ++ [d]).drop (p.early ++ r).length = dr at hb1 hb2 ⊢
      by_cases g2 : far st (outS st p) r ∈ gd
      · by_cases hh : Held st gd L lo q h (far st (outS st p) r) dr
        · have bt := hb2.mpr hh; subst bt; simp only [if_pos (And.intro g2 hh)]; simp [ho, kD_0, kD_1, kD_2, wD_2, cIn_row, slTo1 r, slTo (p.early ++ r) (p.held ++ [d]), slTo (p.held ++ [d]) (p.early ++ r), slFrom (p.early ++ r) (p.held ++ [d]), slFrom (p.held ++ [d]) (p.early ++ r), sizeLine, one_row, cNe_rows, cEq_rows, bLen_row, aStar_e, seqOf_row, app1_row, app2_row, hf, hf1, z1, z2, z3, z4, resD_none, resD_even, resD_ahead, resD_behind, dl, s2, g, s3, ← s4, hb1, hdr, g2, -mSlA_e, -List.length_append]
        · have bt : b = false := by cases b with | false => rfl | true => exact absurd (hb2.mp rfl) hh
          subst bt; simp only [if_neg (fun z : _ ∧ _ => hh z.2)]; simp [ho, kD_0, kD_1, kD_2, wD_2, cIn_row, slTo1 r, slTo (p.early ++ r) (p.held ++ [d]), slTo (p.held ++ [d]) (p.early ++ r), slFrom (p.early ++ r) (p.held ++ [d]), slFrom (p.held ++ [d]) (p.early ++ r), sizeLine, one_row, cNe_rows, cEq_rows, bLen_row, aStar_e, seqOf_row, app1_row, app2_row, hf, hf1, z1, z2, z3, z4, resD_none, resD_even, resD_ahead, resD_behind, dl, s2, g, s3, ← s4, hb1, hdr, g2, -mSlA_e, -List.length_append]
      · simp only [if_neg (fun z : _ ∧ _ => g2 z.1)]; simp [ho, kD_0, kD_1, kD_2, wD_2, cIn_row, slTo1 r, slTo (p.early ++ r) (p.held ++ [d]), slTo (p.held ++ [d]) (p.early ++ r), slFrom (p.early ++ r) (p.held ++ [d]), slFrom (p.held ++ [d]) (p.early ++ r), sizeLine, one_row, cNe_rows, cEq_rows, bLen_row, aStar_e, seqOf_row, app1_row, app2_row, hf, hf1, z1, z2, z3, z4, resD_none, resD_even, resD_ahead, resD_behind, dl, s2, g, s3, ← s4, hdr, g2, -mSlA_e, -List.length_append]
    · rw [if_neg s2, if_neg g, if_neg s3, if_pos s4]; simp [ho, kD_0, kD_1, kD_2, wD_2, cIn_row, slTo1 r, slTo (p.early ++ r) (p.held ++ [d]), slTo (p.held ++ [d]) (p.early ++ r), slFrom (p.early ++ r) (p.held ++ [d]), slFrom (p.held ++ [d]) (p.early ++ r), sizeLine, one_row, cNe_rows, cEq_rows, bLen_row, aStar_e, seqOf_row, app1_row, app2_row, hf, hf1, z1, z2, z3, z4, resD_none, resD_even, resD_ahead, resD_behind, dl, s2, g, s3, s4, -mSlA_e, -List.length_append]
end
end Mp
end SMek03

section SMfk03
set_option Elab.async false
set_option linter.all false
set_option maxHeartbeats 4000000
open PySem
namespace Mp
theorem cIsN_row (S : Sto) (r : List Int) : cIsN S (rowD r) .non = some (.bl false) := by simp [cIsN, rowD]
theorem oAdd_rows (S : Sto) (x y : List Int) (h : x.length + y.length < 10000) : oAdd S (rowD x) (rowD y) = some (rowD (x ++ y)) := by
  simp only [oAdd, rowD]; rw [if_pos (by simp only [List.length_map]; exact Nat.le_of_lt (lt_size h))]; simp
section
variable {q : Int} {st : List (List Int)} {gd L lo : List Int} {h a : Int}
theorem ans_ok (w : WF q st gd) (hL : ∀ S, d_live_in [wD q st gd] S = .ok (.lst (L.map .int)) S) {p : Ps} (v : PIn q st p) (hl : p.held.length < 100) (el : p.early.length < 100) {d : Int} (hd : 0 ≤ d ∧ d ≤ q - 1) {r : List Int} (hr : InR q r) (rl : r.length < 100) (S : Sto) :
    d_behind_answer [wD q st gd, kD h a lo, posD p, .int d, rowD r] S = .ok (resD (ansP st gd L lo q h a p d r)) S := by
  have ho := outputs_ok w v S
  have hf1 := far1 w v hd S
  have hd' := doom_ok (h := h) (a := a) (lo := lo) w v (d := d) hr S
  refine defP_ok rfl ?_ (res_plain _)
  unfold ansP
  cases no : p.isOff with
  | true =>
    have od : offD st p = .non := by unfold offD; rw [no]; rfl
    rw [od] at ho
    simp [ho, ixN, hd']
  | false =>
    have od : offD st p = .int (runS st p) := by unfold offD; rw [no]; rfl
    rw [od] at ho
    have hl' := live_ok2 (h := h) (a := a) (lo := lo) w hL v no hl el hd hr rl S
    by_cases c : far st (runS st p) [d] ∈ L
    · simp [ho, ixN, sizeLine, one_row, hf1, hL, c, hl']
    · simp [ho, ixN, sizeLine, one_row, hf1, hL, c, hd']
def runD (p : Ps) : D := if p.isOff = true then .non else rowD p.held
def ledRest : MSt := (sSeq (sAsg (.nm 11) (mOp oAdd (mVar 11) (mVar 5)))
  (sSeq (sAsg (.nm 12) (mCall d_law_far (aCons (mVar 0) (aCons (mVar 9) (aCons (mVar 11) aNil)))))
  (sSeq (sIf (mtVal (mOp cNotIn (mVar 12) (mIx (mVar 0) (mC (.int 2))))) (sRet (mC .non)) sPass)
  (sSeq (sAsg (.nm 13) (mIf (mtVal (mOp cIsN (mVar 10) (mC .non))) (mC .non) (mCall d_law_far (aCons (mVar 0) (aCons (mVar 9) (aCons (mOp oAdd (mVar 10) (mTup (aCons (mVar 4) aNil))) aNil))))))
  (sSeq (sIf (mtOr (mtVal (mOp cIsN (mVar 13) (mC .non))) (mtVal (mOp cNotIn (mVar 13) (mVar 2)))) (sSeq (sIf (mtVal (mOp cIn (mVar 4) (mVar 8))) (sRet (mIf (mtAnd (mtVal (mOp cEq (mSlA (mVar 5) pNone (pSome (mC (.int 1)))) (mTup (aCons (mVar 4) aNil)))) (mtVal (mOp cLe (mB bLen (aCons (mVar 5) aNil)) (mOp oAdd (mVar 7) (mC (.int 1)))))) (mTup (aCons (mC (.str "off")) (aCons (mVar 12) aNil))) (mC .non))) sPass)
  (sRet (mIf (mtVal (mOp cEq (mVar 5) (mTup aNil))) (mTup (aCons (mC (.str "off")) (aCons (mVar 12) aNil))) (mC .non)))) sPass)
  (sSeq (sAsg (.nm 10) (mOp oAdd (mVar 10) (mTup (aCons (mVar 4) aNil))))
  (sSeq (sIf (mtAnd (mtVal (mOp cIn (mVar 4) (mVar 8))) (mtVal (mOp cNe (mSlA (mVar 5) pNone (pSome (mC (.int 1)))) (mTup (aCons (mVar 4) aNil))))) (sRet (mC .non)) sPass)
  (sSeq (sIf (mtVal (mOp cIn (mVar 13) (mIx (mVar 0) (mC (.int 2))))) (sRet (mIf (mtVal (mOp cEq (mVar 11) (mVar 10))) (mTup (aCons (mC (.str "even")) (aCons (mVar 13) aNil))) (mC .non))) sPass)
  (sSeq (sIf (mtVal (mOp cLt (mB bLen (aCons (mVar 11) aNil)) (mB bLen (aCons (mVar 10) aNil)))) (sSeq (sAsg (.nm 14) (mAnd (mOp cLe (mOp oSub (mB bLen (aCons (mVar 10) aNil)) (mB bLen (aCons (mVar 11) aNil))) (mVar 6)) (mOp cEq (mSlA (mVar 10) pNone (pSome (mB bLen (aCons (mVar 11) aNil)))) (mVar 11))))
  (sRet (mIf (mtTruth (mVar 14)) (mTup (aCons (mC (.str "behind")) (aCons (mVar 12) (aCons (mSlA (mVar 10) (pSome (mB bLen (aCons (mVar 11) aNil))) pNone) aNil)))) (mC .non)))) sPass)
  (sSeq (sAsg (.nm 14) (mAnd (mOp cLe (mOp oSub (mB bLen (aCons (mVar 11) aNil)) (mB bLen (aCons (mVar 10) aNil))) (mVar 7)) (mOp cEq (mSlA (mVar 11) pNone (pSome (mB bLen (aCons (mVar 10) aNil)))) (mVar 10))))
  (sRet (mIf (mtTruth (mVar 14)) (mTup (aCons (mC (.str "ahead")) (aCons (mVar 13) (aCons (mSlA (mVar 11) (pSome (mB bLen (aCons (mVar 10) aNil))) pNone) aNil)))) (mC .non)))))))))))))
theorem led_start {p : Ps} (d : Int) (r : List Int) (S : Sto) {Q : D → Sto → Prop} (hq : Tot (ledRest [some (wD q st gd), some (kD h a lo), some (.lst (L.map .int)), some (posD p), some (.int d), some (rowD r), some (.int h), some (.int a), some (rowD lo), some (.int p.base), some (runD p), some (rowD p.early), none, none, none] S) (retQ Q))
    (hp : ∀ d S', Q d S' → S' = S ∧ plain d = true) : Tot (d_law_led [wD q st gd, kD h a lo, .lst (L.map .int), posD p, .int d, rowD r] S) Q := by
  have n1 : ¬ (Str.ofString "even" = Str.ofString "off") := by decide
  have n2 : ¬ (Str.ofString "behind" = Str.ofString "off") := by decide
  have n3 : ¬ (Str.ofString "even" = Str.ofString "behind") := by decide
  have n4 : ¬ (Str.ofString "ahead" = Str.ofString "off") := by decide
  have n5 : ¬ (Str.ofString "even" = Str.ofString "ahead") := by decide
  have n6 : ¬ (Str.ofString "ahead" = Str.ofString "behind") := by decide
  have n7 : ¬ (Str.ofString "behind" = Str.ofString "ahead") := by decide
  refine defP_tot rfl hp ?_
  have eb : ∀ e : Ev, bindP (.tp [.nm 6, .nm 7, .nm 8]) (kD h a lo) e = some (((e.set 6 (some (.int h))).set 7 (some (.int a))).set 8 (some (rowD lo))) := fun e => by simp [kD]
  rw [tot_seq_iff]
  simp only [sAsg_e, mVar_e, List.map_cons, List.map_nil, List.cons_append, List.nil_append, List.getElem?_cons_succ, List.getElem?_cons_zero, bind_ok, eb]
  rw [tot_ok, nxQ_nx, tot_seq_iff]
  change Tot _ (nxQ ledRest (retQ Q))
  cases p with
  | off s => simpa [posD, ixN, sizeLine, List.replicate, runD, Ps.isOff, Ps.base, Ps.early, nil_row, sSeq_e] using hq
  | even s => simpa [posD, ixN, sizeLine, List.replicate, runD, Ps.isOff, Ps.base, Ps.early, Ps.held, nil_row, n1, n3, n5, sSeq_e] using hq
  | behind s x => simpa [posD, ixN, sizeLine, List.replicate, runD, Ps.isOff, Ps.base, Ps.early, Ps.held, nil_row, n2, n7, sSeq_e] using hq
  | ahead s x => simpa [posD, ixN, sizeLine, List.replicate, runD, Ps.isOff, Ps.base, Ps.early, Ps.held, nil_row, n4, n6, sSeq_e] using hq
end
end Mp
end SMfk03

section SMgk03
set_option Elab.async false
set_option linter.all false
set_option maxHeartbeats 4000000
open PySem
namespace Mp
section
variable {q : Int} {st : List (List Int)} {gd L lo : List Int} {h a : Int}
theorem led_ok (w : WF q st gd) {p : Ps} (v : PIn q st p) (hl : p.held.length < 100) (el : p.early.length < 100) {d : Int} (hd : 0 ≤ d ∧ d ≤ q - 1) {r : List Int} (hr : InR q r) (rl : r.length < 100) (S : Sto) :
    d_law_led [wD q st gd, kD h a lo, .lst (L.map .int), posD p, .int d, rowD r] S = .ok (resD (ansL st gd L lo h a p d r)) S := by
  have hf := law_far_s w v.s0 v.s1 (v.ei.app hr) S
  have hf1 := law_far_s w v.s0 v.s1 (v.hi.app (fun x hx => by simp at hx; rw [hx]; exact hd) : InR q (p.held ++ [d])) S
  have o1 := oAdd_rows S p.early r (by omega)
  have o2 := oAdd_rows S p.held [d] (by simp; omega)
  refine eq_of_tot (led_start d r S ?_ (fun d' S' z => ⟨z.2, z.1 ▸ res_plain _⟩))
  unfold ledRest ansL
  by_cases eg : far st p.base (p.early ++ r) ∈ gd
  case neg => simp [o1, o2, hf, hf1, wD_2, cNotIn_row, cIn_row, cIsN_row, slTo1 r, slTo (p.early ++ r) (p.held ++ [d]), slTo (p.held ++ [d]) (p.early ++ r), slFrom (p.early ++ r) (p.held ++ [d]), slFrom (p.held ++ [d]) (p.early ++ r), sizeLine, one_row, nil_row, cNe_rows, cEq_rows, bLen_row, resD_none, resD_even, resD_ahead, resD_behind, resD_off, eg, -mSlA_e, -List.length_append]
  cases no : p.isOff with
  | true =>
    have ru : runD p = .non := by unfold runD; rw [no]; rfl
    by_cases dl : d ∈ lo
    · rcases Int.lt_or_le (a + 1) (r.length : Int) with l | l
      · by_cases t : r.take 1 = [d]
        · simp [o1, o2, hf, hf1, wD_2, cNotIn_row, cIn_row, cIsN_row, slTo1 r, slTo (p.early ++ r) (p.held ++ [d]), slTo (p.held ++ [d]) (p.early ++ r), slFrom (p.early ++ r) (p.held ++ [d]), slFrom (p.held ++ [d]) (p.early ++ r), sizeLine, one_row, nil_row, cNe_rows, cEq_rows, bLen_row, resD_none, resD_even, resD_ahead, resD_behind, resD_off, eg, ru, dl, t, l, Int.not_le.mpr l, -mSlA_e, -List.length_append]
        · simp [o1, o2, hf, hf1, wD_2, cNotIn_row, cIn_row, cIsN_row, slTo1 r, slTo (p.early ++ r) (p.held ++ [d]), slTo (p.held ++ [d]) (p.early ++ r), slFrom (p.early ++ r) (p.held ++ [d]), slFrom (p.held ++ [d]) (p.early ++ r), sizeLine, one_row, nil_row, cNe_rows, cEq_rows, bLen_row, resD_none, resD_even, resD_ahead, resD_behind, resD_off, eg, ru, dl, t, l, Int.not_le.mpr l, -mSlA_e, -List.length_append]
      · by_cases t : r.take 1 = [d]
        · simp [o1, o2, hf, hf1, wD_2, cNotIn_row, cIn_row, cIsN_row, slTo1 r, slTo (p.early ++ r) (p.held ++ [d]), slTo (p.held ++ [d]) (p.early ++ r), slFrom (p.early ++ r) (p.held ++ [d]), slFrom (p.held ++ [d]) (p.early ++ r), sizeLine, one_row, nil_row, cNe_rows, cEq_rows, bLen_row, resD_none, resD_even, resD_ahead, resD_behind, resD_off, eg, ru, dl, t, l, -mSlA_e, -List.length_append]
        · simp [o1, o2, hf, hf1, wD_2, cNotIn_row, cIn_row, cIsN_row, slTo1 r, slTo (p.early ++ r) (p.held ++ [d]), slTo (p.held ++ [d]) (p.early ++ r), slFrom (p.early ++ r) (p.held ++ [d]), slFrom (p.held ++ [d]) (p.early ++ r), sizeLine, one_row, nil_row, cNe_rows, cEq_rows, bLen_row, resD_none, resD_even, resD_ahead, resD_behind, resD_off, eg, ru, dl, t, l, -mSlA_e, -List.length_append]
    · by_cases r0 : r = []
      · simp [o1, o2, hf, hf1, wD_2, cNotIn_row, cIn_row, cIsN_row, slTo1 r, slTo (p.early ++ r) (p.held ++ [d]), slTo (p.held ++ [d]) (p.early ++ r), slFrom (p.early ++ r) (p.held ++ [d]), slFrom (p.held ++ [d]) (p.early ++ r), sizeLine, one_row, nil_row, cNe_rows, cEq_rows, bLen_row, resD_none, resD_even, resD_ahead, resD_behind, resD_off, eg, ru, dl, eq_true r0, -mSlA_e, -List.length_append]
      · simp [o1, o2, hf, hf1, wD_2, cNotIn_row, cIn_row, cIsN_row, slTo1 r, slTo (p.early ++ r) (p.held ++ [d]), slTo (p.held ++ [d]) (p.early ++ r), slFrom (p.early ++ r) (p.held ++ [d]), slFrom (p.held ++ [d]) (p.early ++ r), sizeLine, one_row, nil_row, cNe_rows, cEq_rows, bLen_row, resD_none, resD_even, resD_ahead, resD_behind, resD_off, eg, ru, dl, r0, -mSlA_e, -List.length_append]
  | false =>
    have ru : runD p = rowD p.held := by unfold runD; rw [no]; rfl
    by_cases c : far st p.base (p.held ++ [d]) ∈ L
    case neg =>
      by_cases dl : d ∈ lo
      · rcases Int.lt_or_le (a + 1) (r.length : Int) with l | l
        · by_cases t : r.take 1 = [d]
          · simp [o1, o2, hf, hf1, wD_2, cNotIn_row, cIn_row, cIsN_row, slTo1 r, slTo (p.early ++ r) (p.held ++ [d]), slTo (p.held ++ [d]) (p.early ++ r), slFrom (p.early ++ r) (p.held ++ [d]), slFrom (p.held ++ [d]) (p.early ++ r), sizeLine, one_row, nil_row, cNe_rows, cEq_rows, bLen_row, resD_none, resD_even, resD_ahead, resD_behind, resD_off, eg, ru, c, dl, t, l, Int.not_le.mpr l, -mSlA_e, -List.length_append]
          · simp [o1, o2, hf, hf1, wD_2, cNotIn_row, cIn_row, cIsN_row, slTo1 r, slTo (p.early ++ r) (p.held ++ [d]), slTo (p.held ++ [d]) (p.early ++ r), slFrom (p.early ++ r) (p.held ++ [d]), slFrom (p.held ++ [d]) (p.early ++ r), sizeLine, one_row, nil_row, cNe_rows, cEq_rows, bLen_row, resD_none, resD_even, resD_ahead, resD_behind, resD_off, eg, ru, c, dl, t, l, Int.not_le.mpr l, -mSlA_e, -List.length_append]
        · by_cases t : r.take 1 = [d]
          · simp [o1, o2, hf, hf1, wD_2, cNotIn_row, cIn_row, cIsN_row, slTo1 r, slTo (p.early ++ r) (p.held ++ [d]), slTo (p.held ++ [d]) (p.early ++ r), slFrom (p.early ++ r) (p.held ++ [d]), slFrom (p.held ++ [d]) (p.early ++ r), sizeLine, one_row, nil_row, cNe_rows, cEq_rows, bLen_row, resD_none, resD_even, resD_ahead, resD_behind, resD_off, eg, ru, c, dl, t, l, -mSlA_e, -List.length_append]
          · simp [o1, o2, hf, hf1, wD_2, cNotIn_row, cIn_row, cIsN_row, slTo1 r, slTo (p.early ++ r) (p.held ++ [d]), slTo (p.held ++ [d]) (p.early ++ r), slFrom (p.early ++ r) (p.held ++ [d]), slFrom (p.held ++ [d]) (p.early ++ r), sizeLine, one_row, nil_row, cNe_rows, cEq_rows, bLen_row, resD_none, resD_even, resD_ahead, resD_behind, resD_off, eg, ru, c, dl, t, l, -mSlA_e, -List.length_append]
      · by_cases r0 : r = []
        · simp [o1, o2, hf, hf1, wD_2, cNotIn_row, cIn_row, cIsN_row, slTo1 r, slTo (p.early ++ r) (p.held ++ [d]), slTo (p.held ++ [d]) (p.early ++ r), slFrom (p.early ++ r) (p.held ++ [d]), slFrom (p.held ++ [d]) (p.early ++ r), sizeLine, one_row, nil_row, cNe_rows, cEq_rows, bLen_row, resD_none, resD_even, resD_ahead, resD_behind, resD_off, eg, ru, c, dl, eq_true r0, -mSlA_e, -List.length_append]
        · simp [o1, o2, hf, hf1, wD_2, cNotIn_row, cIn_row, cIsN_row, slTo1 r, slTo (p.early ++ r) (p.held ++ [d]), slTo (p.held ++ [d]) (p.early ++ r), slFrom (p.early ++ r) (p.held ++ [d]), slFrom (p.held ++ [d]) (p.early ++ r), sizeLine, one_row, nil_row, cNe_rows, cEq_rows, bLen_row, resD_none, resD_even, resD_ahead, resD_behind, resD_off, eg, ru, c, dl, r0, -mSlA_e, -List.length_append]
    by_cases s1 : d ∈ lo ∧ r.take 1 ≠ [d]
    · obtain ⟨dl, t⟩ := s1; simp [o1, o2, hf, hf1, wD_2, cNotIn_row, cIn_row, cIsN_row, slTo1 r, slTo (p.early ++ r) (p.held ++ [d]), slTo (p.held ++ [d]) (p.early ++ r), slFrom (p.early ++ r) (p.held ++ [d]), slFrom (p.held ++ [d]) (p.early ++ r), sizeLine, one_row, nil_row, cNe_rows, cEq_rows, bLen_row, resD_none, resD_even, resD_ahead, resD_behind, resD_off, eg, ru, c, dl, t, -mSlA_e, -List.length_append]
    rw [if_neg (by simpa using eg), if_neg (by simp [c]), if_neg s1]
    by_cases dl : d ∈ lo
    · have t : r.take 1 = [d] := Classical.byContradiction fun t => s1 ⟨dl, t⟩
      by_cases g : far st p.base (p.held ++ [d]) ∈ gd
      · by_cases s2 : p.early ++ r = p.held ++ [d]
        · simp [o1, o2, hf, hf1, wD_2, cNotIn_row, cIn_row, cIsN_row, slTo1 r, slTo (p.early ++ r) (p.held ++ [d]), slTo (p.held ++ [d]) (p.early ++ r), slFrom (p.early ++ r) (p.held ++ [d]), slFrom (p.held ++ [d]) (p.early ++ r), sizeLine, one_row, nil_row, cNe_rows, cEq_rows, bLen_row, resD_none, resD_even, resD_ahead, resD_behind, resD_off, eg, ru, c, dl, t, g, s2, -mSlA_e, -List.length_append]
        · simp [o1, o2, hf, hf1, wD_2, cNotIn_row, cIn_row, cIsN_row, slTo1 r, slTo (p.early ++ r) (p.held ++ [d]), slTo (p.held ++ [d]) (p.early ++ r), slFrom (p.early ++ r) (p.held ++ [d]), slFrom (p.held ++ [d]) (p.early ++ r), sizeLine, one_row, nil_row, cNe_rows, cEq_rows, bLen_row, resD_none, resD_even, resD_ahead, resD_behind, resD_off, eg, ru, c, dl, t, g, s2, -mSlA_e, -List.length_append]
      rw [if_neg g]
      by_cases lt : (p.early ++ r).length < (p.held ++ [d]).length
      · have lt2 : ((p.early ++ r).length : Int) < (p.held ++ [d]).length := by omega
        rw [if_pos lt]
        generalize hdr : (p.held ++ [d]).drop (p.early ++ r).length = dr
        by_cases c3 : ((p.held ++ [d]).length : Int) - (p.early ++ r).length ≤ h
        · by_cases c4 : (p.held ++ [d]).take (p.early ++ r).length = p.early ++ r
          · rw [if_pos ⟨c3, c4⟩]; simp [o1, o2, hf, hf1, wD_2, cNotIn_row, cIn_row, cIsN_row, slTo1 r, slTo (p.early ++ r) (p.held ++ [d]), slTo (p.held ++ [d]) (p.early ++ r), slFrom (p.early ++ r) (p.held ++ [d]), slFrom (p.held ++ [d]) (p.early ++ r), sizeLine, one_row, nil_row, cNe_rows, cEq_rows, bLen_row, resD_none, resD_even, resD_ahead, resD_behind, resD_off, eg, ru, c, dl, t, g, lt2, c3, c4, hdr, -mSlA_e, -List.length_append]
          · rw [if_neg (fun z => c4 z.2)]; simp [o1, o2, hf, hf1, wD_2, cNotIn_row, cIn_row, cIsN_row, slTo1 r, slTo (p.early ++ r) (p.held ++ [d]), slTo (p.held ++ [d]) (p.early ++ r), slFrom (p.early ++ r) (p.held ++ [d]), slFrom (p.held ++ [d]) (p.early ++ r), sizeLine, one_row, nil_row, cNe_rows, cEq_rows, bLen_row, resD_none, resD_even, resD_ahead, resD_behind, resD_off, eg, ru, c, dl, t, g, lt2, c3, c4, hdr, -mSlA_e, -List.length_append]
        · rw [if_neg (fun z => c3 z.1)]; simp [o1, o2, hf, hf1, wD_2, cNotIn_row, cIn_row, cIsN_row, slTo1 r, slTo (p.early ++ r) (p.held ++ [d]), slTo (p.held ++ [d]) (p.early ++ r), slFrom (p.early ++ r) (p.held ++ [d]), slFrom (p.held ++ [d]) (p.early ++ r), sizeLine, one_row, nil_row, cNe_rows, cEq_rows, bLen_row, resD_none, resD_even, resD_ahead, resD_behind, resD_off, eg, ru, c, dl, t, g, lt2, c3, hdr, -mSlA_e, -List.length_append]
      · have lt2 : ¬ ((p.early ++ r).length : Int) < (p.held ++ [d]).length := by omega
        rw [if_neg lt]
        generalize hdr : (p.early ++ r).drop (p.held ++ [d]).length = dr
        by_cases c3 : ((p.early ++ r).length : Int) - (p.held ++ [d]).length ≤ a
        · by_cases c4 : (p.early ++ r).take (p.held ++ [d]).length = p.held ++ [d]
          · rw [if_pos ⟨c3, c4⟩]; simp [o1, o2, hf, hf1, wD_2, cNotIn_row, cIn_row, cIsN_row, slTo1 r, slTo (p.early ++ r) (p.held ++ [d]), slTo (p.held ++ [d]) (p.early ++ r), slFrom (p.early ++ r) (p.held ++ [d]), slFrom (p.held ++ [d]) (p.early ++ r), sizeLine, one_row, nil_row, cNe_rows, cEq_rows, bLen_row, resD_none, resD_even, resD_ahead, resD_behind, resD_off, eg, ru, c, dl, t, g, lt2, c3, c4, hdr, -mSlA_e, -List.length_append]
          · rw [if_neg (fun z => c4 z.2)]; simp [o1, o2, hf, hf1, wD_2, cNotIn_row, cIn_row, cIsN_row, slTo1 r, slTo (p.early ++ r) (p.held ++ [d]), slTo (p.held ++ [d]) (p.early ++ r), slFrom (p.early ++ r) (p.held ++ [d]), slFrom (p.held ++ [d]) (p.early ++ r), sizeLine, one_row, nil_row, cNe_rows, cEq_rows, bLen_row, resD_none, resD_even, resD_ahead, resD_behind, resD_off, eg, ru, c, dl, t, g, lt2, c3, c4, hdr, -mSlA_e, -List.length_append]
        · rw [if_neg (fun z => c3 z.1)]; simp [o1, o2, hf, hf1, wD_2, cNotIn_row, cIn_row, cIsN_row, slTo1 r, slTo (p.early ++ r) (p.held ++ [d]), slTo (p.held ++ [d]) (p.early ++ r), slFrom (p.early ++ r) (p.held ++ [d]), slFrom (p.held ++ [d]) (p.early ++ r), sizeLine, one_row, nil_row, cNe_rows, cEq_rows, bLen_row, resD_none, resD_even, resD_ahead, resD_behind, resD_off, eg, ru, c, dl, t, g, lt2, c3, hdr, -mSlA_e, -List.length_append]
    · skip
      by_cases g : far st p.base (p.held ++ [d]) ∈ gd
      · by_cases s2 : p.early ++ r = p.held ++ [d]
        · simp [o1, o2, hf, hf1, wD_2, cNotIn_row, cIn_row, cIsN_row, slTo1 r, slTo (p.early ++ r) (p.held ++ [d]), slTo (p.held ++ [d]) (p.early ++ r), slFrom (p.early ++ r) (p.held ++ [d]), slFrom (p.held ++ [d]) (p.early ++ r), sizeLine, one_row, nil_row, cNe_rows, cEq_rows, bLen_row, resD_none, resD_even, resD_ahead, resD_behind, resD_off, eg, ru, c, dl, g, s2, -mSlA_e, -List.length_append]
        · simp [o1, o2, hf, hf1, wD_2, cNotIn_row, cIn_row, cIsN_row, slTo1 r, slTo (p.early ++ r) (p.held ++ [d]), slTo (p.held ++ [d]) (p.early ++ r), slFrom (p.early ++ r) (p.held ++ [d]), slFrom (p.held ++ [d]) (p.early ++ r), sizeLine, one_row, nil_row, cNe_rows, cEq_rows, bLen_row, resD_none, resD_even, resD_ahead, resD_behind, resD_off, eg, ru, c, dl, g, s2, -mSlA_e, -List.length_append]
      rw [if_neg g]
      by_cases lt : (p.early ++ r).length < (p.held ++ [d]).length
      · have lt2 : ((p.early ++ r).length : Int) < (p.held ++ [d]).length := by omega
        rw [if_pos lt]
        generalize hdr : (p.held ++ [d]).drop (p.early ++ r).length = dr
        by_cases c3 : ((p.held ++ [d]).length : Int) - (p.early ++ r).length ≤ h
        · by_cases c4 : (p.held ++ [d]).take (p.early ++ r).length = p.early ++ r
          · rw [if_pos ⟨c3, c4⟩]; simp [o1, o2, hf, hf1, wD_2, cNotIn_row, cIn_row, cIsN_row, slTo1 r, slTo (p.early ++ r) (p.held ++ [d]), slTo (p.held ++ [d]) (p.early ++ r), slFrom (p.early ++ r) (p.held ++ [d]), slFrom (p.held ++ [d]) (p.early ++ r), sizeLine, one_row, nil_row, cNe_rows, cEq_rows, bLen_row, resD_none, resD_even, resD_ahead, resD_behind, resD_off, eg, ru, c, dl, g, lt2, c3, c4, hdr, -mSlA_e, -List.length_append]
          · rw [if_neg (fun z => c4 z.2)]; simp [o1, o2, hf, hf1, wD_2, cNotIn_row, cIn_row, cIsN_row, slTo1 r, slTo (p.early ++ r) (p.held ++ [d]), slTo (p.held ++ [d]) (p.early ++ r), slFrom (p.early ++ r) (p.held ++ [d]), slFrom (p.held ++ [d]) (p.early ++ r), sizeLine, one_row, nil_row, cNe_rows, cEq_rows, bLen_row, resD_none, resD_even, resD_ahead, resD_behind, resD_off, eg, ru, c, dl, g, lt2, c3, c4, hdr, -mSlA_e, -List.length_append]
        · rw [if_neg (fun z => c3 z.1)]; simp [o1, o2, hf, hf1, wD_2, cNotIn_row, cIn_row, cIsN_row, slTo1 r, slTo (p.early ++ r) (p.held ++ [d]), slTo (p.held ++ [d]) (p.early ++ r), slFrom (p.early ++ r) (p.held ++ [d]), slFrom (p.held ++ [d]) (p.early ++ r), sizeLine, one_row, nil_row, cNe_rows, cEq_rows, bLen_row, resD_none, resD_even, resD_ahead, resD_behind, resD_off, eg, ru, c, dl, g, lt2, c3, hdr, -mSlA_e, -List.length_append]
      · have lt2 : ¬ ((p.early ++ r).length : Int) < (p.held ++ [d]).length := by omega
        rw [if_neg lt]
        generalize hdr : (p.early ++ r).drop (p.held ++ [d]).length = dr
        by_cases c3 : ((p.early ++ r).length : Int) - (p.held ++ [d]).length ≤ a
        · by_cases c4 : (p.early ++ r).take (p.held ++ [d]).length = p.held ++ [d]
          · rw [if_pos ⟨c3, c4⟩]; simp [o1, o2, hf, hf1, wD_2, cNotIn_row, cIn_row, cIsN_row, slTo1 r, slTo (p.early ++ r) (p.held ++ [d]), slTo (p.held ++ [d]) (p.early ++ r), slFrom (p.early ++ r) (p.held ++ [d]), slFrom (p.held ++ [d]) (p.early ++ r), sizeLine, one_row, nil_row, cNe_rows, cEq_rows, bLen_row, resD_none, resD_even, resD_ahead, resD_behind, resD_off, eg, ru, c, dl, g, lt2, c3, c4, hdr, -mSlA_e, -List.length_append]
          · rw [if_neg (fun z => c4 z.2)]; simp [o1, o2, hf, hf1, wD_2, cNotIn_row, cIn_row, cIsN_row, slTo1 r, slTo (p.early ++ r) (p.held ++ [d]), slTo (p.held ++ [d]) (p.early ++ r), slFrom (p.early ++ r) (p.held ++ [d]), slFrom (p.held ++ [d]) (p.early ++ r), sizeLine, one_row, nil_row, cNe_rows, cEq_rows, bLen_row, resD_none, resD_even, resD_ahead, resD_behind, resD_off, eg, ru, c, dl, g, lt2, c3, c4, hdr, -mSlA_e, -List.length_append]
        · rw [if_neg (fun z => c3 z.1)]; simp [o1, o2, hf, hf1, wD_2, cNotIn_row, cIn_row, cIsN_row, slTo1 r, slTo (p.early ++ r) (p.held ++ [d]), slTo (p.held ++ [d]) (p.early ++ r), slFrom (p.early ++ r) (p.held ++ [d]), slFrom (p.held ++ [d]) (p.early ++ r), sizeLine, one_row, nil_row, cNe_rows, cEq_rows, bLen_row, resD_none, resD_even, resD_ahead, resD_behind, resD_off, eg, ru, c, dl, g, lt2, c3, hdr, -mSlA_e, -List.length_append]
end
end Mp
end SMgk03

section SMhk03
set_option Elab.async false
set_option linter.all false
set_option maxHeartbeats 4000000
set_option maxRecDepth 100000
open PySem
namespace Mp
theorem plain_rows (R : List (List Int)) : plain (.lst (R.map rowD)) = true := by
  simp only [plain]
  rw [plainL_all]
  simp [rowD, plain, plainL_ints]
theorem law_rows_ok {q : Int} (h1 : 1 ≤ q) (h3 : q ≤ 3) {n : Nat} (hn : n ≤ 4) (S : Sto) : d_law_rows [.int q, .int (n : Int)] S = .ok (.lst ((allR q n).map rowD)) S := by
  have hq : q = 1 ∨ q = 2 ∨ q = 3 := by omega
  have hn' : n = 0 ∨ n = 1 ∨ n = 2 ∨ n = 3 ∨ n = 4 := by omega
  rcases hq with rfl | rfl | rfl <;> rcases hn' with rfl | rfl | rfl | rfl | rfl <;> exact defP_ok rfl (.mk ⟨rfl, rfl⟩) (plain_rows _)
theorem rows_up_ok {q : Int} {st : List (List Int)} {gd : List Int} (h1 : 1 ≤ q) (h3 : q ≤ 3) {n : Nat} (hn : n ≤ 1) (S : Sto) : d_rows_up_to [wD q st gd, .int (n : Int)] S = .ok (.lst ((allR q n).map rowD)) S := by
  have hq : q = 1 ∨ q = 2 ∨ q = 3 := by omega
  have hn' : n = 0 ∨ n = 1 := by omega
  rcases hq with rfl | rfl | rfl <;> rcases hn' with rfl | rfl <;> exact defP_ok rfl (.mk ⟨rfl, rfl⟩) (plain_rows _)
end Mp
end SMhk03

section SMik03
set_option Elab.async false
set_option linter.all false
set_option maxHeartbeats 4000000
set_option maxRecDepth 100000
open PySem
namespace Mp
theorem call_ok {f : Dn} {m : MAs} {e : Ev} {S S1 S2 : Sto} {xs : List D} {d : D} (h1 : m e S = .ok xs S1) (h2 : f xs S1 = .ok d S2) : mCall f m e S = .ok d S2 := by simp [h1, h2]
theorem wSeq_ok {m : MEx} {e : Ev} {S S1 : Sto} {xs : List D} (h : m e S = .ok (.lst xs) S1) : wSeq m e S = .ok ⟨xs, none⟩ S1 := by simp [h]
/-! a map of rows -/
theorem rowD_inj {x y : List Int} (h : rowD x = rowD y) : x = y := by
  have := eqP_rows x y
  rw [h, eqP_rows] at this
  simpa using this
theorem kOkL_ints (n : Nat) : ∀ r : List Int, kOkL n (r.map .int) = true
  | [] => by simp [kOkL]
  | x :: r => by simp [kOkL, kOk, kOkL_ints n r]
theorem keyOk_row (r : List Int) : keyOk (rowD r) = true := by simp [keyOk, rowD, kOk, kOkL_ints]
def tt (r : List Int) : D × D := (rowD r, .bl true)
def addR (r : List Int) (ks : List (List Int)) : List (List Int) := if r ∈ ks then ks else ks ++ [r]
theorem any_key (r : List Int) : ∀ ks : List (List Int), ((ks.map tt).any fun p => decide (p.1 = rowD r)) = decide (r ∈ ks)
  | [] => rfl
  | x :: ks => by
    rw [List.map_cons, List.any_cons, any_key r ks]
    by_cases e : r = x
    · subst e; simp [tt]
    · have : ¬ rowD x = rowD r := fun z => e (rowD_inj z).symm
      simp [tt, this, e]
theorem dput_add (r : List Int) (ks : List (List Int)) : dput (rowD r) (.bl true) (ks.map tt) = (addR r ks).map tt := by
  unfold dput addR
  rw [any_key]
  by_cases c : r ∈ ks
  · rw [if_pos (by simpa using c), if_pos c]
    rw [List.map_map]
    apply List.map_congr_left
    intro x _
    simp only [Function.comp, tt]
    exact ite_self _
  · rw [if_neg (by simpa using c), if_neg c]
    simp [tt]
theorem addR_mem {r x : List Int} {ks : List (List Int)} : x ∈ addR r ks ↔ x ∈ ks ∨ x = r := by
  unfold addR
  split
  · rename_i c
    constructor
    · exact .inl
    · rintro (h | rfl); exact h; exact c
  · simp
theorem addR_nodup {r : List Int} {ks : List (List Int)} (h : ks.Nodup) : (addR r ks).Nodup := by
  unfold addR
  split
  · exact h
  · rename_i c
    rw [List.nodup_append]
    exact ⟨h, by simp, fun x hx y hy => by simp at hy; subst hy; exact fun z => c (z ▸ hx)⟩
theorem addR_len (r : List Int) (ks : List (List Int)) : (addR r ks).length ≤ ks.length + 1 := by
  unfold addR; split <;> simp
theorem addR_head {r : List Int} {ks : List (List Int)} (h : ks.head? = some []) : (addR r ks).head? = some [] := by
  unfold addR
  split
  · exact h
  · cases ks with
    | nil => cases h
    | cons x ks => exact h
theorem rowsInts_rows : ∀ ks : List (List Int), rowsInts (ks.map rowD) = some ks
  | [] => rfl
  | r :: ks => by simp [rowsInts, rowInts, rowD, intsD_map, rowsInts_rows ks]
theorem keys_tt (ks : List (List Int)) : (ks.map tt).map (·.1) = ks.map rowD := by rw [List.map_map]; rfl
theorem sort_map {S : Sto} {n : Nat} {lk : Bool} {kvs : List (D × D)} {ks : List (List Int)} (h : S[n]? = some (.map lk kvs)) (hk : kvs.map (·.1) = ks.map rowD) (hc : (ks.all fun r => !r.isEmpty) = true ∨ ks.head? = some []) : fSortMap S [.loc n] = some ((sortR ks).map rowD) := by
  simp only [fSortMap, mapOf, h, Option.bind_some, hk, rowsInts_rows]
  rw [if_pos hc]; rfl
theorem mMap1_e (a b : MEx) (e : Ev) (S : Sto) : mMap1 a b e S = (calm ((a e S).bind fun k S => (b e S).bind fun v S => .ok (k, v) S)).bind fun p S => if keyOk p.1 = true ∧ noClo p.2 = true then .ok (.loc S.length) (S ++ [.map false [p]]) else .bad := rfl
theorem oSet_map {S : Sto} {n : Nat} {ks : List (List Int)} (r : List Int) (h : S[n]? = some (.map false (ks.map tt))) (l : ks.length < 10000) : oSet S (.loc n) (rowD r) (.bl true) = some (S.set n (.map false ((addR r ks).map tt))) := by
  simp only [oSet, h, keyOk_row, List.length_map, lt_size l, and_self, if_true, dput_add]
  rfl
section
variable {q : Int} {st : List (List Int)} {gd L lo : List Int} {h : Int} {an : Nat}
abbrev aiBody : MSt := (sSeq (sAsg (.tp [.nm 10, .nm 11]) (mTup (aCons (mTup (aCons (mVar 3) (aStar (mVar 9) aNil))) (aCons (mTup (aStar (mVar 6) (aCons (mVar 3) (aStar (mVar 9) aNil)))) aNil))))
  (sSeq (sSet (mVar 8) (mVar 10) (mC (.bl true)))
  (sSet (mVar 8) (mSlA (mVar 11) (pSome (mB bLen (aCons (mVar 7) aNil))) pNone) (mC (.bl true)))))
theorem aiBody_ok {d : Int} {hd ea row : List Int} (hl : hd.length < 100) (rl : row.length < 100) {n : Nat} {S : Sto} {ks : List (List Int)} (hk : S[n]? = some (.map false (ks.map tt))) (kl : ks.length < 1000) (a0 a1 a2 a4 a5 a12 a13 a14 a10 a11 : Option D) :
    aiBody [a0, a1, a2, some (.int d), a4, a5, some (rowD hd), some (rowD ea), some (.loc n), some (rowD row), a10, a11, a12, a13, a14] S =
      .ok (.nx [a0, a1, a2, some (.int d), a4, a5, some (rowD hd), some (rowD ea), some (.loc n), some (rowD row), some (rowD (d :: row)), some (rowD (hd ++ d :: row)), a12, a13, a14]) (S.set n (.map false ((addR ((hd ++ d :: row).drop ea.length) (addR (d :: row) ks)).map tt))) := by
  have z1 : (row.map D.int).length + 1 ≤ 16777216 := by simp; omega
  have e1 : D.tup (.int d :: row.map .int) = rowD (d :: row) := rfl
  have e2 : D.tup (hd.map .int ++ .int d :: row.map .int) = rowD (hd ++ d :: row) := by simp [rowD]
  have o1 := oSet_map (d :: row) hk (by omega)
  have hn : n < S.length := (List.getElem?_eq_some_iff.mp hk).1
  have hk2 : (S.set n (.map false ((addR (d :: row) ks).map tt)))[n]? = some (.map false ((addR (d :: row) ks).map tt)) := List.getElem?_set_self hn
  have kl2 := addR_len (d :: row) ks
  have o2 := oSet_map ((hd ++ d :: row).drop ea.length) hk2 (by omega)
  unfold aiBody
  simp [sSeq_e, aStar_e, seqOf_row, sizeLine, show row.length + 1 ≤ 16777216 by omega, show hd.length + (row.length + 1) ≤ 16777216 by omega, e1, e2, o1, slFrom (hd ++ d :: row) ea, o2, List.set_set, -mSlA_e]
theorem mem_take_succ {α : Type} {l : List α} {k : Nat} (hk : k < l.length) {x : α} : x ∈ l.take (k + 1) ↔ x ∈ l.take k ∨ x = l[k] := by
  rw [List.take_add_one, List.mem_append, List.getElem?_eq_getElem hk]; simp
def Aks (q : Int) (an : Nat) (p : Ps) (d : Int) (k : Nat) (ks : List (List Int)) : Prop := ks.Nodup ∧ ks.head? = some [] ∧ ks.length ≤ 1 + 2 * k ∧ k ≤ (allR q an).length ∧
  ∀ r, r ∈ ks ↔ r = [] ∨ ∃ row ∈ (allR q an).take k, r = d :: row ∨ r = (p.held ++ d :: row).drop p.early.length
abbrev aiEnv (q : Int) (st : List (List Int)) (gd lo : List Int) (h : Int) (an : Nat) (p : Ps) (d : Int) (n : Nat) (a9 a10 a11 : Option D) : Ev := [some (wD q st gd), some (kD h an lo), some (posD p), some (.int d), some (.int (outS st p)), some (offD st p), some (rowD p.held), some (rowD p.early), some (.loc n), a9, a10, a11, none, none, none]
theorem ai_loop {p : Ps} {d : Int} (hhl : p.held.length < 100) (rlen : ∀ row ∈ allR q an, row.length < 100) (alen : (allR q an).length ≤ 4) (S : Sto) :
    Tot (forGo ⟨(allR q an).map rowD, none⟩ (.nm 9) aiBody ((allR q an).map rowD) (aiEnv q st gd lo h an p d S.length none none none) (S ++ [O.map false [(rowD [], D.bl true)]])) fun f S' => ∃ ks a9 a10 a11, S' = S ++ [.map false (ks.map tt)] ∧ Aks q an p d (allR q an).length ks ∧ f = .nx (aiEnv q st gd lo h an p d S.length a9 a10 a11) := by
  refine tot_mono (forGo_tot (fun k e S' => ∃ ks a9 a10 a11, S' = S ++ [.map false (ks.map tt)] ∧ Aks q an p d k ks ∧ e = aiEnv q st gd lo h an p d S.length a9 a10 a11) _ 0 _ _ ⟨[[]], none, none, none, rfl, ⟨by simp, rfl, by simp, by simp, by simp⟩, rfl⟩ (fun _ _ _ _ => rfl) ?_) ?_
  · rintro i hi e S' ⟨ks, a9, a10, a11, rfl, ⟨k1, k2, k3, k4, k5⟩, rfl⟩
    rw [List.length_map] at hi
    refine ⟨_, bindP_nm .., ?_⟩
    rw [List.getElem_map]
    have hb := aiBody_ok (S := S ++ [.map false (ks.map tt)]) (n := S.length) (ks := ks) (d := d) (hd := p.held) (ea := p.early) (row := (allR q an)[i]) hhl (rlen _ (List.getElem_mem hi)) (get_last ..) (by omega) (some (wD q st gd)) (some (kD h an lo)) (some (posD p)) (some (.int (outS st p))) (some (offD st p)) none none none a10 a11
    have l1 := addR_len (d :: (allR q an)[i]) ks
    have l2 := addR_len ((p.held ++ d :: (allR q an)[i]).drop p.early.length) (addR (d :: (allR q an)[i]) ks)
    simp only [aiEnv, List.set]
    rw [hb, set_last]
    refine .mk ⟨_, rfl, _, _, _, _, rfl, ⟨addR_nodup (addR_nodup k1), addR_head (addR_head k2), by omega, by omega, fun r => ?_⟩, rfl⟩
    rw [addR_mem, addR_mem, k5]
    simp only [Nat.zero_add, mem_take_succ hi]
    constructor
    · rintro ((((rfl | ⟨row, hrow, e⟩) | rfl) | rfl))
      · exact .inl rfl
      · exact .inr ⟨row, .inl hrow, e⟩
      · exact .inr ⟨_, .inr rfl, .inl rfl⟩
      · exact .inr ⟨_, .inr rfl, .inr rfl⟩
    · rintro (rfl | ⟨row, hrow | rfl, e⟩)
      · exact .inl (.inl (.inl rfl))
      · exact .inl (.inl (.inr ⟨row, hrow, e⟩))
      · rcases e with rfl | rfl
        · exact .inl (.inr rfl)
        · exact .inr rfl
  · rintro f S' ⟨e2, rfl, ks, a9, a10, a11, rfl, hk, rfl⟩
    rw [List.length_map, Nat.zero_add] at hk
    exact ⟨ks, a9, a10, a11, rfl, hk, rfl⟩
abbrev aiRest : MSt := (sSeq (sAsg (.nm 12) (mFrz (lComp (wSeq (mFrz (lB fSortMap (aCons (mVar 8) aNil)))) [13] (.nm 13) tYes (mTup (aCons (mVar 13) (aCons (mCall d_behind_answer (aCons (mVar 0) (aCons (mVar 1) (aCons (mVar 2) (aCons (mVar 3) (aCons (mVar 13) aNil)))))) aNil))))))
  (sRet (mFrz (lComp (wSeq (mVar 12)) [13, 14] (.tp [(.nm 13), (.nm 14)]) (mtVal (mOp cNotN (mVar 14) (mC .non))) (mTup (aCons (mVar 13) (aCons (mVar 14) aNil)))))))
theorem ai_rest (w : WF q st gd) (hL : ∀ S, d_live_in [wD q st gd] S = .ok (.lst (L.map .int)) S) (h0 : 0 ≤ h) (h3 : h ≤ 3) (han : an ≤ 1) {p : Ps} (v : PIn q st p) (vv : Valid st gd L lo q h an p) {d : Int} (hd : 0 ≤ d ∧ d ≤ q - 1) (hhl : p.held.length < 100) (hel : p.early.length < 100) (alen : (allR q an).length ≤ 4) (S : Sto) {ks : List (List Int)} (a9 a10 a11 : Option D) (hk : Aks q an p d (allR q an).length ks) :
    Tot (aiRest (aiEnv q st gd lo h an p d S.length a9 a10 a11) (S ++ [.map false (ks.map tt)])) (retQ fun d' S' => ∃ x, S'.take S.length = S ∧ frz S.length S' d' = some x ∧ ∃ A : List (List Int), (A.length ≤ 9 ∧ SrtR A ∧ A.Nodup ∧ (∀ r, r ∈ A ↔ Tried q an p d r ∧ ansP st gd L lo q h an p d r ≠ none)) ∧ x = .lst (A.map fun r => .tup [rowD r, resD (ansP st gd L lo q h an p d r)])) := by
  obtain ⟨k1, k2, k3, k4, k5⟩ := hk
  rw [List.take_length] at k5
  have kt : ∀ r, r ∈ ks ↔ Tried q an p d r := fun r => by
    rw [k5]
    constructor
    · rintro (rfl | ⟨row, hrow, e⟩)
      · exact .inl rfl
      · obtain ⟨i1, i2⟩ := (mem_all w.q1 an row).mp hrow
        exact .inr ⟨row, ⟨i1, by omega⟩, e⟩
    · rintro (rfl | ⟨row, ⟨i1, i2⟩, e⟩)
      · exact .inl rfl
      · exact .inr ⟨row, (mem_all w.q1 an row).mpr ⟨i1, by omega⟩, e⟩
  have sm := sort_map (S := S ++ [.map false (ks.map tt)]) (n := S.length) (get_last ..) (keys_tt ks) (.inr k2)
  have pm := sortR_perm ks
  have kl : (sortR ks).length < 10000 := by rw [pm.length_eq]; omega
  unfold aiRest
  rw [tot_seq_iff]
  simp only [sAsg_e, mFrz_e, lComp_e, wSeq_e, lB_e, aCons_e, aNil_e, mVar_e, List.getElem?_cons_succ, List.getElem?_cons_zero, bind_ok, sm, oo_some, List.length_map, if_pos (lt_size kl)]
  rw [compGo_map (g := rowD) (fun r => .tup [rowD r, resD (ansP st gd L lo q h an p d r)]) (fun r => [some (wD q st gd), some (kD h an lo), some (posD p), some (.int d), some (.int (outS st p)), some (offD st p), some (rowD p.held), some (rowD p.early), some (.loc S.length), a9, a10, a11, none, some (rowD r), none]) rfl (sortR ks) ?c1]
  case c1 =>
    intro r hr'
    have tr := (kt r).mp (pm.mem_iff.mp hr')
    obtain ⟨i1, i2⟩ := tried_in vv hd h0 (by omega) tr
    have ao := ans_ok (h := h) (a := (an : Int)) (lo := lo) w hL v hhl hel hd i1 (by omega) (S ++ [.map false (ks.map tt)])
    exact ⟨by simp, by simp [ao, sizeLine]⟩
  simp only [calm_ok, bind_ok, bindP_nm, tot_ok, nxQ_nx, List.set, sRet_e, mFrz_e, lComp_e, wSeq_e, mVar_e, List.getElem?_cons_succ, List.getElem?_cons_zero, List.length_map, if_pos (lt_size kl)]
  rw [compGo_pure (g := fun r => D.tup [rowD r, resD (ansP st gd L lo q h an p d r)]) (fun r => decide (ansP st gd L lo q h an p d r ≠ none)) (fun r => .tup [rowD r, resD (ansP st gd L lo q h an p d r)]) (fun r => [some (wD q st gd), some (kD h an lo), some (posD p), some (.int d), some (.int (outS st p)), some (offD st p), some (rowD p.held), some (rowD p.early), some (.loc S.length), a9, a10, a11, some (.lst ((sortR ks).map fun r => .tup [rowD r, resD (ansP st gd L lo q h an p d r)])), some (rowD r), some (resD (ansP st gd L lo q h an p d r))]) rfl (sortR ks) ?c2]
  case c2 =>
    intro r hr'
    refine ⟨by simp, ?_, fun _ => by simp [sizeLine]⟩
    cases ansP st gd L lo q h an p d r with
    | none => simp [resD, cNotN]
    | some x => cases x <;> simp [resD, posD, cNotN]
  simp only [calm_ok, bind_ok, tot_ok, retQ_rt]
  refine ⟨_, by simp, frz_plain ?_, (sortR ks).filter fun r => decide (ansP st gd L lo q h an p d r ≠ none), ⟨Nat.le_trans (List.length_filter_le _ _) (by rw [pm.length_eq]; omega), ?_, ?_, fun r => ?_⟩, rfl⟩
  · simp only [plain]
    rw [plainL_all]
    simp only [List.all_map, List.all_eq_true]
    intro r _
    simp [plain, plainL, rowD, plainL_ints, res_plain]
  · exact List.Pairwise.filter _ (sortR_srt ks)
  · exact List.Pairwise.filter _ (pm.nodup_iff.mpr k1)
  · rw [List.mem_filter, pm.mem_iff, kt]; simp
theorem answers_in_ok (w : WF q st gd) (q3 : q ≤ 3) (hL : ∀ S, d_live_in [wD q st gd] S = .ok (.lst (L.map .int)) S) (han : an ≤ 1) (h0 : 0 ≤ h) (h3 : h ≤ 3) {p : Ps} (v : PIn q st p) (vv : Valid st gd L lo q h an p) {d : Int} (hd : 0 ≤ d ∧ d ≤ q - 1) (S : Sto) :
    ∃ A : List (List Int), A.length ≤ 9 ∧ SrtR A ∧ A.Nodup ∧ (∀ r, r ∈ A ↔ Tried q an p d r ∧ ansP st gd L lo q h an p d r ≠ none) ∧
      d_answers_in [wD q st gd, kD h an lo, posD p, .int d] S = .ok (.lst (A.map fun r => .tup [rowD r, resD (ansP st gd L lo q h an p d r)])) S := by
  have hh := vv.heldLe h0
  have hhl : p.held.length < 100 := by omega
  have hel : p.early.length < 100 := by
    cases p with
    | ahead s r => have := vv.2.2.1; simp only [Ps.early]; omega
    | _ => simp [Ps.early]
  have ho := outputs_ok w v S
  have hr := rows_up_ok (st := st) (gd := gd) w.q1 q3 han (S ++ [O.map false [(rowD [], D.bl true)]])
  have rlen : ∀ row ∈ allR q an, row.length < 100 := fun row hrow => by have := ((mem_all w.q1 an row).mp hrow).2; omega
  have alen : (allR q an).length ≤ 4 := by
    have hq : q = 1 ∨ q = 2 ∨ q = 3 := by have := w.q1; omega
    have hn' : an = 0 ∨ an = 1 := by omega
    rcases hq with rfl | rfl | rfl <;> rcases hn' with rfl | rfl <;> decide
  have key : ∃ dd, d_answers_in [wD q st gd, kD h an lo, posD p, .int d] S = .ok dd S ∧ ∃ A : List (List Int), (A.length ≤ 9 ∧ SrtR A ∧ A.Nodup ∧ (∀ r, r ∈ A ↔ Tried q an p d r ∧ ansP st gd L lo q h an p d r ≠ none)) ∧ dd = .lst (A.map fun r => .tup [rowD r, resD (ansP st gd L lo q h an p d r)]) := by
    refine defP_some rfl ?_
    generalize hQ : (retQ fun d' S' => _) = Q
    rw [tot_seq_iff]
    simp only [sAsg_e, mCall_e, aCons_e, mVar_e, aNil_e, List.map_cons, List.map_nil, List.cons_append, List.nil_append, List.getElem?_cons_succ, List.getElem?_cons_zero, bind_ok, ho, bindP_tp, bindPs_cons, bindPs_nil, bindP_nm, List.replicate, List.set, tot_ok, nxQ_nx]
    rw [tot_seq_iff]
    simp only [sAsg_e, mMap1_e, mTup_e, aNil_e, mC_e, bind_ok, List.length_nil, Nat.zero_le, if_true, calm_ok, nil_row, keyOk_row, noClo_bl, and_self, bindP_nm, List.set, tot_ok, nxQ_nx]
    rw [tot_seq_iff]
    rw [sFor_e]
    rw [wSeq_ok (call_ok (xs := [wD q st gd, .int (an : Int)]) (by simp only [aCons_e, mVar_e, mIx_e, mC_e, aNil_e, List.getElem?_cons_succ, List.getElem?_cons_zero, bind_ok, kD_1, oo_some]) hr), bind_ok]
    refine tot_mono (ai_loop hhl rlen alen S) ?_
    rintro f S' ⟨ks, a9, a10, a11, rfl, hk, rfl⟩
    rw [nxQ_nx, ← hQ]
    exact ai_rest w hL h0 h3 han v vv hd hhl hel alen S a9 a10 a11 hk
  obtain ⟨dd, e1, A, ⟨a0, a1, a2, a3⟩, rfl⟩ := key
  exact ⟨A, a0, a1, a2, a3, e1⟩
end
end Mp
end SMik03

section SMjk03
set_option Elab.async false
set_option linter.all false
set_option maxHeartbeats 4000000
open PySem
namespace Mp
theorem ab_ss : isAB "str" "str" = true := by decide
theorem ab_is : isAB "int" "str" = false := by decide
theorem cIn_2s (S : Sto) (z x y : Str) : cIn S (.str z) (.tup [.str x, .str y]) = some (.bl (decide (z = x) || decide (z = y))) := by
  simp [cIn, oIn, flatD, eq_comm]
theorem cNotIn_2s (S : Sto) (z x y : Str) : cNotIn S (.str z) (.tup [.str x, .str y]) = some (.bl (!(decide (z = x) || decide (z = y)))) := by
  simp [cNotIn, oIn, flatD, eq_comm]
theorem cEq_lnil (S : Sto) (ns : List Int) : cEq S (.lst (ns.map .int)) (.lst []) = some (.bl ns.isEmpty) := by
  have h := cNe_lnil S ns
  simp only [cEq, cNe] at h ⊢
  cases q : oEq S (.lst (ns.map .int)) (.lst []) with
  | none => rw [q] at h; simp at h
  | some b => rw [q] at h; simp at h; simp [h]
theorem whole_i (x b c : Int) (S : Sto) : d_law_is_whole [.int x, .int b, .int c] S = .ok (.bl (decide (b ≤ x) && decide (x ≤ c))) S := by
  refine defP_ok rfl ?_ rfl
  by_cases h : b ≤ x <;> simp [h]
theorem bLen_st (S : Sto) (st : List (List Int)) : bLen S [stD st] = some (.int st.length) := by simp [stD]
theorem n_eo : ¬ (Str.ofString "even" = Str.ofString "off") := by decide
theorem n_be : ¬ (Str.ofString "behind" = Str.ofString "even") := by decide
theorem n_bo : ¬ (Str.ofString "behind" = Str.ofString "off") := by decide
theorem n_ae : ¬ (Str.ofString "ahead" = Str.ofString "even") := by decide
theorem n_ao : ¬ (Str.ofString "ahead" = Str.ofString "off") := by decide
theorem n_ab : ¬ (Str.ofString "ahead" = Str.ofString "behind") := by decide
theorem n_ba : ¬ (Str.ofString "behind" = Str.ofString "ahead") := by decide
theorem n_eb : ¬ (Str.ofString "even" = Str.ofString "behind") := by decide
theorem n_ea : ¬ (Str.ofString "even" = Str.ofString "ahead") := by decide
theorem n_ob : ¬ (Str.ofString "off" = Str.ofString "behind") := by decide
theorem n_oa : ¬ (Str.ofString "off" = Str.ofString "ahead") := by decide
theorem n_oe : ¬ (Str.ofString "off" = Str.ofString "even") := by decide
section
variable {q : Int} {st : List (List Int)} {gd L lo : List Int} {h a : Int}
theorem bind_kD (e : Ev) (i j k : Nat) : bindP (.tp [.nm i, .nm j, .nm k]) (kD h a lo) e = some (((e.set i (some (.int h))).set j (some (.int a))).set k (some (rowD lo))) := by simp [kD]
theorem whole_p (i : Int) (S : Sto) (n : Int) : d_is_whole [.int i, .int 0, .int n] S = .ok (.bl (decide (0 ≤ i) && decide (i ≤ n))) S := by
  rw [is_whole_s (.int i) 0 n S (by simp)]; rfl
/-- two parts -/
def two (st : List (List Int)) (gd : List Int) (z : Str) (i : Int) : Bool := (decide (0 ≤ i) && decide (i ≤ (st.length : Int) - 1)) && ((decide (z = "even") || decide (z = "off")) && decide (i ∈ gd))
theorem pos2_p (z : Str) (i : Int) (S : Sto) : d_is_position_of [wD q st gd, kD h a lo, .tup [.str z, .int i]] S = .ok (.bl (two st gd z i)) S := by
  refine defP_ok rfl ?_ rfl
  unfold two
  by_cases r : (decide (0 ≤ i) && decide (i ≤ (st.length : Int) - 1)) = true
  · by_cases c : (decide (z = Str.ofString "even") || decide (z = Str.ofString "off")) = true
    · simp [ixN, isA_s, ab_ss, whole_p, wD_1, bLen_st, r, cIn_2s, c, sizeLine, wD_2, cIn_row, cNotIn, oIn, flatD]
    · simp [ixN, isA_s, ab_ss, whole_p, wD_1, bLen_st, r, cIn_2s, c, sizeLine, wD_2, cIn_row, cNotIn, oIn, flatD]
  · simp [ixN, isA_s, ab_ss, whole_p, wD_1, bLen_st, r, sizeLine, cNotIn, oIn, flatD]
theorem pos2_l (z : Str) (i : Int) (S : Sto) : d_law_is_spot [wD q st gd, kD h a lo, .lst (L.map .int), .tup [.str z, .int i]] S = .ok (.bl (two st gd z i)) S := by
  refine defP_ok rfl ?_ rfl
  unfold two
  by_cases r : (decide (0 ≤ i) && decide (i ≤ (st.length : Int) - 1)) = true
  · by_cases c : (decide (z = Str.ofString "even") || decide (z = Str.ofString "off")) = true
    · simp [bind_kD, ixN, isA_s, ab_ss, whole_i, wD_1, bLen_st, r, cIn_2s, c, sizeLine, wD_2, cIn_row]
    · simp [bind_kD, ixN, isA_s, ab_ss, whole_i, wD_1, bLen_st, r, cIn_2s, c, sizeLine, wD_2, cIn_row]
  · simp [bind_kD, ixN, isA_s, ab_ss, whole_i, wD_1, bLen_st, r, sizeLine]
end
end Mp
end SMjk03

section SMk2k03
set_option Elab.async false
set_option linter.all false
set_option maxHeartbeats 4000000
open PySem
namespace Mp
section
variable {q : Int} {st : List (List Int)} {gd L lo : List Int} {h a : Int}
theorem row_p {r : List Int} (hr : InR q r) (rl : r.length < 1000) (S : Sto) : d_is_row [rowD r, .int (q - 1)] S = .ok (.bl true) S := by rw [is_row_s _ _ S (tame_row rl), isR_row, all_in hr]
theorem wait_p (hL : ∀ S, d_live_in [wD q st gd] S = .ok (.lst (L.map .int)) S) (i : Int) (S : Sto) : d_is_waiting [wD q st gd, .int i] S = .ok (.bl (decide (i ∈ L) && !decide (i ∈ gd))) S := by
  refine defP_ok rfl ?_ rfl
  by_cases c : i ∈ L <;> simp [hL, c, wD_2, cNotIn_row]
theorem cNotIn_23 (S : Sto) : cNotIn S (.int 3) (.tup [.int 2, .int 3]) = some (.bl false) := by simp [cNotIn, oIn, flatD]
theorem pos3b_p (w : WF q st gd) (hL : ∀ S, d_live_in [wD q st gd] S = .ok (.lst (L.map .int)) S) (i : Int) {r : List Int} (hr : InR q r) (rl : r.length < 1000) (S : Sto) :
    ∃ b, d_is_position_of [wD q st gd, kD h a lo, .tup [.str "behind", .int i, rowD r]] S = .ok (.bl b) S ∧ (b = true ↔ (0 ≤ i ∧ i < st.length) ∧ Valid st gd L lo q h a (.behind i r)) := by
  by_cases c : (decide (0 ≤ i) && decide (i ≤ (st.length : Int) - 1)) = true
  · have c' : 0 ≤ i ∧ i < st.length := by simp at c; omega
    obtain ⟨b, h1, h2⟩ := held_ok (h := h) (a := a) (lo := lo) w hL c'.1 c'.2 hr rl S
    by_cases g : i ∈ gd
    · refine ⟨b, defP_ok rfl ?_ rfl, ?_⟩
      · simp [ixN, ab_ss, whole_p, wD_1, bLen_st, c, cIn_2s, n_be, n_bo, sizeLine, wD_2, cIn_row, cNotIn_23, g, h1]
      · rw [h2]; simp [Valid, g, c']
    · refine ⟨false, defP_ok rfl ?_ rfl, ?_⟩
      · simp [ixN, ab_ss, whole_p, wD_1, bLen_st, c, cIn_2s, n_be, n_bo, sizeLine, wD_2, cIn_row, cNotIn_23, g]
      · simp [Valid, g]
  · refine ⟨false, defP_ok rfl ?_ rfl, ?_⟩
    · simp [ixN, ab_ss, whole_p, wD_1, bLen_st, c, sizeLine, cNotIn_23]
    · constructor
      · intro z; cases z
      · rintro ⟨⟨z1, z2⟩, _⟩; exfalso; apply c; simp; omega
theorem pos3a_p (w : WF q st gd) (hL : ∀ S, d_live_in [wD q st gd] S = .ok (.lst (L.map .int)) S) (i : Int) {r : List Int} (hr : InR q r) (rl : r.length < 1000) (S : Sto) :
    ∃ b, d_is_position_of [wD q st gd, kD h a lo, .tup [.str "ahead", .int i, rowD r]] S = .ok (.bl b) S ∧ (b = true ↔ (0 ≤ i ∧ i < st.length) ∧ Valid st gd L lo q h a (.ahead i r)) := by
  by_cases c : (decide (0 ≤ i) && decide (i ≤ (st.length : Int) - 1)) = true
  · have c' : 0 ≤ i ∧ i < st.length := by simp at c; omega
    have hb := behind_s w c'.1 c'.2 hr S
    by_cases l1 : (1 : Int) ≤ r.length
    case neg =>
      refine ⟨false, defP_ok rfl ?_ rfl, ?_⟩
      · simp [ixN, ab_ss, whole_p, wD_0, wD_1, bLen_st, c, cIn_2s, n_ae, n_ao, n_ab, sizeLine, cNotIn_23, row_p hr rl, bLen_row, l1]
      · constructor
        · intro z; cases z
        · rintro ⟨_, _, z, _⟩; exact absurd (List.length_pos_iff.mpr z) (by omega)
    by_cases l2 : (r.length : Int) ≤ a
    case neg =>
      refine ⟨false, defP_ok rfl ?_ rfl, ?_⟩
      · simp [ixN, ab_ss, whole_p, wD_0, wD_1, bLen_st, c, cIn_2s, n_ae, n_ao, n_ab, sizeLine, cNotIn_23, row_p hr rl, bLen_row, l1, l2, kD_1]
      · constructor
        · intro z; cases z
        · rintro ⟨_, _, _, z, _⟩; exact absurd z l2
    refine ⟨(decide (i ∈ L) && !decide (i ∈ gd)) && decide (far st i r ∈ gd), defP_ok rfl ?_ rfl, ?_⟩
    · have wt := wait_p hL i S
      cases hx : (decide (i ∈ L) && !decide (i ∈ gd)) <;> rw [hx] at wt <;> simp [ixN, ab_ss, whole_p, wD_0, wD_1, wD_2, bLen_st, c, cIn_2s, n_ae, n_ao, n_ab, sizeLine, cNotIn_23, row_p hr rl, bLen_row, l1, l2, kD_1, wt, hb, cIn_row]
    · have ne : r ≠ [] := by intro z; rw [z] at l1; simp at l1
      simp [Valid, c', hr, ne, l2, and_assoc]
  · refine ⟨false, defP_ok rfl ?_ rfl, ?_⟩
    · simp [ixN, ab_ss, whole_p, wD_1, bLen_st, c, sizeLine, cNotIn_23]
    · constructor
      · intro z; cases z
      · rintro ⟨⟨z1, z2⟩, _⟩; exfalso; apply c; simp; omega
end
end Mp
end SMk2k03

section SMk3k03
set_option Elab.async false
set_option linter.all false
set_option maxHeartbeats 4000000
open PySem
namespace Mp
theorem lComp_row {m : MEx} {own : List Nat} {p : Pat} {t : MTs} {f : MEx} {e : Ev} {S : Sto} {r : List Int} (q' : Int → Bool) (o : Int → D) (e1 : Int → Ev) (hm : m e S = .ok (rowD r) S) (rl : r.length < 10000)
    (h : ∀ x ∈ r, bindP p (.int x) (wipeE e own) = some (e1 x) ∧ t (e1 x) S = .ok (q' x) S ∧ (q' x = true → f (e1 x) S = .ok (o x) S)) : lComp (wSeq m) own p t f e S = .ok ((r.filter q').map o) S := by
  rw [lComp_e, wSeq_e, hm]
  simp only [bind_ok, rowD, List.length_map, if_pos (lt_size rl)]
  rw [compGo_pure (g := D.int) q' o e1 rfl r h]
  rfl
theorem lComp_lst {m : MEx} {own : List Nat} {p : Pat} {t : MTs} {f : MEx} {e : Ev} {S : Sto} {r : List Int} (q' : Int → Bool) (o : Int → D) (e1 : Int → Ev) (hm : m e S = .ok (.lst (r.map .int)) S) (rl : r.length < 10000)
    (h : ∀ x ∈ r, bindP p (.int x) (wipeE e own) = some (e1 x) ∧ t (e1 x) S = .ok (q' x) S ∧ (q' x = true → f (e1 x) S = .ok (o x) S)) : lComp (wSeq m) own p t f e S = .ok ((r.filter q').map o) S := by
  rw [lComp_e, wSeq_e, hm]
  simp only [bind_ok, List.length_map, if_pos (lt_size rl)]
  rw [compGo_pure (g := D.int) q' o e1 rfl r h]
  rfl
theorem lComp_rng {m : MEx} {own : List Nat} {p : Pat} {f : MEx} {e : Ev} {S : Sto} {n : Nat} (o : Nat → D) (e1 : Nat → Ev) (hm : m e S = .ok (.int (n : Int)) S) (rl : n < 10000)
    (h : ∀ x < n, bindP p (.int (x : Int)) (wipeE e own) = some (e1 x) ∧ f (e1 x) S = .ok (o x) S) : lComp (wRng1 m) own p tYes f e S = .ok ((List.range n).map o) S := by
  rw [lComp_e, wRng1_e, hm]
  have er : rng 0 n = (List.range n).map fun (k : Nat) => D.int (k : Int) := by simp [rng]
  simp only [bind_ok, if_pos (rngOk_of (by omega : (0 : Int) ≤ n) (by omega)), Int.toNat_natCast]
  rw [if_pos (show (rng 0 n).length < sizeLine by rw [er]; simp; exact lt_size rl), er]
  rw [compGo_map (g := fun (k : Nat) => D.int (k : Int)) o e1 rfl (List.range n) (fun x hx => h x (List.mem_range.mp hx))]
  rfl
theorem isA_row (S : Sto) (r : List Int) (c : String) : isA S (rowD r) c = some (isAB "tuple" c) := rfl
section
variable {q : Int} {st : List (List Int)} {gd L lo : List Int} {h a : Int}
abbrev spotE (q : Int) (st : List (List Int)) (gd L lo : List Int) (h a : Int) (x : D) (a7 a8 : Option D) : Ev := [some (wD q st gd), some (kD h a lo), some (.lst (L.map .int)), some x, some (.int h), some (.int a), some (rowD lo), a7, a8, none, none, none]
theorem sp6 (z : Str) (i : Int) {r : List Int} (hr : InR q r) (rl : r.length < 1000) (S : Sto) : lComp (wSeq (mIx (mVar 3) (mC (.int 2)))) [10] (.nm 10) (mtNot (mtTruth (mCall d_law_is_whole (aCons (mVar 10) (aCons (mC (.int 0)) (aCons (mOp oSub (mIx (mVar 0) (mC (.int 0))) (mC (.int 1))) aNil)))))) (mVar 10) (spotE q st gd L lo h a (.tup [.str z, .int i, rowD r]) none none) S = .ok [] S := by
  have := lComp_row (m := mIx (mVar 3) (mC (.int 2))) (own := [10]) (p := .nm 10) (t := mtNot (mtTruth (mCall d_law_is_whole (aCons (mVar 10) (aCons (mC (.int 0)) (aCons (mOp oSub (mIx (mVar 0) (mC (.int 0))) (mC (.int 1))) aNil)))))) (f := mVar 10) (e := spotE q st gd L lo h a (.tup [.str z, .int i, rowD r]) none none) (S := S) (r := r) (fun x => !(decide (0 ≤ x) && decide (x ≤ q - 1))) D.int (fun x => [some (wD q st gd), some (kD h a lo), some (.lst (L.map .int)), some (.tup [.str z, .int i, rowD r]), some (.int h), some (.int a), some (rowD lo), none, none, none, some (.int x), none]) (by simp [spotE, ixN]) (by omega) (fun x _ => ⟨by simp [spotE], by simp [wD_0, whole_i], fun _ => by simp⟩)
  rw [this]
  have : r.filter (fun x => !(decide (0 ≤ x) && decide (x ≤ q - 1))) = [] := by
    rw [List.filter_eq_nil_iff]
    intro x hx
    have := hr x hx
    simp; omega
  rw [this]; rfl
theorem sp8 (z : Str) (i : Int) {r : List Int} (rl : r.length < 1000) (S : Sto) : lComp (wSeq (mIx (mVar 3) (mC (.int 2)))) [10] (.nm 10) (mtVal (mOp cIn (mVar 10) (mVar 6))) (mVar 10) (spotE q st gd L lo h a (.tup [.str z, .int i, rowD r]) none none) S = .ok ((r.filter fun x => decide (x ∈ lo)).map .int) S :=
  lComp_row (fun x => decide (x ∈ lo)) D.int (fun x => [some (wD q st gd), some (kD h a lo), some (.lst (L.map .int)), some (.tup [.str z, .int i, rowD r]), some (.int h), some (.int a), some (rowD lo), none, none, none, some (.int x), none]) (by simp [spotE, ixN]) (by omega) (fun x _ => ⟨by simp [spotE], by simp [cIn_row], fun _ => by simp⟩)
theorem sp9 (w : WF q st gd) (z : Str) {i : Int} (i0 : 0 ≤ i) (i1 : i < st.length) {r : List Int} (hr : InR q r) (rl : r.length < 1000) (S : Sto) : lComp (wRng1 (mB bLen (aCons (mIx (mVar 3) (mC (.int 2))) aNil))) [9] (.nm 9) tYes (mCall d_law_far (aCons (mVar 0) (aCons (mIx (mVar 3) (mC (.int 1))) (aCons (mSlA (mIx (mVar 3) (mC (.int 2))) pNone (pSome (mOp oAdd (mVar 9) (mC (.int 1))))) aNil)))) (spotE q st gd L lo h a (.tup [.str z, .int i, rowD r]) none none) S = .ok ((endsOf st i r).map .int) S := by
  rw [lComp_rng (n := r.length) (fun k => .int (far st i (r.take (k + 1)))) (fun k => [some (wD q st gd), some (kD h a lo), some (.lst (L.map .int)), some (.tup [.str z, .int i, rowD r]), some (.int h), some (.int a), some (rowD lo), none, none, some (.int (k : Int)), none, none]) (by simp [spotE, ixN, bLen_row]) (by omega) (fun k _ => ⟨by simp [spotE], ?_⟩)]
  · rw [endsOf, List.map_map]; rfl
  · have bs := law_far_s w i0 i1 (fun x hx => hr x (List.mem_of_mem_take hx) : InR q (r.take (k + 1))) S
    have ct : cut (r.map .int) none (some ((k : Int) + 1)) = (r.take (k + 1)).map .int := by
      have := cut_to r (k + 1)
      rwa [show (((k + 1 : Nat)) : Int) = (k : Int) + 1 by omega] at this
    have sl : mSlA (mIx (mVar 3) (mC (.int 2))) pNone (pSome (mOp oAdd (mVar 9) (mC (.int 1)))) [some (wD q st gd), some (kD h a lo), some (.lst (L.map .int)), some (.tup [.str z, .int i, rowD r]), some (.int h), some (.int a), some (rowD lo), none, none, some (.int (k : Int)), none, none] S = .ok (rowD (r.take (k + 1))) S := by
      rw [mSlA_e]
      simp [ixN, -List.map_take]
      simp only [rowD, ct]
    simp [ixN, sl, bs, -mSlA_e]
theorem sp11 (z : Str) (i : Int) {r : List Int} (rl : r.length < 1000) (S : Sto) : lComp (wSeq (mVar 8)) [11] (.nm 11) (mtVal (mOp cIn (mVar 11) (mIx (mVar 0) (mC (.int 2))))) (mVar 11) (spotE q st gd L lo h a (.tup [.str z, .int i, rowD r]) none (some (.lst ((endsOf st i r).map .int)))) S = .ok (((endsOf st i r).filter fun x => decide (x ∈ gd)).map .int) S :=
  lComp_lst (fun x => decide (x ∈ gd)) D.int (fun x => [some (wD q st gd), some (kD h a lo), some (.lst (L.map .int)), some (.tup [.str z, .int i, rowD r]), some (.int h), some (.int a), some (rowD lo), none, some (.lst ((endsOf st i r).map .int)), none, none, some (.int x)]) (by simp [spotE]) (by simp [endsOf]; omega) (fun x _ => ⟨by simp [spotE], by simp [wD_2, cIn_row], fun _ => by simp⟩)
end
end Mp
end SMk3k03

section SMk4k03
set_option Elab.async false
set_option linter.all false
set_option maxHeartbeats 4000000
open PySem
namespace Mp
section
variable {q : Int} {st : List (List Int)} {gd L lo : List Int} {h a : Int}
theorem filter_empty {r : List Int} {P : Int → Bool} : (r.filter P).isEmpty = !r.any P := by
  induction r with
  | nil => rfl
  | cons x r ih => by_cases c : P x = true <;> simp [List.filter, c, ih]
theorem pos3b_l (w : WF q st gd) (i : Int) {r : List Int} (hr : InR q r) (rl : r.length < 1000) (S : Sto) :
    ∃ b, d_law_is_spot [wD q st gd, kD h a lo, .lst (L.map .int), .tup [.str "behind", .int i, rowD r]] S = .ok (.bl b) S ∧ (b = true ↔ (0 ≤ i ∧ i < st.length) ∧ Valid st gd L lo q h a (.behind i r)) := by
  have e6 := sp6 (st := st) (gd := gd) (L := L) (lo := lo) (h := h) (a := a) (Str.ofString "behind") i hr rl S
  have e8 := sp8 (q := q) (st := st) (gd := gd) (L := L) (lo := lo) (h := h) (a := a) (Str.ofString "behind") i rl S
  have e11 := sp11 (q := q) (st := st) (gd := gd) (L := L) (lo := lo) (h := h) (a := a) (Str.ofString "behind") i rl S
  have nl := cNe_lnil S ([] : List Int)
  simp only [List.map_nil, List.isEmpty_nil, Bool.not_true] at nl
  by_cases c : (decide (0 ≤ i) && decide (i ≤ (st.length : Int) - 1)) = true
  case neg =>
    refine ⟨false, defP_ok rfl ?_ rfl, ?_⟩
    · simp [bind_kD, ixN, ab_ss, whole_i, wD_1, bLen_st, c, sizeLine]
    · constructor
      · intro z; cases z
      · rintro ⟨⟨z1, z2⟩, _⟩; exfalso; apply c; simp; omega
  have c' : 0 ≤ i ∧ i < st.length := by simp at c; omega
  have e9 := sp9 (L := L) (lo := lo) (h := h) (a := a) w (Str.ofString "behind") c'.1 c'.2 hr rl S
  by_cases r0 : r = []
  · refine ⟨false, defP_ok rfl ?_ rfl, ?_⟩
    · simp [bind_kD, ixN, ab_ss, whole_i, wD_1, bLen_st, c, sizeLine, cNotIn_2s, isA_row, nil_row, cEq_rows, eq_true r0]
    · constructor
      · intro z; cases z
      · rintro ⟨_, _, z⟩; exact absurd r0 z.ne
  have last := ends_last (st := st) (s := i) r0 S
  by_cases g : i ∈ gd
  case neg =>
    refine ⟨false, defP_ok rfl ?_ rfl, ?_⟩
    · simp [bind_kD, ixN, ab_ss, whole_i, wD_1, wD_2, bLen_st, c, sizeLine, cNotIn_2s, isA_row, nil_row, cEq_rows, r0, e6, nl, n_ba, cNotIn_row, g, -lComp_e]
    · simp [Valid, g]
  by_cases l2 : (r.length : Int) ≤ h
  case neg =>
    refine ⟨false, defP_ok rfl ?_ rfl, ?_⟩
    · simp [bind_kD, ixN, ab_ss, whole_i, wD_1, wD_2, bLen_st, c, sizeLine, cNotIn_2s, isA_row, nil_row, cEq_rows, r0, e6, nl, n_ba, cNotIn_row, g, bLen_row, Int.not_le.mp l2, -lComp_e]
    · constructor
      · intro z; cases z
      · rintro ⟨_, _, z⟩; exact absurd z.le l2
  have nlt : ¬ (h < (r.length : Int)) := Int.not_lt.mpr l2
  have nl8 := cNe_lnil S (r.filter fun x => decide (x ∈ lo))
  rw [filter_empty, Bool.not_not] at nl8
  cases hx : r.any fun x => decide (x ∈ lo) with
  | true =>
    rw [hx] at nl8
    refine ⟨false, defP_ok rfl ?_ rfl, ?_⟩
    · simp [bind_kD, ixN, ab_ss, whole_i, wD_1, wD_2, bLen_st, c, sizeLine, cNotIn_2s, isA_row, nil_row, cEq_rows, r0, e6, nl, n_ba, cNotIn_row, g, bLen_row, nlt, e8, nl8, -lComp_e]
    · constructor
      · intro z; cases z
      · rintro ⟨_, _, z⟩
        simp only [List.any_eq_true, decide_eq_true_eq] at hx
        obtain ⟨x, h1, h2⟩ := hx
        exact absurd h2 (z.no x h1)
  | false =>
    rw [hx] at nl8
    have el := cEq_lnil S ((endsOf st i r).filter fun x => decide (x ∈ gd))
    rw [filter_empty] at el
    refine ⟨!((endsOf st i r).any fun x => decide (x ∈ gd)) && decide (far st i r ∈ L), defP_ok rfl ?_ rfl, ?_⟩
    · cases hy : (endsOf st i r).any fun x => decide (x ∈ gd) <;> rw [hy] at el <;>
        simp [bind_kD, ixN, ab_ss, whole_i, wD_1, wD_2, bLen_st, c, sizeLine, cNotIn_2s, isA_row, nil_row, cEq_rows, r0, e6, nl, n_ba, cNotIn_row, g, bLen_row, nlt, e8, nl8, e9, e11, el, last, -lComp_e, -oIx_l]
    · simp only [List.any_eq_false, decide_eq_true_eq] at hx
      simp only [Bool.and_eq_true, Bool.not_eq_true', List.any_eq_false, decide_eq_true_eq]
      constructor
      · rintro ⟨z1, z2⟩
        exact ⟨c', g, hr, r0, l2, hx, fun k k1 k2 => z1 _ (mem_ends.mpr ⟨k, k1, k2, rfl⟩), z2⟩
      · rintro ⟨_, _, z⟩
        refine ⟨fun x hx' => ?_, z.liv⟩
        obtain ⟨k, k1, k2, rfl⟩ := mem_ends.mp hx'
        exact z.mid k k1 k2
theorem pos3a_l (w : WF q st gd) (i : Int) {r : List Int} (hr : InR q r) (rl : r.length < 1000) (S : Sto) :
    ∃ b, d_law_is_spot [wD q st gd, kD h a lo, .lst (L.map .int), .tup [.str "ahead", .int i, rowD r]] S = .ok (.bl b) S ∧ (b = true ↔ (0 ≤ i ∧ i < st.length) ∧ Valid st gd L lo q h a (.ahead i r)) := by
  have e6 := sp6 (st := st) (gd := gd) (L := L) (lo := lo) (h := h) (a := a) (Str.ofString "ahead") i hr rl S
  have nl := cNe_lnil S ([] : List Int)
  simp only [List.map_nil, List.isEmpty_nil, Bool.not_true] at nl
  by_cases c : (decide (0 ≤ i) && decide (i ≤ (st.length : Int) - 1)) = true
  case neg =>
    refine ⟨false, defP_ok rfl ?_ rfl, ?_⟩
    · simp [bind_kD, ixN, ab_ss, whole_i, wD_1, bLen_st, c, sizeLine]
    · constructor
      · intro z; cases z
      · rintro ⟨⟨z1, z2⟩, _⟩; exfalso; apply c; simp; omega
  have c' : 0 ≤ i ∧ i < st.length := by simp at c; omega
  have hb := law_far_s w c'.1 c'.2 hr S
  by_cases r0 : r = []
  · refine ⟨false, defP_ok rfl ?_ rfl, ?_⟩
    · simp [bind_kD, ixN, ab_ss, whole_i, wD_1, bLen_st, c, sizeLine, cNotIn_2s, isA_row, nil_row, cEq_rows, eq_true r0]
    · constructor
      · intro z; cases z
      · rintro ⟨_, _, z, _⟩; exact absurd r0 z
  refine ⟨(decide (i ∈ L) && (!decide (i ∈ gd) && decide ((r.length : Int) ≤ a))) && decide (far st i r ∈ gd), defP_ok rfl ?_ rfl, ?_⟩
  · by_cases x1 : i ∈ L <;> by_cases x2 : i ∈ gd <;> by_cases x3 : (r.length : Int) ≤ a <;>
      simp [bind_kD, ixN, ab_ss, whole_i, wD_1, wD_2, bLen_st, c, sizeLine, cNotIn_2s, isA_row, nil_row, cEq_rows, r0, e6, nl, cNotIn_row, cIn_row, bLen_row, hb, x1, x2, x3, -lComp_e]
  · simp only [Valid, c', hr, r0, ne_eq, not_false_eq_true, true_and, and_self, Bool.and_eq_true, decide_eq_true_eq, Bool.not_eq_true', decide_eq_false_iff_not]
    constructor
    · rintro ⟨⟨z1, z2, z3⟩, z4⟩; exact ⟨z3, z1, z2, z4⟩
    · rintro ⟨z3, z1, z2, z4⟩; exact ⟨⟨z1, z2, z3⟩, z4⟩
end
end Mp
end SMk4k03

section SMl2k03
set_option Elab.async false
set_option linter.all false
set_option maxHeartbeats 4000000
open PySem
namespace Mp
structure KOk (q h a : Int) (lo : List Int) : Prop where
  h0 : 0 ≤ h
  h3 : h ≤ 3
  a0 : 0 ≤ a
  a2 : a ≤ 2
  lin : InR q lo
  asc : lo.Pairwise (· < ·)
  ll : lo.length < 64
section
variable {q : Int} {st : List (List Int)} {gd L lo : List Int} {h a : Int}
theorem KOk.lot (k : KOk q h a lo) : isL (rowD lo) (q - 1) = true := by
  unfold isL
  rw [isR_row, all_in k.lin]
  simp only [rowD, Bool.true_and]
  rw [ascD_zip, List.all_eq_true]
  intro p hp
  have := zip_asc k.asc p hp
  simpa using this
theorem need_kind_k (w : WF q st gd) (k : KOk q h a lo) (S : Sto) : d_need_kind [wD q st gd, kD h a lo] S = .ok (kD h a lo) S := by
  have hw := need_wish_ok w S
  have i1 := whole_p h S 3
  have i2 := whole_p a S 2
  have i3 : d_is_lot [rowD lo, .int (q - 1)] S = .ok (.bl true) S := by rw [is_lot_s _ _ S (tame_row (by have := k.ll; omega)), k.lot]
  have t : isA S (kD h a lo) "tuple" = some true := by simp [kD]
  have l : bLen S [kD h a lo] = some (.int 3) := by simp [kD]
  refine defP_ok rfl ?_ (by simp [kD, plain, plainL, rowD, plainL_ints])
  simp [hw, t, l, kD_0, kD_1, kD_2, i1, i2, i3, wD_0, k.h0, k.h3, k.a0, k.a2]
theorem is_pos (w : WF q st gd) (k : KOk q h a lo) {x : D} {b : Bool} {S : Sto} (hb : d_is_position_of [wD q st gd, kD h a lo, x] S = .ok (.bl b) S) : d_is_position [wD q st gd, kD h a lo, x] S = .ok (.bl b) S := by
  refine defP_ok rfl ?_ rfl
  simp [need_kind_k w k, hb]
theorem pos_ok (w : WF q st gd) (hL : ∀ S, d_live_in [wD q st gd] S = .ok (.lst (L.map .int)) S) {p : Ps} (v : PIn q st p) (vv : Valid st gd L lo q h a p) (hl : p.held.length < 100) (el : p.early.length < 100) (S : Sto) : d_is_position_of [wD q st gd, kD h a lo, posD p] S = .ok (.bl true) S := by
  have s0 := v.s0
  have s1 := v.s1
  cases p with
  | even s => simp only [Ps.base] at s0 s1; rw [posD, pos2_p]; have : s ∈ gd := vv; simp [two, this, s0, show s ≤ (st.length : Int) - 1 by omega]
  | off s => simp only [Ps.base] at s0 s1; rw [posD, pos2_p]; have : s ∈ gd := vv; simp [two, this, s0, show s ≤ (st.length : Int) - 1 by omega]
  | behind s r =>
    obtain ⟨b, h1, h2⟩ := pos3b_p (h := h) (a := a) (lo := lo) w hL s v.hi (by simp only [Ps.held] at hl ⊢; omega) S
    rw [posD, show rowD r = rowD (Ps.behind s r).held from rfl, h1, h2.mpr ⟨⟨s0, s1⟩, vv⟩]
  | ahead s r =>
    obtain ⟨b, h1, h2⟩ := pos3a_p (h := h) (a := a) (lo := lo) w hL s v.ei (by simp only [Ps.early] at el ⊢; omega) S
    rw [posD, show rowD r = rowD (Ps.ahead s r).early from rfl, h1, h2.mpr ⟨⟨s0, s1⟩, vv⟩]
theorem need_deed_ok {d : Int} (hd : 0 ≤ d ∧ d ≤ q - 1) (S : Sto) : d_need_deed [wD q st gd, .int d] S = .ok .non S := by
  refine defP_ok rfl ?_ rfl
  simp [wD_0, whole_p, hd]
theorem need_pos (w : WF q st gd) (hL : ∀ S, d_live_in [wD q st gd] S = .ok (.lst (L.map .int)) S) (k : KOk q h a lo) {p : Ps} (v : PIn q st p) (vv : Valid st gd L lo q h a p) (hl : p.held.length < 100) (el : p.early.length < 100) {d : Int} (hd : 0 ≤ d ∧ d ≤ q - 1) (S : Sto) : d_need_position [wD q st gd, kD h a lo, posD p, .int d] S = .ok .non S := by
  refine defP_ok rfl ?_ rfl
  simp [is_pos w k (pos_ok w hL v vv hl el S), need_deed_ok hd]
theorem Valid.lens {p : Ps} (vv : Valid st gd L lo q h a p) (h0 : 0 ≤ h) (h3 : h ≤ 3) (a2 : a ≤ 2) : p.held.length < 100 ∧ p.early.length < 100 := by
  refine ⟨by have := vv.heldLe h0; omega, ?_⟩
  cases p with
  | ahead s r => have := vv.2.2.1; simp only [Ps.early]; omega
  | _ => simp [Ps.early]
theorem answers_ok (w : WF q st gd) (q3 : q ≤ 3) (hL : ∀ S, d_live_in [wD q st gd] S = .ok (.lst (L.map .int)) S) {an : Nat} (han : an ≤ 1) (k : KOk q h an lo) {p : Ps} (v : PIn q st p) (vv : Valid st gd L lo q h an p) {d : Int} (hd : 0 ≤ d ∧ d ≤ q - 1) (S : Sto) :
    ∃ A : List (List Int), A.length ≤ 9 ∧ SrtR A ∧ A.Nodup ∧ (∀ r, r ∈ A ↔ Tried q an p d r ∧ ansP st gd L lo q h an p d r ≠ none) ∧ d_answers [wD q st gd, kD h an lo, posD p, .int d] S = .ok (.tup (A.map rowD)) S := by
  obtain ⟨A, al, a1, a2, a3, a4⟩ := answers_in_ok w q3 hL han k.h0 k.h3 v vv hd S
  obtain ⟨l1, l2⟩ := vv.lens k.h0 k.h3 (by omega)
  have np := need_pos w hL k v vv l1 l2 hd S
  refine ⟨A, al, a1, a2, a3, defP_ok rfl ?_ ?_⟩
  · simp only [tot_seq_iff, sEx_e]
    rw [call_ok (xs := [wD q st gd, kD h an lo, posD p, .int d]) (by simp) np]
    simp only [bind_ok, tot_ok, nxQ_nx, sRet_e, mB_e, aCons_e, aNil_e, mFrz_e, lComp_e]
    rw [wSeq_ok (call_ok (xs := [wD q st gd, kD h an lo, posD p, .int d]) (by simp) a4), bind_ok]
    simp only [List.length_map, if_pos (lt_size (by omega : A.length < 10000))]
    rw [compGo_map (g := fun r => D.tup [rowD r, resD (ansP st gd L lo q h an p d r)]) rowD (fun r => [some (wD q st gd), some (kD h an lo), some (posD p), some (.int d), some (rowD r), some (resD (ansP st gd L lo q h an p d r))]) rfl A (fun r _ => ⟨by simp, by simp⟩)]
    simp [calm]
  · have := plain_rows A
    simpa [plain] using this
end
end Mp
end SMl2k03

section SMm2k03
set_option Elab.async false
set_option linter.all false
set_option maxHeartbeats 4000000
open PySem
namespace Mp
theorem sTry_e (known : List Str) (b : MSt) (hs : List Hd) (e : Ev) (S : Sto) : sTry known b hs e S = match b e S with
  | .exc x e S => if x.cls ∈ known then hdGo x e S hs else .bad
  | o => o := rfl
def plX : Exn := ⟨"OutOfPlace", []⟩
theorem cIsN_pos (S : Sto) (p : Ps) : cIsN S (posD p) .non = some (.bl false) := by cases p <;> rfl
theorem plain_pos (p : Ps) : plain (posD p) = true := by cases p <;> simp [posD, plain, plainL, rowD, plainL_ints]
section
variable {q : Int} {st : List (List Int)} {gd L lo : List Int} {h a d : Int} {p : Ps}
structure Spot (q : Int) (st : List (List Int)) (gd L lo : List Int) (h a : Int) (p : Ps) (d : Int) : Prop where
  w : WF q st gd
  hL : ∀ S, d_live_in [wD q st gd] S = .ok (.lst (L.map .int)) S
  k : KOk q h a lo
  v : PIn q st p
  vv : Valid st gd L lo q h a p
  hd : 0 ≤ d ∧ d ≤ q - 1
theorem Spot.need (s : Spot q st gd L lo h a p d) (S : Sto) : d_need_position [wD q st gd, kD h a lo, posD p, .int d] S = .ok .non S := by
  obtain ⟨l1, l2⟩ := s.vv.lens s.k.h0 s.k.h3 s.k.a2
  exact need_pos s.w s.hL s.k s.v s.vv l1 l2 s.hd S
theorem Spot.ans (s : Spot q st gd L lo h a p d) {r : List Int} (hr : InR q r) (rl : r.length < 100) (S : Sto) : d_behind_answer [wD q st gd, kD h a lo, posD p, .int d, rowD r] S = .ok (resD (ansL st gd L lo h a p d r)) S := by
  obtain ⟨l1, l2⟩ := s.vv.lens s.k.h0 s.k.h3 s.k.a2
  rw [ans_ok s.w s.hL s.v l1 l2 s.hd hr rl S, ans_eq s.vv s.hd r s.k.a0]
theorem led_some (s : Spot q st gd L lo h a p d) {r : List Int} (hr : InR q r) (rl : r.length < 100) {p' : Ps} (e : ansL st gd L lo h a p d r = some p') (S : Sto) : d_led [wD q st gd, kD h a lo, posD p, .int d, rowD r] S = .ok (posD p') S := by
  have n := s.need S
  have x := s.ans hr rl S
  rw [e] at x
  refine defP_ok rfl ?_ (plain_pos p')
  simp [n, wD_0, row_p hr (by omega), x, resD, cIsN_pos]
theorem led_none (s : Spot q st gd L lo h a p d) {r : List Int} (hr : InR q r) (rl : r.length < 100) (e : ansL st gd L lo h a p d r = none) (S : Sto) : d_led [wD q st gd, kD h a lo, posD p, .int d, rowD r] S = .exc plX [] S := by
  have n := s.need S
  have x := s.ans hr rl S
  rw [e] at x
  refine defP_exc (e := [some (wD q st gd), some (kD h a lo), some (posD p), some (.int d), some (rowD r), some .non]) rfl ?_ rfl
  simp [sSeq_e, n, wD_0, row_p hr (by omega : r.length < 1000), x, resD, cIsN, sRaise_e, plX]
theorem led_odd (s : Spot q st gd L lo h a p d) {x : D} (t : tame x = true) (f : isR x (q - 1) = false) (S : Sto) : d_led [wD q st gd, kD h a lo, posD p, .int d, x] S = .exc plX [] S := by
  have n := s.need S
  have y := is_row_s x (q - 1) S t
  rw [f] at y
  refine defP_exc (e := [some (wD q st gd), some (kD h a lo), some (posD p), some (.int d), some x, some .non]) rfl ?_ rfl
  simp [sSeq_e, n, wD_0, y, cIsN, sRaise_e, plX]
theorem out_some {x : D} {p' : Ps} {S : Sto} (e : d_led [wD q st gd, kD h a lo, posD p, .int d, x] S = .ok (posD p') S) : d_law_outcome [wD q st gd, kD h a lo, posD p, .int d, x] S = .ok (posD p') S := by
  refine defP_ok rfl ?_ (plain_pos p')
  simp [sTry_e, e]
theorem out_place {x : D} {S : Sto} (e : d_led [wD q st gd, kD h a lo, posD p, .int d, x] S = .exc plX [] S) : d_law_outcome [wD q st gd, kD h a lo, posD p, .int d, x] S = .ok (.str "place") S := by
  refine defP_ok rfl ?_ rfl
  simp [sTry_e, e, plX, hdGo, unE, show (Str.ofString "OutOfPlace") ∈ known by decide]
def dueD : Option Ps → D
  | none => .str "place"
  | some p => posD p
theorem out_row (s : Spot q st gd L lo h a p d) {r : List Int} (hr : InR q r) (rl : r.length < 100) (S : Sto) : d_law_outcome [wD q st gd, kD h a lo, posD p, .int d, rowD r] S = .ok (dueD (ansL st gd L lo h a p d r)) S := by
  cases e : ansL st gd L lo h a p d r with
  | none => exact out_place (led_none s hr rl e S)
  | some p' => exact out_some (led_some s hr rl e S)
theorem out_odd (s : Spot q st gd L lo h a p d) {x : D} (t : tame x = true) (f : isR x (q - 1) = false) (S : Sto) : d_law_outcome [wD q st gd, kD h a lo, posD p, .int d, x] S = .ok (.str "place") S := out_place (led_odd s t f S)
end
end Mp
end SMm2k03

section SMm3k03
set_option Elab.async false
set_option linter.all false
set_option maxHeartbeats 4000000
open PySem
namespace Mp
/-- a key and its value -/
def gg (F : List Int → Option Ps) (r : List Int) : D × D := (rowD r, resD (F r))
theorem any_gg (F : List Int → Option Ps) (r : List Int) : ∀ ks : List (List Int), ((ks.map (gg F)).any fun p => decide (p.1 = rowD r)) = decide (r ∈ ks)
  | [] => rfl
  | x :: ks => by
    rw [List.map_cons, List.any_cons, any_gg F r ks]
    by_cases e : r = x
    · subst e; simp [gg]
    · have : ¬ rowD x = rowD r := fun z => e (rowD_inj z).symm
      simp [gg, this, e]
theorem dput_gg (F : List Int → Option Ps) (r : List Int) (ks : List (List Int)) : dput (rowD r) (resD (F r)) (ks.map (gg F)) = (addR r ks).map (gg F) := by
  unfold dput addR
  rw [any_gg]
  by_cases c : r ∈ ks
  · rw [if_pos (by simpa using c), if_pos c]
    rw [List.map_map]
    apply List.map_congr_left
    intro x _
    show (if rowD x = rowD r then ((rowD x, resD (F r)) : D × D) else (rowD x, resD (F x))) = (rowD x, resD (F x))
    by_cases e : rowD x = rowD r
    · rw [if_pos e, rowD_inj e]
    · rw [if_neg e]
  · rw [if_neg (by simpa using c), if_neg c]
    simp [gg]
theorem plain_res (o : Option Ps) : plain (resD o) = true := by
  cases o with
  | none => rfl
  | some p => exact plain_pos p
theorem oSet_gg {S : Sto} {n : Nat} {F : List Int → Option Ps} {ks : List (List Int)} (r : List Int) (h : S[n]? = some (.map false (ks.map (gg F)))) (l : ks.length < 10000) : oSet S (.loc n) (rowD r) (resD (F r)) = some (S.set n (.map false ((addR r ks).map (gg F)))) := by
  simp only [oSet, h, keyOk_row, List.length_map, lt_size l, and_self, if_true, dput_gg, plain_noClo _ (plain_res (F r))]
theorem dget_gg {F : List Int → Option Ps} {r : List Int} : ∀ {ks : List (List Int)}, r ∈ ks → dget (rowD r) ((ks.map rowD).zip (ks.map fun r => resD (F r))) = some (resD (F r))
  | [], h => by cases h
  | x :: ks, h => by
    simp only [List.map_cons, List.zip_cons_cons, dget]
    by_cases e : rowD x = rowD r
    · rw [if_pos e, rowD_inj e]
    · rw [if_neg e]
      exact dget_gg ((List.mem_cons.mp h).resolve_left fun z => e (by rw [z]))
theorem zip_gg (F : List Int → Option Ps) (ks : List (List Int)) : (ks.map rowD).zip (ks.map fun r => resD (F r)) = ks.map (gg F) := by
  induction ks with
  | nil => rfl
  | cons x ks ih => simp [ih, gg]
theorem in_gg (S : Sto) (F : List Int → Option Ps) (ks : List (List Int)) (r : List Int) : cIn S (rowD r) (.dct true (ks.map rowD) (ks.map fun r => resD (F r))) = some (.bl (decide (r ∈ ks))) := by
  simp only [cIn, oIn, lstOf, mapOf, zip_gg, keyOk_row, if_true, any_gg, Option.map_some]
theorem ix_gg (S : Sto) {F : List Int → Option Ps} {ks : List (List Int)} {r : List Int} (h : r ∈ ks) : oIx S (.dct true (ks.map rowD) (ks.map fun r => resD (F r))) (rowD r) = some (resD (F r)) := by
  simp only [oIx, keyOk_row, if_true, dget_gg h]
theorem sort_gg (S : Sto) (F : List Int → Option Ps) {ks : List (List Int)} (hc : [] ∈ ks → ks.head? = some []) : fSortMap S [.dct true (ks.map rowD) (ks.map fun r => resD (F r))] = some ((sortR ks).map rowD) := by
  have e : ((ks.map (gg F)).map (·.1)) = ks.map rowD := by rw [List.map_map]; rfl
  have hc' : (ks.all fun r => !r.isEmpty) = true ∨ ks.head? = some [] := by
    by_cases c : [] ∈ ks
    · exact .inr (hc c)
    · refine .inl (List.all_eq_true.mpr fun r hr => ?_)
      cases r with
      | nil => exact absurd hr c
      | cons x r => rfl
  simp only [fSortMap, mapOf, zip_gg, Option.bind_some, e, rowsInts_rows]
  rw [if_pos hc']; rfl
theorem all_len {q : Int} (h1 : 1 ≤ q) (h3 : q ≤ 3) {n : Nat} (hn : n ≤ 4) : (allR q n).length ≤ 200 := by
  have e1 : q = 1 ∨ q = 2 ∨ q = 3 := by omega
  have e2 : n = 0 ∨ n = 1 ∨ n = 2 ∨ n = 3 ∨ n = 4 := by omega
  rcases e1 with rfl | rfl | rfl <;> rcases e2 with rfl | rfl | rfl | rfl | rfl <;> decide +kernel
section
variable {q : Int} {st : List (List Int)} {gd L lo : List Int} {h a d : Int} {p : Ps}
abbrev laBody : MSt := (sSeq (sAsg (.nm 8) (mCall d_law_led (aCons (mVar 0) (aCons (mVar 1) (aCons (mVar 2) (aCons (mVar 3) (aCons (mVar 4) (aCons (mVar 7) aNil))))))))
  (sIf (mtVal (mOp cNotN (mVar 8) (mC .non))) (sSet (mVar 6) (mVar 7) (mVar 8)) sPass))
theorem Spot.led (s : Spot q st gd L lo h a p d) {r : List Int} (hr : InR q r) (rl : r.length < 100) (S : Sto) : d_law_led [wD q st gd, kD h a lo, .lst (L.map .int), posD p, .int d, rowD r] S = .ok (resD (ansL st gd L lo h a p d r)) S := by
  obtain ⟨l1, l2⟩ := s.vv.lens s.k.h0 s.k.h3 s.k.a2
  exact led_ok s.w s.v l1 l2 s.hd hr rl S
theorem cNotN_res (S : Sto) (o : Option Ps) : cNotN S (resD o) .non = some (.bl (o.isSome)) := by
  cases o with
  | none => rfl
  | some p => cases p <;> rfl
theorem laBody_ok (s : Spot q st gd L lo h a p d) {r : List Int} (hr : InR q r) (rl : r.length < 100) {n : Nat} {S : Sto} {ks : List (List Int)} (hk : S[n]? = some (.map false (ks.map (gg (ansL st gd L lo h a p d))))) (kl : ks.length < 1000) (a5 a8 : Option D) :
    laBody [some (wD q st gd), some (kD h a lo), some (.lst (L.map .int)), some (posD p), some (.int d), a5, some (.loc n), some (rowD r), a8] S = .ok (.nx [some (wD q st gd), some (kD h a lo), some (.lst (L.map .int)), some (posD p), some (.int d), a5, some (.loc n), some (rowD r), some (resD (ansL st gd L lo h a p d r))]) (if (ansL st gd L lo h a p d r).isSome = true then S.set n (.map false ((addR r ks).map (gg (ansL st gd L lo h a p d)))) else S) := by
  have l := s.led hr rl S
  have o := oSet_gg r hk (by omega)
  by_cases c : (ansL st gd L lo h a p d r).isSome = true
  · rw [if_pos c]
    simp [sSeq_e, l, cNotN_res, c, o]
  · rw [if_neg c]
    simp only [Bool.not_eq_true] at c
    simp [sSeq_e, l, cNotN_res, c]
def Lks (F : List Int → Option Ps) (R : List (List Int)) (k : Nat) (ks : List (List Int)) : Prop := ks.Nodup ∧ ([] ∈ ks → ks.head? = some []) ∧ ks.length ≤ k ∧ ∀ r, r ∈ ks ↔ r ∈ R.take k ∧ (F r).isSome = true
theorem Lks.step {F : List Int → Option Ps} {R ks : List (List Int)} {k : Nat} (h : Lks F R k ks) (hk : k < R.length) (h0 : R.head? = some []) : Lks F R (k + 1) (if (F R[k]).isSome = true then addR R[k] ks else ks) := by
  obtain ⟨h1, h2, h3, h4⟩ := h
  by_cases c : (F R[k]).isSome = true
  · rw [if_pos c]
    have l := addR_len R[k] ks
    refine ⟨addR_nodup h1, ?_, by omega, fun r => ?_⟩
    · unfold addR
      by_cases e : R[k] ∈ ks
      · rw [if_pos e]; exact h2
      · rw [if_neg e]
        intro hm
        cases ks with
        | nil => simp at hm; simp [← hm]
        | cons x ks =>
          rcases List.mem_append.mp hm with hm | hm
          · simpa using h2 hm
          · simp only [List.mem_singleton] at hm
            refine absurd ((h4 R[k]).mpr ⟨?_, c⟩) e
            rw [← hm]
            have hx := ((h4 x).mp (by simp)).1
            cases R with
            | nil => simp at hx
            | cons y R =>
              simp at h0
              subst h0
              cases k with
              | zero => simp at hx
              | succ k => simp
    · rw [addR_mem, h4, mem_take_succ hk]
      constructor
      · rintro (⟨x, y⟩ | rfl)
        · exact ⟨.inl x, y⟩
        · exact ⟨.inr rfl, c⟩
      · rintro ⟨x | rfl, y⟩
        · exact .inl ⟨x, y⟩
        · exact .inr rfl
  · rw [if_neg c]
    refine ⟨h1, h2, by omega, fun r => ?_⟩
    rw [h4, mem_take_succ hk]
    constructor
    · rintro ⟨x, y⟩; exact ⟨.inl x, y⟩
    · rintro ⟨x | rfl, y⟩
      · exact ⟨x, y⟩
      · exact absurd y c
theorem frz_gg (S : Sto) (F : List Int → Option Ps) (ks : List (List Int)) : frz S.length (S ++ [.map false (ks.map (gg F))]) (.loc S.length) = some (.dct true (ks.map rowD) (ks.map fun r => resD (F r))) := by
  have e1 : ((ks.map (gg F)).map (·.1)) = ks.map rowD := by rw [List.map_map]; rfl
  have e2 : ((ks.map (gg F)).map (·.2)) = ks.map fun r => resD (F r) := by rw [List.map_map]; rfl
  have p1 : plainL (ks.map rowD) = true := by rw [plainL_all]; simp [rowD, plain, plainL_ints]
  have p2 : plainL (ks.map fun r => resD (F r)) = true := by rw [plainL_all]; simp [plain_res]
  simp only [frz, frzD, Nat.lt_irrefl, if_false, lookF, get_last, e1, e2, plainL_old _ _ p1, plainL_frz _ _ _ p2, if_true, Option.map_some]
theorem law_ans_ok (s : Spot q st gd L lo h a p d) (q3 : q ≤ 3) {n : Nat} (hn : n ≤ 4) (S : Sto) : ∃ ks : List (List Int), ks.Nodup ∧ ([] ∈ ks → ks.head? = some []) ∧ (∀ r, r ∈ ks ↔ r ∈ allR q n ∧ (ansL st gd L lo h a p d r).isSome = true) ∧
    d_law_answers [wD q st gd, kD h a lo, .lst (L.map .int), posD p, .int d, .lst ((allR q n).map rowD)] S = .ok (.dct true (ks.map rowD) (ks.map fun r => resD (ansL st gd L lo h a p d r))) S := by
  have len := all_len s.w.q1 q3 hn
  obtain ⟨t, ht⟩ := all_head q n
  have h0 : (allR q n).head? = some [] := by rw [ht]; rfl
  have hin : ∀ r ∈ allR q n, InR q r ∧ r.length < 100 := fun r hr => by
    obtain ⟨h1, h2⟩ := (mem_all s.w.q1 n r).mp hr
    exact ⟨h1, by omega⟩
  have key : ∃ x, d_law_answers [wD q st gd, kD h a lo, .lst (L.map .int), posD p, .int d, .lst ((allR q n).map rowD)] S = .ok x S ∧ ∃ ks : List (List Int), Lks (ansL st gd L lo h a p d) (allR q n) (allR q n).length ks ∧ x = .dct true (ks.map rowD) (ks.map fun r => resD (ansL st gd L lo h a p d r)) := by
    refine defP_some rfl ?_
    generalize allR q n = R at *
    refine tot_gen fun Q hQ => ?_
    simp [mMap0, -sFor_e, -List.map_map]
    rw [sFor_e]
    simp [-List.map_map]
    refine tot_mono (forGo_tot (fun k e S' => ∃ ks x7 x8, S' = S ++ [.map false (ks.map (gg (ansL st gd L lo h a p d)))] ∧ Lks (ansL st gd L lo h a p d) R k ks ∧ e = [some (wD q st gd), some (kD h a lo), some (.lst (L.map .int)), some (posD p), some (.int d), some (.lst (R.map rowD)), some (.loc S.length), x7, x8]) _ 0 _ _ ⟨[], none, none, rfl, ⟨by simp, by simp, by simp, by simp⟩, rfl⟩ (fun _ _ _ _ => rfl) ?_) ?_
    · rintro i hi e S' ⟨ks, x7, x8, rfl, hk, rfl⟩
      rw [List.length_map] at hi
      refine ⟨_, bindP_nm .., ?_⟩
      rw [List.getElem_map]
      obtain ⟨z1, z2⟩ := hin _ (List.getElem_mem hi)
      have hb := laBody_ok s z1 z2 (S := S ++ [.map false (ks.map (gg (ansL st gd L lo h a p d)))]) (n := S.length) (ks := ks) (get_last ..) (by have := hk.2.2.1; omega) (some (.lst (R.map rowD))) x8
      simp only [List.set]
      show Tot (laBody _ _) _
      rw [hb, set_last]
      rw [Nat.zero_add] at hk
      have hs := Lks.step hk hi h0
      refine .mk ⟨_, rfl, _, _, _, ?_, by rw [Nat.zero_add]; exact hs, rfl⟩
      split <;> rfl
    · rintro f S' ⟨e2, rfl, ks, x7, x8, rfl, hk, rfl⟩
      rw [List.length_map, Nat.zero_add] at hk
      simp
      exact hQ _ _ ⟨_, by simp, frz_gg .., ks, hk, rfl⟩
  obtain ⟨x, h1, ks, ⟨k1, k2, k3, k4⟩, rfl⟩ := key
  exact ⟨ks, k1, k2, fun r => by rw [k4, List.take_length], h1⟩
end
end Mp
end SMm3k03

section SMm4k03
set_option Elab.async false
set_option linter.all false
set_option maxHeartbeats 4000000
open PySem
namespace Mp
theorem compGo_sub {r : Src} {e : Ev} {p : Pat} {f : MEx} {t : MTs} (J : Nat → Sto → Prop) :
    ∀ (xs : List D) (k : Nat) (S : Sto), J k S → (∀ k S, J k S → chk r S = true) → (∀ i (hi : i < xs.length) S, J (k + i) S → ∃ e1, bindP p xs[i] e = some e1 ∧ Tot (t e1 S) fun b S => J (k + i + 1) S ∧ f e1 S = .ok xs[i] S) →
      Tot (compGo r e p t f xs S) fun ys S => J (k + xs.length) S ∧ ys.Sublist xs
  | [], k, S, h, hc, _ => by simp [compGo, hc k S h, h]
  | x :: xs, k, S, h, hc, hx => by
    obtain ⟨e1, h1, h2⟩ := hx 0 (by simp) S h
    simp only [List.getElem_cons_zero] at h1 h2
    simp only [compGo, hc k S h, if_true, h1]
    have hx' : ∀ i (hi : i < xs.length) S, J (k + 1 + i) S → ∃ e1, bindP p xs[i] e = some e1 ∧ Tot (t e1 S) fun b S => J (k + 1 + i + 1) S ∧ f e1 S = .ok xs[i] S := by
      intro i hi S h4
      have := hx (i + 1) (by simpa using hi) S (by rwa [Nat.add_right_comm, Nat.add_assoc] at h4)
      simpa [Nat.add_assoc, Nat.add_comm 1, Nat.add_left_comm] using this
    refine tot_bind (tot_mono h2 ?_)
    rintro b S ⟨h3, h4⟩
    cases b with
    | true =>
      simp only [if_true, h4, bind_ok]
      refine tot_bind (tot_mono (compGo_sub J xs (k + 1) S h3 hc hx') ?_)
      intro ys S h5
      simp only [tot_ok, List.length_cons]
      exact ⟨by have := h5.1; rwa [Nat.add_right_comm] at this, h5.2.cons_cons x⟩
    | false =>
      simp only [Bool.false_eq_true, if_false]
      refine tot_mono (compGo_sub J xs (k + 1) S h3 hc hx') ?_
      intro ys S h5
      simp only [List.length_cons]
      exact ⟨by have := h5.1; rwa [Nat.add_right_comm] at this, h5.2.cons x⟩
theorem sub_rng {n : Nat} {ys : List D} (h : ys.Sublist (rng 0 n)) : ∃ lo : List Int, ys = lo.map .int ∧ lo.Pairwise (· < ·) ∧ (∀ x ∈ lo, 0 ≤ x ∧ x < n) ∧ lo.length ≤ n := by
  have e : rng 0 n = ((List.range n).map fun i : Nat => (i : Int)).map .int := by simp [rng]
  rw [e] at h
  obtain ⟨lo, h1, rfl⟩ := List.sublist_map_iff.mp h
  refine ⟨lo, rfl, ?_, ?_, ?_⟩
  · refine List.Pairwise.sublist h1 ?_
    rw [List.pairwise_map]
    exact List.pairwise_lt_range.imp fun h => by omega
  · intro x hx
    have := h1.subset hx
    simp at this
    omega
  · have := h1.length_le
    simpa using this
theorem law_sort_ok {q : Int} (h1 : 1 ≤ q) (h3 : q ≤ 3) {m K : Nat} {S : Sto} (hK : K < 900000) (h : Inv m [] K S) :
    Tot (d_law_sort [.loc m, .int q, .int 2, .int 1] S) fun d S' => (∃ hh aa lo, d = kD hh (aa : Nat) lo ∧ KOk q hh (aa : Nat) lo ∧ hh ≤ 2 ∧ aa ≤ 1) ∧ Inv m [] (K + 10) S' := by
  refine tot_def rfl ?_
  have ro : rngOk q := rngOk_of (by omega) (by omega)
  simp only [tot_seq_iff, sAsg_e, mB_e, aCons_e, mFrz_e, lComp_e, wRng1_e, mVar_e, aNil_e]
  simp only [List.map_cons, List.map_nil, List.cons_append, List.getElem?_cons_zero, List.getElem?_cons_succ, bind_ok, ro, if_true, rng_len]
  rw [if_pos (lt_size (by omega))]
  refine tot_bind (tot_bind (tot_bind (tot_bind (tot_calm (tot_mono (compGo_sub (r := ⟨rng 0 q.toNat, none⟩) (fun j S => Inv m [] (K + j) S) (rng 0 q.toNat) 0 S h (fun _ _ _ => rfl) ?_) ?_)))))
  · intro j hj S hS
    rw [rng_len] at hj
    refine ⟨_, bindP_nm .., ?_⟩
    obtain ⟨d, S4, k1, ⟨r, rfl, r0, r1⟩, k2⟩ := tot_ex (next_ok 4 (by omega) (by omega) (by omega) hS)
    simp [k1, wipeE]
    exact k2.up (by omega)
  · rintro ys S4 ⟨g1, g2⟩
    obtain ⟨lo, rfl, l1, l2, l3⟩ := sub_rng g2
    rw [rng_len] at g1
    obtain ⟨d5, S5, k1, ⟨h5, rfl, r0, r1⟩, k2⟩ := tot_ex (next_ok 3 (by omega) (by omega) (by omega) g1)
    obtain ⟨d6, S6, k3, ⟨h6, rfl, t0, t1⟩, k4⟩ := tot_ex (next_ok 2 (by omega) (by omega) (by omega) k2)
    simp [k1, k3]
    refine ⟨⟨h5, h6.toNat, lo, ?_, ⟨r0, by omega, by omega, by omega, fun x hx => by have := l2 x hx; omega, l1, by omega⟩, by omega, by omega⟩, k4.up (by omega)⟩
    simp [kD, rowD]
    omega
end Mp
end SMm4k03

section SMm5k03
set_option Elab.async false
set_option linter.all false
set_option maxHeartbeats 4000000
open PySem
namespace Mp
section
variable {q : Int} {st : List (List Int)} {gd L lo : List Int} {h a : Int}
/-- a candidate -/
def Cand (q : Int) (st : List (List Int)) (p : Ps) : Prop := PIn q st p ∧ p.held.length < 100 ∧ p.early.length < 100
theorem spot_b (w : WF q st gd) {p : Ps} (c : Cand q st p) (S : Sto) : ∃ b, d_law_is_spot [wD q st gd, kD h a lo, .lst (L.map .int), posD p] S = .ok (.bl b) S ∧ (b = true ↔ Valid st gd L lo q h a p) := by
  obtain ⟨v, c1, c2⟩ := c
  have s0 := v.s0
  have s1 := v.s1
  cases p with
  | even s => simp only [Ps.base] at s0 s1; refine ⟨_, pos2_l _ _ S, ?_⟩; simp [two, s0, show s ≤ (st.length : Int) - 1 by omega, Valid]
  | off s => simp only [Ps.base] at s0 s1; refine ⟨_, pos2_l _ _ S, ?_⟩; simp [two, s0, show s ≤ (st.length : Int) - 1 by omega, Valid]
  | behind s r =>
    obtain ⟨b, h1, h2⟩ := pos3b_l (L := L) (h := h) (a := a) (lo := lo) w s v.hi (by simp only [Ps.held] at c1 ⊢; omega) S
    exact ⟨b, h1, by rw [h2]; exact ⟨fun z => z.2, fun z => ⟨⟨s0, s1⟩, z⟩⟩⟩
  | ahead s r =>
    obtain ⟨b, h1, h2⟩ := pos3a_l (L := L) (h := h) (a := a) (lo := lo) w s v.ei (by simp only [Ps.early] at c2 ⊢; omega) S
    exact ⟨b, h1, by rw [h2]; exact ⟨fun z => z.2, fun z => ⟨⟨s0, s1⟩, z⟩⟩⟩
theorem oAdd_ll (S : Sto) (a b : List D) (h : a.length + b.length < 10000) : oAdd S (.lst a) (.lst b) = some (.lst (a ++ b)) := by
  simp only [oAdd, lstOf_l]; rw [if_pos (Nat.le_of_lt (lt_size h))]
theorem plain_poss (C : List Ps) : plain (.lst (C.map posD)) = true := by
  simp only [plain]; rw [plainL_all]; simp [plain_pos]
def more (R : List (List Int)) (s : Int) : List Ps := [.even s, .off s] ++ R.map (.behind s) ++ R.map (.ahead s)
open Classical in
theorem law_spots_ok (w : WF q st gd) (q3 : q ≤ 3) {aa : Nat} (k : KOk q h aa lo) (h2 : h ≤ 2) (a1 : aa ≤ 1) (S : Sto) : ∃ P : List Ps, P ≠ [] ∧ P.length < 10000 ∧ (∀ p ∈ P, PIn q st p ∧ Valid st gd L lo q h aa p) ∧ d_law_spots [wD q st gd, kD h aa lo, .lst (L.map .int)] S = .ok (.lst (P.map posD)) S := by
  have s1 := w.s1
  have s6 := w.s6
  have h0 := k.h0
  obtain ⟨n, mx, hn⟩ : ∃ n : Nat, (if h < (aa : Int) then (aa : Int) else h) = (n : Int) ∧ n ≤ 2 := by
    refine ⟨(if h < (aa : Int) then (aa : Int) else h).toNat, ?_, ?_⟩ <;> split <;> omega
  have rw1 := law_rows_ok w.q1 q3 (n := n) (by omega) S
  have rl := all_len w.q1 q3 (n := n) (by omega)
  have rin : ∀ r ∈ allR q n, InR q r ∧ r.length < 100 := fun r hr => by
    obtain ⟨z1, z2⟩ := (mem_all w.q1 n r).mp hr
    exact ⟨z1, by omega⟩
  generalize allR q n = R at *
  have ro : rngOk (st.length : Int) := rngOk_of (by omega) (by omega)
  have key : ∃ x, d_law_spots [wD q st gd, kD h aa lo, .lst (L.map .int)] S = .ok x S ∧ ∃ P : List Ps, P ≠ [] ∧ P.length < 10000 ∧ (∀ p ∈ P, PIn q st p ∧ Valid st gd L lo q h aa p) ∧ x = .lst (P.map posD) := by
    refine defP_some rfl ?_
    refine tot_gen fun Q hQ => ?_
    simp only [tot_seq_iff, sAsg_e, mTup_e, aCons_e]
    rw [call_ok (xs := [.int q, .int (n : Int)]) (by simp [wD_0, kD_0, kD_1, mx]) rw1]
    simp only [bind_ok, mFrz_e, lDisp_e, aNil_e, calm]
    simp [sizeLine, -sFor_e, -List.map_map]
    rw [sFor_e]
    simp [wD_0, wD_1, bLen_st, ro, -List.map_map]
    refine tot_mono (forGo_tot (fun k e S' => S' = S ∧ ∃ (C : List Ps) (x : Option D), e = [some (wD q st gd), some (kD h aa lo), some (.lst (L.map .int)), some (.lst (R.map rowD)), some (.lst (C.map posD)), x, none, none] ∧ C.length ≤ k * 402 ∧ (∀ p ∈ C, Cand q st p) ∧ (1 ≤ k → Ps.even 0 ∈ C)) _ 0 _ _ ⟨rfl, [], none, rfl, by simp, by simp, by simp⟩ (fun _ _ _ _ => rfl) ?_) ?_
    · rintro i hi e S' ⟨rfl, C, x, rfl, cl, cc, c0⟩
      rw [rng_len] at hi
      refine ⟨_, bindP_nm .., ?_⟩
      rw [rng_get, Nat.zero_add] at *
      have hi : i < st.length := by simpa using hi
      have cl' : C.length ≤ 2412 := by have : i * 402 ≤ 5 * 402 := Nat.mul_le_mul_right _ (by omega); omega
      have g1 : compGo ⟨R.map rowD, none⟩ [some (wD q st gd), some (kD h aa lo), some (.lst (L.map .int)), some (.lst (R.map rowD)), some (.lst ((C ++ [Ps.even i, Ps.off i]).map posD)), some (.int i), none, none] (.nm 7) tYes (mTup (aCons (mC (.str "behind")) (aCons (mVar 5) (aCons (mVar 7) aNil)))) (R.map rowD) S' = .ok (R.map fun r => posD (.behind i r)) S' := by
        exact compGo_map rowD _ (fun r => [some (wD q st gd), some (kD h aa lo), some (.lst (L.map .int)), some (.lst (R.map rowD)), some (.lst ((C ++ [Ps.even i, Ps.off i]).map posD)), some (.int i), none, some (rowD r)]) rfl R (fun r _ => ⟨by simp, by simp [posD, sizeLine]⟩)
      have g2 : compGo ⟨R.map rowD, none⟩ [some (wD q st gd), some (kD h aa lo), some (.lst (L.map .int)), some (.lst (R.map rowD)), some (.lst ((C ++ [Ps.even i, Ps.off i]).map posD)), some (.int i), none, none] (.nm 7) tYes (mTup (aCons (mC (.str "ahead")) (aCons (mVar 5) (aCons (mVar 7) aNil)))) (R.map rowD) S' = .ok (R.map fun r => posD (.ahead i r)) S' := by
        exact compGo_map rowD _ (fun r => [some (wD q st gd), some (kD h aa lo), some (.lst (L.map .int)), some (.lst (R.map rowD)), some (.lst ((C ++ [Ps.even i, Ps.off i]).map posD)), some (.int i), none, some (rowD r)]) rfl R (fun r _ => ⟨by simp, by simp [posD, sizeLine]⟩)
      have o1 : oAdd S' (.lst (C.map posD)) (.lst [.tup [.str "even", .int i], .tup [.str "off", .int i]]) = some (.lst ((C ++ [Ps.even i, Ps.off i]).map posD)) := by
        rw [oAdd_ll _ _ _ (by simp; omega)]; simp [posD]
      have o2 : oAdd S' (.lst ((C ++ [Ps.even i, Ps.off i]).map posD)) (.lst (R.map fun r => posD (.behind i r))) = some (.lst ((C ++ [Ps.even i, Ps.off i] ++ R.map (Ps.behind i)).map posD)) := by
        rw [oAdd_ll _ _ _ (by simp; omega)]; simp
      have o3 : oAdd S' (.lst ((C ++ [Ps.even i, Ps.off i] ++ R.map (Ps.behind i)).map posD)) (.lst (R.map fun r => posD (.ahead i r))) = some (.lst ((C ++ [Ps.even i, Ps.off i] ++ R.map (Ps.behind i) ++ R.map (Ps.ahead i)).map posD)) := by
        rw [oAdd_ll _ _ _ (by simp; omega)]; simp
      refine tot_gen fun Q hQ => ?_
      simp [o1, sizeLine, -List.map_append, -List.map_map]
      simp [g1, g2, o2, o3, show R.length < 16777216 by omega, -List.map_append, -List.map_map, -List.append_assoc]
      refine hQ _ _ ⟨_, rfl, rfl, _, _, rfl, by simp; omega, ?_, ?_⟩
      · intro p hp
        simp only [List.mem_append, List.mem_cons, List.not_mem_nil, or_false, List.mem_map] at hp
        have n1 : InR q ([] : List Int) := fun _ h => by cases h
        have i0 : (0 : Int) ≤ i := by omega
        have i1 : (i : Int) < st.length := by omega
        rcases hp with ((hp | rfl | rfl) | ⟨r, hr, rfl⟩) | ⟨r, hr, rfl⟩
        · exact cc p hp
        · exact ⟨⟨i0, i1, n1, n1⟩, by simp [Ps.held], by simp [Ps.early]⟩
        · exact ⟨⟨i0, i1, n1, n1⟩, by simp [Ps.held], by simp [Ps.early]⟩
        · exact ⟨⟨i0, i1, (rin r hr).1, n1⟩, (rin r hr).2, by simp [Ps.early]⟩
        · exact ⟨⟨i0, i1, n1, (rin r hr).1⟩, by simp [Ps.held], (rin r hr).2⟩
      · intro _
        by_cases z : i = 0
        · subst z; simp
        · have := c0 (by omega)
          simp [this]
    · rintro f S' ⟨e2, rfl, rfl, C, x, rfl, cl, cc, c0⟩
      rw [rng_len, Nat.zero_add] at cl c0
      have cl' : C.length ≤ 2412 := by have : st.length * 402 ≤ 6 * 402 := Nat.mul_le_mul_right _ (by omega); omega
      have g := compGo_pure (r := ⟨C.map posD, none⟩) (e := [some (wD q st gd), some (kD h aa lo), some (.lst (L.map .int)), some (.lst (R.map rowD)), some (.lst (C.map posD)), x, none, none]) (p := .nm 6) (t := mtTruth (mCall d_law_is_spot (aCons (mVar 0) (aCons (mVar 1) (aCons (mVar 2) (aCons (mVar 6) aNil)))))) (f := mVar 6) (S := S') posD (fun p => decide (Valid st gd L lo q h aa p)) posD (fun p => [some (wD q st gd), some (kD h aa lo), some (.lst (L.map .int)), some (.lst (R.map rowD)), some (.lst (C.map posD)), x, some (posD p), none]) rfl C ?_
      · simp [g, show C.length < 16777216 by omega, sizeLine]
        refine hQ _ _ ⟨_, by simp, frz_plain (plain_poss _), C.filter _, ?_, ?_, ?_, rfl⟩
        · intro hh
          have : Ps.even 0 ∈ C.filter fun p => decide (Valid st gd L lo q h aa p) := by
            simp only [List.mem_filter, decide_eq_true_eq]
            exact ⟨c0 (by omega), w.g0⟩
          rw [hh] at this
          cases this
        · have := List.length_filter_le (fun p => decide (Valid st gd L lo q h aa p)) C
          omega
        · intro p hp
          simp only [List.mem_filter, decide_eq_true_eq] at hp
          exact ⟨(cc p hp.1).1, hp.2⟩
      · intro p hp
        obtain ⟨b, b1, b2⟩ := spot_b (L := L) (h := h) (a := aa) (lo := lo) w (cc p hp) S'
        have : b = decide (Valid st gd L lo q h aa p) := by
          cases b
          · exact (decide_eq_false fun z => absurd (b2.mpr z) (by simp)).symm
          · exact (decide_eq_true (b2.mp rfl)).symm
        rw [← this]
        simp [b1]
  obtain ⟨x, h1, P, p1, p2, p3, rfl⟩ := key
  exact ⟨P, p1, p2, p3, h1⟩
end
end Mp
end SMm5k03

section SMm6k03
set_option Elab.async false
set_option linter.all false
set_option maxHeartbeats 4000000
open PySem
namespace Mp
theorem repr_of {S : Sto} {d : D} (h1 : rs S d = d) (h2 : shR d = true) : bRepr S [d] = some (.str (toP d).shown) := by
  simp only [bRepr, h1, h2, if_true]
theorem rs_pos (S : Sto) (p : Ps) : rs S (posD p) = posD p := by cases p <;> rfl
theorem so_even : PyData.strOk ("even" : Str) = true := by decide +kernel
theorem so_off : PyData.strOk ("off" : Str) = true := by decide +kernel
theorem so_behind : PyData.strOk ("behind" : Str) = true := by decide +kernel
theorem so_ahead : PyData.strOk ("ahead" : Str) = true := by decide +kernel
theorem so_place : PyData.strOk ("place" : Str) = true := by decide +kernel
theorem sz_even : ("even" : Str).cps.size ≤ 10 := by decide +kernel
theorem sz_off : ("off" : Str).cps.size ≤ 10 := by decide +kernel
theorem sz_behind : ("behind" : Str).cps.size ≤ 10 := by decide +kernel
theorem sz_ahead : ("ahead" : Str).cps.size ≤ 10 := by decide +kernel
theorem sz_place : ("place" : Str).cps.size ≤ 10 := by decide +kernel
/-- a place that can be shown -/
structure Shw (p : Ps) : Prop where
  b0 : 0 ≤ p.base
  b1 : p.base < 1000
  hi : ∀ x ∈ p.held, 0 ≤ x ∧ x < 1000
  hl : p.held.length ≤ 100
  ei : ∀ x ∈ p.early, 0 ≤ x ∧ x < 1000
  el : p.early.length ≤ 100
theorem shR_pos {p : Ps} (h : Shw p) : shR (posD p) = true := by
  obtain ⟨b0, b1, hi, hl, ei, el⟩ := h
  cases p with
  | even s =>
    simp only [Ps.base] at b0 b1
    have := sz_even
    simp [shR, posD, deepN, fin, finL, intsOk, intsOkL, wt, wtL, so_even]; omega
  | off s =>
    simp only [Ps.base] at b0 b1
    have := sz_off
    simp [shR, posD, deepN, fin, finL, intsOk, intsOkL, wt, wtL, so_off]; omega
  | behind s r =>
    simp only [Ps.base, Ps.held] at b0 b1 hi hl
    have := sz_behind
    simp [shR, posD, rowD, deepN, fin, finL, fin_ints, intsOk, intsOkL, intsOk_ints hi, wt, wtL, wt_ints, so_behind]; omega
  | ahead s r =>
    simp only [Ps.base, Ps.early] at b0 b1 ei el
    have := sz_ahead
    simp [shR, posD, rowD, deepN, fin, finL, fin_ints, intsOk, intsOkL, intsOk_ints ei, wt, wtL, wt_ints, so_ahead]; omega
theorem repr_pos {p : Ps} (S : Sto) (h : Shw p) : bRepr S [posD p] = some (.str (toP (posD p)).shown) := repr_of (rs_pos S p) (shR_pos h)
theorem repr_place (S : Sto) : bRepr S [.str "place"] = some (.str (toP (.str "place")).shown) := by
  refine repr_of rfl ?_
  decide +kernel
theorem repr_due {o : Option Ps} (S : Sto) (h : ∀ p, o = some p → Shw p) : bRepr S [dueD o] = some (.str (toP (dueD o)).shown) := by
  cases o with
  | none => exact repr_place S
  | some p => exact repr_pos S (h p rfl)
theorem intsOk_rows : ∀ {A : List (List Int)}, (∀ r ∈ A, ∀ x ∈ r, 0 ≤ x ∧ x < 1000) → intsOkL (A.map rowD) = true
  | [], _ => by simp [intsOkL]
  | r :: A, h => by
    simp [intsOkL, rowD, intsOk, intsOk_ints (h r (by simp)), intsOk_rows (A := A) fun r hr => h r (by simp [hr])]
theorem wt_rows : ∀ {A : List (List Int)}, (∀ r ∈ A, r.length ≤ 10) → wtL (A.map rowD) ≤ 421 * A.length
  | [], _ => by simp [wtL]
  | r :: A, h => by
    have h1 := h r (by simp)
    have h2 := wt_rows (A := A) fun r hr => h r (by simp [hr])
    simp only [List.map_cons, wtL, rowD, wt, wt_ints, List.length_cons]
    omega
theorem repr_rows {A : List (List Int)} (S : Sto) (h1 : ∀ r ∈ A, ∀ x ∈ r, 0 ≤ x ∧ x < 1000) (h2 : ∀ r ∈ A, r.length ≤ 10) (h3 : A.length ≤ 100) : bRepr S [.tup (A.map rowD)] = some (.str (toP (.tup (A.map rowD))).shown) := by
  refine repr_of rfl ?_
  have := wt_rows h2
  have f : fin deepN (.tup (A.map rowD)) = true := by simp only [deepN, fin]; exact fin_rows 58 A
  simp only [shR, f, intsOk, intsOk_rows h1, wt, Bool.true_and, decide_eq_true_eq]
  exact decide_eq_true (by omega)
section
variable {q : Int} {st : List (List Int)} {gd L lo : List Int} {h a d : Int} {p : Ps}
theorem ansL_shw (s : Spot q st gd L lo h a p d) {r : List Int} (hr : InR q r) (rl : r.length ≤ 10) {p' : Ps} (e : ansL st gd L lo h a p d r = some p') : Shw p' := by
  obtain ⟨l1, l2⟩ : (p.held.length : Int) ≤ h ∧ (p.early.length : Int) ≤ 2 := by
    refine ⟨s.vv.heldLe s.k.h0, ?_⟩
    have vv := s.vv
    have := s.k.a2
    cases p with
    | ahead z w => have := vv.2.2.1; simp only [Ps.early]; omega
    | _ => simp [Ps.early]
  have h3 := s.k.h3
  have w := s.w
  have q4 := w.q4
  have s6 := w.s6
  have f1 := far_in w _ _ s.v.s0 s.v.s1 (s.v.ei.app hr)
  have hd1 : InR q [d] := fun x hx => by simp at hx; rw [hx]; exact s.hd
  have f2 := far_in w _ _ s.v.s0 s.v.s1 (s.v.hi.app hd1)
  have i1 := s.v.ei.app hr
  have i2 := s.v.hi.app hd1
  have nn : ∀ x ∈ ([] : List Int), 0 ≤ x ∧ x < 1000 := fun _ h => by cases h
  have d1 : ∀ n : Nat, ∀ x ∈ (p.held ++ [d]).drop n, 0 ≤ x ∧ x < 1000 := fun n x hx => by have := i2.drop n x hx; omega
  have d2 : ∀ n : Nat, ∀ x ∈ (p.early ++ r).drop n, 0 ≤ x ∧ x < 1000 := fun n x hx => by have := i1.drop n x hx; omega
  have g1 : 0 ≤ far st p.base (p.early ++ r) ∧ far st p.base (p.early ++ r) < 1000 := by omega
  have g2 : 0 ≤ far st p.base (p.held ++ [d]) ∧ far st p.base (p.held ++ [d]) < 1000 := by omega
  have k1 : ∀ n : Nat, ((p.held ++ [d]).drop n).length ≤ 100 := fun n => by simp; omega
  have k2 : ∀ n : Nat, ((p.early ++ r).drop n).length ≤ 100 := fun n => by simp; omega
  unfold ansL at e
  repeat' split at e
  all_goals first
    | (cases e; done)
    | (cases e; exact ⟨g1.1, g1.2, nn, Nat.zero_le _, nn, Nat.zero_le _⟩)
    | (cases e; exact ⟨g2.1, g2.2, nn, Nat.zero_le _, nn, Nat.zero_le _⟩)
    | (cases e; exact ⟨g1.1, g1.2, d1 _, k1 _, nn, Nat.zero_le _⟩)
    | (cases e; exact ⟨g2.1, g2.2, nn, Nat.zero_le _, d2 _, k2 _⟩)
end
theorem ix_rows {R : List (List Int)} {i : Int} (S : Sto) (h0 : 0 ≤ i) (h : i < R.length) : oIx S (.lst (R.map rowD)) (.int i) = some (rowD (R[i.toNat]?.getD [])) := by
  have hl : i.toNat < R.length := by omega
  rw [oIx_l, List.length_map, ixN_int h0 h]
  simp [hl]
theorem ix_poss {R : List Ps} {i : Int} (S : Sto) (h0 : 0 ≤ i) (h : i < R.length) : ∃ p ∈ R, oIx S (.lst (R.map posD)) (.int i) = some (posD p) := by
  have hl : i.toNat < R.length := by omega
  refine ⟨R[i.toNat], List.getElem_mem hl, ?_⟩
  rw [oIx_l, List.length_map, ixN_int h0 h]
  simp [hl]
theorem mul_row (S : Sto) (x : Int) (k : Nat) (h : 2 ≤ k) (h' : k ≤ 1000) : oMulS S (.tup [.int x]) (.int k) = some (rowD (List.replicate k x)) := by
  have c : [D.int x] ≠ [] ∧ 1 ≤ (k : Int) ∧ (k : Int) ≤ 1000 ∧ [D.int x].length ≤ 1000 := ⟨by simp, by omega, by omega, by simp⟩
  simp only [oMulS, if_pos c, rowD]
  rw [Int.toNat_natCast, List.flatten_replicate_singleton, List.map_replicate]
end Mp
end SMm6k03

section SMm7k03
set_option Elab.async false
set_option linter.all false
set_option maxHeartbeats 4000000
open PySem
namespace Mp
theorem ab_tuple : isAB "tuple" "tuple" = true := by decide
section
variable {q : Int} {st : List (List Int)} {gd L lo : List Int} {h a d : Int} {p : Ps}
abbrev srB1 : MSt := (sSeq (sAsg (.nm 9) (mIx (mVar 5) (mCall d_law_next (aCons (mVar 0) (aCons (mB bLen (aCons (mVar 5) aNil)) aNil)))))
  (sSeq (sAsg (.nm 10) (mIf (mtVal (mOp cIn (mVar 9) (mVar 7))) (mIx (mVar 7) (mVar 9)) (mC (.str "place"))))
  (sIf (mtVal (mOp cNe (mB bRepr (aCons (mCall d_law_outcome (aCons (mVar 1) (aCons (mVar 2) (aCons (mVar 4) (aCons (mVar 6) (aCons (mVar 9) aNil)))))) aNil)) (mB bRepr (aCons (mVar 10) aNil)))) (sRet (mC (.bl false))) sPass)))
abbrev srB2 : MSt := sIf (mtVal (mOp cNe (mCall d_law_outcome (aCons (mVar 1) (aCons (mVar 2) (aCons (mVar 4) (aCons (mVar 6) (aCons (mVar 11) aNil)))))) (mC (.str "place")))) (sRet (mC (.bl false))) sPass
abbrev srE (m : Nat) (q : Int) (st : List (List Int)) (gd L lo : List Int) (h a : Int) (p : Ps) (R : List (List Int)) (d : Int) (some_ : D) (c8 c9 c10 c11 : Option D) : Ev := [some (.loc m), some (wD q st gd), some (kD h a lo), some (.lst (L.map .int)), some (posD p), some (.lst (R.map rowD)), some (.int d), some some_, c8, c9, c10, c11]
abbrev ansM (F : List Int → Option Ps) (ks : List (List Int)) : D := .dct true (ks.map rowD) (ks.map fun r => resD (F r))
theorem srB1_ok (s : Spot q st gd L lo h a p d) {m K : Nat} {S : Sto} {R ks : List (List Int)} (hK : K < 900000) (hI : Inv m [] K S) (ne : R ≠ []) (Rl : R.length ≤ 200) (hin : ∀ r ∈ R, InR q r ∧ r.length ≤ 10)
    (hk : ∀ r, r ∈ ks ↔ r ∈ R ∧ (ansL st gd L lo h a p d r).isSome = true) (c8 c9 c10 c11 : Option D) :
    Tot (srB1 (srE m q st gd L lo h a p R d (ansM (ansL st gd L lo h a p d) ks) c8 c9 c10 c11) S) fun f S' => ∃ c9 c10, f = .nx (srE m q st gd L lo h a p R d (ansM (ansL st gd L lo h a p d) ks) c8 c9 c10 c11) ∧ Inv m [] (K + 1) S' := by
  have Rp : 0 < R.length := List.length_pos_iff.mpr ne
  obtain ⟨x, S1, h1, ⟨i, rfl, i0, i1⟩, h2⟩ := tot_ex (next_ok (R.length : Int) (by omega) (by omega) (by omega) hI)
  have ix := ix_rows (R := R) S1 i0 (by omega)
  generalize hr : R[i.toNat]?.getD [] = r at ix
  have rm : r ∈ R := by
    have : i.toNat < R.length := by omega
    rw [← hr, List.getElem?_eq_getElem this]; exact List.getElem_mem this
  obtain ⟨r1, r2⟩ := hin r rm
  have out := out_row s r1 (by omega) S1
  have ci := in_gg S1 (ansL st gd L lo h a p d) ks r
  have rp := repr_due (o := ansL st gd L lo h a p d r) S1 (fun p' e => ansL_shw s r1 r2 e)
  refine tot_gen fun Q hQ => ?_
  by_cases c : r ∈ ks
  · have gi := ix_gg S1 (F := ansL st gd L lo h a p d) c
    obtain ⟨p', e⟩ := Option.isSome_iff_exists.mp ((hk r).mp c).2
    rw [e] at rp out gi
    rw [show resD (some p') = posD p' from rfl] at gi
    simp only [dueD] at rp out
    simp [h1, ix, ci, c, gi, out, rp]
    exact hQ _ _ ⟨_, _, rfl, h2⟩
  · have e : ansL st gd L lo h a p d r = none := by
      cases hh : ansL st gd L lo h a p d r with
      | none => rfl
      | some p' => exact absurd ((hk r).mpr ⟨rm, by rw [hh]; rfl⟩) c
    rw [e] at rp out
    simp only [dueD] at rp out
    simp [h1, ix, ci, c, out, rp]
    exact hQ _ _ ⟨_, _, rfl, h2⟩
theorem odd_place (s : Spot q st gd L lo h a p d) (x : D) (hx : x ∈ [D.non, .lst [.int 0], .tup [.int q], .tup [.bl true], .int 0, rowD (List.replicate 9 d)]) (ha : h + a + 1 < 9) (S : Sto) : d_law_outcome [wD q st gd, kD h a lo, posD p, .int d, x] S = .ok (.str "place") S := by
  simp only [List.mem_cons, List.not_mem_nil, or_false] at hx
  rcases hx with rfl | rfl | rfl | rfl | rfl | rfl
  · exact out_odd s (by simp [tame]) (by simp [isR]) S
  · exact out_odd s (by simp [tame, tameL]) (by simp [isR]) S
  · refine out_odd s (by simp [tame, tameL]) ?_ S
    have := isR_row [q] (q - 1)
    simp only [rowD, List.map_cons, List.map_nil] at this
    rw [this]
    simp; omega
  · exact out_odd s (by simp [tame, tameL]) (by simp [isR, isW]) S
  · exact out_odd s (by simp [tame]) (by simp [isR]) S
  · have i9 : InR q (List.replicate 9 d) := fun x hx => by rw [List.eq_of_mem_replicate hx]; exact s.hd
    have := out_row s i9 (by simp) S
    rw [this, long_none s.vv s.hd s.k.h0 s.k.a0 i9 (by simp; omega)]
    rfl
theorem ans_same {an : Nat} (s : Spot q st gd L lo h an p d) {A ks : List (List Int)} {n : Nat} (hn : (n : Int) = h + an + 1) (a1 : SrtR A) (a2 : A.Nodup) (a3 : ∀ r, r ∈ A ↔ Tried q an p d r ∧ ansP st gd L lo q h an p d r ≠ none)
    (k1 : ks.Nodup) (k3 : ∀ r, r ∈ ks ↔ r ∈ allR q n ∧ (ansL st gd L lo h an p d r).isSome = true) : A = sortR ks := by
  refine srtR_unique a1 (sortR_srt ks) ?_
  refine List.Perm.trans ?_ (sortR_perm ks).symm
  refine (List.perm_ext_iff_of_nodup a2 k1).mpr fun r => ?_
  rw [a3, k3, ans_eq s.vv s.hd r s.k.a0, mem_all s.w.q1, Option.isSome_iff_ne_none]
  constructor
  · rintro ⟨t, e⟩
    obtain ⟨z1, z2⟩ := tried_in s.vv s.hd s.k.h0 s.k.a0 t
    exact ⟨⟨z1, by omega⟩, e⟩
  · rintro ⟨⟨z1, z2⟩, e⟩
    exact ⟨led_tried s.vv z1 s.k.a0 e, e⟩
theorem spot_right_ok {an : Nat} (w : WF q st gd) (q3 : q ≤ 3) (hL : ∀ S, d_live_in [wD q st gd] S = .ok (.lst (L.map .int)) S) (k : KOk q h an lo) (h2 : h ≤ 2) (an1 : an ≤ 1) (v : PIn q st p) (vv : Valid st gd L lo q h an p) {n : Nat} (hn : (n : Int) = h + an + 1)
    {m K : Nat} {S : Sto} (hK : K < 800000) (hI : Inv m [] K S) :
    Tot (d_law_spot_right [.loc m, wD q st gd, kD h an lo, .lst (L.map .int), posD p, .lst ((allR q n).map rowD)] S) fun x S' => x = .bl true ∧ Inv m [] (K + 20) S' := by
  have q1 := w.q1
  have h0 := k.h0
  obtain ⟨x, S1, h1, ⟨d, rfl, d0, d1⟩, hI1⟩ := tot_ex (next_ok q (by omega) (by omega) (by omega) hI)
  have s : Spot q st gd L lo h an p d := ⟨w, hL, k, v, vv, ⟨d0, by omega⟩⟩
  obtain ⟨ks, k1, k2, k3, k4⟩ := law_ans_ok s q3 (n := n) (by omega) S1
  obtain ⟨A, al, a1, a2, a3, a4⟩ := answers_ok w q3 hL an1 k v vv s.hd S1
  have e := ans_same s hn a1 a2 a3 k1 k3
  have sg := sort_gg S1 (ansL st gd L lo h an p d) (ks := ks) k2
  have rin : ∀ r ∈ allR q n, InR q r ∧ r.length ≤ 10 := fun r hr => by
    obtain ⟨z1, z2⟩ := (mem_all q1 n r).mp hr
    exact ⟨z1, by omega⟩
  have rr := repr_rows (A := A) S1 (fun r hr x hx => by
      have t := ((a3 r).mp hr).1
      have := (tried_in s.vv s.hd s.k.h0 s.k.a0 t).1 x hx
      have := w.q4; omega) (fun r hr => by
      have t := ((a3 r).mp hr).1
      have := (tried_in s.vv s.hd s.k.h0 s.k.a0 t).2; omega) (by omega)
  have Rl := all_len q1 q3 (n := n) (by omega)
  have Rn : allR q n ≠ [] := by obtain ⟨t, ht⟩ := all_head q n; rw [ht]; simp
  have mul : ∀ S, oMulS S (.tup [.int d]) (.int 9) = some (rowD (List.replicate 9 d)) := fun S => mul_row (S := S) d 9 (by omega) (by omega)
  refine tot_def rfl ?_
  refine tot_gen fun Q hQ => ?_
  rw [← e] at sg
  simp only [tot_seq_iff]
  simp [h1, wD_0, kD_0, k4, a4, sg, rr, -List.map_map, -List.map_append]
  rw [if_pos (show rngOk 6 from rngOk_of (by omega) (by omega))]
  simp only [bind_ok]
  refine tot_mono (forGo_tot (fun j e S' => Inv m [] (K + 1 + j) S' ∧ ∃ c8 c9 c10, e = srE m q st gd L lo h an p (allR q n) d (ansM (ansL st gd L lo h an p d) ks) c8 c9 c10 none) _ 0 _ _ ⟨hI1, none, none, none, rfl⟩ (fun _ _ _ _ => rfl) ?_) ?_
  · rintro i hi e S' ⟨hS, c8, c9, c10, rfl⟩
    rw [rng_len] at hi
    have hi6 : i < 6 := by simpa using hi
    refine ⟨_, bindP_nm .., ?_⟩
    refine tot_mono (srB1_ok s (m := m) (K := K + 1 + (0 + i)) (R := allR q n) (ks := ks) (by omega) hS Rn Rl rin k3 _ c9 c10 none) ?_
    rintro f S2 ⟨c9, c10, rfl, hS2⟩
    exact ⟨_, rfl, hS2, _, _, _, rfl⟩
  · rintro f S' ⟨e2, rfl, hS, c8, c9, c10, rfl⟩
    rw [rng_len] at hS
    simp [mul, wD_0, sizeLine, -sFor_e]
    rw [sFor_e]
    simp [mul, wD_0, sizeLine]
    refine tot_mono (forGo_tot (fun j e S' => Inv m [] (K + 10) S' ∧ ∃ c11, e = srE m q st gd L lo h an p (allR q n) d (ansM (ansL st gd L lo h an p d) ks) c8 c9 c10 c11) _ 0 _ _ ⟨hS.up (by omega), none, rfl⟩ (fun _ _ _ _ => rfl) ?_) ?_
    · rintro i hi e S' ⟨hS, c11, rfl⟩
      refine ⟨_, bindP_nm .., ?_⟩
      have pl := odd_place s _ (List.getElem_mem hi) (by omega) S'
      refine tot_gen fun Q hQ => ?_
      generalize [D.non, .lst [.int 0], .tup [.int q], .tup [.bl true], .int 0, rowD (List.replicate 9 d)][i] = y at *
      simp [pl]
      exact hQ _ _ ⟨_, rfl, hS, _, rfl⟩
    · rintro f S' ⟨e2, rfl, hS, c11, rfl⟩
      simp
      exact hQ _ _ ⟨rfl, hS.up (by omega)⟩
end
end Mp
end SMm7k03

section SMm8k03
set_option Elab.async false
set_option linter.all false
set_option maxHeartbeats 4000000
open PySem
namespace Mp
section
variable {q : Int} {st : List (List Int)} {gd L lo : List Int} {h a : Int}
theorem oAdd_l2 (S : Sto) (x y : List D) : oAdd S (.lst x) (.lst y) = if x.length + y.length ≤ 16777216 then some (.lst (x ++ y)) else none := by
  simp only [oAdd, lstOf_l, sizeLine_eq]
/-- the two sides tell the same of a thing -/
def Alike (q : Int) (st : List (List Int)) (gd L lo : List Int) (h a : Int) (x : D) : Prop := ∀ S, ∃ b, d_is_position [wD q st gd, kD h a lo, x] S = .ok (.bl b) S ∧ d_law_is_spot [wD q st gd, kD h a lo, .lst (L.map .int), x] S = .ok (.bl b) S
theorem alike2 (w : WF q st gd) (k : KOk q h a lo) (z : Str) (i : Int) : Alike q st gd L lo h a (.tup [.str z, .int i]) := fun S => ⟨_, is_pos w k (pos2_p z i S), pos2_l z i S⟩
theorem alike_b (w : WF q st gd) (k : KOk q h a lo) (hL : ∀ S, d_live_in [wD q st gd] S = .ok (.lst (L.map .int)) S) (i : Int) {r : List Int} (hr : InR q r) (rl : r.length < 1000) : Alike q st gd L lo h a (.tup [.str "behind", .int i, rowD r]) := fun S => by
  obtain ⟨b, h1, h2⟩ := pos3b_p (h := h) (a := a) (lo := lo) w hL i hr rl S
  obtain ⟨c, h3, h4⟩ := pos3b_l (L := L) (h := h) (a := a) (lo := lo) w i hr rl S
  have e : c = b := Bool.eq_iff_iff.mpr (h4.trans h2.symm)
  rw [e] at h3
  exact ⟨b, is_pos w k h1, h3⟩
theorem alike_a (w : WF q st gd) (k : KOk q h a lo) (hL : ∀ S, d_live_in [wD q st gd] S = .ok (.lst (L.map .int)) S) (i : Int) {r : List Int} (hr : InR q r) (rl : r.length < 1000) : Alike q st gd L lo h a (.tup [.str "ahead", .int i, rowD r]) := fun S => by
  obtain ⟨b, h1, h2⟩ := pos3a_p (h := h) (a := a) (lo := lo) w hL i hr rl S
  obtain ⟨c, h3, h4⟩ := pos3a_l (L := L) (h := h) (a := a) (lo := lo) w i hr rl S
  have e : c = b := Bool.eq_iff_iff.mpr (h4.trans h2.symm)
  rw [e] at h3
  exact ⟨b, is_pos w k h1, h3⟩
/-- neither takes it -/
theorem alike_no (w : WF q st gd) (k : KOk q h a lo) {x : D} (h1 : ∀ S, d_is_position_of [wD q st gd, kD h a lo, x] S = .ok (.bl false) S) (h2 : ∀ S, d_law_is_spot [wD q st gd, kD h a lo, .lst (L.map .int), x] S = .ok (.bl false) S) : Alike q st gd L lo h a x := fun S => ⟨false, is_pos w k (h1 S), h2 S⟩
theorem no_non (w : WF q st gd) (k : KOk q h a lo) : Alike q st gd L lo h a .non := by
  refine alike_no w k (fun S => defP_ok rfl ?_ rfl) (fun S => defP_ok rfl ?_ rfl)
  · simp [isA, tyD, isAB]
  · simp [bind_kD, isA, tyD, isAB]
theorem no_t0 (w : WF q st gd) (k : KOk q h a lo) : Alike q st gd L lo h a (.tup []) := by
  refine alike_no w k (fun S => defP_ok rfl ?_ rfl) (fun S => defP_ok rfl ?_ rfl)
  · simp [cNotIn_23, sizeLine, cNotIn, oIn, flatD]
  · simp [bind_kD]
theorem no_t1 (w : WF q st gd) (k : KOk q h a lo) (z : Str) : Alike q st gd L lo h a (.tup [.str z]) := by
  refine alike_no w k (fun S => defP_ok rfl ?_ rfl) (fun S => defP_ok rfl ?_ rfl)
  · simp [sizeLine, cNotIn, oIn, flatD]
  · simp [bind_kD]
theorem no_lst (w : WF q st gd) (k : KOk q h a lo) (xs : List D) : Alike q st gd L lo h a (.lst xs) := by
  refine alike_no w k (fun S => defP_ok rfl ?_ rfl) (fun S => defP_ok rfl ?_ rfl)
  · simp [isAB]
  · simp [bind_kD, isAB]
theorem no_int (w : WF q st gd) (k : KOk q h a lo) (i j : Int) : Alike q st gd L lo h a (.tup [.int i, .int j]) := by
  refine alike_no w k (fun S => defP_ok rfl ?_ rfl) (fun S => defP_ok rfl ?_ rfl)
  · simp [sizeLine, cNotIn, oIn, flatD, ixN, ab_is]
  · simp [bind_kD, ixN, ab_is]
theorem whole_b (b : Bool) (n : Int) (S : Sto) : d_is_whole [.bl b, .int 0, .int n] S = .ok (.bl false) S := by
  rw [is_whole_s (.bl b) 0 n S (by simp [tame])]; rfl
theorem whole_s (z : Str) (n : Int) (S : Sto) : d_is_whole [.str z, .int 0, .int n] S = .ok (.bl false) S := by
  rw [is_whole_s (.str z) 0 n S (by simp [tame])]; rfl
theorem law_whole_b (b : Bool) (m n : Int) (S : Sto) : d_law_is_whole [.bl b, .int m, .int n] S = .ok (.bl false) S := by
  refine defP_ok rfl ?_ rfl
  simp [isAB]
theorem law_whole_s (z : Str) (m n : Int) (S : Sto) : d_law_is_whole [.str z, .int m, .int n] S = .ok (.bl false) S := by
  refine defP_ok rfl ?_ rfl
  simp [isAB, isA_s]
theorem no_b (w : WF q st gd) (k : KOk q h a lo) (z : Str) (b : Bool) : Alike q st gd L lo h a (.tup [.str z, .bl b]) := by
  refine alike_no w k (fun S => defP_ok rfl ?_ rfl) (fun S => defP_ok rfl ?_ rfl)
  · simp [sizeLine, cNotIn, oIn, flatD, ixN, isA_s, ab_ss, wD_1, bLen_st, whole_b]
  · simp [bind_kD, ixN, isA_s, ab_ss, wD_1, bLen_st, law_whole_b]
theorem no_s (w : WF q st gd) (k : KOk q h a lo) (z y : Str) : Alike q st gd L lo h a (.tup [.str z, .str y]) := by
  refine alike_no w k (fun S => defP_ok rfl ?_ rfl) (fun S => defP_ok rfl ?_ rfl)
  · simp [sizeLine, cNotIn, oIn, flatD, ixN, isA_s, ab_ss, wD_1, bLen_st, whole_s]
  · simp [bind_kD, ixN, isA_s, ab_ss, wD_1, bLen_st, law_whole_s]
theorem n_ev3 (S : Sto) : cNotIn S (.str "even") (.tup [.str "behind", .str "ahead"]) = some (.bl true) := by rw [cNotIn_2s]; decide
theorem no_even3 (w : WF q st gd) (k : KOk q h a lo) {i : Int} (i0 : 0 ≤ i) (i1 : i < st.length) : Alike q st gd L lo h a (.tup [.str "even", .int i, .tup []]) := by
  have c : (decide (0 ≤ i) && decide (i ≤ (st.length : Int) - 1)) = true := by simp; omega
  refine alike_no w k (fun S => defP_ok rfl ?_ rfl) (fun S => defP_ok rfl ?_ rfl)
  · simp [sizeLine, cNotIn_23, ixN, isA_s, ab_ss, wD_1, bLen_st, whole_p, c, cIn_2s]
  · simp [bind_kD, ixN, isA_s, ab_ss, wD_1, bLen_st, whole_i, c, n_ev3, sizeLine]
theorem no_aheadL (w : WF q st gd) (k : KOk q h a lo) {i : Int} (i0 : 0 ≤ i) (i1 : i < st.length) {r : List Int} (rl : r.length < 100) : Alike q st gd L lo h a (.tup [.str "ahead", .int i, .lst (r.map .int)]) := by
  have c : (decide (0 ≤ i) && decide (i ≤ (st.length : Int) - 1)) = true := by simp; omega
  refine alike_no w k (fun S => defP_ok rfl ?_ rfl) (fun S => defP_ok rfl ?_ rfl)
  · have y := is_row_s (.lst (r.map .int)) (q - 1) S (tame_mkL (by simp; omega) (by simp))
    simp only [isR] at y
    simp [sizeLine, cNotIn_23, ixN, isA_s, ab_ss, wD_1, wD_0, bLen_st, whole_p, c, cIn_2s, n_ae, n_ao, n_ab, y]
  · have : isAB "list" "tuple" = false := by decide
    simp [bind_kD, ixN, isA_s, ab_ss, wD_1, bLen_st, whole_i, c, cNotIn_2s, sizeLine, this]
def oddsF (st : List (List Int)) (s : Int) (r : List Int) : List D := [.non, .tup [], .tup [.str "even"], .tup [.str "even", .int s, .tup []], .tup [.str "even", .int st.length], .tup [.str "even", .bl true], .lst [.str "even", .int 0], .tup [.str "Even", .int 0],
  .tup [.str "behind", .int s, rowD r], .tup [.str "ahead", .int s, rowD r], .tup [.str "behind", .int s, .tup []], .tup [.str "ahead", .int s, .lst (r.map .int)],
  .tup [.str "off", .int s], .tup [.str "even", .int s], .tup [.int 0, .int 0], .tup [.str "behind", .int s], .tup [.str "ahead", .int (-1), rowD r], .tup [.str "off", .str "0"]]
theorem odds_alike (w : WF q st gd) (k : KOk q h a lo) (hL : ∀ S, d_live_in [wD q st gd] S = .ok (.lst (L.map .int)) S) {s : Int} (s0 : 0 ≤ s) (s1 : s < st.length) {r : List Int} (hr : InR q r) (rl : r.length < 100) : ∀ x ∈ oddsF st s r, Alike q st gd L lo h a x := by
  intro x hx
  simp only [oddsF, List.mem_cons, List.not_mem_nil, or_false] at hx
  rcases hx with rfl | rfl | rfl | rfl | rfl | rfl | rfl | rfl | rfl | rfl | rfl | rfl | rfl | rfl | rfl | rfl | rfl | rfl
  · exact no_non w k
  · exact no_t0 w k
  · exact no_t1 w k _
  · exact no_even3 w k s0 s1
  · exact alike2 w k _ _
  · exact no_b w k _ _
  · exact no_lst w k _
  · exact alike2 w k _ _
  · exact alike_b w k hL s hr (by omega)
  · exact alike_a w k hL s hr (by omega)
  · exact alike_b w k hL s (r := []) (fun _ h => by cases h) (by simp)
  · exact no_aheadL w k s0 s1 rl
  · exact alike2 w k _ _
  · exact alike2 w k _ _
  · exact no_int w k _ _
  · exact alike2 w k _ _
  · exact alike_a w k hL (-1) hr (by omega)
  · exact no_s w k _ _
abbrev frB : MSt := (sIf (mtVal (mOp cNe (mB bRepr (aCons (mCall d_is_position (aCons (mVar 1) (aCons (mVar 2) (aCons (mVar 7) aNil)))) aNil)) (mB bRepr (aCons (mCall d_law_is_spot (aCons (mVar 1) (aCons (mVar 2) (aCons (mVar 3) (aCons (mVar 7) aNil))))) aNil)))) (sRet (mC (.bl false))) sPass)
theorem forms_right_ok (w : WF q st gd) (q3 : q ≤ 3) (k : KOk q h a lo) (hL : ∀ S, d_live_in [wD q st gd] S = .ok (.lst (L.map .int)) S) {m K : Nat} {S : Sto} (hK : K < 900000) (hI : Inv m [] K S) :
    Tot (d_law_forms_right [.loc m, wD q st gd, kD h a lo, .lst (L.map .int)] S) fun x S' => x = .bl true ∧ Inv m [] (K + 20) S' := by
  have q1 := w.q1
  have s1 := w.s1
  have s6 := w.s6
  obtain ⟨x, S1, h1, ⟨n, rfl, n0, n1⟩, hI1⟩ := tot_ex (next_ok 3 (by omega) (by omega) (by omega) hI)
  refine tot_def rfl ?_
  have ro : rngOk (1 + n) := rngOk_of (by omega) (by omega)
  simp only [tot_seq_iff, sAsg_e, mB_e, aCons_e, mFrz_e, lComp_e, wRng1_e, aNil_e]
  simp [h1, ro]
  rw [rng_len, if_pos (lt_size (by omega))]
  refine tot_bind (tot_bind (tot_bind (tot_bind (tot_calm (tot_mono (compGo_each (r := ⟨rng 0 (1 + n).toNat, none⟩) (fun j S => Inv m [] (K + 1 + j) S) (fun d => ∃ i : Int, d = .int i ∧ (0 ≤ i ∧ i ≤ q - 1)) (rng 0 (1 + n).toNat) 0 S1 hI1 (fun _ _ _ => rfl) ?_) ?_)))))
  · intro j hj S hS
    rw [rng_len] at hj
    refine ⟨_, bindP_nm .., ?_⟩
    refine tot_call ?_
    simp [wD_0]
    refine tot_mono (next_ok q (by omega) (by omega) (by omega) hS) ?_
    rintro d S' ⟨⟨r, rfl, r0, r1⟩, h3⟩
    exact ⟨⟨r, rfl, r0, by omega⟩, h3.up (by omega)⟩
  · rintro ys S2 ⟨g1, g2, g3⟩
    rw [rng_len] at g1 g2
    obtain ⟨r, rfl, hr⟩ := ints_of g3
    simp only [List.length_map] at g2
    obtain ⟨x, S3, h3, ⟨s, rfl, s0, s9⟩, hI3⟩ := tot_ex (next_ok (st.length : Int) (by omega) (by omega) (by omega) g1)
    have al := odds_alike w k hL s0 s9 hr (by omega : r.length < 100)
    simp only [bTuple_l, tot_ok, oo_some, nxQ_nx]
    refine tot_gen fun Q hQ => ?_
    simp [wD_1, bLen_st, h3, sizeLine, oAdd_l2, -sFor_e]
    rw [sFor_e]
    simp only [mVar_e, wSeq_e]
    simp only [List.getElem?_cons_zero, List.getElem?_cons_succ, bind_ok]
    refine tot_mono (forGo_tot (fun j e S' => S' = S3 ∧ ∃ c7, e = [some (.loc m), some (wD q st gd), some (kD h a lo), some (.lst (L.map .int)), some (rowD r), some (.int s), some (.lst (oddsF st s r)), c7, none]) (oddsF st s r) 0 _ _ ⟨rfl, none, rfl⟩ (fun _ _ _ _ => rfl) ?_) ?_
    · rintro i hi e S' ⟨rfl, c7, rfl⟩
      refine ⟨_, bindP_nm .., ?_⟩
      obtain ⟨b, b1, b2⟩ := al _ (List.getElem_mem hi) S'
      refine tot_gen fun Q hQ => ?_
      generalize (oddsF st s r)[i] = y at *
      simp [b1, b2, repr_b]
      exact hQ _ _ ⟨_, rfl, rfl, _, rfl⟩
    · rintro f S' ⟨e2, rfl, rfl, c7, rfl⟩
      simp
      exact hQ _ _ ⟨rfl, hI3.up (by omega)⟩
end
end Mp
end SMm8k03

section SMm9k03
set_option Elab.async false
set_option linter.all false
set_option maxHeartbeats 4000000
open PySem
namespace Mp
theorem cEq_self (S : Sto) (d : D) (h : fin deepN (rs S d) = true) : cEq S d d = some (.bl true) := by
  have := eqP_refl _ _ h
  unfold cEq oEq
  split
  · rename_i c
    cases d <;> simp [isStr] at c
    simp [eqP, toP, PyData.eqv]
  · simp [h, eqP, this]
abbrev pst : List (List Int) := [[1, 0], [1, 2], [2, 2]]
abbrev pgd : List Int := [0, 2]
theorem pair_wf : WF 2 pst pgd := by
  refine { q1 := by decide, q4 := by decide, s1 := by decide, s6 := by decide, rows := by decide, asc := by decide, gr := by decide, g0 := by decide, gl := by decide }
theorem pair_live : ∀ S, d_live_in [wD 2 pst pgd] S = .ok (.lst (([0, 1, 2] : List Int).map .int)) S := by
  obtain ⟨L, l1, l2, l3, l4, l5⟩ := live_ok pair_wf
  have e : L = [0, 1, 2] := by
    refine asc_unique l1 (by decide) fun x => ?_
    constructor
    · intro hx
      have := l2 x hx
      have h3 : (pst.length : Int) = 3 := rfl
      have : x = 0 ∨ x = 1 ∨ x = 2 := by omega
      simpa using this
    · intro hx
      rw [l3]
      simp only [List.mem_cons, List.not_mem_nil, or_false] at hx
      have g0 : Live pst pgd 0 := .base (by decide)
      have g2 : Live pst pgd 2 := .base (by decide)
      rcases hx with rfl | rfl | rfl
      · exact g0
      · exact Live.step (x := 1) (o := 2) (by decide) (by decide) (by decide) g2
      · exact g2
  rw [← e]; exact l4
theorem pair_ans {h : Int} {an n : Nat} (h0 : 0 ≤ h) (h2 : h ≤ 2) (an1 : an ≤ 1) (hn : (n : Int) = h + an + 1) (nd : (allR 2 n).Nodup) (S : Sto) :
    d_answers [wD 2 pst pgd, kD h an [], .tup [.str "even", .int 0], .int 0] S = .ok (.tup ((sortR ((allR 2 n).filter fun r => (ansL pst pgd [0, 1, 2] [] h an (.even 0) 0 r).isSome)).map rowD)) S := by
  have nn : InR 2 ([] : List Int) := fun x hx => nomatch hx
  have k : KOk 2 h an [] := ⟨h0, by omega, by omega, by omega, nn, List.Pairwise.nil, by decide⟩
  have vv : Valid pst pgd [0, 1, 2] [] 2 h an (.even 0) := by show (0 : Int) ∈ pgd; decide
  have v : PIn 2 pst (.even 0) := ⟨by decide, by decide, nn, nn⟩
  obtain ⟨A, al, a1, a2, a3, a4⟩ := answers_ok (p := .even 0) (d := 0) pair_wf (by decide) pair_live an1 k v vv ⟨by decide, by decide⟩ S
  have s : Spot 2 pst pgd [0, 1, 2] [] h an (.even 0) 0 := ⟨pair_wf, pair_live, k, v, vv, ⟨by decide, by decide⟩⟩
  have e := ans_same s hn a1 a2 a3 (ks := (allR 2 n).filter fun r => (ansL pst pgd [0, 1, 2] [] h an (.even 0) 0 r).isSome) (List.Pairwise.filter _ nd) (fun r => by rw [List.mem_filter])
  rw [← e]
  exact a4
theorem hand1 (S : Sto) : d_answers [wD 2 pst pgd, kD 1 1 [], .tup [.str "even", .int 0], .int 0] S = .ok (.tup [.tup [], .tup [.int 0, .int 1]]) S := by
  have := pair_ans (h := 1) (an := 1) (n := 3) (by decide) (by decide) (by decide) (by decide) (by decide +kernel) S
  rw [show (sortR ((allR 2 3).filter fun r => (ansL pst pgd [0, 1, 2] [] 1 ((1 : Nat) : Int) (.even 0) 0 r).isSome)) = [[], [0, 1]] by decide +kernel] at this
  exact this
theorem hand2 (S : Sto) : d_answers [wD 2 pst pgd, kD 0 0 [], .tup [.str "even", .int 0], .int 0] S = .ok (.tup []) S := by
  have := pair_ans (h := 0) (an := 0) (n := 1) (by decide) (by decide) (by decide) (by decide) (by decide +kernel) S
  rw [show (sortR ((allR 2 1).filter fun r => (ansL pst pgd [0, 1, 2] [] 0 ((0 : Nat) : Int) (.even 0) 0 r).isSome)) = [] by decide +kernel] at this
  exact this
theorem law_ok (ns : List Int) (hl : ns.length ≤ 63) : ∃ S', d_law [.lst (ns.map .int)] [] = .ok (.bl true) S' := by
  obtain ⟨m, S, h1, h2⟩ := law_begun_ok ns hl
  suffices hh : Tot (d_law [.lst (ns.map .int)] []) fun d S => d = .bl true by
    obtain ⟨d, S', h3, rfl⟩ := tot_ex hh
    exact ⟨S', h3⟩
  refine tot_def rfl ?_
  refine tot_gen fun Q hQ => ?_
  have hm : (if (4 : Int) < ns.length then (4 : Int) else ns.length) = ((min ns.length 4 : Nat) : Int) := by split <;> omega
  have ro : rngOk (1 + ((min ns.length 4 : Nat) : Int)) := rngOk_of (by omega) (by omega)
  simp only [tot_seq_iff, sAsg_e, mCall_e, aCons_e, mVar_e, aNil_e, List.map_cons, List.map_nil, List.cons_append, List.getElem?_cons_zero, bind_ok, h1, bindP_nm, tot_ok, nxQ_nx]
  simp [hm, ro]
  refine tot_mono (forGo_tot (fun k e S => ∃ x2 x3 x4 x5 x6 x7 x8, e = [some (.lst (ns.map .int)), some (.loc m), x2, x3, x4, x5, x6, x7, x8, none] ∧ Inv m [] (1100 * k) S) _ 0 _ _ ⟨none, none, none, none, none, none, none, rfl, h2⟩ (fun _ _ _ _ => rfl) ?_) ?_
  · rintro i hi e S' ⟨x2, x3, x4, x5, x6, x7, x8, rfl, hI⟩
    rw [rng_len] at hi
    refine ⟨_, bindP_nm .., ?_⟩
    obtain ⟨d, S2, k1, ⟨q, st, gd, rfl, w, hq, _⟩, k2⟩ := tot_ex (law_want_ok 3 4 (by omega) (by omega) (by omega) (by omega) (by omega) hI)
    obtain ⟨d, S3, k3, ⟨h, an, lo, rfl, k, hh2, an1⟩, k4⟩ := tot_ex (law_sort_ok w.q1 hq (by omega) k2)
    obtain ⟨L, l1, l2, l3, hL, l5⟩ := live_ok w
    have h0 := k.h0
    obtain ⟨n, hn⟩ : ∃ n : Nat, (n : Int) = h + an + 1 := ⟨(h + an + 1).toNat, by omega⟩
    have rr := law_rows_ok w.q1 hq (n := n) (by omega) S3
    rw [hn] at rr
    obtain ⟨P, p1, p2, p3, p4⟩ := law_spots_ok (L := L) w hq k hh2 an1 S3
    obtain ⟨d, S4, k5, rfl, k6⟩ := tot_ex (forms_right_ok w hq k hL (by omega) k4)
    have P0 : 0 < P.length := List.length_pos_iff.mpr p1
    refine tot_gen fun Q hQ => ?_
    simp [k1, wD_0, kD_0, kD_1, k3, l5, rr, p4, k5, sizeLine, -sFor_e]
    rw [sFor_e]
    simp [show rngOk 8 from rngOk_of (by omega) (by omega)]
    refine tot_mono (forGo_tot (fun j e S' => Inv m [] (1100 * (0 + i) + 140 + 30 * j) S' ∧ ∃ c8, e = [some (.lst (ns.map .int)), some (.loc m), some (.int i), some (wD q st gd), some (kD h an lo), some (.lst (L.map .int)), some (.lst ((allR q n).map rowD)), some (.lst (P.map posD)), c8, none]) _ 0 _ _ ⟨k6.up (by omega), x8, by rw [rng_get]⟩ (fun _ _ _ _ => rfl) ?_) ?_
    · rintro j hj e S5 ⟨hI5, c8, rfl⟩
      rw [rng_len] at hj
      have hj8 : j < 8 := by simpa using hj
      refine ⟨_, bindP_nm .., ?_⟩
      obtain ⟨d, S6, k7, ⟨z, rfl, z0, z1⟩, k8⟩ := tot_ex (next_ok (P.length : Int) (by omega) (by omega) (by omega) hI5)
      obtain ⟨p, pm, ip⟩ := ix_poss (R := P) S6 z0 z1
      obtain ⟨v, vv⟩ := p3 p pm
      obtain ⟨d, S7, k9, rfl, k10⟩ := tot_ex (spot_right_ok w hq hL k hh2 an1 v vv hn (by omega) k8)
      refine tot_gen fun Q hQ => ?_
      simp [k7, ip, k9]
      exact hQ _ _ ⟨_, rfl, k10.up (by omega), _, rfl⟩
    · rintro f S5 ⟨e2, rfl, hI5, c8, rfl⟩
      rw [rng_len] at hI5
      refine hQ _ _ ⟨_, rfl, _, _, _, _, _, _, _, rfl, hI5.up (by simp; omega)⟩
  · rintro f S3 ⟨e2, rfl, x2, x3, x4, x5, x6, x7, x8, rfl, hI⟩
    have e1 : D.tup [.int 2, .tup [.tup [.int 1, .int 0], .tup [.int 1, .int 2], .tup [.int 2, .int 2]], .tup [.int 0, .int 2]] = wD 2 pst pgd := rfl
    have e2 : D.tup [.int 1, .int 1, .tup []] = kD 1 1 [] := rfl
    have e3 : D.tup [.int 0, .int 0, .tup []] = kD 0 0 [] := rfl
    have c1 : cEq S3 (.tup [.tup [], .tup [.int 0, .int 1]]) (.tup [.tup [], .tup [.int 0, .int 1]]) = some (.bl true) := cEq_self _ _ (show fin deepN (.tup [.tup [], .tup [.int 0, .int 1]]) = true by decide +kernel)
    have c2 : cEq S3 (.tup []) (.tup []) = some (.bl true) := cEq_self _ _ (show fin deepN (.tup []) = true by decide +kernel)
    simp [sizeLine, e1, e2, e3, hand1, hand2, c1, c2]
    exact hQ _ _ rfl
end Mp
end SMm9k03

set_option Elab.async false
open PySem PySem.W PyProof.Rows
set_option maxRecDepth 100000 in
set_option maxHeartbeats 0 in
theorem PySem.Challenge.cw_guardkeeps_k03_whole_answers_holds : PySem.Challenge.rw_guardkeeps_k03_whole_answers.Holds := by
  w_on; o_law; k_head; (case hw => w_witness2)
  k_fill
  refine Mp.walk_G (l := PySem.Challenge.rw_guardkeeps_k03_whole_answers) (n := 63) (k := 11) (x := "script") (den := Mp.d_law) rfl (by decide) rfl ⟨rfl, by decide, by decide⟩ (fun w h Y => PySem.W.kIn_of Y) ?F Mp.law_ok
  case F =>
    intro w mg fa h YP KX G hmg tabs
    refine' Mp.all_mk KX G hmg tabs ?z_all ?z_any ?z_bool ?z_enumerate ?z_int ?z_isinstance ?z_len ?z_list ?z_max ?z_min ?z_range ?z_repr ?z_set ?z_sorted ?z_str ?z_tuple ?z_zip ?y_AHEAD ?y_BEHIND ?y_EVEN ?y_MOST_AHEAD ?y_MOST_DEEDS ?y_MOST_HOLD ?y_MOST_STATES ?y_OFF ?a_d_law_begun ?l_d_law_begun ?c_d_law_begun ?k_d_law_begun ?a_d_law_next ?l_d_law_next ?c_d_law_next ?k_d_law_next ?a_d_law_want ?l_d_law_want ?c_d_law_want ?k_d_law_want ?a_d_law_sort ?l_d_law_sort ?c_d_law_sort ?k_d_law_sort ?a_d_law_live ?l_d_law_live ?c_d_law_live ?k_d_law_live ?a_d_law_rows ?l_d_law_rows ?c_d_law_rows ?k_d_law_rows ?a_d_law_is_whole ?l_d_law_is_whole ?c_d_law_is_whole ?k_d_law_is_whole ?a_d_law_far ?l_d_law_far ?c_d_law_far ?k_d_law_far ?a_d_law_is_spot ?l_d_law_is_spot ?c_d_law_is_spot ?k_d_law_is_spot ?a_d_law_spots ?l_d_law_spots ?c_d_law_spots ?k_d_law_spots ?a_d_is_whole ?l_d_is_whole ?c_d_is_whole ?k_d_is_whole ?a_d_is_row ?l_d_is_row ?c_d_is_row ?k_d_is_row ?a_d_are_steps ?l_d_are_steps ?c_d_are_steps ?k_d_are_steps ?a_d_is_lot ?l_d_is_lot ?c_d_is_lot ?k_d_is_lot ?a_d_need_wish ?l_d_need_wish ?c_d_need_wish ?k_d_need_wish ?a_d_need_kind ?l_d_need_kind ?c_d_need_kind ?k_d_need_kind ?a_d_live_in ?l_d_live_in ?c_d_live_in ?k_d_live_in ?a_d_is_waiting ?l_d_is_waiting ?c_d_is_waiting ?k_d_is_waiting ?a_d_behind ?l_d_behind ?c_d_behind ?k_d_behind ?a_d_is_held ?l_d_is_held ?c_d_is_held ?k_d_is_held ?a_d_is_position_of ?l_d_is_position_of ?c_d_is_position_of ?k_d_is_position_of ?a_d_is_position ?l_d_is_position ?c_d_is_position ?k_d_is_position ?a_d_law_forms_right ?l_d_law_forms_right ?c_d_law_forms_right ?k_d_law_forms_right ?a_d_need_deed ?l_d_need_deed ?c_d_need_deed ?k_d_need_deed ?a_d_need_position ?l_d_need_position ?c_d_need_position ?k_d_need_position ?a_d_outputs_of ?l_d_outputs_of ?c_d_outputs_of ?k_d_outputs_of ?a_d_rows_up_to ?l_d_rows_up_to ?c_d_rows_up_to ?k_d_rows_up_to ?a_d_live_behind ?l_d_live_behind ?c_d_live_behind ?k_d_live_behind ?a_d_doomed_behind ?l_d_doomed_behind ?c_d_doomed_behind ?k_d_doomed_behind ?a_d_behind_answer ?l_d_behind_answer ?c_d_behind_answer ?k_d_behind_answer ?a_d_answers_in ?l_d_answers_in ?c_d_answers_in ?k_d_answers_in ?a_d_answers ?l_d_answers ?c_d_answers ?k_d_answers ?a_d_law_led ?l_d_law_led ?c_d_law_led ?k_d_law_led ?a_d_law_answers ?l_d_law_answers ?c_d_law_answers ?k_d_law_answers ?a_d_led ?l_d_led ?c_d_led ?k_d_led ?a_d_law_outcome ?l_d_law_outcome ?c_d_law_outcome ?k_d_law_outcome ?a_d_law_spot_right ?l_d_law_spot_right ?c_d_law_spot_right ?k_d_law_spot_right ?a_d_law ?l_d_law ?c_d_law ?k_d_law ?xa_BadWish ?xx_BadWish ?xa_BadKind ?xx_BadKind ?xa_OutOfPlace ?xx_OutOfPlace ?em_BadWish_OutOfPlace ?em_BadKind_OutOfPlace ?em_OutOfPlace_OutOfPlace
    (case z_all => k_is)
    (case z_any => k_is)
    (case z_bool => k_is)
    (case z_enumerate => k_is)
    (case z_int => k_is)
    (case z_isinstance => k_is)
    (case z_len => k_is)
    (case z_list => k_is)
    (case z_max => k_is)
    (case z_min => k_is)
    (case z_range => k_is)
    (case z_repr => k_is)
    (case z_set => k_is)
    (case z_sorted => k_is)
    (case z_str => k_is)
    (case z_tuple => k_is)
    (case z_zip => k_is)
    (case y_AHEAD => k_is)
    (case y_BEHIND => k_is)
    (case y_EVEN => k_is)
    (case y_MOST_AHEAD => k_is)
    (case y_MOST_DEEDS => k_is)
    (case y_MOST_HOLD => k_is)
    (case y_MOST_STATES => k_is)
    (case y_OFF => k_is)
    (case a_d_law_begun => k_is)
    (case l_d_law_begun => k_is)
    (case c_d_law_begun => k_is)
    (case k_d_law_begun => k_is)
    (case a_d_law_next => k_is)
    (case l_d_law_next => k_is)
    (case c_d_law_next => k_is)
    (case k_d_law_next => k_is)
    (case a_d_law_want => k_is)
    (case l_d_law_want => k_is)
    (case c_d_law_want => k_is)
    (case k_d_law_want => k_is)
    (case a_d_law_sort => k_is)
    (case l_d_law_sort => k_is)
    (case c_d_law_sort => k_is)
    (case k_d_law_sort => k_is)
    (case a_d_law_live => k_is)
    (case l_d_law_live => k_is)
    (case c_d_law_live => k_is)
    (case k_d_law_live => k_is)
    (case a_d_law_rows => k_is)
    (case l_d_law_rows => k_is)
    (case c_d_law_rows => k_is)
    (case k_d_law_rows => k_is)
    (case a_d_law_is_whole => k_is)
    (case l_d_law_is_whole => k_is)
    (case c_d_law_is_whole => k_is)
    (case k_d_law_is_whole => k_is)
    (case a_d_law_far => k_is)
    (case l_d_law_far => k_is)
    (case c_d_law_far => k_is)
    (case k_d_law_far => k_is)
    (case a_d_law_is_spot => k_is)
    (case l_d_law_is_spot => k_is)
    (case c_d_law_is_spot => k_is)
    (case k_d_law_is_spot => k_is)
    (case a_d_law_spots => k_is)
    (case l_d_law_spots => k_is)
    (case c_d_law_spots => k_is)
    (case k_d_law_spots => k_is)
    (case a_d_is_whole => k_is)
    (case l_d_is_whole => k_is)
    (case c_d_is_whole => k_is)
    (case k_d_is_whole => k_is)
    (case a_d_is_row => k_is)
    (case l_d_is_row => k_is)
    (case c_d_is_row => k_is)
    (case k_d_is_row => k_is)
    (case a_d_are_steps => k_is)
    (case l_d_are_steps => k_is)
    (case c_d_are_steps => k_is)
    (case k_d_are_steps => k_is)
    (case a_d_is_lot => k_is)
    (case l_d_is_lot => k_is)
    (case c_d_is_lot => k_is)
    (case k_d_is_lot => k_is)
    (case a_d_need_wish => k_is)
    (case l_d_need_wish => k_is)
    (case c_d_need_wish => k_is)
    (case k_d_need_wish => k_is)
    (case a_d_need_kind => k_is)
    (case l_d_need_kind => k_is)
    (case c_d_need_kind => k_is)
    (case k_d_need_kind => k_is)
    (case a_d_live_in => k_is)
    (case l_d_live_in => k_is)
    (case c_d_live_in => k_is)
    (case k_d_live_in => k_is)
    (case a_d_is_waiting => k_is)
    (case l_d_is_waiting => k_is)
    (case c_d_is_waiting => k_is)
    (case k_d_is_waiting => k_is)
    (case a_d_behind => k_is)
    (case l_d_behind => k_is)
    (case c_d_behind => k_is)
    (case k_d_behind => k_is)
    (case a_d_is_held => k_is)
    (case l_d_is_held => k_is)
    (case c_d_is_held => k_is)
    (case k_d_is_held => k_is)
    (case a_d_is_position_of => k_is)
    (case l_d_is_position_of => k_is)
    (case c_d_is_position_of => k_is)
    (case k_d_is_position_of => k_is)
    (case a_d_is_position => k_is)
    (case l_d_is_position => k_is)
    (case c_d_is_position => k_is)
    (case k_d_is_position => k_is)
    (case a_d_law_forms_right => k_is)
    (case l_d_law_forms_right => k_is)
    (case c_d_law_forms_right => k_is)
    (case k_d_law_forms_right => k_is)
    (case a_d_need_deed => k_is)
    (case l_d_need_deed => k_is)
    (case c_d_need_deed => k_is)
    (case k_d_need_deed => k_is)
    (case a_d_need_position => k_is)
    (case l_d_need_position => k_is)
    (case c_d_need_position => k_is)
    (case k_d_need_position => k_is)
    (case a_d_outputs_of => k_is)
    (case l_d_outputs_of => k_is)
    (case c_d_outputs_of => k_is)
    (case k_d_outputs_of => k_is)
    (case a_d_rows_up_to => k_is)
    (case l_d_rows_up_to => k_is)
    (case c_d_rows_up_to => k_is)
    (case k_d_rows_up_to => k_is)
    (case a_d_live_behind => k_is)
    (case l_d_live_behind => k_is)
    (case c_d_live_behind => k_is)
    (case k_d_live_behind => k_is)
    (case a_d_doomed_behind => k_is)
    (case l_d_doomed_behind => k_is)
    (case c_d_doomed_behind => k_is)
    (case k_d_doomed_behind => k_is)
    (case a_d_behind_answer => k_is)
    (case l_d_behind_answer => k_is)
    (case c_d_behind_answer => k_is)
    (case k_d_behind_answer => k_is)
    (case a_d_answers_in => k_is)
    (case l_d_answers_in => k_is)
    (case c_d_answers_in => k_is)
    (case k_d_answers_in => k_is)
    (case a_d_answers => k_is)
    (case l_d_answers => k_is)
    (case c_d_answers => k_is)
    (case k_d_answers => k_is)
    (case a_d_law_led => k_is)
    (case l_d_law_led => k_is)
    (case c_d_law_led => k_is)
    (case k_d_law_led => k_is)
    (case a_d_law_answers => k_is)
    (case l_d_law_answers => k_is)
    (case c_d_law_answers => k_is)
    (case k_d_law_answers => k_is)
    (case a_d_led => k_is)
    (case l_d_led => k_is)
    (case c_d_led => k_is)
    (case k_d_led => k_is)
    (case a_d_law_outcome => k_is)
    (case l_d_law_outcome => k_is)
    (case c_d_law_outcome => k_is)
    (case k_d_law_outcome => k_is)
    (case a_d_law_spot_right => k_is)
    (case l_d_law_spot_right => k_is)
    (case c_d_law_spot_right => k_is)
    (case k_d_law_spot_right => k_is)
    (case a_d_law => k_is)
    (case l_d_law => k_is)
    (case c_d_law => k_is)
    (case k_d_law => k_is)
    (case xa_BadWish => k_is)
    case xx_BadWish =>
      refine' Mp.ext_mk KX G Mp.exb_V ?xx_BadWish_g ?xx_BadWish_cls ?xx_BadWish_sa ?xx_BadWish_ga ?xx_BadWish_gg ?xx_BadWish_exC ?xx_BadWish_tyC ?xx_BadWish_icC ?xx_BadWish_kC ?xx_BadWish_hdC ?xx_BadWish_iC ?xx_BadWish_tI ?xx_BadWish_subB ?xx_BadWish_slf ?xx_BadWish_sIn ?xx_BadWish_sup ?xx_BadWish_tp ?xx_BadWish_nof ?xx_BadWish_ini
      (case xx_BadWish_g => k_is); (case xx_BadWish_cls => k_is); (case xx_BadWish_sa => k_is); (case xx_BadWish_ga => k_is); (case xx_BadWish_gg => k_is); (case xx_BadWish_exC => k_is); (case xx_BadWish_tyC => k_is); (case xx_BadWish_icC => k_is); (case xx_BadWish_kC => k_is); (case xx_BadWish_hdC => k_is); (case xx_BadWish_iC => k_is); (case xx_BadWish_tI => k_is); (case xx_BadWish_subB => k_is); (case xx_BadWish_slf => k_is); (case xx_BadWish_sIn => ks_is); (case xx_BadWish_sup => k_is); (case xx_BadWish_tp => k_is)
      (case xx_BadWish_nof => show PySem.W.findIn _ _ _ = _; k_is)
      case xx_BadWish_ini =>
        refine' Mp.init_mk ?xx_BadWish_h1 ?xx_BadWish_h2 ?xx_BadWish_h3 ?xx_BadWish_h4 ?xx_BadWish_h5 ?xx_BadWish_h6 ?xx_BadWish_h7 ?xx_BadWish_h8 ?xx_BadWish_h9 ?xx_BadWish_h10 ?xx_BadWish_hb ?xx_BadWish_ha ?xx_BadWish_hc ?xx_BadWish_hr ?xx_BadWish_top
        (case xx_BadWish_h1 => k_is); (case xx_BadWish_h2 => k_is); (case xx_BadWish_h4 => k_is); (case xx_BadWish_h5 => exact rfl); (case xx_BadWish_h6 => decide); (case xx_BadWish_h7 => k_is); (case xx_BadWish_h8 => exact rfl); (case xx_BadWish_h9 => exact rfl); (case xx_BadWish_h10 => exact fun a u => rfl)
        (case xx_BadWish_hb => exact rfl); (case xx_BadWish_ha => exact Mp.ArgI.const _ _ _); (case xx_BadWish_hc => exact fun env => ⟨_, rfl⟩); (case xx_BadWish_hr => exact ⟨_, _, _, _, rfl⟩); (case xx_BadWish_top => decide +kernel)
        (case xx_BadWish_h3 => exact ⟨rfl, rfl, rfl, by decide +kernel, rfl, rfl, rfl, rfl, by decide, by decide⟩)
    (case xa_BadKind => k_is)
    case xx_BadKind =>
      refine' Mp.ext_mk KX G Mp.exb_V ?xx_BadKind_g ?xx_BadKind_cls ?xx_BadKind_sa ?xx_BadKind_ga ?xx_BadKind_gg ?xx_BadKind_exC ?xx_BadKind_tyC ?xx_BadKind_icC ?xx_BadKind_kC ?xx_BadKind_hdC ?xx_BadKind_iC ?xx_BadKind_tI ?xx_BadKind_subB ?xx_BadKind_slf ?xx_BadKind_sIn ?xx_BadKind_sup ?xx_BadKind_tp ?xx_BadKind_nof ?xx_BadKind_ini
      (case xx_BadKind_g => k_is); (case xx_BadKind_cls => k_is); (case xx_BadKind_sa => k_is); (case xx_BadKind_ga => k_is); (case xx_BadKind_gg => k_is); (case xx_BadKind_exC => k_is); (case xx_BadKind_tyC => k_is); (case xx_BadKind_icC => k_is); (case xx_BadKind_kC => k_is); (case xx_BadKind_hdC => k_is); (case xx_BadKind_iC => k_is); (case xx_BadKind_tI => k_is); (case xx_BadKind_subB => k_is); (case xx_BadKind_slf => k_is); (case xx_BadKind_sIn => ks_is); (case xx_BadKind_sup => k_is); (case xx_BadKind_tp => k_is)
      (case xx_BadKind_nof => show PySem.W.findIn _ _ _ = _; k_is)
      case xx_BadKind_ini =>
        refine' Mp.init_mk ?xx_BadKind_h1 ?xx_BadKind_h2 ?xx_BadKind_h3 ?xx_BadKind_h4 ?xx_BadKind_h5 ?xx_BadKind_h6 ?xx_BadKind_h7 ?xx_BadKind_h8 ?xx_BadKind_h9 ?xx_BadKind_h10 ?xx_BadKind_hb ?xx_BadKind_ha ?xx_BadKind_hc ?xx_BadKind_hr ?xx_BadKind_top
        (case xx_BadKind_h1 => k_is); (case xx_BadKind_h2 => k_is); (case xx_BadKind_h4 => k_is); (case xx_BadKind_h5 => exact rfl); (case xx_BadKind_h6 => decide); (case xx_BadKind_h7 => k_is); (case xx_BadKind_h8 => exact rfl); (case xx_BadKind_h9 => exact rfl); (case xx_BadKind_h10 => exact fun a u => rfl)
        (case xx_BadKind_hb => exact rfl); (case xx_BadKind_ha => exact Mp.ArgI.const _ _ _); (case xx_BadKind_hc => exact fun env => ⟨_, rfl⟩); (case xx_BadKind_hr => exact ⟨_, _, _, _, rfl⟩); (case xx_BadKind_top => decide +kernel)
        (case xx_BadKind_h3 => exact ⟨rfl, rfl, rfl, by decide +kernel, rfl, rfl, rfl, rfl, by decide, by decide⟩)
    (case xa_OutOfPlace => k_is)
    case xx_OutOfPlace =>
      refine' Mp.ext_mk KX G Mp.exb_V ?xx_OutOfPlace_g ?xx_OutOfPlace_cls ?xx_OutOfPlace_sa ?xx_OutOfPlace_ga ?xx_OutOfPlace_gg ?xx_OutOfPlace_exC ?xx_OutOfPlace_tyC ?xx_OutOfPlace_icC ?xx_OutOfPlace_kC ?xx_OutOfPlace_hdC ?xx_OutOfPlace_iC ?xx_OutOfPlace_tI ?xx_OutOfPlace_subB ?xx_OutOfPlace_slf ?xx_OutOfPlace_sIn ?xx_OutOfPlace_sup ?xx_OutOfPlace_tp ?xx_OutOfPlace_nof ?xx_OutOfPlace_ini
      (case xx_OutOfPlace_g => k_is); (case xx_OutOfPlace_cls => k_is); (case xx_OutOfPlace_sa => k_is); (case xx_OutOfPlace_ga => k_is); (case xx_OutOfPlace_gg => k_is); (case xx_OutOfPlace_exC => k_is); (case xx_OutOfPlace_tyC => k_is); (case xx_OutOfPlace_icC => k_is); (case xx_OutOfPlace_kC => k_is); (case xx_OutOfPlace_hdC => k_is); (case xx_OutOfPlace_iC => k_is); (case xx_OutOfPlace_tI => k_is); (case xx_OutOfPlace_subB => k_is); (case xx_OutOfPlace_slf => k_is); (case xx_OutOfPlace_sIn => ks_is); (case xx_OutOfPlace_sup => k_is); (case xx_OutOfPlace_tp => k_is)
      (case xx_OutOfPlace_nof => trivial)
      case xx_OutOfPlace_ini =>
        refine' Mp.init_mk ?xx_OutOfPlace_h1 ?xx_OutOfPlace_h2 ?xx_OutOfPlace_h3 ?xx_OutOfPlace_h4 ?xx_OutOfPlace_h5 ?xx_OutOfPlace_h6 ?xx_OutOfPlace_h7 ?xx_OutOfPlace_h8 ?xx_OutOfPlace_h9 ?xx_OutOfPlace_h10 ?xx_OutOfPlace_hb ?xx_OutOfPlace_ha ?xx_OutOfPlace_hc ?xx_OutOfPlace_hr ?xx_OutOfPlace_top
        (case xx_OutOfPlace_h1 => k_is); (case xx_OutOfPlace_h2 => k_is); (case xx_OutOfPlace_h4 => k_is); (case xx_OutOfPlace_h5 => exact rfl); (case xx_OutOfPlace_h6 => decide); (case xx_OutOfPlace_h7 => k_is); (case xx_OutOfPlace_h8 => exact rfl); (case xx_OutOfPlace_h9 => exact rfl); (case xx_OutOfPlace_h10 => exact fun a u => rfl)
        (case xx_OutOfPlace_hb => exact rfl); (case xx_OutOfPlace_ha => exact Mp.ArgI.name _); (case xx_OutOfPlace_hc => exact fun env => ⟨_, rfl⟩); (case xx_OutOfPlace_hr => exact rfl); (case xx_OutOfPlace_top => decide +kernel)
        (case xx_OutOfPlace_h3 => exact ⟨rfl, rfl, rfl, by decide +kernel, rfl, rfl, rfl, rfl, by decide, by decide⟩)
    (case em_BadWish_OutOfPlace => kernel_rfl)
    (case em_BadKind_OutOfPlace => kernel_rfl)
    (case em_OutOfPlace_OutOfPlace => kernel_rfl)
