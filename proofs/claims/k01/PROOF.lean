import PyProof.Rows.All
import Wide.All
import OpenK.AllK
import Wide.FinOn
import HandS.ForMost
import HandS.TupAny
import HandS.Walk
import HandS.CallSlots
import HandS.ExcInit
import HandS.ExcField
import HandS.TryMany
import HandS.TryOnly
import HandS.Style
import HandS.IsInst
import HandS.Conv
import HandS.More
import HandS.WordsExc
import HandS.Defaults
import HandS.EndBits
import HandS.ReCall
import HandS.Strs
import PyProof.ReprLen
import PySem.Challenge.RW_plaited_k01_whole_words
import HandS.HeadHook2
import HandS.Head0
import HandS.Head1
import HandS.Head2
import KE.KStateDown
set_option Elab.async false
set_option linter.all false
set_option maxRecDepth 100000
/-! the evaluator: what code does, over plain data -/
namespace PV
open PySem

/-- a value: by itself, a list that is read alone (f: made here), a list that is known in another way, a list of this frame's own -/
inductive D where
  | non | bl (b : Bool) | int (i : Int) | str (s : Str)
  | tup (xs : List D) | tpw (xs : List D) | rls (f : Bool) (xs : List D) | wls (xs : List D) | ref (n : Nat)
deriving Inhabited
inductive Cell where
  | lst (xs : List D)
  | dead
deriving Inhabited
abbrev Sto := List Cell
abbrev En := List (Option D)
structure Exn where
  cls : Str
  fs : List (Str × D)
inductive R (α : Type) where
  | ok (a : α) (st : Sto) | ex (x : Exn) (st : Sto) | bad
instance {α : Type} : Inhabited (R α) := ⟨.bad⟩
def R.bind {α β : Type} (r : R α) (f : α → Sto → R β) : R β := match r with
  | .ok a st => f a st
  | .ex x st => .ex x st
  | .bad => .bad
inductive SR where
  | nx (ρ : En) (st : Sto) | rt (d : D) (st : Sto) | bk (ρ : En) (st : Sto) | ct (ρ : En) (st : Sto) | ex (x : Exn) (ρ : En) (st : Sto) | bad
instance : Inhabited SR := ⟨.bad⟩
/-- go on behind a value -/
def R.on {α : Type} (r : R α) (ρ : En) (f : α → Sto → SR) : SR := match r with
  | .ok a st => f a st
  | .ex x st => .ex x ρ st
  | .bad => .bad

/-! equality of values as they stand -/
mutual
def D.beq : D → D → Bool
  | .non, .non => true
  | .bl a, .bl b => a == b
  | .int a, .int b => a == b
  | .str a, .str b => a == b
  | .tup a, .tup b => D.beqL a b
  | .tpw a, .tpw b => D.beqL a b
  | .rls f a, .rls g b => (f == g) && D.beqL a b
  | .wls a, .wls b => D.beqL a b
  | .ref a, .ref b => a == b
  | _, _ => false
def D.beqL : List D → List D → Bool
  | [], [] => true
  | a :: x, b :: y => D.beq a b && D.beqL x y
  | _, _ => false
end

/-! data: all that hangs on a value -/
mutual
def D.toP (g : Nat → Option (List PyData)) : D → Option PyData
  | .non => some .none
  | .bl b => some (.bool b)
  | .int i => some (.int i)
  | .str s => some (.str s)
  | .tup xs => (D.toPs g xs).map .tuple
  | .tpw xs => (D.toPs g xs).map .tuple
  | .rls _ xs => (D.toPs g xs).map .list
  | .wls xs => (D.toPs g xs).map .list
  | .ref n => (g n).map .list
def D.toPs (g : Nat → Option (List PyData)) : List D → Option (List PyData)
  | [] => some []
  | x :: xs => match D.toP g x, D.toPs g xs with
    | some p, some ps => some (p :: ps)
    | _, _ => none
end
def cellP : Nat → Sto → Nat → Option (List PyData)
  | 0, _, _ => none
  | m + 1, st, n => match st[n]? with
    | some (.lst ds) => D.toPs (cellP m st) ds
    | _ => none
def pd (st : Sto) (d : D) : Option PyData := d.toP (cellP 6 st)

/-! a value handed in to a call: all lists are read alone -/
mutual
def D.fzA (g : Nat → Option (List D)) : D → Option D
  | .tup xs => (D.fzAs g xs).map .tup
  | .tpw xs => (D.fzAs g xs).map .tpw
  | .rls _ xs => (D.fzAs g xs).map (.rls false)
  | .wls xs => (D.fzAs g xs).map .wls
  | .ref n => (g n).map (.rls false)
  | .non => some .non
  | .bl b => some (.bl b)
  | .int i => some (.int i)
  | .str x => some (.str x)
def D.fzAs (g : Nat → Option (List D)) : List D → Option (List D)
  | [] => some []
  | x :: xs => match D.fzA g x, D.fzAs g xs with
    | some p, some ps => some (p :: ps)
    | _, _ => none
end
def cellA : Nat → Sto → Nat → Option (List D)
  | 0, _, _ => none
  | m + 1, st, n => match st[n]? with
    | some (.lst ds) => D.fzAs (cellA m st) ds
    | _ => none
/-! a value handed back: its lists were made here -/
mutual
def D.fzR (g : Nat → Option (List D)) : D → Option D
  | .tup xs => (D.fzRs g xs).map .tup
  | .tpw xs => (D.fzRs g xs).map .tpw
  | .rls true xs => (D.fzRs g xs).map (.rls true)
  | .rls false _ => none
  | .wls _ => none
  | .ref n => (g n).map (.rls true)
  | .non => some .non
  | .bl b => some (.bl b)
  | .int i => some (.int i)
  | .str x => some (.str x)
def D.fzRs (g : Nat → Option (List D)) : List D → Option (List D)
  | [] => some []
  | x :: xs => match D.fzR g x, D.fzRs g xs with
    | some p, some ps => some (p :: ps)
    | _, _ => none
end
def cellR (k : Nat) : Nat → Sto → Nat → Option (List D)
  | 0, _, _ => none
  | m + 1, st, n => if n < k then none else match st[n]? with
    | some (.lst ds) => D.fzRs (cellR k m st) ds
    | _ => none
/-! no list hangs on it -/
mutual
def D.imm : D → Bool
  | .tup xs => D.imms xs
  | .tpw xs => D.imms xs
  | .rls _ _ => false
  | .wls _ => false
  | .ref _ => false
  | _ => true
def D.imms : List D → Bool
  | [] => true
  | x :: xs => D.imm x && D.imms xs
end
def Exn.imm (x : Exn) : Bool := x.fs.all fun p => p.2.imm

/-! ### expressions -/
abbrev FE := En → Sto → R D
abbrev FT := En → Sto → R Bool
abbrev FA := En → Sto → R (List D)
def eSlot (i : Nat) : FE := fun ρ st => match ρ[i]? with
  | some (some d) => .ok d st
  | _ => .bad
def eC (d : D) : FE := fun _ st => .ok d st
def e1 (f : D → Sto → R D) (a : FE) : FE := fun ρ st => (a ρ st).bind f
def e2 (f : D → D → Sto → R D) (a b : FE) : FE := fun ρ st => (a ρ st).bind fun x st => (b ρ st).bind fun y st => f x y st
def aNil : FA := fun _ st => .ok [] st
def aCons (a : FE) (r : FA) : FA := fun ρ st => (a ρ st).bind fun x st => (r ρ st).bind fun xs st => .ok (x :: xs) st
def eA (f : List D → Sto → R D) (a : FA) : FE := fun ρ st => (a ρ st).bind f
def line : Nat := 16777216
def newLst (xs : List D) (st : Sto) : R D := .ok (.ref st.length) (st ++ [.lst xs])
def dTup (xs : List D) (st : Sto) : R D := if xs.length ≤ line then .ok (.tup xs) st else .bad
def dLst (xs : List D) (st : Sto) : R D := if xs.length ≤ line then newLst xs st else .bad
/-- a list or a tuple that is read -/
def seqOf (d : D) (st : Sto) : Option (List D) := match d with
  | .tup xs => some xs
  | .rls _ xs => some xs
  | .wls xs => some xs
  | .ref n => match st[n]? with
    | some (.lst xs) => some xs
    | _ => none
  | _ => none
/-- a list -/
def lstOf (d : D) (st : Sto) : Option (List D) := match d with
  | .rls _ xs => some xs
  | .wls xs => some xs
  | .ref n => match st[n]? with
    | some (.lst xs) => some xs
    | _ => none
  | _ => none
/-- a list that was made by code (not the script) -/
def trkOf (d : D) (st : Sto) : Option (List D) := match d with
  | .rls _ xs => some xs
  | .ref n => match st[n]? with
    | some (.lst xs) => some xs
    | _ => none
  | _ => none

def big : Int := 18446744073709551616
def dAdd (x y : D) (st : Sto) : R D := match x, y with
  | .int a, .int b => .ok (.int (a + b)) st
  | .str a, .str b => if a.length + b.length ≤ line then .ok (.str (a ++ b)) st else .bad
  | .tup a, .tup b => if a.length + b.length ≤ line then .ok (.tup (a ++ b)) st else .bad
  | x, y => match trkOf x st, trkOf y st with
    | some a, some b => if a.length + b.length ≤ line then newLst (a ++ b) st else .bad
    | _, _ => .bad
def dSub (x y : D) (st : Sto) : R D := match x, y with
  | .int a, .int b => .ok (.int (a - b)) st
  | _, _ => .bad
def dMul (x y : D) (st : Sto) : R D := match x, y with
  | .int a, .int b => if (-big < a ∧ a < big) ∨ (-big < b ∧ b < big) then .ok (.int (a * b)) st else .bad
  | x, .int k => match trkOf x st with
    | some xs => if -1000000 ≤ k ∧ k ≤ 1000000 ∧ xs.length * k.toNat ≤ line then newLst (List.replicate k.toNat xs).flatten st else .bad
    | _ => .bad
  | _, _ => .bad
def dFdiv (x y : D) (st : Sto) : R D := match x, y with
  | .int a, .int b => if 0 < b ∧ b < 1073741824 then .ok (.int (a / b)) st else .bad
  | _, _ => .bad
def dMod (x y : D) (st : Sto) : R D := match x, y with
  | .int a, .int b => if 0 < b then .ok (.int (a % b)) st else .bad
  | _, _ => .bad
def dPow (x y : D) (st : Sto) : R D := match x, y with
  | .int a, .int b => if 0 ≤ b ∧ b ≤ 1000000 ∧ a.natAbs < 18446744073709551616 then .ok (.int (a ^ b.toNat)) st else .bad
  | _, _ => .bad
def dNeg (x : D) (st : Sto) : R D := match x with
  | .int a => .ok (.int (-a)) st
  | _ => .bad
def flatP (p : PyData) : Bool := p.canLay0 && decide (p.depth ≤ 64)
def dEqP (x y : D) (st : Sto) : Option Bool := match pd st x, pd st y with
  | some p, some q => if flatP p && flatP q then some (p.eqv q) else none
  | _, _ => none
def dEq (x y : D) (st : Sto) : R D := match x, y with
  | .int a, .int b => .ok (.bl (decide (a = b))) st
  | .str a, .str b => .ok (.bl (decide (a = b))) st
  | x, y => match dEqP x y st with
    | some b => .ok (.bl b) st
    | none => .bad
def dNe (x y : D) (st : Sto) : R D := match x, y with
  | .int a, .int b => .ok (.bl (!decide (a = b))) st
  | .str a, .str b => .ok (.bl (!decide (a = b))) st
  | x, y => match dEqP x y st with
    | some b => .ok (.bl (!b)) st
    | none => .bad
def dCmp (f : Int → Int → Bool) (x y : D) (st : Sto) : R D := match x, y with
  | .int a, .int b => .ok (.bl (f a b)) st
  | _, _ => .bad
def dLt : D → D → Sto → R D := dCmp fun a b => decide (a < b)
def dLe : D → D → Sto → R D := dCmp fun a b => decide (a ≤ b)
def dGt : D → D → Sto → R D := dCmp fun a b => decide (b < a)
def dGe : D → D → Sto → R D := dCmp fun a b => decide (b ≤ a)
def D.isNon : D → Bool
  | .non => true
  | _ => false
def dIsN (x y : D) (st : Sto) : R D := match y with
  | .non => .ok (.bl x.isNon) st
  | _ => .bad
def dNotN (x y : D) (st : Sto) : R D := match y with
  | .non => .ok (.bl (!x.isNon)) st
  | _ => .bad
/-- one of None, blsOf, intsOf, texts -/
def D.flat : D → Bool
  | .non => true
  | .bl _ => true
  | .int _ => true
  | .str _ => true
  | _ => false
def D.eqF : D → D → Bool
  | .non, .non => true
  | .bl a, .bl b => a == b
  | .bl a, .int j => (if a then 1 else 0) == j
  | .int i, .bl b => i == (if b then 1 else 0)
  | .int i, .int j => i == j
  | .str a, .str b => a == b
  | _, _ => false
def dIn (neg : Bool) (x y : D) (st : Sto) : R D := match y with
  | .str b => match x with
    | .str a => let k := !(Builtin.Str.occurrences b a 0 b.length 1).isEmpty
      .ok (.bl (if neg then !k else k)) st
    | _ => .bad
  | _ => match seqOf y st with
    | some ys => if x.flat && ys.all D.flat then .ok (.bl (if neg then !ys.any (fun z => z.eqF x) else ys.any fun z => z.eqF x)) st else .bad
    | none => .bad
/-- truth -/
def dTru (x : D) (st : Sto) : R Bool := match x with
  | .non => .ok false st
  | .bl b => .ok b st
  | .int i => .ok (i != 0) st
  | .str s => if s.length ≤ line then .ok (s.length != 0) st else .bad
  | x => match seqOf x st with
    | some xs => .ok (!xs.isEmpty) st
    | none => .bad
def dIx (x y : D) (st : Sto) : R D := match y with
  | .int i => match x with
    | .str s => if s.length ≤ line then (match L2.atI s.cps.toList i with
      | some c => .ok (.str ⟨#[c]⟩) st
      | none => .bad) else .bad
    | x => match seqOf x st with
      | some xs => match L2.atI xs i with
        | some v => .ok v st
        | none => .bad
      | none => .bad
  | _ => .bad
def dIxL (x y : D) (st : Sto) : R D := match y with
  | .int i => match lstOf x st with
    | some xs => match L2.atI xs i with
      | some v => .ok v st
      | none => .bad
    | none => .bad
  | _ => .bad
def cut (xs : List D) (lo hi : Option Int) : List D := (xs.drop (HT.sIx xs.length 0 lo)).take (HT.sIx xs.length xs.length hi - HT.sIx xs.length 0 lo)
abbrev FO := En → Sto → R (Option Int)
def oNo : FO := fun _ st => .ok none st
def oSo (a : FE) : FO := fun ρ st => (a ρ st).bind fun x st => match x with
  | .int i => .ok (some i) st
  | _ => .bad
def dSl (x : D) (lo hi : Option Int) (st : Sto) : R D := match x with
  | .tup xs => .ok (.tup (cut xs lo hi)) st
  | x => match lstOf x st with
    | some xs => newLst (cut xs lo hi) st
    | none => .bad
def eSl (a : FE) (lo hi : FO) : FE := fun ρ st => (a ρ st).bind fun x st => (lo ρ st).bind fun l st => (hi ρ st).bind fun h st => dSl x l h st

/-! tests -/
def tE (a : FE) : FT := fun ρ st => (a ρ st).bind fun x st => match x with
  | .bl b => .ok b st
  | _ => .bad
def tTru (a : FE) : FT := fun ρ st => (a ρ st).bind dTru
def tAnd (a b : FT) : FT := fun ρ st => (a ρ st).bind fun x st => if x then b ρ st else .ok false st
def tOr (a b : FT) : FT := fun ρ st => (a ρ st).bind fun x st => if x then .ok true st else b ρ st
def tNot (a : FT) : FT := fun ρ st => (a ρ st).bind fun x st => .ok (!x) st
def eAnd (a b : FE) : FE := fun ρ st => (a ρ st).bind fun x st => match x with
  | .bl c => if c then b ρ st else .ok (.bl false) st
  | _ => .bad
def eOr (a b : FE) : FE := fun ρ st => (a ρ st).bind fun x st => match x with
  | .bl c => if c then .ok (.bl true) st else b ρ st
  | _ => .bad
def eNot (a : FT) : FE := fun ρ st => (a ρ st).bind fun x st => .ok (.bl (!x)) st
def eIf (c : FT) (a b : FE) : FE := fun ρ st => (c ρ st).bind fun x st => if x then a ρ st else b ρ st
/-- a op b op' c -/
def eCh (f g : D → D → Sto → R D) (a b c : FE) : FE := fun ρ st => (a ρ st).bind fun x st => (b ρ st).bind fun y st => (f x y st).bind fun k st => match k with
  | .bl k => if k then (c ρ st).bind fun z st => g y z st else .ok (.bl false) st
  | _ => .bad

/-! targets: nothing flies out of them -/
abbrev FG := D → En → Sto → Option (En × Sto)
abbrev FGs := List D → En → Sto → Option (En × Sto)
def gSlot (i : Nat) : FG := fun d ρ st => some (ρ.set i (some d), st)
def gNil : FGs := fun ds ρ st => match ds with
  | [] => some (ρ, st)
  | _ => none
def gCons (g : FG) (gs : FGs) : FGs := fun ds ρ st => match ds with
  | d :: r => (g d ρ st).bind fun p => gs r p.1 p.2
  | [] => none
/-- a, b = a tuple -/
def gTup (n : Nat) (gs : FGs) : FG := fun d ρ st => match d with
  | .tup xs => if xs.length = n then gs xs ρ st else none
  | .tpw xs => if xs.length = n then gs xs ρ st else none
  | _ => none
def dSet (o i v : D) (st : Sto) : Option Sto := match o, i with
  | .ref n, .int k => match st[n]? with
    | some (.lst xs) => match L2.ixN xs.length k with
      | some j => some (st.set n (.lst (xs.set j v)))
      | none => none
    | _ => none
  | _, _ => none
def R.get {α : Type} : R α → Option (α × Sto)
  | .ok a st => some (a, st)
  | _ => none
def gSub (o i : FE) : FG := fun d ρ st => (o ρ st).get.bind fun p => (i ρ p.2).get.bind fun q => (dSet p.1 q.1 d q.2).bind fun st' => some (ρ, st')

/-! iterables -/
structure It where
  items : List D
  watch : List (Nat × List D)
abbrev FI := En → Sto → R It
def okW (st : Sto) : List (Nat × List D) → Bool
  | [] => true
  | (n, xs) :: r => (match st[n]? with
    | some (.lst ys) => D.beqL xs ys
    | _ => false) && okW st r
def watchOf (d : D) (xs : List D) : List (Nat × List D) := match d with
  | .ref n => [(n, xs)]
  | _ => []
def itSeq (d : D) (st : Sto) : R It := match seqOf d st with
  | some xs => .ok ⟨xs, watchOf d xs⟩ st
  | none => .bad
def iSeq (a : FE) : FI := fun ρ st => (a ρ st).bind itSeq
def rangeL (lo hi : Int) : List D := (List.range (hi - lo).toNat).map fun i => .int (lo + (i : Nat))
def lim : Int := 4611686018427387904
def itRange1 (x : D) (st : Sto) : R It := match x with
  | .int j => if -lim ≤ j ∧ j < lim then .ok ⟨rangeL 0 j, []⟩ st else .bad
  | _ => .bad
def itRange2 (x y : D) (st : Sto) : R It := match x, y with
  | .int i, .int j => if -lim ≤ i ∧ i < lim ∧ -lim ≤ j ∧ j < lim then .ok ⟨rangeL i j, []⟩ st else .bad
  | _, _ => .bad
def iRange1 (a : FE) : FI := fun ρ st => (a ρ st).bind itRange1
def iRange2 (a b : FE) : FI := fun ρ st => (a ρ st).bind fun x st => (b ρ st).bind fun y st => itRange2 x y st
def enumL (k : Nat) : List D → List D
  | [] => []
  | x :: r => .tpw [.int (k : Nat), x] :: enumL (k + 1) r
def itEnum (d : D) (st : Sto) : R It := match lstOf d st with
  | some xs => .ok ⟨enumL 0 xs, watchOf d xs⟩ st
  | none => .bad
def iEnum (a : FE) : FI := fun ρ st => (a ρ st).bind itEnum
def itStr (x : D) (st : Sto) : R It := match x with
  | .str s => .ok ⟨s.cps.toList.map fun c => .str ⟨#[c]⟩, []⟩ st
  | _ => .bad
def iStr (a : FE) : FI := fun ρ st => (a ρ st).bind itStr
def zipL : List D → List D → List D
  | x :: r, y :: s => .tpw [x, y] :: zipL r s
  | _, _ => []
def itZip (c d : D) (st : Sto) : R It := match lstOf c st, lstOf d st with
  | some xs, some ys => .ok ⟨zipL xs ys, watchOf c xs ++ watchOf d ys⟩ st
  | _, _ => .bad
def iZip (a b : FE) : FI := fun ρ st => (a ρ st).bind fun x st => (b ρ st).bind fun y st => itZip x y st

/-! statements -/
abbrev FS := En → Sto → SR
def sNext : FS := fun ρ st => .nx ρ st
def sSeq (a b : FS) : FS := fun ρ st => match a ρ st with
  | .nx ρ st => b ρ st
  | r => r
def sAsg (e : FE) (g : FG) : FS := fun ρ st => (e ρ st).on ρ fun x st' => match g x ρ st' with
  | some p => .nx p.1 p.2
  | none => .bad
def sEx (e : FE) : FS := fun ρ st => (e ρ st).on ρ fun _ st => .nx ρ st
def sRet (e : FE) : FS := fun ρ st => (e ρ st).on ρ fun x st => .rt x st
def sRetN : FS := fun _ st => .rt .non st
def sBreak : FS := fun ρ st => .bk ρ st
def sCont : FS := fun ρ st => .ct ρ st
def sNever : FS := fun _ _ => .bad
def sIf (c : FT) (a b : FS) : FS := fun ρ st => (c ρ st).on ρ fun x st => if x then a ρ st else b ρ st
def sAug (i : Nat) (f : D → D → Sto → R D) (e : FE) : FS := fun ρ st => match ρ[i]? with
  | some (some x) => (e ρ st).on ρ fun y st => (f x y st).on ρ fun z st => .nx (ρ.set i (some z)) st
  | _ => .bad
/-- a[i] op= e -/
def sAugS (o i : FE) (f : D → D → Sto → R D) (e : FE) : FS := fun ρ st => (o ρ st).on ρ fun x st => (i ρ st).on ρ fun k st => (dIxL x k st).on ρ fun old st => (e ρ st).on ρ fun v st => (f old v st).on ρ fun z st =>
  match dSet x k z st with
  | some st => .nx ρ st
  | none => .bad
def forL (g : FG) (b : FS) (w : List (Nat × List D)) : List D → FS
  | [], ρ, st => if okW st w then .nx ρ st else .bad
  | x :: xs, ρ, st => if okW st w then (match g x ρ st with
    | some p => (match b p.1 p.2 with
      | .nx ρ2 st2 => forL g b w xs ρ2 st2
      | .ct ρ2 st2 => forL g b w xs ρ2 st2
      | .bk ρ2 st2 => .nx ρ2 st2
      | r => r)
    | none => .bad) else .bad
def sFor (it : FI) (g : FG) (b : FS) : FS := fun ρ st => (it ρ st).on ρ fun j st => forL g b j.watch j.items ρ st
def whL (c : FT) (b : FS) : Nat → FS
  | 0, _, _ => .bad
  | n + 1, ρ, st => (c ρ st).on ρ fun x st => if x then (match b ρ st with
      | .nx ρ2 st2 => whL c b n ρ2 st2
      | .ct ρ2 st2 => whL c b n ρ2 st2
      | .bk ρ2 st2 => .nx ρ2 st2
      | r => r) else .nx ρ st
def fuel : Nat := 1000000
def sWhile (c : FT) (b : FS) : FS := fun ρ st => whL c b fuel ρ st

/-! comprehensions -/
def wipeD (ρ : En) : List Nat → En
  | [] => ρ
  | v :: vs => (wipeD ρ vs).set v none
/-- nothing flies out of it -/
def calm {α : Type} : R α → R α
  | .ex _ _ => .bad
  | r => r
def lcL (n : Nat) (ρ : En) (g : FG) (t : FT) (e : FE) (w : List (Nat × List D)) : List D → Sto → R D
  | [], st => if okW st w then .ok (.ref n) st else .bad
  | x :: xs, st => if okW st w then (match g x ρ st with
    | some p => (calm (t p.1 p.2)).bind fun k st2 => if k then (calm (e p.1 st2)).bind fun y st3 => (match st3[n]? with
        | some (.lst acc) => if acc.length < line then lcL n ρ g t e w xs (st3.set n (.lst (acc ++ [y]))) else .bad
        | _ => .bad)
      else lcL n ρ g t e w xs st2
    | none => .bad) else .bad
def eLc (vs : List Nat) (it : FI) (g : FG) (t : FT) (e : FE) : FE := fun ρ st => (it ρ st).bind fun j st => lcL st.length (wipeD ρ vs) g t e j.watch j.items (st ++ [.lst []])
def tYes : FT := fun _ st => .ok true st

/-! methods of lists -/
def dAppend (o v : D) (st : Sto) : R D := match o with
  | .ref n => match st[n]? with
    | some (.lst xs) => if xs.length < line then .ok .non (st.set n (.lst (xs ++ [v]))) else .bad
    | _ => .bad
  | _ => .bad
def dPop (o : D) (st : Sto) : R D := match o with
  | .ref n => match st[n]? with
    | some (.lst xs) => match xs[xs.length - 1]? with
      | some y => .ok y (st.set n (.lst xs.dropLast))
      | none => .bad
    | _ => .bad
  | _ => .bad
/-- xs += ys -/
def dExt (x y : D) (st : Sto) : R D := match x, y with
  | .int a, .int b => .ok (.int (a + b)) st
  | .str a, .str b => if a.length + b.length ≤ line then .ok (.str (a ++ b)) st else .bad
  | .tup a, .tup b => if a.length + b.length ≤ line then .ok (.tup (a ++ b)) st else .bad
  | .ref n, y => match st[n]?, trkOf y st with
    | some (.lst xs), some ys => if xs.length + ys.length ≤ line then .ok (.ref n) (st.set n (.lst (xs ++ ys))) else .bad
    | _, _ => .bad
  | _, _ => .bad
/-- xs.index(y) -/
def dIndex (x y : D) (st : Sto) : R D := match seqOf x st with
  | some xs => if y.flat && xs.all D.flat then (match xs.findIdx? (fun z => z.eqF y) with
    | some j => .ok (.int (j : Nat)) st
    | none => .bad) else .bad
  | none => .bad

/-! built-in functions -/
def dLen (x : D) (st : Sto) : R D := match x with
  | .str s => if s.length ≤ line then .ok (.int (s.length : Nat)) st else .bad
  | x => match seqOf x st with
    | some xs => .ok (.int (xs.length : Nat)) st
    | none => .bad
def dAbs (x : D) (st : Sto) : R D := match x with
  | .int i => .ok (.int (if i < 0 then -i else i)) st
  | _ => .bad
def dInt (x : D) (st : Sto) : R D := match x with
  | .int i => .ok (.int i) st
  | .bl k => .ok (.int (if k then 1 else 0)) st
  | _ => .bad
def dMax2 (x y : D) (st : Sto) : R D := match x, y with
  | .int i, .int j => .ok (.int (if j > i then j else i)) st
  | _, _ => .bad
def dMin2 (x y : D) (st : Sto) : R D := match x, y with
  | .int i, .int j => .ok (.int (if j < i then j else i)) st
  | _, _ => .bad
def intsOf : List D → Option (List Int)
  | [] => some []
  | .int i :: r => (intsOf r).map (i :: ·)
  | _ :: _ => none
def blsOf : List D → Option (List Bool)
  | [] => some []
  | .bl b :: r => (blsOf r).map (b :: ·)
  | _ :: _ => none
def dSum (x : D) (st : Sto) : R D := match (lstOf x st).bind intsOf with
  | some ns => .ok (.int ns.sum) st
  | none => .bad
def maxL : List Int → Option Int
  | [] => none
  | x :: r => some (r.foldl (fun a b => if a < b then b else a) x)
def minL : List Int → Option Int
  | [] => none
  | x :: r => some (r.foldl (fun a b => if b < a then b else a) x)
def dMax1 (x : D) (st : Sto) : R D := match (lstOf x st).bind intsOf with
  | some ns => match maxL ns with
    | some m => .ok (.int m) st
    | none => .bad
  | none => .bad
def dMin1 (x : D) (st : Sto) : R D := match (lstOf x st).bind intsOf with
  | some ns => match minL ns with
    | some m => .ok (.int m) st
    | none => .bad
  | none => .bad
def dAny (x : D) (st : Sto) : R D := match (lstOf x st).bind blsOf with
  | some bs => .ok (.bl (bs.any id)) st
  | none => .bad
def dAll (x : D) (st : Sto) : R D := match (lstOf x st).bind blsOf with
  | some bs => .ok (.bl (bs.all id)) st
  | none => .bad
def dList (x : D) (st : Sto) : R D := match seqOf x st with
  | some xs => newLst xs st
  | none => .bad
def dTuple (x : D) (st : Sto) : R D := match x with
  | .tup xs => .ok (.tup xs) st
  | x => match lstOf x st with
    | some xs => .ok (.tup xs) st
    | none => .bad
def dRepr (x : D) (st : Sto) : R D := match pd st x with
  | some p => if p.showable && decide (p.depth ≤ 60) && decide (p.shown.length ≤ line) then .ok (.str p.shown) st else .bad
  | none => .bad
inductive Ty where
  | tInt | tBool | tStr | tTuple | tList
def isTy (t : Ty) : D → Bool
  | .bl _ => match t with | .tInt => true | .tBool => true | _ => false
  | .int _ => match t with | .tInt => true | _ => false
  | .str _ => match t with | .tStr => true | _ => false
  | .tup _ => match t with | .tTuple => true | _ => false
  | .tpw _ => match t with | .tTuple => true | _ => false
  | .rls _ _ => match t with | .tList => true | _ => false
  | .wls _ => match t with | .tList => true | _ => false
  | .ref _ => match t with | .tList => true | _ => false
  | .non => false
def dIsi (t : Ty) (x : D) (st : Sto) : R D := .ok (.bl (isTy t x)) st

/-! calls -/
abbrev Fs := List D → Sto → R D
/-- a call that turns nothing that stood -/
def callP (f : Fs) (as : List D) (st : Sto) : R D := match D.fzAs (cellA 6 st) as with
  | some bs => match f bs [] with
    | .ok d [] => .ok d st
    | .ex x [] => .ex x st
    | _ => .bad
  | none => .bad
/-- a call that may turn the list which is its j-th argument -/
def callM (j : Nat) (f : Fs) (as : List D) (st : Sto) : R D := match as[j]? with
  | some (.ref n) => match st[n]? with
    | some (.lst xs) => if D.imms xs then (match D.fzAs (cellA 6 (st.set n .dead)) (as.set j .non) with
      | some bs => match f (bs.set j (.ref 0)) [.lst xs] with
        | .ok d [.lst ys] => if D.imms ys then .ok d (st.set n (.lst ys)) else .bad
        | .ex x [.lst ys] => if D.imms ys then .ex x (st.set n (.lst ys)) else .bad
        | _ => .bad
      | none => .bad) else .bad
    | _ => .bad
  | _ => .bad
def Cell.imm : Cell → Bool
  | .lst xs => D.imms xs
  | .dead => true
/-- what a def's body is worth: n slots -/
def fin (k : Nat) (d : D) (st : Sto) : R D := match D.fzR (cellR k 6 st) d with
  | some r => if (st.take k).all Cell.imm then .ok r (st.take k) else .bad
  | none => .bad
def finS (k : Nat) : SR → R D
  | .rt d st => fin k d st
  | .nx _ st => fin k .non st
  | .ex x _ st => if x.imm && (st.take k).all Cell.imm then .ex x (st.take k) else .bad
  | _ => .bad
def semOf (n : Nat) (b : FS) : Fs := fun as st => finS st.length (b (as.map some ++ List.replicate (n - as.length) none) st)
end PV

set_option maxHeartbeats 1000000
/-! how the evaluator's values and stores stand in the layer's heap -/
namespace PV
open PySem PySem.Spec PyProof.Rows L2

structure Cf where
  K : PySem.W.Frag
  H0 : Hp
  k : Nat
def WqL (K : PySem.W.Frag) (H : Hp) (a : Addr) (xs : List V) : Prop :=
  (∃ o, H a = some (.frz o (.lst xs))) ∨
    ∃ (o : Obj) (its : Array Value) (n : Nat), K.lookup a = some o ∧ o.cls = .type "list" ∧ o.dict = none ∧ o.data = .seq its n ∧ its.size ≤ sizeLine ∧ Vals xs its.toList
theorem WqL.sq {K : PySem.W.Frag} {H : Hp} {a : Addr} {xs : List V} (h : WqL K H a xs) : SqL K H a xs := by
  rcases h with ⟨o, h⟩ | h
  · exact .inl (.inr ⟨o, h⟩)
  · exact .inr h
/-- a tuple that is known to the object -/
def TpS (K : PySem.W.Frag) (H : Hp) (a : Addr) (xs : List V) : Prop :=
  (∃ o, H a = some (.frz o (.tup xs)) ∧ o.cls = .type "tuple" ∧ o.dict = none) ∨
    ∃ (o : Obj) (its : Array Value) (n : Nat), K.lookup a = some o ∧ o.cls = .type "tuple" ∧ o.dict = none ∧ o.data = .seq its n ∧ its.size ≤ sizeLine ∧ Vals xs its.toList
theorem TpS.sq {K : PySem.W.Frag} {H : Hp} {a : Addr} {xs : List V} (h : TpS K H a xs) : SqT K H a xs := by
  rcases h with ⟨o, h, _⟩ | ⟨o, its, n, h1, h2, h3, h4, h5, h6⟩
  · exact .inl (.inr ⟨o, h⟩)
  · exact .inr ⟨o, its, n, h1, h2, h4, h5, h6⟩
mutual
inductive Rp (C : Cf) (L : List Addr) (H : Hp) : V → D → Prop
  | non : Rp C L H .non .non
  | bl (b : Bool) : Rp C L H (.bl b) (.bl b)
  | int (i : Int) : Rp C L H (.int i) (.int i)
  | str (x : Str) : Rp C L H (.str x) (.str x)
  | tup {a : Addr} {xs : List V} {ds : List D} : TpS C.K H a xs → RpL C L H xs ds → Rp C L H (.ref a) (.tup ds)
  | tpw {a : Addr} {xs : List V} {ds : List D} : SqT C.K H a xs → RpL C L H xs ds → Rp C L H (.ref a) (.tpw ds)
  | rls {a : Addr} {f : Bool} {xs : List V} {ds : List D} : H a = some (.lst xs) → a ∉ L → (f = true → C.H0 a = none) → RpL C L H xs ds → Rp C L H (.ref a) (.rls f ds)
  | wls {a : Addr} {xs : List V} {ds : List D} : WqL C.K H a xs → RpL C L H xs ds → Rp C L H (.ref a) (.wls ds)
  | ref {a : Addr} {n : Nat} : L[n]? = some a → Rp C L H (.ref a) (.ref n)
inductive RpL (C : Cf) (L : List Addr) (H : Hp) : List V → List D → Prop
  | nil : RpL C L H [] []
  | cons {v : V} {vs : List V} {d : D} {ds : List D} : Rp C L H v d → RpL C L H vs ds → RpL C L H (v :: vs) (d :: ds)
end
structure Ext (H : Hp) (L : List Addr) (H' : Hp) (L' : List Addr) : Prop where
  keep : ∀ b o, H b = some o → b ∉ L → H' b = some o
  tr : ∀ b, H' b = none → H b = none
  pre : ∃ ex, L' = L ++ ex ∧ ∀ a ∈ ex, H a = none
def Muts (L : List Addr) (H : Hp) : Prop := ∀ a ∈ L, ∃ xs, H a = some (.lst xs)
structure RpS (C : Cf) (L : List Addr) (H : Hp) (st : Sto) : Prop where
  nd : L.Nodup
  len : L.length = st.length
  mu : Muts L H
  cell : ∀ (n : Nat) (xs : List D), st[n]? = some (.lst xs) → ∃ a vs, L[n]? = some a ∧ H a = some (.lst vs) ∧ RpL C L H vs xs
  h0 : ∀ b, H b = none → C.H0 b = none
  new : ∀ (n : Nat) (a : Addr), C.k ≤ n → L[n]? = some a → C.H0 a = none
structure RpE (C : Cf) (L : List Addr) (H : Hp) (σ : L2.St) (ρ : En) : Prop where
  len : σ.length = ρ.length
  at_ : ∀ (i : Nat) (d : D), ρ[i]? = some (some d) → ∃ v, σ[i]? = some (some v) ∧ Rp C L H v d

theorem Ext.refl (H : Hp) (L : List Addr) : Ext H L H L := ⟨fun _ _ h _ => h, fun _ h => h, ⟨[], by simp, by simp⟩⟩
theorem Ext.mem {H H' : Hp} {L L' : List Addr} (e : Ext H L H' L') {a : Addr} (h : a ∈ L) : a ∈ L' := by
  obtain ⟨ex, rfl, _⟩ := e.pre
  exact List.mem_append_left _ h
theorem Ext.nmem {H H' : Hp} {L L' : List Addr} (e : Ext H L H' L') {a : Addr} {o : HO} (h : H a = some o) (n : a ∉ L) : a ∉ L' := by
  obtain ⟨ex, rfl, f⟩ := e.pre
  intro m
  rcases List.mem_append.mp m with m | m
  · exact n m
  · rw [f a m] at h
    cases h
theorem Ext.trans {H H1 H2 : Hp} {L L1 L2 : List Addr} (a : Ext H L H1 L1) (b : Ext H1 L1 H2 L2) : Ext H L H2 L2 := by
  refine ⟨fun c o h n => b.keep c o (a.keep c o h n) (a.nmem h n), fun c h => a.tr c (b.tr c h), ?_⟩
  obtain ⟨x, rfl, f⟩ := a.pre
  obtain ⟨y, rfl, g⟩ := b.pre
  refine ⟨x ++ y, by simp, fun c m => ?_⟩
  rcases List.mem_append.mp m with m | m
  · exact f c m
  · exact a.tr c (g c m)
theorem Ext.get {H H' : Hp} {L L' : List Addr} (e : Ext H L H' L') {n : Nat} {a : Addr} (h : L[n]? = some a) : L'[n]? = some a := by
  obtain ⟨ex, rfl, _⟩ := e.pre
  rw [List.getElem?_append_left (List.getElem?_eq_some_iff.mp h).1]
  exact h
theorem Muts.rd {L : List Addr} {H : Hp} (m : Muts L H) {a : Addr} {u : HO} (h : Rd H a u) (n : ∀ xs, u ≠ .lst xs) : a ∉ L := by
  intro z
  obtain ⟨xs, e⟩ := m a z
  rcases h with h | ⟨o, h⟩
  · rw [e] at h
    exact n xs (Option.some.inj h).symm
  · rw [e] at h
    cases h
section
variable {C : Cf} {H H' : Hp} {L L' : List Addr}
mutual
theorem Rp.ext (m : Muts L H) (e : Ext H L H' L') : ∀ {v : V} {d : D}, Rp C L H v d → Rp C L' H' v d
  | _, _, .non => .non
  | _, _, .bl b => .bl b
  | _, _, .int i => .int i
  | _, _, .str x => .str x
  | _, _, .tup h r => .tup (by
      rcases h with ⟨o, h, c⟩ | h
      · refine .inl ⟨o, e.keep _ _ h fun z => ?_, c⟩
        obtain ⟨xs, q⟩ := m _ z
        rw [q] at h
        cases h
      · exact .inr h) (RpL.ext m e r)
  | _, _, .tpw h r => .tpw (by
      rcases h with h | h
      · have n := m.rd h (by intro xs z; cases z)
        rcases h with h | ⟨o, h⟩
        · exact .inl (.inl (e.keep _ _ h n))
        · exact .inl (.inr ⟨o, e.keep _ _ h n⟩)
      · exact .inr h) (RpL.ext m e r)
  | _, _, .rls h n f r => .rls (e.keep _ _ h n) (e.nmem h n) f (RpL.ext m e r)
  | _, _, .wls h r => .wls (by
      rcases h with ⟨o, h⟩ | h
      · refine .inl ⟨o, e.keep _ _ h fun z => ?_⟩
        obtain ⟨xs, q⟩ := m _ z
        rw [q] at h
        cases h
      · exact .inr h) (RpL.ext m e r)
  | _, _, .ref h => .ref (e.get h)
theorem RpL.ext (m : Muts L H) (e : Ext H L H' L') : ∀ {vs : List V} {ds : List D}, RpL C L H vs ds → RpL C L' H' vs ds
  | _, _, .nil => .nil
  | _, _, .cons h r => .cons (Rp.ext m e h) (RpL.ext m e r)
end
theorem RpE.ext {σ : L2.St} {ρ : En} (m : Muts L H) (e : Ext H L H' L') (h : RpE C L H σ ρ) : RpE C L' H' σ ρ :=
  ⟨h.len, fun i d q => let ⟨v, a, b⟩ := h.at_ i d q; ⟨v, a, b.ext m e⟩⟩
theorem RpL.len : ∀ {vs : List V} {ds : List D}, RpL C L H vs ds → vs.length = ds.length
  | _, _, .nil => rfl
  | _, _, .cons _ r => by rw [List.length_cons, List.length_cons, RpL.len r]
theorem RpL.get : ∀ {vs : List V} {ds : List D} {i : Nat} {d : D}, RpL C L H vs ds → ds[i]? = some d → ∃ v, vs[i]? = some v ∧ Rp C L H v d
  | _, _, _, _, .nil, e => by simp at e
  | _, _, 0, _, .cons h r, e => by
    simp at e
    subst e
    exact ⟨_, rfl, h⟩
  | _, _, i + 1, d, .cons h r, e => by
    obtain ⟨v, a, b⟩ := RpL.get (i := i) (d := d) r (by simpa using e)
    exact ⟨v, by simpa using a, b⟩
theorem RpL.getV : ∀ {vs : List V} {ds : List D} {i : Nat} {v : V}, RpL C L H vs ds → vs[i]? = some v → ∃ d, ds[i]? = some d ∧ Rp C L H v d
  | _, _, _, _, .nil, e => by simp at e
  | _, _, 0, _, .cons h r, e => by
    simp at e
    subst e
    exact ⟨_, rfl, h⟩
  | _, _, i + 1, d, .cons h r, e => by
    obtain ⟨v, a, b⟩ := RpL.getV (i := i) (v := d) r (by simpa using e)
    exact ⟨v, by simpa using a, b⟩
theorem RpL.append : ∀ {vs ws : List V} {ds es : List D}, RpL C L H vs ds → RpL C L H ws es → RpL C L H (vs ++ ws) (ds ++ es)
  | _, _, _, _, .nil, s => s
  | _, _, _, _, .cons h r, s => .cons h (RpL.append r s)
theorem RpL.set : ∀ {vs : List V} {ds : List D} {v : V} {d : D} (i : Nat), RpL C L H vs ds → Rp C L H v d → RpL C L H (vs.set i v) (ds.set i d)
  | _, _, _, _, _, .nil, _ => .nil
  | _, _, _, _, 0, .cons _ r, q => .cons q r
  | _, _, _, _, i + 1, .cons h r, q => .cons h (RpL.set i r q)
theorem RpL.take : ∀ {vs : List V} {ds : List D} (n : Nat), RpL C L H vs ds → RpL C L H (vs.take n) (ds.take n)
  | _, _, 0, _ => .nil
  | _, _, _ + 1, .nil => .nil
  | _, _, n + 1, .cons h r => .cons h (RpL.take n r)
theorem RpL.drop : ∀ {vs : List V} {ds : List D} (n : Nat), RpL C L H vs ds → RpL C L H (vs.drop n) (ds.drop n)
  | _, _, 0, h => h
  | _, _, _ + 1, .nil => .nil
  | _, _, n + 1, .cons _ r => RpL.drop n r
theorem RpL.dropLast {vs : List V} {ds : List D} (h : RpL C L H vs ds) : RpL C L H vs.dropLast ds.dropLast := by
  rw [List.dropLast_eq_take, List.dropLast_eq_take, h.len]
  exact h.take _
theorem RpL.rep {vs : List V} {ds : List D} (h : RpL C L H vs ds) : ∀ n : Nat, RpL C L H (List.replicate n vs).flatten (List.replicate n ds).flatten
  | 0 => .nil
  | n + 1 => by
    rw [List.replicate_succ, List.replicate_succ, List.flatten_cons, List.flatten_cons]
    exact h.append (RpL.rep h n)
theorem RpL.reverse : ∀ {vs : List V} {ds : List D}, RpL C L H vs ds → RpL C L H vs.reverse ds.reverse
  | _, _, .nil => .nil
  | _, _, .cons h r => by
    rw [List.reverse_cons, List.reverse_cons]
    exact (RpL.reverse r).append (.cons h .nil)

variable {st : Sto}
theorem RpS.ext_new (s : RpS C L H st) {p : Addr} {o : HO} (n : H p = none) : Ext H L (upd H p o) L :=
  ⟨fun b u h _ => by rw [upd_ne (ne_of_none h n)]; exact h, fun b h => by
    by_cases e : b = p
    · rw [e, upd_same] at h
      cases h
    · rw [upd_ne e] at h
      exact h, ⟨[], by simp, by simp⟩⟩
/-- a new object, not a list of ours -/
theorem RpS.laid (s : RpS C L H st) {p : Addr} {o : HO} (n : H p = none) : RpS C L (upd H p o) st := by
  have e : Ext H L (upd H p o) L := s.ext_new n
  refine ⟨s.nd, s.len, fun a m => ?_, fun i xs h => ?_, fun b h => s.h0 b (e.tr b h), s.new⟩
  · obtain ⟨xs, q⟩ := s.mu a m
    exact ⟨xs, by rw [upd_ne (ne_of_none q n)]; exact q⟩
  · obtain ⟨a, vs, h1, h2, h3⟩ := s.cell i xs h
    exact ⟨a, vs, h1, by rw [upd_ne (ne_of_none h2 n)]; exact h2, h3.ext s.mu e⟩
theorem RpS.get_mem {n : Nat} {a : Addr} (h : L[n]? = some a) : a ∈ L := List.mem_of_getElem? h
/-- a new list of ours -/
theorem RpS.ext_made (s : RpS C L H st) {p : Addr} {o : HO} (n : H p = none) : Ext H L (upd H p o) (L ++ [p]) := by
  have e := s.ext_new (o := o) n
  exact ⟨e.keep, e.tr, ⟨[p], rfl, fun a m => by
    have q : a = p := by simpa using m
    rw [q]
    exact n⟩⟩
theorem RpS.made (s : RpS C L H st) {p : Addr} {vs : List V} {xs : List D} (n : H p = none) (r : RpL C L H vs xs) : RpS C (L ++ [p]) (upd H p (.lst vs)) (st ++ [.lst xs]) := by
  have e : Ext H L (upd H p (.lst vs)) (L ++ [p]) := s.ext_made n
  have np : p ∉ L := fun m => by
    obtain ⟨xs, q⟩ := s.mu p m
    rw [n] at q
    cases q
  refine ⟨?_, by simp [s.len], fun a m => ?_, fun i ys h => ?_, fun b h => s.h0 b (e.tr b h), fun i a hk h => ?_⟩
  · rw [List.nodup_append]
    refine ⟨s.nd, by simp, fun a ha b hb => ?_⟩
    have q : b = p := by simpa using hb
    rw [q]
    intro z
    rw [z] at ha
    exact np ha
  · rcases List.mem_append.mp m with m | m
    · obtain ⟨xs, q⟩ := s.mu a m
      exact ⟨xs, by rw [upd_ne (ne_of_none q n)]; exact q⟩
    · have q : a = p := by simpa using m
      rw [q]
      exact ⟨vs, upd_same⟩
  · by_cases hi : i < st.length
    · rw [List.getElem?_append_left hi] at h
      obtain ⟨a, ws, h1, h2, h3⟩ := s.cell i ys h
      exact ⟨a, ws, e.get h1, by rw [upd_ne (ne_of_none h2 n)]; exact h2, h3.ext s.mu e⟩
    · rw [List.getElem?_append_right (by omega)] at h
      have hz : i - st.length = 0 := by
        rcases Nat.eq_zero_or_pos (i - st.length) with z | z
        · exact z
        · rw [List.getElem?_eq_none (show [Cell.lst xs].length ≤ _ by simpa using Nat.succ_le_of_lt z)] at h
          cases h
      rw [hz] at h
      have q : xs = ys := by simpa using h
      subst q
      refine ⟨p, vs, ?_, upd_same, r.ext s.mu e⟩
      have hi2 : i = L.length := by rw [s.len]; omega
      rw [hi2]
      simp
  · by_cases hi : i < L.length
    · rw [List.getElem?_append_left hi] at h
      exact s.new i a hk h
    · rw [List.getElem?_append_right (by omega)] at h
      have q : a = p := by
        have := List.mem_of_getElem? h
        simpa using this
      rw [q]
      exact s.h0 p n
/-- a list of ours is changed -/
theorem RpS.ext_put (s : RpS C L H st) {n : Nat} {a : Addr} {o : HO} (h : L[n]? = some a) : Ext H L (upd H a o) L :=
  ⟨fun b u q m => by
    rw [upd_ne (fun z => m (by rw [z]; exact RpS.get_mem h))]
    exact q, fun b q => by
    by_cases e : b = a
    · rw [e, upd_same] at q
      cases q
    · rw [upd_ne e] at q
      exact q, ⟨[], by simp, by simp⟩⟩
theorem nodup_at {L : List Addr} (nd : L.Nodup) {i j : Nat} {a : Addr} (h : L[i]? = some a) (h' : L[j]? = some a) : i = j := by
  obtain ⟨h1, e1⟩ := List.getElem?_eq_some_iff.mp h
  obtain ⟨h2, e2⟩ := List.getElem?_eq_some_iff.mp h'
  exact (List.getElem_inj nd).mp (e1.trans e2.symm)
theorem RpS.put (s : RpS C L H st) {n : Nat} {a : Addr} {vs : List V} {xs : List D} (h : L[n]? = some a) (r : RpL C L H vs xs) : RpS C L (upd H a (.lst vs)) (st.set n (.lst xs)) := by
  have e : Ext H L (upd H a (.lst vs)) L := s.ext_put h
  refine ⟨s.nd, by rw [List.length_set]; exact s.len, fun b m => ?_, fun i ys q => ?_, fun b q => s.h0 b (e.tr b q), s.new⟩
  · by_cases z : b = a
    · rw [z]
      exact ⟨vs, upd_same⟩
    · obtain ⟨ws, q⟩ := s.mu b m
      exact ⟨ws, by rw [upd_ne z]; exact q⟩
  · by_cases z : i = n
    · subst z
      have hl : i < st.length := by rw [← s.len]; exact (List.getElem?_eq_some_iff.mp h).1
      rw [List.getElem?_set_self hl] at q
      have q2 : xs = ys := by simpa using q
      subst q2
      exact ⟨a, vs, h, upd_same, r.ext s.mu e⟩
    · rw [List.getElem?_set_ne (fun w => z w.symm)] at q
      obtain ⟨b, ws, h1, h2, h3⟩ := s.cell i ys q
      refine ⟨b, ws, h1, ?_, h3.ext s.mu e⟩
      rw [upd_ne fun w => z (nodup_at s.nd (by rw [w] at h1; exact h1) h)]
      exact h2

/-! what is behind a value -/
theorem lst_of (s : RpS C L H st) {v : V} {d : D} {xs : List D} (r : Rp C L H v d) (h : lstOf d st = some xs) : ∃ a vs, v = .ref a ∧ SqL C.K H a vs ∧ RpL C L H vs xs := by
  cases r with
  | rls h1 h2 h3 h4 =>
    have e : _ = xs := Option.some.inj h
    subst e
    exact ⟨_, _, rfl, SqL.of h1, h4⟩
  | wls h1 h2 =>
    have e : _ = xs := Option.some.inj h
    subst e
    exact ⟨_, _, rfl, h1.sq, h2⟩
  | @ref a n h1 =>
    have h' : (match st[n]? with | some (.lst xs) => some xs | _ => none) = some xs := h
    split at h'
    · rename_i q
      cases h'
      obtain ⟨b, vs, e1, e2, e3⟩ := s.cell n _ q
      rw [h1] at e1
      cases e1
      exact ⟨_, _, rfl, SqL.of e2, e3⟩
    · cases h'
  | _ => cases h
theorem trk_of (s : RpS C L H st) {v : V} {d : D} {xs : List D} (r : Rp C L H v d) (h : trkOf d st = some xs) : ∃ a vs, v = .ref a ∧ H a = some (.lst vs) ∧ RpL C L H vs xs := by
  cases r with
  | rls h1 h2 h3 h4 =>
    have e : _ = xs := Option.some.inj h
    subst e
    exact ⟨_, _, rfl, h1, h4⟩
  | @ref a n h1 =>
    have h' : (match st[n]? with | some (.lst xs) => some xs | _ => none) = some xs := h
    split at h'
    · rename_i q
      cases h'
      obtain ⟨b, vs, e1, e2, e3⟩ := s.cell n _ q
      rw [h1] at e1
      cases e1
      exact ⟨_, _, rfl, e2, e3⟩
    · cases h'
  | _ => cases h
theorem seq_of (s : RpS C L H st) {v : V} {d : D} {xs : List D} (r : Rp C L H v d) (h : seqOf d st = some xs) : ∃ a vs, v = .ref a ∧ (SqL C.K H a vs ∨ SqT C.K H a vs) ∧ RpL C L H vs xs := by
  cases r with
  | tup h1 h2 =>
    have e : _ = xs := Option.some.inj h
    subst e
    exact ⟨_, _, rfl, .inr h1.sq, h2⟩
  | rls h1 h2 h3 h4 =>
    obtain ⟨a, vs, e, q, r⟩ := lst_of s (.rls h1 h2 h3 h4) (show lstOf _ st = some xs from h)
    exact ⟨a, vs, e, .inl q, r⟩
  | wls h1 h2 =>
    obtain ⟨a, vs, e, q, r⟩ := lst_of s (.wls h1 h2) (show lstOf _ st = some xs from h)
    exact ⟨a, vs, e, .inl q, r⟩
  | ref h1 =>
    obtain ⟨a, vs, e, q, r⟩ := lst_of s (.ref h1) (show lstOf _ st = some xs from h)
    exact ⟨a, vs, e, .inl q, r⟩
  | _ => cases h
/-! the data -/
mutual
theorem dp_of {g : Nat → Option (List PyData)} (hg : ∀ n a ps, L[n]? = some a → g n = some ps → ∃ vs, SqL C.K H a vs ∧ DpAll C.K H vs ps) : ∀ {v : V} {d : D} {p : PyData}, Rp C L H v d → d.toP g = some p → Dp C.K H v p
  | _, _, p, .non, h => by
    rw [D.toP] at h
    cases h
    exact .non
  | _, _, p, .bl b, h => by
    rw [D.toP] at h
    cases h
    exact .bl b
  | _, _, p, .int b, h => by
    rw [D.toP] at h
    cases h
    exact .int b
  | _, _, p, .str b, h => by
    rw [D.toP] at h
    cases h
    exact .str b
  | _, .tup ds, p, .tup h1 h2, h => by
    rw [D.toP] at h
    cases q : D.toPs g ds with
    | none =>
      rw [q] at h
      cases h
    | some ps =>
      rw [q] at h
      cases h
      exact .tup h1.sq (dps_of hg h2 q)
  | _, .tpw ds, p, .tpw h1 h2, h => by
    rw [D.toP] at h
    cases q : D.toPs g ds with
    | none =>
      rw [q] at h
      cases h
    | some ps =>
      rw [q] at h
      cases h
      exact .tup h1 (dps_of hg h2 q)
  | _, .rls f ds, p, .rls h1 h2 h3 h4, h => by
    rw [D.toP] at h
    cases q : D.toPs g ds with
    | none =>
      rw [q] at h
      cases h
    | some ps =>
      rw [q] at h
      cases h
      exact .lst (SqL.of h1) (dps_of hg h4 q)
  | _, .wls ds, p, .wls h1 h2, h => by
    rw [D.toP] at h
    cases q : D.toPs g ds with
    | none =>
      rw [q] at h
      cases h
    | some ps =>
      rw [q] at h
      cases h
      exact .lst h1.sq (dps_of hg h2 q)
  | _, .ref n, p, .ref h1, h => by
    rw [D.toP] at h
    cases q : g n with
    | none =>
      rw [q] at h
      cases h
    | some ps =>
      rw [q] at h
      cases h
      obtain ⟨vs, a, b⟩ := hg n _ ps h1 q
      exact .lst a b
theorem dps_of {g : Nat → Option (List PyData)} (hg : ∀ n a ps, L[n]? = some a → g n = some ps → ∃ vs, SqL C.K H a vs ∧ DpAll C.K H vs ps) : ∀ {vs : List V} {ds : List D} {ps : List PyData}, RpL C L H vs ds → D.toPs g ds = some ps → DpAll C.K H vs ps
  | _, _, ps, .nil, h => by
    rw [D.toPs] at h
    cases h
    exact .nil
  | _, d :: ds, ps, .cons h1 h2, h => by
    rw [D.toPs] at h
    cases q : D.toP g d with
    | none =>
      rw [q] at h
      cases h
    | some p =>
      cases q' : D.toPs g ds with
      | none =>
        rw [q, q'] at h
        cases h
      | some ps' =>
        rw [q, q'] at h
        cases h
        exact .cons (dp_of hg h1 q) (dps_of hg h2 q')
end
theorem cellP_ok (s : RpS C L H st) : ∀ m n a ps, L[n]? = some a → cellP m st n = some ps → ∃ vs, SqL C.K H a vs ∧ DpAll C.K H vs ps := by
  intro m
  induction m with
  | zero =>
    intro n a ps _ h
    cases h
  | succ m ih =>
    intro n a ps hL h
    unfold cellP at h
    split at h
    · rename_i ds q
      obtain ⟨b, vs, e1, e2, e3⟩ := s.cell n ds q
      rw [hL] at e1
      cases e1
      exact ⟨vs, SqL.of e2, dps_of ih e3 h⟩
    · cases h
theorem pd_of (s : RpS C L H st) {v : V} {d : D} {p : PyData} (r : Rp C L H v d) (h : pd st d = some p) : Dp C.K H v p := dp_of (cellP_ok s 6) r h
end

/-! ### outcomes -/
/-! an exception that flies: its class, its dict -/
structure Glob where
  P : Program
  w : World
  K : PySem.W.Frag
  mg : Str → Option Value
  xc : Str → Option Addr
def RpF (C : Cf) (H : Hp) : List (Str × V) → List (Str × D) → Prop := Paired fun p q => p.1 = q.1 ∧ Rp C [] H p.2 q.2
def RpX (G : Glob) (C : Cf) (H : Hp) (cls : Value) (od : Option Addr) (x : Exn) : Prop :=
  x.imm = true ∧ ∃ c d vfs, G.xc x.cls = some c ∧ cls = .ref c ∧ od = some d ∧ H d = some (.xd vfs) ∧ RpF C H vfs x.fs
/-- the outcome r of code that begins at L, H, with what is wanted -/
def Out {α β : Type} (G : Glob) (C : Cf) (W : WX) (σ : L2.St) (L : List Addr) (H : Hp) (rel : List Addr → Hp → β → α → Prop) (r : R α) (Q : β → Hp → Prop) : Prop := match r with
  | .ok a st => ∀ (v : β) (H' : Hp) (L' : List Addr), Ext H L H' L' → RpS C L' H' st → rel L' H' v a → Q v H'
  | .ex x st => ∀ (cls : Value) (od : Option Addr) (H' : Hp) (L' : List Addr), Ext H L H' L' → RpS C L' H' st → RpX G C H' cls od x → W cls od σ H'
  | .bad => False
section
variable {α β γ δ : Type} {G : Glob} {C : Cf} {W : WX} {σ : L2.St} {L L1 : List Addr} {H H1 : Hp} {rel : List Addr → Hp → β → α → Prop} {rel2 : List Addr → Hp → δ → γ → Prop}
theorem Out.shift {r : R α} {Q : β → Hp → Prop} (e : Ext H L H1 L1) (h : Out G C W σ L H rel r Q) : Out G C W σ L1 H1 rel r Q := by
  cases r with
  | ok a st => exact fun v H' L' e' => h v H' L' (e.trans e')
  | ex x st => exact fun c o H' L' e' => h c o H' L' (e.trans e')
  | bad => exact h
theorem Out.bnd {r : R α} {f : α → Sto → R γ} {Q : δ → Hp → Prop} (h : Out G C W σ L H rel2 (r.bind f) Q) {Q1 : β → Hp → Prop}
    (hk : ∀ a st1 x H1 L1, Ext H L H1 L1 → RpS C L1 H1 st1 → rel L1 H1 x a → Out G C W σ L1 H1 rel2 (f a st1) Q → Q1 x H1) : Out G C W σ L H rel r Q1 := by
  cases r with
  | ok a st =>
    intro v H' L' e s q
    exact hk a st v H' L' e s q (Out.shift e (show Out G C W σ L H rel2 (f a st) Q from h))
  | ex x st => exact h
  | bad => exact h
theorem Out.imp {r : R α} {Q Q' : β → Hp → Prop} (h : Out G C W σ L H rel r Q) (k : ∀ v H', Q v H' → Q' v H') : Out G C W σ L H rel r Q' := by
  cases r with
  | ok a st => exact fun v H' L' e s q => k v H' (h v H' L' e s q)
  | ex x st => exact h
  | bad => exact h
/-- it is there now -/
theorem Out.now {a : α} {st : Sto} {Q : β → Hp → Prop} (h : Out G C W σ L H rel (.ok a st) Q) (s : RpS C L H st) {v : β} (q : rel L H v a) : Q v H := h v H L (Ext.refl H L) s q
end
def relE {α : Type} : List Addr → Hp → α → α → Prop := fun _ _ a b => a = b
end PV

set_option maxHeartbeats 2000000
/-! new tuples, known to the object -/
namespace PV
open PySem PySem.Spec PyProof.Rows L2
def NewT (H : Hp) (xs : List V) (Q : VK) : Prop := ∀ p o, H p = none → o.cls = .type "tuple" → o.dict = none → Q (.ref p) (upd H p (.frz o (.tup xs)))
section
variable {X : Cx}
abbrev tupO (us : List Value) : Obj := { cls := .type "tuple", data := .seq us.toArray }
theorem laidT {pins : List (Addr × Obj)} {σ : L2.St} {H : Hp} {s : Shared} {xs : List V} {us : List Value} {Q : VK} (I : Inv X pins σ H s) (r : Vals xs us) (hz : xs.length ≤ sizeLine) (q : NewT H xs Q) :
    EP X pins σ Q (.ref s.heap.objs.size) { s with heap := s.heap.push (tupO us) } := by
  have at_ : (s.heap.push (tupO us)).get? s.heap.objs.size = some (tupO us) := Heap.get?_push_size _ rfl
  refine ⟨.ref s.heap.objs.size, upd H s.heap.objs.size (.frz (tupO us) (.tup xs)), I.laid (t' := s.toks) (fun b o z => Heap.get?_push_of_some _ z) (Nat.le_refl _) ?_, rfl, q _ _ (I.hok.fresh (Nat.le_refl _)) rfl rfl⟩
  exact ⟨at_, hz, us, r, IsTup.new _ _⟩
/-! (e, ..) -/
def tTupF (t : TA) : TE := fun σ H Q => t σ H fun xs H1 => xs.length ≤ sizeLine ∧ NewT H1 xs Q
theorem pe_tupF {es : List Expr} {t : TA} {c} {pos : Pos} (h : PA X es t) : PE X (.Tuple es c pos) (tTupF t) := by
  constructor
  intro pins s σ H Q I hq
  refine wpAny_Tuple_spliced (thn (h.run pos pins s σ H _ I hq) fun us s1 ⟨xs, H1, I1, r, z, q⟩ => ⟨by rw [← r.length]; exact z, ?_⟩)
  exact laidT I1 r z q
/-! t + u -/
def rCatF (K : PySem.W.Frag) : R2 := fun x y H Q => ∃ a b xs ys, x = .ref a ∧ y = .ref b ∧ SqT K H a xs ∧ SqT K H b ys ∧ xs.length + ys.length ≤ sizeLine ∧
  (xs = [] → Q (.ref b) H) ∧ (xs ≠ [] → ys = [] → Q (.ref a) H) ∧ (xs ≠ [] → ys ≠ [] → NewT H (xs ++ ys) Q)
theorem op_catF : OpR X (binaryOp .Add) (rCatF X.K) := by
  intro pins s σ H x y v u Q I rx ry h
  obtain ⟨a, b, xs, ys, ex, ey, ha, hb, hz, q0, q1, q2⟩ := h
  subst ex
  subst ey
  cases rx
  cases ry
  obtain ⟨its, r1, p1, _⟩ := I.tuple ha
  obtain ⟨its2, r2, p2, _⟩ := I.tuple hb
  have l1 := r1.length
  have l2 := r2.length
  cases its with
  | nil =>
    have e : xs = [] := List.length_eq_zero_iff.mp (by simpa using l1)
    exact cat_tup0 p1 p2 ⟨.ref b, H, I, rfl, q0 e⟩
  | cons w ws =>
    have ne : xs ≠ [] := fun e => by
      rw [e] at l1
      simp at l1
    refine HT.cat_tup p1 p2 (by simp) (fun e => ?_) (fun e => ?_) (by rw [← l1, ← l2]; exact hz)
    · rw [e] at l2
      exact ⟨.ref a, H, I, rfl, q1 ne (List.length_eq_zero_iff.mp (by simpa using l2))⟩
    · refine laidT I (r1.append r2) (by rw [List.length_append]; exact hz) (q2 ne fun z => e ?_)
      rw [z] at l2
      exact List.length_eq_zero_iff.mp (by simpa using l2.symm)
/-! t[lo:hi] -/
def rSlF (K : PySem.W.Frag) : V → Option Int → Option Int → Hp → VK → Prop := fun x lo hi H Q => ∃ a xs, x = .ref a ∧ SqT K H a xs ∧
  (HT.sIx xs.length 0 lo = 0 ∧ HT.sIx xs.length xs.length hi = xs.length → Q (.ref a) H) ∧ (¬ (HT.sIx xs.length 0 lo = 0 ∧ HT.sIx xs.length xs.length hi = xs.length) → NewT H (cutV xs lo hi) Q)
theorem sl_tupF : SlR X (rSlF X.K) := by
  intro pins s σ H x v vl vu lo hi sl Q I rx hs pl pu h
  obtain ⟨a, xs, ex, hx, q1, q2⟩ := h
  subst ex
  cases rx
  obtain ⟨its, r, ht, hz⟩ := I.tuple hx
  have size : its.toArray.size = xs.length := by
    rw [List.size_toArray]
    exact r.length.symm
  refine ⟨"tuple", _, slot_tuple_getitem.lookup, ht.typeIs, ?_⟩
  by_cases whole : HT.sIx xs.length 0 lo = 0 ∧ HT.sIx xs.length xs.length hi = xs.length
  · exact getItem_tuple_whole ht hs pl pu (by rw [size]; exact whole) ⟨.ref a, H, I, rfl, q1 whole⟩
  · refine HT.getItem_tuple_cut ht hs pl pu (by rw [size]; exact whole) ?_ (by rw [size]; exact hz)
    rw [size]
    exact laidT I ((r.drop (HT.sIx xs.length 0 lo)).take (HT.sIx xs.length xs.length hi - HT.sIx xs.length 0 lo)) (Nat.le_trans (cutV_length xs lo hi) hz) (q2 whole)
/-! tuple(xs) -/
def rTupleF (K : PySem.W.Frag) : List V → Hp → VK → Prop := fun vs H Q => ∃ p ys, vs = [.ref p] ∧ ((SqL K H p ys ∧ NewT H ys Q) ∨ (SqT K H p ys ∧ Q (.ref p) H))
theorem call_tupleF : CallR X (.type "tuple") (rTupleF X.K) := by
  intro pins s σ H vs us Q I r h
  obtain ⟨p, ys, e, h⟩ := h
  subst e
  obtain ⟨u, rfl, rx⟩ := vals1 r
  cases rx
  rcases h with ⟨hq, q⟩ | ⟨hq, q⟩
  · obtain ⟨its, r2, pl, hz⟩ := I.list hq
    have len := r2.length
    refine call_tuple_list pl.isList (fun h2 kp => ?_) (by simp only [List.size_toArray] <;> omega)
    exact laidT (s := { s with heap := h2 }) (I.kept (t' := s.toks) kp) r2 hz q
  · obtain ⟨its, r2, pl, hz⟩ := I.tuple hq
    exact call_tuple_same pl ⟨.ref p, H, I, rfl, q⟩
/-! tuple(range(..)) -/
def tTupRgF (te : L2.St → Hp → (Int → Int → Hp → Prop) → Prop) : TE := fun σ H Q => te σ H fun a b H1 => RgOk a b ∧ NewT H1 (rgV a b) Q
theorem pe_tupRgF {e : Expr} {te : L2.St → Hp → (Int → Int → Hp → Prop) → Prop} {p pos : Pos} (hc : X.calm = true) (hg : Gl X "tuple") (hm : X.mg "tuple" = none) (he : PRg X e te) (na : starEach [e] X.env = (false, eval e X.env) :: starEach [] X.env) : PE X (.Call (.Name "tuple" p) [e] [] pos) (tTupRgF te) := by
  constructor
  intro pins s σ H Q I h
  refine Call_ (ld_blt I hg hm boot_tuple (PyProof.Rows.callWith_type1 (args_cons (thn (he pins s σ H _ I h) fun x s1 hh => args_nil ?_) na) na))
  obtain ⟨r, a, b, t, u, v, H1, ex, hr, I1, ok, q⟩ := hh
  subst ex
  obtain ⟨b1, b2, b3, b4, b5⟩ := ok
  refine call_tuple_range (n := (b - a).toNat) (I1.ok.hd hc) hr (small_one b1 b2 b3 b4) (rangeSize_nat a b) b5 (fun h2 tk acc hk hi => ?_)
  have I2 : Inv X pins σ H1 { s1 with heap := h2, toks := tk } := I1.kept hk
  have go := laidT (us := acc.toList) I2 (vals_rg hi) (by rw [rgV_length, sizeLine_eq]; omega) q
  exact go
end
end PV

set_option maxHeartbeats 1000000
/-! one rule a construct: expressions -/
namespace PV
open PySem PySem.Spec PyProof.Rows L2

structure Sx where
  G : Glob
  base : Heap
  k : Nat
  N : List Str
  sc : Scope
  df : Bool
structure Sta (S : Sx) (X : Cx) : Prop where
  N : X.N = S.N
  sc : X.env.scope = S.sc
  mg : X.mg = S.G.mg
  K : X.K = S.G.K
  P : X.prog = S.G.P
  w : X.w = S.G.w
  base : X.base = S.base
  calm : X.calm = true
  room : Room S.k X.A
  gd : X.A.guards = some []
  fn : S.df = true → ∀ x, X.fn x = true
structure DE (S : Sx) (W : WX) (e : Expr) (f : FE) : Prop where
  ex : ∃ t : TE, (∀ X, Sta S X → Takes X W → PE X e t) ∧ ∀ (C : Cf) (L : List Addr) (σ : L2.St) (H : Hp) (ρ : En) (st : Sto) (Q : VK), C.K = S.G.K → RpS C L H st → RpE C L H σ ρ → Out S.G C W σ L H (Rp C) (f ρ st) Q → t σ H Q
structure DT (S : Sx) (W : WX) (e : Expr) (f : FT) : Prop where
  ex : ∃ t : TT, (∀ X, Sta S X → Takes X W → PT X e t) ∧ ∀ (C : Cf) (L : List Addr) (σ : L2.St) (H : Hp) (ρ : En) (st : Sto) (Q : Bool → Hp → Prop), C.K = S.G.K → RpS C L H st → RpE C L H σ ρ → Out S.G C W σ L H relE (f ρ st) Q → t σ H Q
structure DW (S : Sx) (W : WX) (e : Expr) (f : FT) : Prop where
  ex : ∃ t : TT, (∀ X, Sta S X → Takes X W → PW X e t) ∧ ∀ (C : Cf) (L : List Addr) (σ : L2.St) (H : Hp) (ρ : En) (st : Sto) (Q : Bool → Hp → Prop), C.K = S.G.K → RpS C L H st → RpE C L H σ ρ → Out S.G C W σ L H relE (f ρ st) Q → t σ H Q
structure DA (S : Sx) (W : WX) (es : List Expr) (f : FA) : Prop where
  ex : ∃ t : TA, (∀ X, Sta S X → Takes X W → PA X es t) ∧ ∀ (C : Cf) (L : List Addr) (σ : L2.St) (H : Hp) (ρ : En) (st : Sto) (Q : List V → Hp → Prop), C.K = S.G.K → RpS C L H st → RpE C L H σ ρ → Out S.G C W σ L H (RpL C) (f ρ st) Q → t σ H Q
structure DO (S : Sx) (W : WX) (e : Option Expr) (f : FO) : Prop where
  ex : ∃ t : TO, (∀ X, Sta S X → Takes X W → PO X e t) ∧ ∀ (C : Cf) (L : List Addr) (σ : L2.St) (H : Hp) (ρ : En) (st : Sto) (Q : Option Int → Hp → Prop), C.K = S.G.K → RpS C L H st → RpE C L H σ ρ → Out S.G C W σ L H relE (f ρ st) Q → t σ H Q

section
variable {S : Sx} {W : WX}
def VisB (sc : Scope) (x : Str) : Bool := match sc.names.lookup x with
  | some .local => true
  | some .cell => true
  | some .free => true
  | _ => false
theorem vis_of {sc : Scope} {x : Str} (h : VisB sc x = true) : Vis sc x := by
  unfold VisB at h
  unfold Vis
  split at h
  · exact .inl (by assumption)
  · exact .inr (.inl (by assumption))
  · exact .inr (.inr (by assumption))
  · cases h
theorem de_slot (i : Nat) {x : Str} {pos : Pos} (hN : S.N[i]? = some x := by rfl) (hv : VisB S.sc x = true := by rfl) (hd : (x == ("__debug__" : Str)) = false := by decide) (hcd : (x == ("__classdict__" : Str)) = false := by decide) :
    DE S W (.Name x pos) (eSlot i) := by
  refine ⟨tVar i, fun X s _ => pe_var (by rw [s.N]; exact hN) (by rw [s.sc]; exact vis_of hv) hd hcd, fun C L σ H ρ st Q _ hs he h => ?_⟩
  unfold eSlot at h
  split at h
  · rename_i d e
    obtain ⟨v, a, b⟩ := he.at_ i d e
    exact ⟨v, a, h.now hs b⟩
  · exact h.elim
theorem de_int {i : Int} {j pos} : DE S W (.Constant (.int i) j pos) (eC (.int i)) := ⟨_, fun _ _ _ => pe_int, fun _ _ _ _ _ _ _ _ hs _ h => h.now hs (.int i)⟩
theorem de_bl {b : Bool} {j pos} : DE S W (.Constant (.bool b) j pos) (eC (.bl b)) := ⟨_, fun _ _ _ => pe_bl, fun _ _ _ _ _ _ _ _ hs _ h => h.now hs (.bl b)⟩
theorem de_non {j pos} : DE S W (.Constant .none j pos) (eC .non) := ⟨_, fun _ _ _ => pe_non, fun _ _ _ _ _ _ _ _ hs _ h => h.now hs .non⟩
theorem de_str {x : Str} {j pos} : DE S W (.Constant (.str x) j pos) (eC (.str x)) := ⟨_, fun _ _ _ => pe_str, fun _ _ _ _ _ _ _ _ hs _ h => h.now hs (.str x)⟩
def GlB (sc : Scope) (x : Str) : Bool := match sc.names.lookup x with
  | some .globalImplicit => true
  | _ => false
theorem gl_of {X : Cx} {x : Str} (s : Sta S X) (h : GlB S.sc x = true) : Gl X x := by
  unfold GlB at h
  unfold Gl Env.kindOf
  rw [s.sc]
  split at h
  · assumption
  · cases h
/-- a module's constant -/
theorem de_gint {x : Str} {i : Int} {t : Tok} {pos : Pos} (hg : GlB S.sc x = true) (hm : S.G.mg x = some (.int i t)) (hd : (x == ("__debug__" : Str)) = false := by decide) : DE S W (.Name x pos) (eC (.int i)) :=
  ⟨_, fun X s _ => pe_glob (v := .int i) (gl_of s hg) (by rw [s.mg]; exact hm) ⟨t, rfl⟩ hd, fun _ _ _ _ _ _ _ _ hs _ h => h.now hs (.int i)⟩
theorem de_gstr {x : Str} {i : Str} {t : Tok} {pos : Pos} (hg : GlB S.sc x = true) (hm : S.G.mg x = some (.str i t)) (hd : (x == ("__debug__" : Str)) = false := by decide) : DE S W (.Name x pos) (eC (.str i)) :=
  ⟨_, fun X s _ => pe_glob (v := .str i) (gl_of s hg) (by rw [s.mg]; exact hm) ⟨t, rfl⟩ hd, fun _ _ _ _ _ _ _ _ hs _ h => h.now hs (.str i)⟩

/-! operators -/
def Sn2 (G : Glob) (r : R2) (f : D → D → Sto → R D) : Prop := ∀ (C : Cf) (W : WX) (σ : L2.St) (L : List Addr) (H : Hp) (st : Sto) (x y : V) (c d : D) (Q : VK), C.K = G.K → RpS C L H st → Rp C L H x c → Rp C L H y d → Out G C W σ L H (Rp C) (f c d st) Q → r x y H Q
def Sn1 (G : Glob) (r : V → Hp → VK → Prop) (f : D → Sto → R D) : Prop := ∀ (C : Cf) (W : WX) (σ : L2.St) (L : List Addr) (H : Hp) (st : Sto) (x : V) (c : D) (Q : VK), C.K = G.K → RpS C L H st → Rp C L H x c → Out G C W σ L H (Rp C) (f c st) Q → r x H Q
def SnA (G : Glob) (r : List V → Hp → VK → Prop) (f : List D → Sto → R D) : Prop := ∀ (C : Cf) (W : WX) (σ : L2.St) (L : List Addr) (H : Hp) (st : Sto) (xs : List V) (cs : List D) (Q : VK), C.K = G.K → RpS C L H st → RpL C L H xs cs → Out G C W σ L H (Rp C) (f cs st) Q → r xs H Q
theorem tOp_ok {r : R2} {f : D → D → Sto → R D} (sn : Sn2 S.G r f) {ta tb : TE} {fa fb : FE}
    (sa : ∀ (C : Cf) (L : List Addr) (σ : L2.St) (H : Hp) (ρ : En) (st : Sto) (Q : VK), C.K = S.G.K → RpS C L H st → RpE C L H σ ρ → Out S.G C W σ L H (Rp C) (fa ρ st) Q → ta σ H Q)
    (sb : ∀ (C : Cf) (L : List Addr) (σ : L2.St) (H : Hp) (ρ : En) (st : Sto) (Q : VK), C.K = S.G.K → RpS C L H st → RpE C L H σ ρ → Out S.G C W σ L H (Rp C) (fb ρ st) Q → tb σ H Q)
    (C : Cf) (L : List Addr) (σ : L2.St) (H : Hp) (ρ : En) (st : Sto) (Q : VK) (hK : C.K = S.G.K) (hs : RpS C L H st) (he : RpE C L H σ ρ) (h : Out S.G C W σ L H (Rp C) (e2 f fa fb ρ st) Q) : tOp r ta tb σ H Q := by
  refine sa C L σ H ρ st _ hK hs he (Out.bnd h fun c st1 x H1 L1 e1 s1 r1 h1 => ?_)
  refine sb C L1 σ H1 ρ st1 _ hK s1 (he.ext hs.mu e1) (Out.bnd h1 fun d st2 y H2 L2 e2 s2 r2 h2 => ?_)
  exact sn C W σ L2 H2 st2 x y c d Q hK s2 (r1.ext s1.mu e2) r2 h2
theorem de_bin {op : Operator} {r : R2} {f : D → D → Sto → R D} {a b : Expr} {fa fb : FE} {pos : Pos} (ho : ∀ X, Sta S X → OpR X (binaryOp op) r) (sn : Sn2 S.G r f) (ha : DE S W a fa) (hb : DE S W b fb) : DE S W (.BinOp a op b pos) (e2 f fa fb) := by
  obtain ⟨ta, pa, sa⟩ := ha
  obtain ⟨tb, pb, sb⟩ := hb
  exact ⟨tOp r ta tb, fun X s t => pe_op (ho X s) (pa X s t) (pb X s t), tOp_ok sn sa sb⟩
theorem de_cmp {op : CmpOp} {r : R2} {f : D → D → Sto → R D} {a b : Expr} {fa fb : FE} {pos : Pos} (ho : ∀ X, Sta S X → OpR X (compareOp op) r) (sn : Sn2 S.G r f) (hm : behindInMarks op b = false) (ha : DE S W a fa) (hb : DE S W b fb) : DE S W (.Compare a [op] [b] pos) (e2 f fa fb) := by
  obtain ⟨ta, pa, sa⟩ := ha
  obtain ⟨tb, pb, sb⟩ := hb
  exact ⟨tOp r ta tb, fun X s t => pe_cmpR (ho X s) (pa X s t) (pb X s t) hm, tOp_ok sn sa sb⟩
theorem de_ix {r : R2} {f : D → D → Sto → R D} {a b : Expr} {fa fb : FE} {pos : Pos} (ho : ∀ X, Sta S X → IxR X r) (sn : Sn2 S.G r f) (hp : PlainIx b) (ha : DE S W a fa) (hb : DE S W b fb) : DE S W (.Subscript a b pos) (e2 f fa fb) := by
  obtain ⟨ta, pa, sa⟩ := ha
  obtain ⟨tb, pb, sb⟩ := hb
  exact ⟨tOp r ta tb, fun X s t => pe_ix (ho X s) (pa X s t) (pb X s t) hp, tOp_ok sn sa sb⟩
theorem de_un {op : UnaryOp} {r : V → Hp → VK → Prop} {f : D → Sto → R D} {a : Expr} {fa : FE} {pos : Pos} (ho : ∀ X, Sta S X → UnR X (unaryOp op) r) (sn : Sn1 S.G r f) (ha : DE S W a fa) : DE S W (.UnaryOp op a pos) (e1 f fa) := by
  obtain ⟨ta, pa, sa⟩ := ha
  refine ⟨tUn r ta, fun X s t => pe_un (ho X s) (pa X s t), fun C L σ H ρ st Q hK hs he h => ?_⟩
  exact sa C L σ H ρ st _ hK hs he (Out.bnd h fun c st1 x H1 L1 e1 s1 r1 h1 => sn C W σ L1 H1 st1 x c Q hK s1 r1 h1)
/-- a fact of one context, said of the text's own -/
theorem op_or {f : Value → Value → Sem Value} {r r' : R2} (h : ∀ X, Sta S X → OpR X f r) (h' : ∀ X, Sta S X → OpR X f r') : ∀ X, Sta S X → OpR X f fun x y H Q => r x y H Q ∨ r' x y H Q := fun X s => (h X s).or (h' X s)

theorem line_eq : (sizeLine : Nat) = line := sizeLine_eq
theorem rp_new {C : Cf} {L : List Addr} {H : Hp} {st : Sto} (s : RpS C L H st) (p : Addr) (H' : Hp) : Rp C (L ++ [p]) H' (.ref p) (.ref st.length) := .ref (by rw [← s.len]; simp)
/-- a new list -/
theorem out_new {G : Glob} {C : Cf} {σ : L2.St} {L : List Addr} {H : Hp} {st : Sto} {vs : List V} {xs : List D} {Q : VK} (s : RpS C L H st) (r : RpL C L H vs xs) (h : Out G C W σ L H (Rp C) (newLst xs st) Q) (p : Addr) (n : H p = none) : Q (.ref p) (upd H p (.lst vs)) :=
  h _ _ _ (s.ext_made n) (s.made n r) (rp_new s p _)
/-- a new tuple -/
theorem out_tup {G : Glob} {C : Cf} {σ : L2.St} {L : List Addr} {H : Hp} {st : Sto} {vs : List V} {xs : List D} {Q : VK} (s : RpS C L H st) (r : RpL C L H vs xs) (h : Out G C W σ L H (Rp C) (.ok (.tup xs) st) Q) : NewT H vs Q :=
  fun p o n c d => h _ _ _ (s.ext_new n) (s.laid n) (.tup (.inl ⟨o, upd_same, c, d⟩) (r.ext s.mu (s.ext_new n)))

def rAddD (K : PySem.W.Frag) : R2 := fun x y H Q => rI0 (fun i j => .int (i + j)) x y H Q ∨ (∃ i j, x = .str i ∧ y = .str j ∧ i.length + j.length ≤ sizeLine ∧ Q (.str (i ++ j)) H) ∨ rCatF K x y H Q ∨ rCat x y H Q
theorem or_add : ∀ X, Sta S X → OpR X (binaryOp .Add) (rAddD S.G.K) := fun X s => op_add.or (op_add_str.or (OpR.or (by rw [← s.K]; exact op_catF) op_cat))
theorem RpL.nil_of {C : Cf} {L : List Addr} {H : Hp} {vs : List V} {ds : List D} (r : RpL C L H vs ds) (e : vs = []) : ds = [] := by
  subst e
  cases r
  rfl
theorem cat_ok {G : Glob} {C : Cf} {σ : L2.St} {L : List Addr} {H : Hp} {st : Sto} {x y : V} {a b : List D} {Q : VK} (hK : C.K = G.K) (s : RpS C L H st) (r1 : Rp C L H x (.tup a)) (r2 : Rp C L H y (.tup b)) (hz : a.length + b.length ≤ line)
    (h : Out G C W σ L H (Rp C) (.ok (.tup (a ++ b)) st) Q) : rCatF G.K x y H Q := by
  cases r1 with
  | tup t1 l1 =>
    cases r2 with
    | tup t2 l2 =>
      rw [hK] at t1 t2
      refine ⟨_, _, _, _, rfl, rfl, t1.sq, t2.sq, by rw [l1.len, l2.len, line_eq]; exact hz, fun e => ?_, fun _ e => ?_, fun _ _ => out_tup s (l1.append l2) h⟩
      · have ea := l1.nil_of e
        subst ea
        exact h.now s (.tup (hK ▸ t2) l2)
      · have eb := l2.nil_of e
        subst eb
        rw [List.append_nil] at h
        exact h.now s (.tup (hK ▸ t1) l1)
theorem sn_add : Sn2 S.G (rAddD S.G.K) dAdd := by
  intro C W σ L H st x y c d Q hK s r1 r2 h
  unfold dAdd at h
  split at h
  · cases r1
    cases r2
    exact .inl ⟨_, _, rfl, rfl, h.now s (.int _)⟩
  · cases r1
    cases r2
    split at h
    · rename_i hz
      exact .inr (.inl ⟨_, _, rfl, rfl, by rw [line_eq]; exact hz, h.now s (.str _)⟩)
    · exact h.elim
  · split at h
    · rename_i hz
      exact .inr (.inr (.inl (cat_ok hK s r1 r2 hz h)))
    · exact h.elim
  · split at h
    · rename_i a b e1 e2
      split at h
      · rename_i hz
        obtain ⟨p, vs, rfl, h1, l1⟩ := trk_of s r1 e1
        obtain ⟨q, ws, rfl, h2, l2⟩ := trk_of s r2 e2
        exact .inr (.inr (.inr ⟨p, q, vs, ws, rfl, rfl, h1, h2, by rw [l1.len, l2.len, line_eq]; exact hz, fun p n => out_new s (l1.append l2) h p n⟩))
      · exact h.elim
    · exact h.elim
theorem de_add {a b : Expr} {fa fb : FE} {pos : Pos} (ha : DE S W a fa) (hb : DE S W b fb) : DE S W (.BinOp a .Add b pos) (e2 dAdd fa fb) := de_bin or_add sn_add ha hb
theorem sn_sub : Sn2 S.G (rI0 fun i j => .int (i - j)) dSub := by
  intro C W σ L H st x y c d Q hK s r1 r2 h
  unfold dSub at h
  split at h
  · cases r1
    cases r2
    exact ⟨_, _, rfl, rfl, h.now s (.int _)⟩
  · exact h.elim
theorem de_sub {a b : Expr} {fa fb : FE} {pos : Pos} (ha : DE S W a fa) (hb : DE S W b fb) : DE S W (.BinOp a .Sub b pos) (e2 dSub fa fb) := de_bin (fun _ _ => op_sub) sn_sub ha hb
def rMulD : R2 := fun x y H Q => rI CMul (fun i j => .int (i * j)) x y H Q ∨ rRep x y H Q
theorem sn_mul : Sn2 S.G rMulD dMul := by
  intro C W σ L H st x y c d Q hK s r1 r2 h
  unfold dMul at h
  split at h
  · cases r1
    cases r2
    split at h
    · rename_i hz
      exact .inl ⟨_, _, rfl, rfl, hz, h.now s (.int _)⟩
    · exact h.elim
  · cases r2
    split at h
    · rename_i xs e1
      split at h
      · rename_i hz
        obtain ⟨p, vs, rfl, h1, l1⟩ := trk_of s r1 e1
        refine .inr ⟨p, _, vs, rfl, rfl, h1, by omega, by omega, by rw [l1.len, line_eq]; exact hz.2.2, fun p n => out_new s (l1.rep _) h p n⟩
      · exact h.elim
    · exact h.elim
  · exact h.elim
theorem de_mul {a b : Expr} {fa fb : FE} {pos : Pos} (ha : DE S W a fa) (hb : DE S W b fb) : DE S W (.BinOp a .Mult b pos) (e2 dMul fa fb) := de_bin (fun _ _ => op_mul.or op_rep) sn_mul ha hb
theorem sn_fdiv : Sn2 S.G (rI CDiv fun i j => .int (i / j)) dFdiv := by
  intro C W σ L H st x y c d Q hK s r1 r2 h
  unfold dFdiv at h
  split at h
  · cases r1
    cases r2
    split at h
    · rename_i hz
      exact ⟨_, _, rfl, rfl, hz, h.now s (.int _)⟩
    · exact h.elim
  · exact h.elim
theorem de_fdiv {a b : Expr} {fa fb : FE} {pos : Pos} (ha : DE S W a fa) (hb : DE S W b fb) : DE S W (.BinOp a .FloorDiv b pos) (e2 dFdiv fa fb) := de_bin (fun _ _ => op_fdiv) sn_fdiv ha hb
theorem sn_mod : Sn2 S.G (rI (fun _ j => 0 < j) fun i j => .int (i % j)) dMod := by
  intro C W σ L H st x y c d Q hK s r1 r2 h
  unfold dMod at h
  split at h
  · cases r1
    cases r2
    split at h
    · rename_i hz
      exact ⟨_, _, rfl, rfl, hz, h.now s (.int _)⟩
    · exact h.elim
  · exact h.elim
theorem de_mod {a b : Expr} {fa fb : FE} {pos : Pos} (ha : DE S W a fa) (hb : DE S W b fb) : DE S W (.BinOp a .Mod b pos) (e2 dMod fa fb) := de_bin (fun _ _ => op_mod) sn_mod ha hb
theorem sn_pow : Sn2 S.G (rI CPow fun i j => .int (i ^ j.toNat)) dPow := by
  intro C W σ L H st x y c d Q hK s r1 r2 h
  unfold dPow at h
  split at h
  · cases r1
    cases r2
    split at h
    · rename_i hz
      exact ⟨_, _, rfl, rfl, hz, h.now s (.int _)⟩
    · exact h.elim
  · exact h.elim
theorem de_pow {a b : Expr} {fa fb : FE} {pos : Pos} (ha : DE S W a fa) (hb : DE S W b fb) : DE S W (.BinOp a .Pow b pos) (e2 dPow fa fb) := de_bin (fun _ _ => op_pow) sn_pow ha hb
theorem sn_neg : Sn1 S.G (rU fun i => .int (-i)) dNeg := by
  intro C W σ L H st x c Q hK s r1 h
  unfold dNeg at h
  split at h
  · cases r1
    exact ⟨_, rfl, h.now s (.int _)⟩
  · exact h.elim
theorem de_neg {a : Expr} {fa : FE} {pos : Pos} (ha : DE S W a fa) : DE S W (.UnaryOp .USub a pos) (e1 dNeg fa) := de_un (fun _ _ => un_neg) sn_neg ha

/-! comparisons -/
theorem flat_sh {p : PyData} (h : flatP p = true) : SeqAt.shaped p = true := h
theorem dEqP_ok {C : Cf} {L : List Addr} {H : Hp} {st : Sto} {x y : V} {c d : D} {b : Bool} (s : RpS C L H st) (r1 : Rp C L H x c) (r2 : Rp C L H y d) (h : dEqP c d st = some b) : ∃ p q, Dp C.K H x p ∧ Dp C.K H y q ∧ flatP p = true ∧ flatP q = true ∧ b = p.eqv q := by
  unfold dEqP at h
  split at h
  · rename_i p q e1 e2
    split at h
    · rename_i hz
      rw [Bool.and_eq_true] at hz
      cases h
      exact ⟨p, q, pd_of s r1 e1, pd_of s r2 e2, hz.1, hz.2, rfl⟩
    · cases h
  · cases h
theorem dec_inj {a b : Int} : decide (V.int a = V.int b) = decide (a = b) := by simp
theorem dec_injS {a b : Str} : decide (V.str a = V.str b) = decide (a = b) := by simp
theorem sn_eq : Sn2 S.G (fun x y H Q => rEq x y H Q ∨ rEqD S.G.K x y H Q) dEq := by
  intro C W σ L H st x y c d Q hK s r1 r2 h
  unfold dEq at h
  split at h
  · cases r1
    cases r2
    exact .inl ⟨rfl, by rw [dec_inj]; exact h.now s (.bl _)⟩
  · cases r1
    cases r2
    exact .inl ⟨rfl, by rw [dec_injS]; exact h.now s (.bl _)⟩
  · split at h
    · rename_i b e
      obtain ⟨p, q, e1, e2, h1, h2, rfl⟩ := dEqP_ok s r1 r2 e
      exact .inr ⟨p, q, hK ▸ e1, hK ▸ e2, flat_sh h1, flat_sh h2, h.now s (.bl _)⟩
    · exact h.elim
theorem sn_ne : Sn2 S.G (fun x y H Q => rNe x y H Q ∨ rNeD S.G.K x y H Q) dNe := by
  intro C W σ L H st x y c d Q hK s r1 r2 h
  unfold dNe at h
  split at h
  · cases r1
    cases r2
    exact .inl ⟨rfl, by rw [dec_inj]; exact h.now s (.bl _)⟩
  · cases r1
    cases r2
    exact .inl ⟨rfl, by rw [dec_injS]; exact h.now s (.bl _)⟩
  · split at h
    · rename_i b e
      obtain ⟨p, q, e1, e2, h1, h2, rfl⟩ := dEqP_ok s r1 r2 e
      exact .inr ⟨p, q, hK ▸ e1, hK ▸ e2, flat_sh h1, flat_sh h2, h.now s (.bl _)⟩
    · exact h.elim
theorem or_eq : ∀ X, Sta S X → OpR X (compareOp .Eq) (fun x y H Q => rEq x y H Q ∨ rEqD S.G.K x y H Q) := fun X s => op_eq.or (by rw [← s.K]; exact op_eqD s.room.units)
theorem or_ne : ∀ X, Sta S X → OpR X (compareOp .NotEq) (fun x y H Q => rNe x y H Q ∨ rNeD S.G.K x y H Q) := fun X s => op_ne.or (by rw [← s.K]; exact op_neD s.room.units)
theorem de_eq {a b : Expr} {fa fb : FE} {pos : Pos} (ha : DE S W a fa) (hb : DE S W b fb) : DE S W (.Compare a [.Eq] [b] pos) (e2 dEq fa fb) := de_cmp or_eq sn_eq (nomark _) ha hb
theorem de_ne {a b : Expr} {fa fb : FE} {pos : Pos} (ha : DE S W a fa) (hb : DE S W b fb) : DE S W (.Compare a [.NotEq] [b] pos) (e2 dNe fa fb) := de_cmp or_ne sn_ne (nomark _) ha hb
theorem sn_cmp {g : Int → Int → Bool} : Sn2 S.G (rI0 fun i j => .bl (g i j)) (dCmp g) := by
  intro C W σ L H st x y c d Q hK s r1 r2 h
  unfold dCmp at h
  split at h
  · cases r1
    cases r2
    exact ⟨_, _, rfl, rfl, h.now s (.bl _)⟩
  · exact h.elim
theorem de_lt {a b : Expr} {fa fb : FE} {pos : Pos} (ha : DE S W a fa) (hb : DE S W b fb) : DE S W (.Compare a [.Lt] [b] pos) (e2 dLt fa fb) := de_cmp (fun _ _ => op_lt) sn_cmp (nomark _) ha hb
theorem de_le {a b : Expr} {fa fb : FE} {pos : Pos} (ha : DE S W a fa) (hb : DE S W b fb) : DE S W (.Compare a [.LtE] [b] pos) (e2 dLe fa fb) := de_cmp (fun _ _ => op_le) sn_cmp (nomark _) ha hb
theorem de_gt {a b : Expr} {fa fb : FE} {pos : Pos} (ha : DE S W a fa) (hb : DE S W b fb) : DE S W (.Compare a [.Gt] [b] pos) (e2 dGt fa fb) := de_cmp (fun _ _ => op_gt) sn_cmp (nomark _) ha hb
theorem de_ge {a b : Expr} {fa fb : FE} {pos : Pos} (ha : DE S W a fa) (hb : DE S W b fb) : DE S W (.Compare a [.GtE] [b] pos) (e2 dGe fa fb) := de_cmp (fun _ _ => op_ge) sn_cmp (nomark _) ha hb
theorem rp_non {C : Cf} {L : List Addr} {H : Hp} {x : V} {c : D} (r : Rp C L H x c) : decide (x = .non) = c.isNon := by
  cases r <;> rfl
theorem sn_isN : Sn2 S.G (fun x y H Q => y = .non ∧ Q (.bl (decide (x = .non))) H) dIsN := by
  intro C W σ L H st x y c d Q hK s r1 r2 h
  unfold dIsN at h
  split at h
  · cases r2
    exact ⟨rfl, by rw [rp_non r1]; exact h.now s (.bl _)⟩
  · exact h.elim
theorem sn_notN : Sn2 S.G (fun x y H Q => y = .non ∧ Q (.bl (!decide (x = .non))) H) dNotN := by
  intro C W σ L H st x y c d Q hK s r1 r2 h
  unfold dNotN at h
  split at h
  · cases r2
    exact ⟨rfl, by rw [rp_non r1]; exact h.now s (.bl _)⟩
  · exact h.elim
theorem de_isN {a b : Expr} {fa fb : FE} {pos : Pos} (ha : DE S W a fa) (hb : DE S W b fb) : DE S W (.Compare a [.Is] [b] pos) (e2 dIsN fa fb) := de_cmp (fun _ _ => op_isN) sn_isN (nomark _) ha hb
theorem de_notN {a b : Expr} {fa fb : FE} {pos : Pos} (ha : DE S W a fa) (hb : DE S W b fb) : DE S W (.Compare a [.IsNot] [b] pos) (e2 dNotN fa fb) := de_cmp (fun _ _ => op_notN) sn_notN (nomark _) ha hb
theorem flat_V {C : Cf} {L : List Addr} {H : Hp} {x : V} {c : D} (r : Rp C L H x c) (h : c.flat = true) : flatV x = true := by
  cases r <;> first | rfl | cases h
theorem eqF_V {C : Cf} {L : List Addr} {H : Hp} {x y : V} {c d : D} (r : Rp C L H x c) (q : Rp C L H y d) (h : c.flat = true) (k : d.flat = true) : eqV x y = c.eqF d := by
  cases r <;> first | (cases h; done) | (cases q <;> first | (cases k; done) | rfl)
theorem flats_V {C : Cf} {L : List Addr} {H : Hp} : ∀ {xs : List V} {cs : List D}, RpL C L H xs cs → cs.all D.flat = true → xs.all flatV = true
  | _, _, .nil, _ => rfl
  | _, _, .cons r t, h => by
    rw [List.all_cons, Bool.and_eq_true] at h ⊢
    exact ⟨flat_V r h.1, flats_V t h.2⟩
theorem inV_eq {C : Cf} {L : List Addr} {H : Hp} {x : V} {c : D} (r : Rp C L H x c) (hc : c.flat = true) : ∀ {ys : List V} {ds : List D}, RpL C L H ys ds → ds.all D.flat = true → inV x ys = ds.any fun z => z.eqF c
  | _, _, .nil, _ => rfl
  | _, _, .cons q t, h => by
    rw [List.all_cons, Bool.and_eq_true] at h
    have ih := inV_eq r hc t h.2
    unfold inV at ih ⊢
    rw [List.any_cons, List.any_cons, ih, eqF_V q r h.1 hc]
def rInD (K : PySem.W.Frag) (neg : Bool) : R2 := fun x y H Q => rIn K neg x y H Q ∨ ∃ i j, x = .str i ∧ y = .str j ∧ Q (.bl (if neg then !(!(Builtin.Str.occurrences j i 0 j.length 1).isEmpty) else !(Builtin.Str.occurrences j i 0 j.length 1).isEmpty)) H
theorem sn_in (neg : Bool) : Sn2 S.G (rInD S.G.K neg) (dIn neg) := by
  intro C W σ L H st x y c d Q hK s r1 r2 h
  unfold dIn at h
  split at h
  · split at h
    · cases r1
      cases r2
      exact .inr ⟨_, _, rfl, rfl, by cases neg <;> exact h.now s (.bl _)⟩
    · exact h.elim
  · split at h
    · rename_i ys e
      split at h
      · rename_i hz
        rw [Bool.and_eq_true] at hz
        obtain ⟨p, vs, rfl, h1, l1⟩ := seq_of s r2 e
        rw [hK] at h1
        refine .inl ⟨p, vs, rfl, h1, flat_V r1 hz.1, flats_V l1 hz.2, ?_⟩
        rw [inV_eq r1 hz.1 l1 hz.2]
        exact h.now s (.bl _)
      · exact h.elim
    · exact h.elim
theorem or_in : ∀ X, Sta S X → OpR X (compareOp .In) (rInD S.G.K false) := fun X s => OpR.or (by rw [← s.K]; exact op_in_seq) (by simpa using op_in_str)
theorem or_notIn : ∀ X, Sta S X → OpR X (compareOp .NotIn) (rInD S.G.K true) := fun X s => OpR.or (by rw [← s.K]; exact op_notIn_seq) (by simpa using op_notin_str)
theorem de_in {a b : Expr} {fa fb : FE} {pos : Pos} (ha : DE S W a fa) (hb : DE S W b fb) (hm : behindInMarks .In b = false := by rfl) : DE S W (.Compare a [.In] [b] pos) (e2 (dIn false) fa fb) := de_cmp or_in (sn_in false) hm ha hb
theorem de_notIn {a b : Expr} {fa fb : FE} {pos : Pos} (ha : DE S W a fa) (hb : DE S W b fb) (hm : behindInMarks .NotIn b = false := by rfl) : DE S W (.Compare a [.NotIn] [b] pos) (e2 (dIn true) fa fb) := de_cmp or_notIn (sn_in true) hm ha hb
end
end PV

set_option maxHeartbeats 1000000
/-! expressions, further: tests, places, cuts, displays, arguments -/
namespace PV
open PySem PySem.Spec PyProof.Rows L2
section
variable {S : Sx} {W : WX}
/-! tests -/
theorem dt_val {e : Expr} {f : FE} (h : DE S W e f) (he : ∀ env whole, isTrue e env whole = (do let v ← whole; standAt e.pos; holding [v] (truthy v)) := by intro _ _; rfl) : DT S W e (tE f) := by
  obtain ⟨t, p, s⟩ := h
  refine ⟨tB t, fun X x k => pt_val (p X x k) (he X.env), fun C L σ H ρ st Q hK hs hE h => ?_⟩
  refine s C L σ H ρ st _ hK hs hE (Out.bnd h fun c st1 x H1 L1 e1 s1 r1 h1 => ?_)
  split at h1
  · cases r1
    exact ⟨_, rfl, h1.now s1 rfl⟩
  · exact h1.elim
/-- a comparison as a test -/
theorem dt_cmp {op : CmpOp} {r : R2} {f : D → D → Sto → R D} {a b : Expr} {fa fb : FE} {pos : Pos} (ho : ∀ X, Sta S X → OpR X (compareOp op) r) (sn : Sn2 S.G r f) (hm : behindInMarks op b = false) (ha : DE S W a fa) (hb : DE S W b fb) : DT S W (.Compare a [op] [b] pos) (tE (e2 f fa fb)) := by
  obtain ⟨ta, pa, sa⟩ := ha
  obtain ⟨tb, pb, sb⟩ := hb
  refine ⟨tTest (tOp r ta tb), fun X s t => pt_cmpR (ho X s) (pa X s t) (pb X s t) hm, fun C L σ H ρ st Q hK hs he h => ?_⟩
  refine tOp_ok sn sa sb C L σ H ρ st _ hK hs he (Out.bnd h fun c st1 x H1 L1 e1 s1 r1 h1 => ?_)
  split at h1
  · cases r1
    exact ⟨_, rfl, h1.now s1 rfl⟩
  · exact h1.elim
theorem dt_eq {a b : Expr} {fa fb : FE} {pos : Pos} (ha : DE S W a fa) (hb : DE S W b fb) : DT S W (.Compare a [.Eq] [b] pos) (tE (e2 dEq fa fb)) := dt_cmp or_eq sn_eq (nomark _) ha hb
theorem dt_ne {a b : Expr} {fa fb : FE} {pos : Pos} (ha : DE S W a fa) (hb : DE S W b fb) : DT S W (.Compare a [.NotEq] [b] pos) (tE (e2 dNe fa fb)) := dt_cmp or_ne sn_ne (nomark _) ha hb
theorem dt_lt {a b : Expr} {fa fb : FE} {pos : Pos} (ha : DE S W a fa) (hb : DE S W b fb) : DT S W (.Compare a [.Lt] [b] pos) (tE (e2 dLt fa fb)) := dt_cmp (fun _ _ => op_lt) sn_cmp (nomark _) ha hb
theorem dt_le {a b : Expr} {fa fb : FE} {pos : Pos} (ha : DE S W a fa) (hb : DE S W b fb) : DT S W (.Compare a [.LtE] [b] pos) (tE (e2 dLe fa fb)) := dt_cmp (fun _ _ => op_le) sn_cmp (nomark _) ha hb
theorem dt_gt {a b : Expr} {fa fb : FE} {pos : Pos} (ha : DE S W a fa) (hb : DE S W b fb) : DT S W (.Compare a [.Gt] [b] pos) (tE (e2 dGt fa fb)) := dt_cmp (fun _ _ => op_gt) sn_cmp (nomark _) ha hb
theorem dt_ge {a b : Expr} {fa fb : FE} {pos : Pos} (ha : DE S W a fa) (hb : DE S W b fb) : DT S W (.Compare a [.GtE] [b] pos) (tE (e2 dGe fa fb)) := dt_cmp (fun _ _ => op_ge) sn_cmp (nomark _) ha hb
theorem dt_isN {a b : Expr} {fa fb : FE} {pos : Pos} (ha : DE S W a fa) (hb : DE S W b fb) : DT S W (.Compare a [.Is] [b] pos) (tE (e2 dIsN fa fb)) := dt_cmp (fun _ _ => op_isN) sn_isN (nomark _) ha hb
theorem dt_notN {a b : Expr} {fa fb : FE} {pos : Pos} (ha : DE S W a fa) (hb : DE S W b fb) : DT S W (.Compare a [.IsNot] [b] pos) (tE (e2 dNotN fa fb)) := dt_cmp (fun _ _ => op_notN) sn_notN (nomark _) ha hb
theorem dt_in {a b : Expr} {fa fb : FE} {pos : Pos} (ha : DE S W a fa) (hb : DE S W b fb) (hm : behindInMarks .In b = false := by rfl) : DT S W (.Compare a [.In] [b] pos) (tE (e2 (dIn false) fa fb)) := dt_cmp or_in (sn_in false) hm ha hb
theorem dt_notIn {a b : Expr} {fa fb : FE} {pos : Pos} (ha : DE S W a fa) (hb : DE S W b fb) (hm : behindInMarks .NotIn b = false := by rfl) : DT S W (.Compare a [.NotIn] [b] pos) (tE (e2 (dIn true) fa fb)) := dt_cmp or_notIn (sn_in true) hm ha hb
/-- a value's truth -/
theorem tru_of {G : Glob} {C : Cf} {σ : L2.St} {L : List Addr} {H : Hp} {st : Sto} {x : V} {c : D} {Q : Bool → Hp → Prop} (hK : C.K = G.K) (s : RpS C L H st) (r : Rp C L H x c) (h : Out G C W σ L H relE (dTru c st) Q) : ∃ k, TruV G.K x H k ∧ Q k H := by
  unfold dTru at h
  split at h
  · cases r
    exact ⟨false, rfl, h.now s rfl⟩
  · cases r
    exact ⟨_, rfl, h.now s rfl⟩
  · cases r
    exact ⟨_, rfl, h.now s rfl⟩
  · cases r
    split at h
    · rename_i z hz
      refine ⟨_, ⟨by rw [line_eq]; exact hz, rfl⟩, ?_⟩
      have e : ((z.length : Int) != 0) = (z.length != 0) := by
        rw [Bool.eq_iff_iff]
        simp
      rw [e]
      exact h.now s rfl
    · exact h.elim
  · split at h
    · rename_i xs e
      obtain ⟨p, vs, rfl, h1, l1⟩ := seq_of s r e
      rw [hK] at h1
      refine ⟨!xs.isEmpty, ?_, h.now s rfl⟩
      have e2 : (!xs.isEmpty) = !vs.isEmpty := by
        cases l1 <;> rfl
      rw [e2]
      rcases h1 with h1 | h1
      · exact .inl ⟨vs, h1, rfl⟩
      · exact .inr (.inl ⟨vs, h1, rfl⟩)
    · exact h.elim
theorem dt_tru {e : Expr} {f : FE} (h : DE S W e f) (he : ∀ env whole, isTrue e env whole = (do let v ← whole; standAt e.pos; holding [v] (truthy v)) := by intro _ _; rfl) : DT S W e (tTru f) := by
  obtain ⟨t, p, s⟩ := h
  refine ⟨fun σ H Q => t σ H fun x H' => ∃ k, TruV S.G.K x H' k ∧ Q k H', fun X x k => by rw [← x.K]; exact pt_truth (p X x k) (he X.env), fun C L σ H ρ st Q hK hs hE h => ?_⟩
  exact s C L σ H ρ st _ hK hs hE (Out.bnd h fun c st1 x H1 L1 e1 s1 r1 h1 => tru_of hK s1 r1 h1)
theorem dt_not {a : Expr} {f : FT} {pos : Pos} (h : DT S W a f) : DT S W (.UnaryOp .Not a pos) (tNot f) := by
  obtain ⟨t, p, s⟩ := h
  refine ⟨L2.tNot t, fun X x k => pt_not (p X x k), fun C L σ H ρ st Q hK hs hE h => ?_⟩
  refine s C L σ H ρ st _ hK hs hE (Out.bnd h fun c st1 x H1 L1 e1 s1 r1 h1 => ?_)
  cases r1
  exact h1.now s1 rfl
theorem dw_and1 {a : Expr} {f : FT} {pos : Pos} (h : DT S W a f) : DW S W (.BoolOp .And [a] pos) f := by
  obtain ⟨t, p, s⟩ := h
  exact ⟨t, fun X x k => pw_and1 (p X x k), s⟩
theorem dw_or1 {a : Expr} {f : FT} {pos : Pos} (h : DT S W a f) : DW S W (.BoolOp .Or [a] pos) f := by
  obtain ⟨t, p, s⟩ := h
  exact ⟨t, fun X x k => pw_or1 (p X x k), s⟩
theorem dw_and {a b : Expr} {rest : List Expr} {f g : FT} {pos : Pos} (ha : DT S W a f) (hb : DW S W (.BoolOp .And (b :: rest) pos) g) : DW S W (.BoolOp .And (a :: b :: rest) pos) (tAnd f g) := by
  obtain ⟨ta, pa, sa⟩ := ha
  obtain ⟨tb, pb, sb⟩ := hb
  refine ⟨L2.tAnd ta tb, fun X s t => pw_and (pa X s t) (pb X s t), fun C L σ H ρ st Q hK hs he h => ?_⟩
  refine sa C L σ H ρ st _ hK hs he (Out.bnd h fun c st1 x H1 L1 e1 s1 r1 h1 => ?_)
  cases r1
  cases c with
  | true => exact iteT (sb C L1 σ H1 ρ st1 _ hK s1 (he.ext hs.mu e1) h1)
  | false => exact iteF (h1.now s1 rfl)
theorem dw_or {a b : Expr} {rest : List Expr} {f g : FT} {pos : Pos} (ha : DT S W a f) (hb : DW S W (.BoolOp .Or (b :: rest) pos) g) : DW S W (.BoolOp .Or (a :: b :: rest) pos) (tOr f g) := by
  obtain ⟨ta, pa, sa⟩ := ha
  obtain ⟨tb, pb, sb⟩ := hb
  refine ⟨L2.tOr ta tb, fun X s t => pw_or (pa X s t) (pb X s t), fun C L σ H ρ st Q hK hs he h => ?_⟩
  refine sa C L σ H ρ st _ hK hs he (Out.bnd h fun c st1 x H1 L1 e1 s1 r1 h1 => ?_)
  cases r1
  cases c with
  | true => exact iteT (h1.now s1 rfl)
  | false => exact iteF (sb C L1 σ H1 ρ st1 _ hK s1 (he.ext hs.mu e1) h1)
theorem DW.t {e : Expr} {f : FT} (h : DW S W e f) : DT S W e f := by
  obtain ⟨t, p, s⟩ := h
  exact ⟨t, fun X x k => (p X x k).pt, s⟩
/-! and, or, not as values -/
theorem de_one {op} {a : Expr} {f : FE} {pos : Pos} (h : DE S W a f) : DE S W (.BoolOp op [a] pos) f := by
  obtain ⟨t, p, s⟩ := h
  exact ⟨t, fun X x k => pe_one (p X x k), s⟩
theorem de_and {a b : Expr} {rest : List Expr} {f g : FE} {pos : Pos} (ha : DE S W a f) (hb : DE S W (.BoolOp .And (b :: rest) pos) g) : DE S W (.BoolOp .And (a :: b :: rest) pos) (eAnd f g) := by
  obtain ⟨ta, pa, sa⟩ := ha
  obtain ⟨tb, pb, sb⟩ := hb
  refine ⟨tAndV ta tb, fun X s t => pe_and (pa X s t) (pb X s t), fun C L σ H ρ st Q hK hs he h => ?_⟩
  refine sa C L σ H ρ st _ hK hs he (Out.bnd h fun c st1 x H1 L1 e1 s1 r1 h1 => ?_)
  split at h1
  · rename_i k
    cases r1
    refine ⟨k, rfl, ?_⟩
    cases k with
    | true => exact iteT (sb C L1 σ H1 ρ st1 _ hK s1 (he.ext hs.mu e1) h1)
    | false => exact iteF (h1.now s1 (.bl false))
  · exact h1.elim
theorem de_or {a b : Expr} {rest : List Expr} {f g : FE} {pos : Pos} (ha : DE S W a f) (hb : DE S W (.BoolOp .Or (b :: rest) pos) g) : DE S W (.BoolOp .Or (a :: b :: rest) pos) (eOr f g) := by
  obtain ⟨ta, pa, sa⟩ := ha
  obtain ⟨tb, pb, sb⟩ := hb
  refine ⟨tOrV ta tb, fun X s t => pe_or (pa X s t) (pb X s t), fun C L σ H ρ st Q hK hs he h => ?_⟩
  refine sa C L σ H ρ st _ hK hs he (Out.bnd h fun c st1 x H1 L1 e1 s1 r1 h1 => ?_)
  split at h1
  · rename_i k
    cases r1
    refine ⟨k, rfl, ?_⟩
    cases k with
    | true => exact iteT (h1.now s1 (.bl true))
    | false => exact iteF (sb C L1 σ H1 ρ st1 _ hK s1 (he.ext hs.mu e1) h1)
  · exact h1.elim
/-- not a, of a value that is True or False -/
theorem de_not {a : Expr} {f : FE} {pos : Pos} (h : DE S W a f) : DE S W (.UnaryOp .Not a pos) (eNot (tE f)) := by
  obtain ⟨t, p, s⟩ := h
  refine ⟨tNotV t, fun X x k => pe_not (p X x k), fun C L σ H ρ st Q hK hs hE h => ?_⟩
  have h' : Out S.G C W σ L H (Rp C) ((f ρ st).bind fun x st => (match x with | .bl b => R.ok b st | _ => R.bad).bind fun x st => .ok (.bl (!x)) st) Q := by
    unfold eNot tE at h
    revert h
    cases f ρ st <;> exact id
  refine s C L σ H ρ st _ hK hs hE (Out.bnd h' fun c st1 x H1 L1 e1 s1 r1 h1 => ?_)
  split at h1
  · rename_i k
    cases r1
    exact ⟨k, rfl, h1.now s1 (.bl _)⟩
  · exact h1.elim
theorem de_if {c a b : Expr} {fc : FT} {fa fb : FE} {pos : Pos} (hc : DT S W c fc) (ha : DE S W a fa) (hb : DE S W b fb) : DE S W (.IfExp c a b pos) (eIf fc fa fb) := by
  obtain ⟨tc, pc, sc⟩ := hc
  obtain ⟨ta, pa, sa⟩ := ha
  obtain ⟨tb, pb, sb⟩ := hb
  refine ⟨tIf tc ta tb, fun X s t => pe_ifExp (pc X s t) (pa X s t) (pb X s t), fun C L σ H ρ st Q hK hs he h => ?_⟩
  refine sc C L σ H ρ st _ hK hs he (Out.bnd h fun c st1 x H1 L1 e1 s1 r1 h1 => ?_)
  cases r1
  cases c with
  | true => exact iteT (sa C L1 σ H1 ρ st1 _ hK s1 (he.ext hs.mu e1) h1)
  | false => exact iteF (sb C L1 σ H1 ρ st1 _ hK s1 (he.ext hs.mu e1) h1)
/-! chains -/
theorem tChain_ok {r r' : R2} {g g' : D → D → Sto → R D} (sn : Sn2 S.G r g) (sn' : Sn2 S.G r' g') {ta tb tc : TE} {fa fb fc : FE}
    (sa : ∀ (C : Cf) (L : List Addr) (σ : L2.St) (H : Hp) (ρ : En) (st : Sto) (Q : VK), C.K = S.G.K → RpS C L H st → RpE C L H σ ρ → Out S.G C W σ L H (Rp C) (fa ρ st) Q → ta σ H Q)
    (sb : ∀ (C : Cf) (L : List Addr) (σ : L2.St) (H : Hp) (ρ : En) (st : Sto) (Q : VK), C.K = S.G.K → RpS C L H st → RpE C L H σ ρ → Out S.G C W σ L H (Rp C) (fb ρ st) Q → tb σ H Q)
    (sc : ∀ (C : Cf) (L : List Addr) (σ : L2.St) (H : Hp) (ρ : En) (st : Sto) (Q : VK), C.K = S.G.K → RpS C L H st → RpE C L H σ ρ → Out S.G C W σ L H (Rp C) (fc ρ st) Q → tc σ H Q)
    (C : Cf) (L : List Addr) (σ : L2.St) (H : Hp) (ρ : En) (st : Sto) (Q : VK) (hK : C.K = S.G.K) (hs : RpS C L H st) (he : RpE C L H σ ρ) (h : Out S.G C W σ L H (Rp C) (eCh g g' fa fb fc ρ st) Q) : tChain r r' ta tb tc σ H Q := by
  refine sa C L σ H ρ st _ hK hs he (Out.bnd h fun c st1 x H1 L1 e1 s1 r1 h1 => ?_)
  have E1 := he.ext hs.mu e1
  refine sb C L1 σ H1 ρ st1 _ hK s1 E1 (Out.bnd h1 fun d st2 y H2 L2 e2 s2 r2 h2 => ?_)
  have E2 := E1.ext s1.mu e2
  refine sn C W σ L2 H2 st2 x y c d _ hK s2 (r1.ext s1.mu e2) r2 (Out.bnd h2 fun k st3 z H3 L3 e3 s3 r3 h3 => ?_)
  split at h3
  · rename_i k
    cases r3
    refine ⟨k, rfl, ?_⟩
    cases k with
    | true =>
      refine iteT (sc C L3 σ H3 ρ st3 _ hK s3 (E2.ext s2.mu e3) (Out.bnd h3 fun d' st4 y' H4 L4 e4 s4 r4 h4 => ?_))
      exact sn' C W σ L4 H4 st4 y y' d d' Q hK s4 ((r2.ext s2.mu e3).ext s3.mu e4) r4 h4
    | false => exact iteF (h3.now s3 (.bl false))
  · exact h3.elim
theorem de_chain {op op' : CmpOp} {r r' : R2} {g g' : D → D → Sto → R D} {a b c : Expr} {fa fb fc : FE} {pos : Pos} (ho : ∀ X, Sta S X → OpR X (compareOp op) r) (sn : Sn2 S.G r g) (ho' : ∀ X, Sta S X → OpR X (compareOp op') r') (sn' : Sn2 S.G r' g')
    (ha : DE S W a fa) (hb : DE S W b fb) (hc : DE S W c fc) (hm : lastMarks [op, op'] [b, c] = false := by with_unfolding_all rfl) : DE S W (.Compare a [op, op'] [b, c] pos) (eCh g g' fa fb fc) := by
  obtain ⟨ta, pa, sa⟩ := ha
  obtain ⟨tb, pb, sb⟩ := hb
  obtain ⟨tc, pc, sc⟩ := hc
  exact ⟨tChain r r' ta tb tc, fun X s t => pe_chain (ho X s) (ho' X s) (pa X s t) (pb X s t) (pc X s t) hm, tChain_ok sn sn' sa sb sc⟩
theorem dt_chain {op op' : CmpOp} {r r' : R2} {g g' : D → D → Sto → R D} {a b c : Expr} {fa fb fc : FE} {pos : Pos} (ho : ∀ X, Sta S X → OpR X (compareOp op) r) (sn : Sn2 S.G r g) (ho' : ∀ X, Sta S X → OpR X (compareOp op') r') (sn' : Sn2 S.G r' g')
    (ha : DE S W a fa) (hb : DE S W b fb) (hc : DE S W c fc) (hm : lastMarks [op, op'] [b, c] = false := by with_unfolding_all rfl) : DT S W (.Compare a [op, op'] [b, c] pos) (tE (eCh g g' fa fb fc)) := by
  obtain ⟨ta, pa, sa⟩ := ha
  obtain ⟨tb, pb, sb⟩ := hb
  obtain ⟨tc, pc, sc⟩ := hc
  refine ⟨tTest (tChain r r' ta tb tc), fun X s t => pt_chain (ho X s) (ho' X s) (pa X s t) (pb X s t) (pc X s t) hm, fun C L σ H ρ st Q hK hs he h => ?_⟩
  refine tChain_ok sn sn' sa sb sc C L σ H ρ st _ hK hs he (Out.bnd h fun c st1 x H1 L1 e1 s1 r1 h1 => ?_)
  split at h1
  · cases r1
    exact ⟨_, rfl, h1.now s1 rfl⟩
  · exact h1.elim
/-! places -/
theorem atI_rp {C : Cf} {L : List Addr} {H : Hp} {vs : List V} {ds : List D} {i : Int} {d : D} (l : RpL C L H vs ds) (h : atI ds i = some d) : ∃ v, atI vs i = some v ∧ Rp C L H v d := by
  unfold atI at h ⊢
  rw [l.len]
  cases e : ixN ds.length i with
  | none =>
    rw [e] at h
    cases h
  | some j =>
    rw [e] at h
    exact l.get h
theorem sn_ix : Sn2 S.G (rIx S.G.K) dIx := by
  intro C W σ L H st x y c d Q hK s r1 r2 h
  unfold dIx at h
  split at h
  · cases r2
    split at h
    · cases r1
      split at h
      · rename_i hz
        split at h
        · rename_i ch e
          exact .inr (.inr ⟨_, _, ch, rfl, rfl, by rw [line_eq]; exact hz, e, h.now s (.str _)⟩)
        · exact h.elim
      · exact h.elim
    · split at h
      · rename_i xs e
        split at h
        · rename_i v e2
          obtain ⟨p, vs, rfl, h1, l1⟩ := seq_of s r1 e
          rw [hK] at h1
          obtain ⟨w, e3, rw⟩ := atI_rp l1 e2
          rcases h1 with h1 | h1
          · exact .inl ⟨p, vs, _, w, rfl, rfl, h1, e3, h.now s rw⟩
          · exact .inr (.inl ⟨p, vs, _, w, rfl, rfl, h1, e3, h.now s rw⟩)
        · exact h.elim
      · exact h.elim
  · exact h.elim
theorem de_item {a b : Expr} {fa fb : FE} {pos : Pos} (ha : DE S W a fa) (hb : DE S W b fb) (hp : PlainIx b := by exact fun _ _ => rfl) : DE S W (.Subscript a b pos) (e2 dIx fa fb) := de_ix (fun X s => by rw [← s.K]; exact ix_seq) sn_ix hp ha hb
/-! cuts -/
theorem do_none : DO S W none oNo := ⟨_, fun _ _ _ => po_none, fun _ _ _ _ _ _ _ _ hs _ h => h.now hs rfl⟩
theorem do_some {a : Expr} {f : FE} (h : DE S W a f) : DO S W (some a) (oSo f) := by
  obtain ⟨t, p, s⟩ := h
  refine ⟨tPart t, fun X x k => po_some (p X x k), fun C L σ H ρ st Q hK hs hE h => ?_⟩
  refine s C L σ H ρ st _ hK hs hE (Out.bnd h fun c st1 x H1 L1 e1 s1 r1 h1 => ?_)
  split at h1
  · cases r1
    exact ⟨_, rfl, h1.now s1 rfl⟩
  · exact h1.elim
theorem cut_rp {C : Cf} {L : List Addr} {H : Hp} {vs : List V} {ds : List D} (l : RpL C L H vs ds) (lo hi : Option Int) : RpL C L H (cutV vs lo hi) (cut ds lo hi) := by
  unfold cutV cut
  rw [l.len]
  exact (l.drop _).take _
theorem cut_whole (ds : List D) (lo hi : Option Int) (n : Nat) (e : n = ds.length) (h : HT.sIx n 0 lo = 0 ∧ HT.sIx n n hi = n) : cut ds lo hi = ds := by
  subst e
  unfold cut
  rw [h.1, h.2]
  simp
def rSlD (K : PySem.W.Frag) : V → Option Int → Option Int → Hp → VK → Prop := fun x lo hi H Q => rSlF K x lo hi H Q ∨ rSlL K x lo hi H Q
theorem sl_ok {C : Cf} {σ : L2.St} {L : List Addr} {H : Hp} {st : Sto} {x : V} {c : D} {lo hi : Option Int} {Q : VK} (hK : C.K = S.G.K) (s : RpS C L H st) (r1 : Rp C L H x c) (h : Out S.G C W σ L H (Rp C) (dSl c lo hi st) Q) : rSlD S.G.K x lo hi H Q := by
  unfold dSl at h
  split at h
  · cases r1 with
    | tup t1 l1 =>
      rw [hK] at t1
      refine .inl ⟨_, _, rfl, t1.sq, fun e => ?_, fun _ => out_tup s (cut_rp l1 lo hi) h⟩
      rw [cut_whole _ lo hi _ l1.len e] at h
      exact h.now s (.tup (hK ▸ t1) l1)
  · split at h
    · rename_i xs e
      obtain ⟨p, vs, rfl, h1, l1⟩ := lst_of s r1 e
      rw [hK] at h1
      exact .inr ⟨p, vs, rfl, h1, fun p n => out_new s (cut_rp l1 lo hi) h p n⟩
    · exact h.elim
theorem de_sl {a : Expr} {lo hi : Option Expr} {fa : FE} {fl fh : FO} {p2 pos : Pos} (ha : DE S W a fa) (hl : DO S W lo fl) (hh : DO S W hi fh) : DE S W (.Subscript a (.Slice lo hi none p2) pos) (eSl fa fl fh) := by
  obtain ⟨ta, pa, sa⟩ := ha
  obtain ⟨tl, pl, sl⟩ := hl
  obtain ⟨th, ph, sh⟩ := hh
  refine ⟨tSl (rSlD S.G.K) ta tl th, fun X s t => pe_slice (SlR.or (by rw [← s.K]; exact sl_tupF) (by rw [← s.K]; exact sl_list)) (pa X s t) (pl X s t) (ph X s t), fun C L σ H ρ st Q hK hs he h => ?_⟩
  refine sa C L σ H ρ st _ hK hs he (Out.bnd h fun c st1 x H1 L1 e1 s1 r1 h1 => ?_)
  have E1 := he.ext hs.mu e1
  refine sl C L1 σ H1 ρ st1 _ hK s1 E1 (Out.bnd h1 fun l st2 l' H2 L2 e2 s2 r2 h2 => ?_)
  cases r2
  refine sh C L2 σ H2 ρ st2 _ hK s2 (E1.ext s1.mu e2) (Out.bnd h2 fun u st3 u' H3 L3 e3 s3 r3 h3 => ?_)
  cases r3
  exact sl_ok hK s3 ((r1.ext s1.mu e2).ext s2.mu e3) h3
/-! arguments, displays -/
theorem da_nil : DA S W [] aNil := ⟨_, fun _ _ _ => pa_nil, fun _ _ _ _ _ _ _ _ hs _ h => h.now hs .nil⟩
theorem da_cons {e : Expr} {es : List Expr} {f : FE} {g : FA} (ha : DE S W e f) (hr : DA S W es g) (hst : ∀ env, starEach (e :: es) env = (false, eval e env) :: starEach es env := by intro _; rfl) : DA S W (e :: es) (aCons f g) := by
  obtain ⟨ta, pa, sa⟩ := ha
  obtain ⟨tb, pb, sb⟩ := hr
  refine ⟨tCons ta tb, fun X s t => pa_cons (pa X s t) (pb X s t) (hst X.env), fun C L σ H ρ st Q hK hs he h => ?_⟩
  refine sa C L σ H ρ st _ hK hs he (Out.bnd h fun c st1 x H1 L1 e1 s1 r1 h1 => ?_)
  refine sb C L1 σ H1 ρ st1 _ hK s1 (he.ext hs.mu e1) (Out.bnd h1 fun d st2 y H2 L2 e2 s2 r2 h2 => ?_)
  exact h2.now s2 (.cons (r1.ext s1.mu e2) r2)
theorem de_tup {es : List Expr} {f : FA} {k} {pos : Pos} (h : DA S W es f) : DE S W (.Tuple es k pos) (eA dTup f) := by
  obtain ⟨t, p, s⟩ := h
  refine ⟨tTupF t, fun X x k => pe_tupF (p X x k), fun C L σ H ρ st Q hK hs hE h => ?_⟩
  refine s C L σ H ρ st _ hK hs hE (Out.bnd h fun c st1 x H1 L1 e1 s1 r1 h1 => ?_)
  unfold dTup at h1
  split at h1
  · rename_i hz
    exact ⟨by rw [r1.len, line_eq]; exact hz, out_tup s1 r1 h1⟩
  · exact h1.elim
theorem de_lst {es : List Expr} {f : FA} {pos : Pos} (h : DA S W es f) : DE S W (.List es pos) (eA dLst f) := by
  obtain ⟨t, p, s⟩ := h
  refine ⟨tLst t, fun X x k => pe_lst (p X x k), fun C L σ H ρ st Q hK hs hE h => ?_⟩
  refine s C L σ H ρ st _ hK hs hE (Out.bnd h fun c st1 x H1 L1 e1 s1 r1 h1 => ?_)
  unfold dLst at h1
  split at h1
  · rename_i hz
    exact ⟨by rw [r1.len, line_eq]; exact hz, fun p n => out_new s1 r1 h1 p n⟩
  · exact h1.elim
end
end PV

set_option maxHeartbeats 2000000
/-! defs: what they promise, their calls -/
namespace PV
open PySem PySem.Spec PyProof.Rows L2

/-! values that hang on nothing of a frame -/
section
variable {C C2 : Cf} {L L2 : List Addr} {H : Hp}
mutual
theorem rp_imm (hK : C.K = C2.K) : ∀ {v : V} {d : D}, Rp C L H v d → d.imm = true → Rp C2 L2 H v d
  | _, _, .non, _ => .non
  | _, _, .bl b, _ => .bl b
  | _, _, .int i, _ => .int i
  | _, _, .str x, _ => .str x
  | _, _, .tup h r, q => .tup (hK ▸ h) (rpl_imm hK r (by rw [D.imm] at q; exact q))
  | _, _, .tpw h r, q => .tpw (hK ▸ h) (rpl_imm hK r (by rw [D.imm] at q; exact q))
  | _, _, .rls _ _ _ _, q => by rw [D.imm] at q; cases q
  | _, _, .wls _ _, q => by rw [D.imm] at q; cases q
  | _, _, .ref _, q => by rw [D.imm] at q; cases q
theorem rpl_imm (hK : C.K = C2.K) : ∀ {vs : List V} {ds : List D}, RpL C L H vs ds → D.imms ds = true → RpL C2 L2 H vs ds
  | _, _, .nil, _ => .nil
  | _, _, .cons h r, q => by
    rw [D.imms, Bool.and_eq_true] at q
    exact .cons (rp_imm hK h q.1) (rpl_imm hK r q.2)
end
mutual
def D.clo : D → Bool
  | .tup xs => D.clos xs
  | .tpw xs => D.clos xs
  | .rls f xs => f && D.clos xs
  | .wls _ => false
  | .ref _ => false
  | _ => true
def D.clos : List D → Bool
  | [] => true
  | x :: xs => D.clo x && D.clos xs
end
/-! what a call handed back, in the caller's frame -/
mutual
theorem rp_back (hK : C.K = C2.K) (h0 : ∀ a, C.H0 a = none → C2.H0 a = none) (hn : ∀ a, C.H0 a = none → a ∉ L2) : ∀ {v : V} {d : D}, Rp C L H v d → d.clo = true → Rp C2 L2 H v d
  | _, _, .non, _ => .non
  | _, _, .bl b, _ => .bl b
  | _, _, .int i, _ => .int i
  | _, _, .str x, _ => .str x
  | _, _, .tup h r, q => .tup (hK ▸ h) (rpl_back hK h0 hn r (by rw [D.clo] at q; exact q))
  | _, _, .tpw h r, q => .tpw (hK ▸ h) (rpl_back hK h0 hn r (by rw [D.clo] at q; exact q))
  | _, _, .rls h n f r, q => by
    rw [D.clo, Bool.and_eq_true] at q
    exact .rls h (hn _ (f q.1)) (fun _ => h0 _ (f q.1)) (rpl_back hK h0 hn r q.2)
  | _, _, .wls _ _, q => by rw [D.clo] at q; cases q
  | _, _, .ref _, q => by rw [D.clo] at q; cases q
theorem rpl_back (hK : C.K = C2.K) (h0 : ∀ a, C.H0 a = none → C2.H0 a = none) (hn : ∀ a, C.H0 a = none → a ∉ L2) : ∀ {vs : List V} {ds : List D}, RpL C L H vs ds → D.clos ds = true → RpL C2 L2 H vs ds
  | _, _, .nil, _ => .nil
  | _, _, .cons h r, q => by
    rw [D.clos, Bool.and_eq_true] at q
    exact .cons (rp_back hK h0 hn h q.1) (rpl_back hK h0 hn r q.2)
end
theorem RpF.imm (hK : C.K = C2.K) : ∀ {vs : List (Str × V)} {ds : List (Str × D)}, RpF C H vs ds → (ds.all fun p => p.2.imm) = true → RpF C2 H vs ds
  | _, _, .nil, _ => .nil
  | _, _, .cons h r, q => by
    rw [List.all_cons, Bool.and_eq_true] at q
    exact .cons ⟨h.1, rp_imm hK h.2 q.1⟩ (RpF.imm hK r q.2)
theorem RpX.cf {G : Glob} (hK : C.K = C2.K) {cls : Value} {od : Option Addr} {x : Exn} (h : RpX G C H cls od x) : RpX G C2 H cls od x := by
  obtain ⟨i, c, d, vfs, a1, a2, a3, a4, a5⟩ := h
  exact ⟨i, c, d, vfs, a1, a2, a3, a4, RpF.imm hK a5 i⟩
end

/-! what a def promises -/
def spF (G : Glob) (n : Nat) (f : Fs) : Sp := fun vs H Q E => ∃ (C : Cf) (L : List Addr) (st : Sto) (as : List D), C.K = G.K ∧ C.H0 = H ∧ C.k = st.length ∧ as.length = n ∧ RpS C L H st ∧ RpL C L H vs as ∧
  match f as st with
  | .ok d st' => ∀ (v : V) (H' : Hp), Ext H L H' L → RpS C L H' st' → Rp C L H' v d → Q v H'
  | .ex x st' => ∀ (cls : Value) (od : Option Addr) (H' : Hp), Ext H L H' L → RpS C L H' st' → RpX G C H' cls od x → E cls od H'
  | .bad => False
structure FnG (G : Glob) (base : Heap) (k : Nat) (f : Addr) (fd : FuncData) (ps : List Str) (sp : Sp) : Prop where
  len : ∀ vs H Q E, sp vs H Q E → vs.length = ps.length
  run : ∀ (A : Around) (outer : List Env) (s : Shared) (H : Hp) (args : Args) (us : List Value) (vs : List V) (Q : VK) (E : XK), Room k A → A.guards = some [] → Env0 G.P G.w G.K G.mg base A outer s H → BindsTo s fd args (ps.zip us) → Vals vs us → sp vs H Q E →
    codeAny (model G.P G.w) A (.call (.ref f) args) (CR (L2.CX G.P G.w) outer G.P G.w H s Q E) s
theorem FnG.mono {G : Glob} {base : Heap} {j k : Nat} {f : Addr} {fd : FuncData} {ps : List Str} {sp : Sp} (F : FnG G base j f fd ps sp) (h : j ≤ k) : FnG G base k f fd ps sp :=
  ⟨F.len, fun A outer s H args us vs Q E hr => F.run A outer s H args us vs Q E (hr.mono h)⟩
/-- handed-back values hang on nothing of the frame that ended, errors' fields on no list -/
def Clo (f : Fs) : Prop := ∀ as st, match f as st with
  | .ok d _ => d.clo = true
  | .ex x _ => x.imm = true
  | .bad => True

/-! the callee's state -/
theorem rps_none {K : PySem.W.Frag} {H : Hp} : RpS ⟨K, H, 0⟩ [] H [] :=
  ⟨.nil, rfl, fun _ m => by simp at m, fun n xs h => by simp at h, fun _ h => h, fun n a _ h => by simp at h⟩
/-! handed-in values -/
section
variable {C C2 : Cf} {L L2 : List Addr} {H : Hp}
mutual
theorem rp_fzA {g : Nat → Option (List D)} (hK : C.K = C2.K) (hL : ∀ a, a ∈ L2 → a ∈ L)
    (hg : ∀ n a ds, L[n]? = some a → g n = some ds → a ∉ L2 ∧ ∃ vs, H a = some (.lst vs) ∧ RpL C2 L2 H vs ds) : ∀ {v : V} {d e : D}, Rp C L H v d → d.fzA g = some e → Rp C2 L2 H v e
  | _, _, e, .non, h => by
    rw [D.fzA] at h
    cases h
    exact .non
  | _, _, e, .bl b, h => by
    rw [D.fzA] at h
    cases h
    exact .bl b
  | _, _, e, .int i, h => by
    rw [D.fzA] at h
    cases h
    exact .int i
  | _, _, e, .str x, h => by
    rw [D.fzA] at h
    cases h
    exact .str x
  | _, .tup ds, e, .tup h1 r, h => by
    rw [D.fzA] at h
    cases q : D.fzAs g ds with
    | none =>
      rw [q] at h
      cases h
    | some es =>
      rw [q] at h
      cases h
      exact .tup (hK ▸ h1) (rpl_fzA hK hL hg r q)
  | _, .tpw ds, e, .tpw h1 r, h => by
    rw [D.fzA] at h
    cases q : D.fzAs g ds with
    | none =>
      rw [q] at h
      cases h
    | some es =>
      rw [q] at h
      cases h
      exact .tpw (hK ▸ h1) (rpl_fzA hK hL hg r q)
  | _, .rls f ds, e, .rls h1 n _ r, h => by
    rw [D.fzA] at h
    cases q : D.fzAs g ds with
    | none =>
      rw [q] at h
      cases h
    | some es =>
      rw [q] at h
      cases h
      exact .rls h1 (fun z => n (hL _ z)) (fun z => by cases z) (rpl_fzA hK hL hg r q)
  | _, .wls ds, e, .wls h1 r, h => by
    rw [D.fzA] at h
    cases q : D.fzAs g ds with
    | none =>
      rw [q] at h
      cases h
    | some es =>
      rw [q] at h
      cases h
      exact .wls (hK ▸ h1) (rpl_fzA hK hL hg r q)
  | _, .ref n, e, .ref h1, h => by
    rw [D.fzA] at h
    cases q : g n with
    | none =>
      rw [q] at h
      cases h
    | some es =>
      rw [q] at h
      cases h
      obtain ⟨n2, vs, a, b⟩ := hg n _ es h1 q
      exact .rls a n2 (fun z => by cases z) b
theorem rpl_fzA {g : Nat → Option (List D)} (hK : C.K = C2.K) (hL : ∀ a, a ∈ L2 → a ∈ L)
    (hg : ∀ n a ds, L[n]? = some a → g n = some ds → a ∉ L2 ∧ ∃ vs, H a = some (.lst vs) ∧ RpL C2 L2 H vs ds) : ∀ {vs : List V} {ds es : List D}, RpL C L H vs ds → D.fzAs g ds = some es → RpL C2 L2 H vs es
  | _, _, es, .nil, h => by
    rw [D.fzAs] at h
    cases h
    exact .nil
  | _, d :: ds, es, .cons h1 h2, h => by
    rw [D.fzAs] at h
    cases q : D.fzA g d with
    | none =>
      rw [q] at h
      cases h
    | some p =>
      cases q' : D.fzAs g ds with
      | none =>
        rw [q, q'] at h
        cases h
      | some ps' =>
        rw [q, q'] at h
        cases h
        exact .cons (rp_fzA hK hL hg h1 q) (rpl_fzA hK hL hg h2 q')
end
end
end PV

set_option maxHeartbeats 2000000
/-! calls of defs; a def by its body -/
namespace PV
open PySem PySem.Spec PyProof.Rows L2
section
variable {C C2 : Cf} {L L2 : List Addr} {H H' : Hp} {st : Sto}
theorem RpS.frame (s : RpS C L H st) (e : Ext H [] H' []) : Ext H L H' L ∧ RpS C L H' st := by
  have e2 : Ext H L H' L := ⟨fun b o h _ => e.keep b o h (by simp), e.tr, ⟨[], by simp, by simp⟩⟩
  refine ⟨e2, s.nd, s.len, fun a m => ?_, fun n xs h => ?_, fun b h => s.h0 b (e.tr b h), s.new⟩
  · obtain ⟨xs, q⟩ := s.mu a m
    exact ⟨xs, e.keep _ _ q (by simp)⟩
  · obtain ⟨a, vs, h1, h2, h3⟩ := s.cell n xs h
    exact ⟨a, vs, h1, e.keep _ _ h2 (by simp), h3.ext s.mu e2⟩
theorem RpS.fresh (s : RpS C L H st) (a : Addr) (h : H a = none) : a ∉ L := fun m => by
  obtain ⟨xs, q⟩ := s.mu a m
  rw [h] at q
  cases q
theorem cellA_ok (s : RpS C L H st) (hK : C.K = C2.K) (hL : ∀ a, a ∈ L2 → a ∈ L) (hd : ∀ (n : Nat) (a : Addr) (xs : List D), L[n]? = some a → st[n]? = some (.lst xs) → a ∉ L2) :
    ∀ m n a ds, L[n]? = some a → cellA m st n = some ds → a ∉ L2 ∧ ∃ vs, H a = some (.lst vs) ∧ RpL C2 L2 H vs ds := by
  intro m
  induction m with
  | zero =>
    intro n a ps _ h
    cases h
  | succ m ih =>
    intro n a ps h1 h
    unfold cellA at h
    split at h
    · rename_i ds q
      obtain ⟨b, vs, e1, e2, e3⟩ := s.cell n ds q
      rw [h1] at e1
      cases e1
      exact ⟨hd n a ds h1 q, vs, e2, rpl_fzA hK hL ih e3 h⟩
    · cases h
end
/-! a call, in the layer's words -/
def tCallG (sp : Sp) (dvs : List V) (W : WX) (t : TA) : TE := fun σ H Q => t σ H fun vs H1 => sp (vs ++ dvs) H1 Q (WE W σ)
section
variable {S : Sx} {W : WX} {X : Cx} {k : Nat} {f : Addr} {fd : FuncData} {ps : List Str} {sp : Sp} {dvs : List V} {ds : List Value} {x : Str} {p pos : Pos} {e : Expr} {es : List Expr} {t : TA}
theorem run_G (s : Sta S X) (F : FnG S.G S.base k f fd ps sp) (hk : k ≤ S.k) (hb : Binds S.G.K fd ps ds) (hd : Vals dvs ds) (tk : Takes X W) {pins : List (Addr × Obj)} {σ : L2.St} {H : Hp} {s0 : Shared} {Q : VK} {us : List Value} {vs : List V}
    (I : Inv X pins σ H s0) (r : Vals vs us) (h : sp (vs ++ dvs) H Q (WE W σ)) : wpAny (model X.prog X.w) X.A (call (.ref f) us) (EP X pins σ Q) X.xe s0 := by
  have r2 : Vals (vs ++ dvs) (us ++ ds) := r.append hd
  have hl : (us ++ ds).length = ps.length := by
    rw [← r2.length]
    exact F.len _ _ _ _ h
  have ev := I.env0
  have kin := I.kIn
  rw [s.P, s.w, s.K, s.mg, s.base] at ev
  rw [s.K] at kin
  have go := F.run X.A X.stack s0 H ⟨us, []⟩ (us ++ ds) (vs ++ dvs) Q (WE W σ) (s.room.mono hk) s.gd ev (hb s0 us kin hl) r2 h
  rw [← s.P, ← s.w] at go
  refine wpAny_call (codeAny_mono go fun q s' hq => ?_)
  cases q with
  | error er => exact passAt tk σ pins H s0 er s' I hq
  | ok fl =>
    cases fl with
    | ret u => exact I.after hq
    | next => exact False.elim hq
    | brk => exact False.elim hq
    | cont => exact False.elim hq
theorem pe_callG (s : Sta S X) (F : FnG S.G S.base k f fd ps sp) (hk : k ≤ S.k) (hg : GlB S.sc x = true) (hm : S.G.mg x = some (.ref f)) (hkp : PySem.W.keepIn S.G.K (.ref f) = true) (hb : Binds S.G.K fd ps ds) (hd : Vals dvs ds) (tk : Takes X W)
    (ha : PA X (e :: es) t) (hdb : (x == ("__debug__" : Str)) = false) (he : ∀ env, starEach (e :: es) env = (false, eval e env) :: starEach es env) (hpl : ∀ env, (backTo pos (starEach es env)).any (·.1) = false) :
    PE X (.Call (.Name x p) (e :: es) [] pos) (tCallG sp dvs W t) := by
  refine ⟨fun pins s0 σ H Q I h => ?_⟩
  have hk2 : PySem.W.keepIn X.K (.ref f) = true := by rw [s.K]; exact hkp
  refine wpAny_Call_Name_kw (ld_glob I (gl_of s hg) (by rw [s.mg]; exact hm) ?_ hdb)
  refine PySem.W.callWith_K (h₀ := X.base) I.ok.mod.kin hk2 (thn (ha.run pos pins s0 σ H _ I h) fun us s1 ⟨vs, H1, I1, r, q⟩ => ⟨I1.kIn, ?_⟩) (he X.env) (hpl X.env)
  exact run_G s F hk hb hd tk I1 r q
theorem pe_callG0 (s : Sta S X) (F : FnG S.G S.base k f fd ps sp) (hk : k ≤ S.k) (hg : GlB S.sc x = true) (hm : S.G.mg x = some (.ref f)) (hkp : PySem.W.keepIn S.G.K (.ref f) = true) (hb : Binds S.G.K fd ps ds) (hd : Vals dvs ds) (tk : Takes X W)
    (hdb : (x == ("__debug__" : Str)) = false) : PE X (.Call (.Name x p) [] [] pos) (tCallG sp dvs W tNil) := by
  refine ⟨fun pins s0 σ H Q I h => ?_⟩
  have hk2 : PySem.W.keepIn X.K (.ref f) = true := by rw [s.K]; exact hkp
  refine wpAny_Call_Name_kw (ld_glob I (gl_of s hg) (by rw [s.mg]; exact hm) ?_ hdb)
  exact PySem.W.callWith_K0 I.kIn hk2 (run_G (us := []) s F hk hb hd tk I .nil h)
end
/-! what stands of a def of the text for its callers -/
structure Def (G : Glob) (base : Heap) (x : Str) (n k : Nat) (f : Fs) : Prop where
  ex : ∃ (fa : Addr) (fd : FuncData) (ps : List Str), FnG G base k fa fd ps (spF G n f) ∧ G.mg x = some (.ref fa) ∧ PySem.W.keepIn G.K (.ref fa) = true ∧ Binds G.K fd ps []
  clo : Clo f
section
variable {S : Sx} {W : WX} {x : Str} {p pos : Pos} {e : Expr} {es : List Expr} {n k : Nat} {f : Fs}
theorem callP_ok {C : Cf} {σ : L2.St} {L : List Addr} {H : Hp} {st : Sto} {vs : List V} {as : List D} {Q : VK} (cl : Clo f) (hK : C.K = S.G.K) (s : RpS C L H st) (r : RpL C L H vs as) (hn : as.length = n) (h : Out S.G C W σ L H (Rp C) (callP f as st) Q) :
    spF S.G n f vs H Q (WE W σ) := by
  unfold callP at h
  split at h
  · rename_i bs hb
    have K2 : C.K = (Cf.mk S.G.K H 0).K := hK
    have rb : RpL ⟨S.G.K, H, 0⟩ [] H vs bs := rpl_fzA K2 (fun a m => by simp at m) (cellA_ok s K2 (fun a m => by simp at m) (fun _ _ _ _ _ m => by simp at m) 6) r hb
    have ln : bs.length = n := by rw [← rb.len, r.len, hn]
    refine ⟨⟨S.G.K, H, 0⟩, [], [], bs, rfl, rfl, rfl, ln, rps_none, rb, ?_⟩
    have c := cl bs []
    split at h
    · rename_i d q
      rw [q] at c ⊢
      intro v H' e' s' rp
      obtain ⟨e2, s2⟩ := s.frame e'
      exact h v H' L e2 s2 (rp_back (C := ⟨S.G.K, H, 0⟩) hK.symm s.h0 s.fresh rp c)
    · rename_i x q
      rw [q] at c ⊢
      intro cls od H' e' s' rx
      obtain ⟨e2, s2⟩ := s.frame e'
      exact h cls od H' L e2 s2 (rx.cf (C := ⟨S.G.K, H, 0⟩) hK.symm)
    · exact h.elim
  · exact h.elim
theorem callP_len {as : List D} {bs : List D} {g : Nat → Option (List D)} (h : D.fzAs g as = some bs) : bs.length = as.length := by
  induction as generalizing bs with
  | nil =>
    rw [D.fzAs] at h
    cases h
    rfl
  | cons a r ih =>
    rw [D.fzAs] at h
    cases q : D.fzA g a with
    | none =>
      rw [q] at h
      cases h
    | some p =>
      cases q' : D.fzAs g r with
      | none =>
        rw [q, q'] at h
        cases h
      | some ps' =>
        rw [q, q'] at h
        cases h
        rw [List.length_cons, List.length_cons, ih q']
/-- f(a, ..) -/
theorem de_call (F : Def S.G S.base x n k f) (hk : k ≤ S.k) {g : FA} (ha : DA S W (e :: es) g) (hl : ∀ ρ st as st', g ρ st = .ok as st' → as.length = n) (hg : GlB S.sc x = true := by rfl) (hdb : (x == ("__debug__" : Str)) = false := by decide)
    (he : ∀ env, starEach (e :: es) env = (false, eval e env) :: starEach es env := by intro _; rfl) (hpl : ∀ env, (backTo pos (starEach es env)).any (·.1) = false := by intro _; rfl) :
    DE S W (.Call (.Name x p) (e :: es) [] pos) (eA (callP f) g) := by
  obtain ⟨⟨fa, fd, ps, F1, hm, hkp, hb⟩, cl⟩ := F
  obtain ⟨t, pa, sa⟩ := ha
  refine ⟨tCallG (spF S.G n f) [] W t, fun X s tk => pe_callG s F1 hk hg hm hkp hb .nil tk (pa X s tk) hdb he hpl, fun C L σ H ρ st Q hK hs hE h => ?_⟩
  have hl' := hl ρ st
  unfold eA at h
  revert h
  cases q : g ρ st with
  | ok as st1 =>
    intro h
    refine sa C L σ H ρ st _ hK hs hE ?_
    rw [q]
    intro vs H1 L1 e1 s1 r1
    rw [List.append_nil]
    exact callP_ok cl hK s1 r1 (hl' as st1 q) (Out.shift e1 (show Out S.G C W σ L H (Rp C) (callP f as st1) Q from h))
  | ex x st1 =>
    intro h
    refine sa C L σ H ρ st _ hK hs hE ?_
    rw [q]
    exact h
  | bad =>
    intro h
    exact h.elim
theorem len_nil : ∀ (ρ : En) (st : Sto) as st', aNil ρ st = .ok as st' → as.length = 0 := fun _ _ _ _ h => by
  cases h
  rfl
theorem len_cons {a : FE} {r : FA} {n : Nat} (h : ∀ ρ st as st', r ρ st = .ok as st' → as.length = n) : ∀ (ρ : En) (st : Sto) as st', aCons a r ρ st = .ok as st' → as.length = n + 1 := fun ρ st as st' q => by
  unfold aCons at q
  cases q1 : a ρ st with
  | ok x st1 =>
    rw [q1] at q
    have q' : ((r ρ st1).bind fun xs st => R.ok (x :: xs) st) = R.ok as st' := q
    cases q2 : r ρ st1 with
    | ok xs st2 =>
      rw [q2] at q'
      cases q'
      rw [List.length_cons, h _ _ _ _ q2]
    | ex _ _ =>
      rw [q2] at q'
      cases q'
    | bad =>
      rw [q2] at q'
      cases q'
  | ex _ _ =>
    rw [q1] at q
    cases q
  | bad =>
    rw [q1] at q
    cases q
/-- f() -/
theorem de_call0 (F : Def S.G S.base x 0 k f) (hk : k ≤ S.k) (hg : GlB S.sc x = true := by rfl) (hdb : (x == ("__debug__" : Str)) = false := by decide) : DE S W (.Call (.Name x p) [] [] pos) (eA (callP f) aNil) := by
  obtain ⟨⟨fa, fd, ps, F1, hm, hkp, hb⟩, cl⟩ := F
  refine ⟨tCallG (spF S.G 0 f) [] W tNil, fun X s tk => pe_callG0 s F1 hk hg hm hkp hb .nil tk hdb, fun C L σ H ρ st Q hK hs hE h => ?_⟩
  exact callP_ok (n := 0) (vs := []) cl hK hs .nil rfl h
end

/-! a def by its body -/
theorem imms_of {C C2 : Cf} {L L2 : List Addr} {H : Hp} {st : Sto} (s : RpS C L2 H st) (hK : C.K = C2.K) {ex : List Addr} (hL : L2 = L ++ ex) (hi : (st.take L.length).all Cell.imm = true) (hH : ∀ b, H b = none → C2.H0 b = none) (hk : C2.k = L.length) : RpS C2 L H (st.take L.length) := by
  have hlt : L.length ≤ st.length := by
    rw [← s.len, hL, List.length_append]
    omega
  have nd : L.Nodup := by
    have := s.nd
    rw [hL, List.nodup_append] at this
    exact this.1
  refine ⟨nd, by rw [List.length_take]; omega, fun a m => s.mu a (by rw [hL]; exact List.mem_append_left _ m), fun n xs h => ?_, hH, fun n a hk2 h => ?_⟩
  · have hn : n < L.length := by
      have h1 := (List.getElem?_eq_some_iff.mp h).1
      rw [List.length_take] at h1
      omega
    have h' : st[n]? = some (.lst xs) := by
      rw [List.getElem?_take_of_lt hn] at h
      exact h
    obtain ⟨a, vs, h1, h2, h3⟩ := s.cell n xs h'
    refine ⟨a, vs, ?_, h2, rpl_imm hK h3 ?_⟩
    · rw [hL, List.getElem?_append_left hn] at h1
      exact h1
    · have := List.all_eq_true.mp hi (.lst xs) (List.mem_of_getElem? h)
      exact this
  · rw [hk] at hk2
    have := (List.getElem?_eq_some_iff.mp h).1
    omega
section
variable {C : Cf} {L L2 : List Addr} {H : Hp} {st : Sto}
mutual
theorem rp_fzR {g : Nat → Option (List D)} (hL : ∀ a, a ∈ L → a ∈ L2)
    (hg : ∀ n a ds, L2[n]? = some a → g n = some ds → a ∉ L ∧ C.H0 a = none ∧ ∃ vs, H a = some (.lst vs) ∧ RpL C L H vs ds ∧ D.clos ds = true) : ∀ {v : V} {d e : D}, Rp C L2 H v d → d.fzR g = some e → Rp C L H v e ∧ e.clo = true
  | _, _, e, .non, h => by
    rw [D.fzR] at h
    cases h
    exact ⟨.non, rfl⟩
  | _, _, e, .bl b, h => by
    rw [D.fzR] at h
    cases h
    exact ⟨.bl b, rfl⟩
  | _, _, e, .int i, h => by
    rw [D.fzR] at h
    cases h
    exact ⟨.int i, rfl⟩
  | _, _, e, .str x, h => by
    rw [D.fzR] at h
    cases h
    exact ⟨.str x, rfl⟩
  | _, .tup ds, e, .tup h1 r, h => by
    rw [D.fzR] at h
    cases q : D.fzRs g ds with
    | none =>
      rw [q] at h
      cases h
    | some es =>
      rw [q] at h
      cases h
      obtain ⟨a, b⟩ := rpl_fzR hL hg r q
      exact ⟨.tup h1 a, by rw [D.clo]; exact b⟩
  | _, .tpw ds, e, .tpw h1 r, h => by
    rw [D.fzR] at h
    cases q : D.fzRs g ds with
    | none =>
      rw [q] at h
      cases h
    | some es =>
      rw [q] at h
      cases h
      obtain ⟨a, b⟩ := rpl_fzR hL hg r q
      exact ⟨.tpw h1 a, by rw [D.clo]; exact b⟩
  | _, .rls true ds, e, .rls h1 n f r, h => by
    rw [D.fzR] at h
    cases q : D.fzRs g ds with
    | none =>
      rw [q] at h
      cases h
    | some es =>
      rw [q] at h
      cases h
      obtain ⟨a, b⟩ := rpl_fzR hL hg r q
      exact ⟨.rls h1 (fun z => n (hL _ z)) f a, by rw [D.clo, b]; rfl⟩
  | _, .rls false ds, e, .rls _ _ _ _, h => by
    rw [D.fzR] at h
    cases h
  | _, .wls ds, e, .wls _ _, h => by
    rw [D.fzR] at h
    cases h
  | _, .ref n, e, .ref h1, h => by
    rw [D.fzR] at h
    cases q : g n with
    | none =>
      rw [q] at h
      cases h
    | some es =>
      rw [q] at h
      cases h
      obtain ⟨n2, z, vs, a, b, c⟩ := hg n _ es h1 q
      exact ⟨.rls a n2 (fun _ => z) b, by rw [D.clo, c]; rfl⟩
theorem rpl_fzR {g : Nat → Option (List D)} (hL : ∀ a, a ∈ L → a ∈ L2)
    (hg : ∀ n a ds, L2[n]? = some a → g n = some ds → a ∉ L ∧ C.H0 a = none ∧ ∃ vs, H a = some (.lst vs) ∧ RpL C L H vs ds ∧ D.clos ds = true) : ∀ {vs : List V} {ds es : List D}, RpL C L2 H vs ds → D.fzRs g ds = some es → RpL C L H vs es ∧ D.clos es = true
  | _, _, es, .nil, h => by
    rw [D.fzRs] at h
    cases h
    exact ⟨.nil, rfl⟩
  | _, d :: ds, es, .cons h1 h2, h => by
    rw [D.fzRs] at h
    cases q : D.fzR g d with
    | none =>
      rw [q] at h
      cases h
    | some p =>
      cases q' : D.fzRs g ds with
      | none =>
        rw [q, q'] at h
        cases h
      | some ps' =>
        rw [q, q'] at h
        cases h
        obtain ⟨a1, b1⟩ := rp_fzR hL hg h1 q
        obtain ⟨a2, b2⟩ := rpl_fzR hL hg h2 q'
        exact ⟨.cons a1 a2, by rw [D.clos, b1, b2]; rfl⟩
end
end
theorem cellR_ok {C : Cf} {L L2 : List Addr} {H : Hp} {st : Sto} (s : RpS C L2 H st) (hL : ∀ a, a ∈ L → a ∈ L2) (k : Nat) (hk : C.k = k) (hd : ∀ (n : Nat) (a : Addr), k ≤ n → L2[n]? = some a → a ∉ L) :
    ∀ m n a ds, L2[n]? = some a → cellR k m st n = some ds → a ∉ L ∧ C.H0 a = none ∧ ∃ vs, H a = some (.lst vs) ∧ RpL C L H vs ds ∧ D.clos ds = true := by
  intro m
  induction m with
  | zero =>
    intro n a ps _ h
    cases h
  | succ m ih =>
    intro n a ps h1 h
    unfold cellR at h
    split at h
    · cases h
    · rename_i hn
      split at h
      · rename_i ds q
        obtain ⟨b, vs, e1, e2, e3⟩ := s.cell n ds q
        rw [h1] at e1
        cases e1
        obtain ⟨x1, x2⟩ := rpl_fzR hL ih e3 h
        exact ⟨hd n a (by omega) h1, s.new n a (by omega) h1, vs, e2, x1, x2⟩
      · cases h
/-- what a body hands back is what its def does -/
theorem fin_ok {C : Cf} {L L2 : List Addr} {H H2 : Hp} {st2 : Sto} {v : V} {d : D} (hk : C.k = L.length) (e : Ext H L H2 L2) (s2 : RpS C L2 H2 st2) (r : Rp C L2 H2 v d) :
    match fin L.length d st2 with
    | .ok d' st' => Ext H L H2 L ∧ RpS C L H2 st' ∧ Rp C L H2 v d' ∧ d'.clo = true
    | .ex _ _ => False
    | .bad => True := by
  obtain ⟨ex, hL, hn⟩ := e.pre
  unfold fin
  cases q : D.fzR (cellR L.length 6 st2) d with
  | none => exact trivial
  | some r' =>
    show (match (if (st2.take L.length).all Cell.imm then R.ok r' (st2.take L.length) else R.bad) with
    | .ok d' st' => Ext H L H2 L ∧ RpS C L H2 st' ∧ Rp C L H2 v d' ∧ d'.clo = true
    | .ex _ _ => False
    | .bad => True)
    cases hi : (st2.take L.length).all Cell.imm with
    | false => exact trivial
    | true =>
      have nd2 := s2.nd
      have hLs : ∀ a, a ∈ L → a ∈ L2 := fun a m => e.mem m
      have hd : ∀ (n : Nat) (a : Addr), L.length ≤ n → L2[n]? = some a → a ∉ L := fun n a hn h m => by
        obtain ⟨i, hi, ei⟩ := List.mem_iff_getElem.mp m
        have : L2[i]? = some a := by
          rw [hL, List.getElem?_append_left hi, List.getElem?_eq_getElem hi, ei]
        have := nodup_at nd2 h this
        omega
      obtain ⟨x1, x2⟩ := rp_fzR hLs (cellR_ok s2 hLs L.length hk hd 6) r q
      exact ⟨⟨e.keep, e.tr, ⟨[], by simp, by simp⟩⟩, imms_of s2 rfl hL hi s2.h0 hk, x1, x2⟩
end PV

set_option maxHeartbeats 2000000
/-! statements -/
namespace PV
open PySem PySem.Spec PyProof.Rows L2

structure StaS (S : Sx) (X : Cx) : Prop where
  sta : Sta S X
  po : PassesOwn (model X.prog X.w) X.A X.env X.xe
  hs : X.stack = X.env :: X.outer
  hf : X.env.frame = some X.env.locals
def OutS (G : Glob) (C : Cf) (W : WX) (L : List Addr) (H : Hp) (r : SR) (D : Ends) : Prop := match r with
  | .nx ρ st => ∀ (σ : L2.St) (H' : Hp) (L' : List Addr), Ext H L H' L' → RpS C L' H' st → RpE C L' H' σ ρ → D.nx σ H'
  | .bk ρ st => ∀ (σ : L2.St) (H' : Hp) (L' : List Addr), Ext H L H' L' → RpS C L' H' st → RpE C L' H' σ ρ → D.bk σ H'
  | .ct ρ st => ∀ (σ : L2.St) (H' : Hp) (L' : List Addr), Ext H L H' L' → RpS C L' H' st → RpE C L' H' σ ρ → D.ct σ H'
  | .rt d st => ∀ (v : V) (H' : Hp) (L' : List Addr), Ext H L H' L' → RpS C L' H' st → Rp C L' H' v d → D.rt v H'
  | .ex x ρ st => ∀ (cls : Value) (od : Option Addr) (σ : L2.St) (H' : Hp) (L' : List Addr), Ext H L H' L' → RpS C L' H' st → RpE C L' H' σ ρ → RpX G C H' cls od x → W cls od σ H'
  | .bad => False
structure DS (S : Sx) (W : WX) (s : Stmt) (f : FS) : Prop where
  ex : ∃ t : TS, (∀ X, StaS S X → Takes X W → PS X s t) ∧ ∀ (C : Cf) (L : List Addr) (σ : L2.St) (H : Hp) (ρ : En) (st : Sto) (D : Ends), C.K = S.G.K → RpS C L H st → RpE C L H σ ρ → OutS S.G C W L H (f ρ st) D → t D σ H
structure DSs (S : Sx) (W : WX) (s : List Stmt) (f : FS) : Prop where
  ex : ∃ t : TS, (∀ X, StaS S X → Takes X W → PSs X s t) ∧ ∀ (C : Cf) (L : List Addr) (σ : L2.St) (H : Hp) (ρ : En) (st : Sto) (D : Ends), C.K = S.G.K → RpS C L H st → RpE C L H σ ρ → OutS S.G C W L H (f ρ st) D → t D σ H
/-- the slots but those at vs are as they were -/
def Keeps (vs : List Nat) (σ σ' : L2.St) : Prop := σ'.length = σ.length ∧ ∀ i, i ∉ vs → σ'[i]? = σ[i]?
def OutG (C : Cf) (L : List Addr) (H : Hp) (vs : List Nat) (σ0 : L2.St) (r : Option (En × Sto)) (Q : L2.St → Hp → Prop) : Prop := match r with
  | some p => ∀ (σ : L2.St) (H' : Hp) (L' : List Addr), Ext H L H' L' → RpS C L' H' p.2 → RpE C L' H' σ p.1 → Keeps vs σ0 σ → Q σ H'
  | none => False
structure DG (S : Sx) (W : WX) (e : Expr) (ws : List Nat) (g : FG) : Prop where
  ex : ∃ t : TG, (∀ X, Sta S X → Takes X W → PG X e t) ∧ ∀ (C : Cf) (L : List Addr) (σ : L2.St) (H : Hp) (ρ : En) (st : Sto) (v : V) (d : D) (Q : L2.St → Hp → Prop), C.K = S.G.K → RpS C L H st → RpE C L H σ ρ → Rp C L H v d → OutG C L H ws σ (g d ρ st) Q → t v σ H Q
structure DGs (S : Sx) (W : WX) (es : List Expr) (ws : List Nat) (g : FGs) : Prop where
  ex : ∃ t : TGs, (∀ X, Sta S X → Takes X W → PGs X es t) ∧ ∀ (C : Cf) (L : List Addr) (σ : L2.St) (H : Hp) (ρ : En) (st : Sto) (vs : List V) (ds : List D) (Q : L2.St → Hp → Prop), C.K = S.G.K → RpS C L H st → RpE C L H σ ρ → RpL C L H vs ds → OutG C L H ws σ (g ds ρ st) Q → t vs σ H Q
section
variable {α β : Type} {G : Glob} {C : Cf} {W : WX} {σ : L2.St} {L L1 : List Addr} {H H1 : Hp} {rel : List Addr → Hp → β → α → Prop}
theorem OutS.shift {r : SR} {D : Ends} (e : Ext H L H1 L1) (h : OutS G C W L H r D) : OutS G C W L1 H1 r D := by
  cases r with
  | nx ρ st => exact fun s H' L' e' => h s H' L' (e.trans e')
  | bk ρ st => exact fun s H' L' e' => h s H' L' (e.trans e')
  | ct ρ st => exact fun s H' L' e' => h s H' L' (e.trans e')
  | rt ρ st => exact fun s H' L' e' => h s H' L' (e.trans e')
  | ex x ρ st => exact fun c o s H' L' e' => h c o s H' L' (e.trans e')
  | bad => exact h
theorem OutG.shift {ws : List Nat} {r : Option (En × Sto)} {Q : L2.St → Hp → Prop} (e : Ext H L H1 L1) (h : OutG C L H ws σ r Q) : OutG C L1 H1 ws σ r Q := by
  cases r with
  | some p => exact fun s H' L' e' => h s H' L' (e.trans e')
  | none => exact h
theorem OutS.bnd {st : Sto} {ρ : En} {r : R α} {f : α → Sto → SR} {D : Ends} (hs : RpS C L H st) (he : RpE C L H σ ρ) (h : OutS G C W L H (r.on ρ f) D) {Q1 : β → Hp → Prop}
    (hk : ∀ a st1 x H1 L1, Ext H L H1 L1 → RpS C L1 H1 st1 → rel L1 H1 x a → OutS G C W L1 H1 (f a st1) D → Q1 x H1) : Out G C W σ L H rel r Q1 := by
  cases r with
  | ok a st => exact fun v H' L' e s q => hk a st v H' L' e s q (OutS.shift e h)
  | ex x st => exact fun c o H' L' e s q => h c o σ H' L' e s (he.ext hs.mu e) q
  | bad => exact h
theorem OutS.now {ρ : En} {st : Sto} {D : Ends} (h : OutS G C W L H (.nx ρ st) D) (s : RpS C L H st) (e : RpE C L H σ ρ) : D.nx σ H := h σ H L (Ext.refl H L) s e
end
section
variable {S : Sx} {W : WX}
theorem dss_nil : DSs S W [] sNext := ⟨_, fun _ _ _ => pss_nil, fun _ _ _ _ _ _ _ _ hs he h => h.now hs he⟩
theorem seq_out {G : Glob} {C : Cf} {L : List Addr} {H : Hp} {r : SR} {f : FS} {D : Ends} {u : TS} (hf : ∀ (L : List Addr) (σ : L2.St) (H : Hp) (ρ : En) (st : Sto), RpS C L H st → RpE C L H σ ρ → OutS G C W L H (f ρ st) D → u D σ H)
    (h : OutS G C W L H (match r with | .nx ρ st => f ρ st | r => r) D) : OutS G C W L H r { D with nx := u D } := by
  cases r with
  | nx ρ st => exact fun σ H' L' e s q => hf L' σ H' ρ st s q (OutS.shift e h)
  | _ => exact h
theorem dss_cons {s : Stmt} {r : List Stmt} {f g : FS} (ha : DS S W s f) (hb : DSs S W r g) : DSs S W (s :: r) (sSeq f g) := by
  obtain ⟨ta, pa, sa⟩ := ha
  obtain ⟨tb, pb, sb⟩ := hb
  refine ⟨tSeq ta tb, fun X s t => pss_cons (pa X s t) (pb X s t), fun C L σ H ρ st D hK hs he h => ?_⟩
  exact sa C L σ H ρ st _ hK hs he (seq_out (fun L σ H ρ st s e q => sb C L σ H ρ st D hK s e q) h)
theorem dss_one {s : Stmt} {f : FS} (ha : DS S W s f) : DSs S W [s] f := by
  obtain ⟨ta, pa, sa⟩ := ha
  exact ⟨ta, fun X s t => pss_one (pa X s t), sa⟩
theorem ds_pass {pos : Pos} : DS S W (.Pass pos) sNext := ⟨_, fun _ _ _ => ps_pass, fun _ _ _ _ _ _ _ _ hs he h => h.now hs he⟩
theorem ds_break {pos : Pos} : DS S W (.Break pos) sBreak := ⟨_, fun _ _ _ => ps_break, fun _ L σ H _ _ _ _ hs he h => h σ H L (Ext.refl H L) hs he⟩
theorem ds_continue {pos : Pos} : DS S W (.Continue pos) sCont := ⟨_, fun _ _ _ => ps_continue, fun _ L σ H _ _ _ _ hs he h => h σ H L (Ext.refl H L) hs he⟩
theorem ds_never {s : Stmt} : DS S W s sNever := ⟨_, fun _ _ _ => ps_never, fun _ _ _ _ _ _ _ _ _ _ h => h⟩
theorem dss_never {s : List Stmt} : DSs S W s sNever := ⟨_, fun _ _ _ => pss_never, fun _ _ _ _ _ _ _ _ _ _ h => h⟩
theorem ds_ex {e : Expr} {f : FE} {pos : Pos} (ha : DE S W e f) (hs : ∀ env, swapsWith e none pos.line env = pure false := by intro _; rfl) : DS S W (.Expr e pos) (sEx f) := by
  obtain ⟨t, p, s⟩ := ha
  refine ⟨tDrop t, fun X x k => ps_expr (p X x.sta k) (hs X.env), fun C L σ H ρ st D hK hs he h => ?_⟩
  exact s C L σ H ρ st _ hK hs he (OutS.bnd hs he h fun a st1 x H1 L1 e1 s1 r1 h1 => h1.now s1 (he.ext hs.mu e1))
theorem ds_ret {e : Expr} {f : FE} {pos : Pos} (ha : DE S W e f) : DS S W (.Return (some e) pos) (sRet f) := by
  obtain ⟨t, p, s⟩ := ha
  refine ⟨tRet t, fun X x k => ps_ret (p X x.sta k), fun C L σ H ρ st D hK hs he h => ?_⟩
  exact s C L σ H ρ st _ hK hs he (OutS.bnd hs he h fun a st1 x H1 L1 e1 s1 r1 h1 => h1 x H1 L1 (Ext.refl _ _) s1 r1)
theorem ds_retN {pos : Pos} : DS S W (.Return none pos) sRetN := ⟨_, fun _ _ _ => ps_retN, fun _ L σ H _ _ _ _ hs he h => h .non H L (Ext.refl H L) hs .non⟩
theorem ds_if {c : Expr} {a b : List Stmt} {fc : FT} {fa fb : FS} {pos : Pos} (hc : DT S W c fc) (ha : DSs S W a fa) (hb : DSs S W b fb) : DS S W (.If c a b pos) (sIf fc fa fb) := by
  obtain ⟨tc, pc, sc⟩ := hc
  obtain ⟨ta, pa, sa⟩ := ha
  obtain ⟨tb, pb, sb⟩ := hb
  refine ⟨tIfS tc ta tb, fun X s t => ps_if (pc X s.sta t) (pa X s t) (pb X s t), fun C L σ H ρ st D hK hs he h => ?_⟩
  refine sc C L σ H ρ st _ hK hs he (OutS.bnd hs he h fun k st1 x H1 L1 e1 s1 r1 h1 => ?_)
  cases r1
  cases k with
  | true => exact iteT (sa C L1 σ H1 ρ st1 D hK s1 (he.ext hs.mu e1) h1)
  | false => exact iteF (sb C L1 σ H1 ρ st1 D hK s1 (he.ext hs.mu e1) h1)
/-! targets -/
theorem RpE.set {C : Cf} {L : List Addr} {H : Hp} {σ : L2.St} {ρ : En} (h : RpE C L H σ ρ) (i : Nat) {v : V} {d : D} (r : Rp C L H v d) : RpE C L H (σ.set i (some v)) (ρ.set i (some d)) := by
  refine ⟨by rw [List.length_set, List.length_set]; exact h.len, fun j e q => ?_⟩
  by_cases hj : j = i
  · subst hj
    have hl : j < ρ.length := by
      have := (List.getElem?_eq_some_iff.mp q).1
      rw [List.length_set] at this
      exact this
    rw [List.getElem?_set_self hl] at q
    cases q
    exact ⟨v, List.getElem?_set_self (by rw [h.len]; exact hl), r⟩
  · rw [List.getElem?_set_ne (fun z => hj z.symm)] at q
    obtain ⟨w, a, b⟩ := h.at_ j e q
    exact ⟨w, by rw [List.getElem?_set_ne (fun z => hj z.symm)]; exact a, b⟩
def LocB (sc : Scope) (x : Str) (df : Bool) : Bool := match sc.names.lookup x with
  | some .local => true
  | some .cell => df
  | _ => false
theorem loc_of {sc : Scope} {x : Str} {df : Bool} (h : LocB sc x df = true) : L2.Loc sc x ∧ (df = true ∨ sc.names.lookup x = some .local) := by
  unfold LocB at h
  unfold L2.Loc
  split at h
  · exact ⟨.inl (by assumption), .inr (by assumption)⟩
  · exact ⟨.inr (by assumption), .inl h⟩
  · cases h
theorem fn_of_sta {X : Cx} {x : Str} (s : Sta S X) (h : LocB S.sc x S.df = true) : X.fn x = true ∨ X.env.scope.names.lookup x = some .local := by
  rcases (loc_of h).2 with q | q
  · exact .inl (s.fn q x)
  · exact .inr (by rw [s.sc]; exact q)
theorem dg_slot (i : Nat) {x : Str} {pos : Pos} (nd : S.N.Nodup) (hN : S.N[i]? = some x := by rfl) (hx : LocB S.sc x S.df = true := by rfl) : DG S W (.Name x pos) [i] (gSlot i) := by
  refine ⟨gName i, fun X s _ => pg_name (by rw [s.N]; exact nd) (by rw [s.N]; exact hN) (by rw [s.sc]; exact (loc_of hx).1) (fn_of_sta s hx), fun C L σ H ρ st v d Q hK hs he r h => ?_⟩
  exact h _ H L (Ext.refl H L) hs (he.set i r) ⟨List.length_set, fun j hj => List.getElem?_set_ne (fun z => hj (by simp [z]))⟩
theorem dgs_nil : DGs S W [] [] PV.gNil := ⟨_, fun _ _ _ => pgs_nil, fun C L σ H ρ st vs ds Q hK hs he r h => by
  cases r with
  | nil => exact ⟨rfl, h σ H L (Ext.refl H L) hs he ⟨rfl, fun _ _ => rfl⟩⟩
  | cons _ _ => exact h.elim⟩
theorem dgs_cons {e : Expr} {es : List Expr} {g : FG} {gs : FGs} {ws ws' : List Nat} (ha : DG S W e ws g) (hb : DGs S W es ws' gs) (hst : ∀ env, (assignEach (e :: es) env).map (·.2) = assign e env :: (assignEach es env).map (·.2) := by intro _; rfl) : DGs S W (e :: es) (ws ++ ws') (PV.gCons g gs) := by
  obtain ⟨ta, pa, sa⟩ := ha
  obtain ⟨tb, pb, sb⟩ := hb
  refine ⟨L2.gCons ta tb, fun X s t => pgs_cons (pa X s t) (pb X s t) (hst X.env), fun C L σ H ρ st vs ds Q hK hs he r h => ?_⟩
  cases r with
  | nil => exact h.elim
  | @cons v vs d ds r1 r2 =>
    have h' : OutG C L H (ws ++ ws') σ ((g d ρ st).bind fun p => gs ds p.1 p.2) Q := h
    refine ⟨v, vs, rfl, sa C L σ H ρ st v d _ hK hs he r1 ?_⟩
    cases q : g d ρ st with
    | none =>
      rw [q] at h'
      exact h'.elim
    | some p =>
      rw [q] at h'
      intro σ' H' L' e' s' E' k'
      refine sb C L' σ' H' p.1 p.2 vs ds Q hK s' E' (r2.ext hs.mu e') ?_
      have h2 : OutG C L H (ws ++ ws') σ (gs ds p.1 p.2) Q := h'
      revert h2
      cases gs ds p.1 p.2 with
      | none => exact fun z => z
      | some p2 => exact fun z σ2 H2 L2 e2 s2 E2 k2 => z σ2 H2 L2 (e'.trans e2) s2 E2 ⟨k2.1.trans k'.1, fun i hi => (k2.2 i fun m => hi (List.mem_append_right _ m)).trans (k'.2 i fun m => hi (List.mem_append_left _ m))⟩
theorem dg_tup {es : List Expr} {gs : FGs} {ws : List Nat} {n : Nat} {k} {pos : Pos} (h : DGs S W es ws gs) (hn : ∀ env, (assignEach es env).length = n := by intro _; rfl) (hst : ∀ env, (assignEach es env).findIdx? (·.1) = none := by intro _; rfl) : DG S W (.Tuple es k pos) ws (PV.gTup n gs) := by
  obtain ⟨t, p, s⟩ := h
  refine ⟨L2.gTup S.G.K n t, fun X x k => by rw [← x.K]; exact pg_tup x.calm (p X x k) (hn X.env) (hst X.env), fun C L σ H ρ st v d Q hK hs he r h => ?_⟩
  unfold PV.gTup at h
  split at h
  · cases r with
    | tup h1 l1 =>
      split at h
      · rename_i hz
        exact ⟨_, _, rfl, hK ▸ h1.sq, by rw [l1.len]; exact hz, s C L σ H ρ st _ _ Q hK hs he l1 h⟩
      · exact h.elim
  · cases r with
    | tpw h1 l1 =>
      split at h
      · rename_i hz
        exact ⟨_, _, rfl, hK ▸ h1, by rw [l1.len]; exact hz, s C L σ H ρ st _ _ Q hK hs he l1 h⟩
      · exact h.elim
  · exact h.elim
theorem set_ok {C : Cf} {L : List Addr} {H : Hp} {st st' : Sto} {o i v : V} {od id d : D} (s : RpS C L H st) (ro : Rp C L H o od) (ri : Rp C L H i id) (rv : Rp C L H v d) (h : dSet od id d st = some st') {Q : Hp → Prop}
    (k : ∀ H', Ext H L H' L → RpS C L H' st' → Q H') : rSetL o i v H Q := by
  unfold dSet at h
  split at h
  · rename_i n kk
    cases ri
    cases ro with
    | @ref a _ ha =>
      split at h
      · rename_i xs q
        split at h
        · rename_i j e
          cases h
          obtain ⟨b, vs, e1, e2, e3⟩ := s.cell n xs q
          rw [ha] at e1
          cases e1
          exact ⟨a, vs, kk, j, rfl, rfl, e2, by rw [e3.len]; exact e, k _ (s.ext_put ha) (s.put ha (e3.set j rv))⟩
        · cases h
      · cases h
  · cases h
theorem dg_sub {o i : Expr} {fo fi : FE} {pos : Pos} (ho : DE S W o fo) (hi : DE S W i fi) (ha : ∀ env v, assign (.Subscript o i pos) env v = (do
      let ov ← holding [v] (eval o env)
      let iv ← holding [v, ov] (eval i env)
      standAt pos
      holding [v, ov, iv] (setItem ov iv v)
      release [v, ov, iv] []) := by intro _ _; rfl) : DG S W (.Subscript o i pos) [] (PV.gSub fo fi) := by
  obtain ⟨to, po, so⟩ := ho
  obtain ⟨ti, pi, si⟩ := hi
  refine ⟨L2.gSub to ti rSetL, fun X s t => pg_sub (po X s t) (pi X s t) set_list (ha X.env), fun C L σ H ρ st v d Q hK hs he r h => ?_⟩
  unfold PV.gSub at h
  refine so C L σ H ρ st _ hK hs he ?_
  cases q : fo ρ st with
  | ex _ _ =>
    rw [q] at h
    exact h.elim
  | bad =>
    rw [q] at h
    exact h.elim
  | ok x st1 =>
    rw [q] at h
    intro xv H1 L1 e1 s1 r1
    have E1 := he.ext hs.mu e1
    refine si C L1 σ H1 ρ st1 _ hK s1 E1 ?_
    have h' : OutG C L H [] σ ((fi ρ st1).get.bind fun q => (dSet x q.1 d q.2).bind fun st' => some (ρ, st')) Q := h
    cases q2 : fi ρ st1 with
    | ex _ _ =>
      rw [q2] at h'
      exact h'.elim
    | bad =>
      rw [q2] at h'
      exact h'.elim
    | ok y st2 =>
      rw [q2] at h'
      intro yv H2 L2 e2 s2 r2
      have h2 : OutG C L H [] σ ((dSet x y d st2).bind fun st' => some (ρ, st')) Q := h'
      cases q3 : dSet x y d st2 with
      | none =>
        rw [q3] at h2
        exact h2.elim
      | some st3 =>
        rw [q3] at h2
        refine set_ok s2 (r1.ext s1.mu e2) r2 ((r.ext hs.mu e1).ext s1.mu e2) q3 fun H3 e3 s3 => ?_
        exact h2 σ H3 L2 ((e1.trans e2).trans e3) s3 ((E1.ext s1.mu e2).ext s2.mu e3) ⟨rfl, fun _ _ => rfl⟩
theorem ds_asg {tg e : Expr} {f : FE} {g : FG} {ws : List Nat} {pos : Pos} (he : DE S W e f) (hg : DG S W tg ws g) (hs : ∀ env, swapsWithSole [tg] e pos.line env = pure false := by intro _; rfl) (hw : ∀ env : Env, env.scope = S.sc → swappedStores [tg] e env = pure none := by intro env h; cases env; cases h; rfl)
    (h1 : ∀ env, (assignEach [tg] env).map (·.2) = [assign tg env] := by intro _; rfl) : DS S W (.Assign [tg] e pos) (sAsg f g) := by
  obtain ⟨te, pe, se⟩ := he
  obtain ⟨tg', pg, sg⟩ := hg
  refine ⟨tAsg te tg', fun X s t => ps_asg (pe X s.sta t) (pg X s.sta t) (hs X.env) (hw X.env s.sta.sc) (h1 X.env), fun C L σ H ρ st D hK hs he h => ?_⟩
  refine se C L σ H ρ st _ hK hs he (OutS.bnd hs he h fun a st1 x H1 L1 e1 s1 r1 h1 => ?_)
  refine sg C L1 σ H1 ρ st1 x a _ hK s1 (he.ext hs.mu e1) r1 ?_
  cases q : g a ρ st1 with
  | none =>
    rw [q] at h1
    exact h1.elim
  | some p =>
    rw [q] at h1
    exact fun σ' H' L' e' s' E' _ => h1 σ' H' L' e' s' E'
/-- x = e -/
theorem ds_set {i : Nat} {x : Str} {e : Expr} {f : FE} {pos' pos : Pos} (nd : S.N.Nodup) (he : DE S W e f) (hN : S.N[i]? = some x := by rfl) (hx : LocB S.sc x S.df = true := by rfl) (hs : ∀ env, swapsWith e (some (.Name x pos')) pos.line env = pure false := by intro _; rfl) :
    DS S W (.Assign [.Name x pos'] e pos) (sAsg f (gSlot i)) := by
  obtain ⟨te, pe, se⟩ := he
  refine ⟨tAsg te (gName i), fun X s t => ps_set (by rw [s.sta.N]; exact nd) (by rw [s.sta.N]; exact hN) (by rw [s.sta.sc]; exact (loc_of hx).1) (pe X s.sta t) (hs X.env) (fn_of_sta s.sta hx), fun C L σ H ρ st D hK hs he h => ?_⟩
  refine se C L σ H ρ st _ hK hs he (OutS.bnd hs he h fun a st1 x H1 L1 e1 s1 r1 h1 => ?_)
  exact h1 _ H1 L1 (Ext.refl _ _) s1 ((he.ext hs.mu e1).set i r1)
/-! x op= e -/
theorem ds_aug {i : Nat} {x : Str} {e : Expr} {op : Operator} {r : R2} {g : D → D → Sto → R D} {f : FE} {pos' pos : Pos} (nd : S.N.Nodup) (ho : ∀ X, Sta S X → OpR X (inplaceOp op) r) (sn : Sn2 S.G r g) (he : DE S W e f) (hN : S.N[i]? = some x := by rfl) (hx : LocB S.sc x S.df = true := by rfl) :
    DS S W (.AugAssign (.Name x pos') op e pos) (sAug i g f) := by
  obtain ⟨te, pe, se⟩ := he
  refine ⟨tAug i te r, fun X s t => ps_aug (by rw [s.sta.N]; exact nd) (by rw [s.sta.N]; exact hN) (by rw [s.sta.sc]; exact (loc_of hx).1) (pe X s.sta t) (ho X s.sta) (fn_of_sta s.sta hx), fun C L σ H ρ st D hK hs he h => ?_⟩
  unfold sAug at h
  split at h
  · rename_i xd q
    obtain ⟨xv, hv, rx⟩ := he.at_ i xd q
    refine ⟨xv, hv, se C L σ H ρ st _ hK hs he (OutS.bnd hs he h fun a st1 y H1 L1 e1 s1 r1 h1 => ?_)⟩
    have E1 := he.ext hs.mu e1
    refine sn C W σ L1 H1 st1 xv y xd a _ hK s1 (rx.ext hs.mu e1) r1 (OutS.bnd s1 E1 h1 fun z st2 zv H2 L2 e2 s2 r2 h2 => ?_)
    exact h2.now s2 ((E1.ext s1.mu e2).set i r2)
  · exact h.elim
theorem get_list {X : Cx} : PGet X (rIxL X.K) := by
  intro pins s0 σ H o i ov iv Q I ro ri h
  obtain ⟨p, xs, k, z, rfl, rfl, hq, he, q⟩ := h
  cases ro
  obtain ⟨t, rfl⟩ := ri
  obtain ⟨us, r, pl, hz⟩ := I.list hq
  obtain ⟨j, h1, h2, h3, h4, h5⟩ := atI_get he
  obtain ⟨u, eu, ru⟩ := r.get h2
  have hl := r.length
  have hn := line63
  have done : EP X pins σ Q u s0 := ⟨z, H, I, ru, q⟩
  by_cases h0 : 0 ≤ k
  · have hj : k.toNat = j := by
      rw [seqIndex_of h0 h5] at h1
      exact Option.some.inj h1
    exact wpAny_getItem_list pl.isList h0 (by omega) (by rw [hj]; simpa using eu) done
  · have hj : (k + (us.toArray.size : Int)).toNat = j := by
      rw [seqIndex_neg (by omega) h4] at h1
      rw [List.size_toArray, ← hl]
      exact Option.some.inj h1
    exact wpAny_getItem_list_neg pl.isList (by omega) (by rw [List.size_toArray] <;> omega) (by omega) (by rw [hj]; simpa using eu) done
theorem sn_ixL : Sn2 S.G (rIxL S.G.K) dIxL := by
  intro C W σ L H st x y c d Q hK s r1 r2 h
  unfold dIxL at h
  split at h
  · cases r2
    split at h
    · rename_i xs e
      split at h
      · rename_i v e2
        obtain ⟨p, vs, rfl, h1, l1⟩ := lst_of s r1 e
        rw [hK] at h1
        obtain ⟨w, e3, rw⟩ := atI_rp l1 e2
        exact ⟨p, vs, _, w, rfl, rfl, h1, e3, h.now s rw⟩
      · exact h.elim
    · exact h.elim
  · exact h.elim
theorem ds_augS {o i e : Expr} {op : Operator} {r : R2} {g : D → D → Sto → R D} {fo fi f : FE} {tpos pos : Pos} (hop : ∀ X, Sta S X → OpR X (inplaceOp op) r) (sn : Sn2 S.G r g) (ho : DE S W o fo) (hi : DE S W i fi) (he : DE S W e f)
    (ha : ∀ (ov iv new : Value), augStore i ov iv new = (do holding [new, ov, iv] (setItem ov iv new); release [new, ov, iv] []; pure .next) := by intros; rfl) : DS S W (.AugAssign (.Subscript o i tpos) op e pos) (sAugS fo fi g f) := by
  obtain ⟨to, po, so⟩ := ho
  obtain ⟨ti, pi, si⟩ := hi
  obtain ⟨te, pe, se⟩ := he
  refine ⟨tAugS to ti te (rIxL S.G.K) r rSetL, fun X s t => ps_augS (po X s.sta t) (pi X s.sta t) (by rw [← s.sta.K]; exact get_list) (pe X s.sta t) (hop X s.sta) set_list ha, fun C L σ H ρ st D hK hs he h => ?_⟩
  refine so C L σ H ρ st _ hK hs he (OutS.bnd hs he h fun x st1 xv H1 L1 e1 s1 r1 h1 => ?_)
  have E1 := he.ext hs.mu e1
  refine si C L1 σ H1 ρ st1 _ hK s1 E1 (OutS.bnd s1 E1 h1 fun k st2 kv H2 L2 e2 s2 r2 h2 => ?_)
  have E2 := E1.ext s1.mu e2
  refine sn_ixL C W σ L2 H2 st2 xv kv x k _ hK s2 (r1.ext s1.mu e2) r2 (OutS.bnd s2 E2 h2 fun old st3 oldv H3 L3 e3 s3 r3 h3 => ?_)
  have E3 := E2.ext s2.mu e3
  refine se C L3 σ H3 ρ st3 _ hK s3 E3 (OutS.bnd s3 E3 h3 fun v st4 vv H4 L4 e4 s4 r4 h4 => ?_)
  have E4 := E3.ext s3.mu e4
  refine sn C W σ L4 H4 st4 oldv vv old v _ hK s4 (r3.ext s3.mu e4) r4 (OutS.bnd s4 E4 h4 fun z st5 zv H5 L5 e5 s5 r5 h5 => ?_)
  have E5 := E4.ext s4.mu e5
  have rx := (((r1.ext s1.mu e2).ext s2.mu e3).ext s3.mu e4).ext s4.mu e5
  have rk := ((r2.ext s2.mu e3).ext s3.mu e4).ext s4.mu e5
  cases q : dSet x k z st5 with
  | none =>
    rw [q] at h5
    exact h5.elim
  | some st6 =>
    rw [q] at h5
    refine set_ok s5 rx rk r5 q fun H6 e6 s6 => ?_
    exact h5 σ H6 L5 e6 s6 (E5.ext s5.mu e6)
end
end PV

set_option maxHeartbeats 2000000
/-! loops and comprehensions -/
namespace PV
open PySem PySem.Spec PyProof.Rows L2

mutual
theorem beq_ok : ∀ {a b : D}, D.beq a b = true → a = b
  | .non, b, h => by cases b <;> first | rfl | (rw [D.beq] at h <;> first | (cases h; done) | (intros; intro z; cases z))
  | .bl x, b, h => by
    cases b <;> rw [D.beq] at h <;> first | (cases h; done) | (rw [eq_of_beq h]; done) | (intros; intro z; cases z; done) | skip
  | .int x, b, h => by
    cases b <;> rw [D.beq] at h <;> first | (cases h; done) | (rw [eq_of_beq h]; done) | (intros; intro z; cases z; done) | skip
  | .str x, b, h => by
    cases b <;> rw [D.beq] at h <;> first | (cases h; done) | (rw [eq_of_beq h]; done) | (intros; intro z; cases z; done) | skip
  | .tpw x, b, h => by
    cases b <;> rw [D.beq] at h <;> first | (cases h; done) | (rw [beqL_ok h]; done) | (intros; intro z; cases z; done) | skip
  | .tup x, b, h => by
    cases b <;> rw [D.beq] at h <;> first | (cases h; done) | (rw [beqL_ok h]; done) | (intros; intro z; cases z; done) | skip
  | .rls f x, b, h => by
    cases b <;> rw [D.beq] at h <;> first | (cases h; done) | (rw [Bool.and_eq_true] at h; rw [eq_of_beq h.1, beqL_ok h.2]; done) | (intros; intro z; cases z; done) | skip
  | .wls x, b, h => by
    cases b <;> rw [D.beq] at h <;> first | (cases h; done) | (rw [beqL_ok h]; done) | (intros; intro z; cases z; done) | skip
  | .ref x, b, h => by
    cases b <;> rw [D.beq] at h <;> first | (cases h; done) | (rw [eq_of_beq h]; done) | (intros; intro z; cases z; done) | skip
theorem beqL_ok : ∀ {a b : List D}, D.beqL a b = true → a = b
  | [], [], _ => rfl
  | [], _ :: _, h => by rw [D.beqL] at h <;> first | cases h | (intros; intro z; cases z)
  | _ :: _, [], h => by rw [D.beqL] at h <;> first | cases h | (intros; intro z; cases z)
  | a :: x, b :: y, h => by
    rw [D.beqL, Bool.and_eq_true] at h
    rw [beq_ok h.1, beqL_ok h.2]
end
/-- what a walk gives, turn by turn, as long as what it walks stands -/
def WalkOk (C : Cf) (L : List Addr) (H : Hp) (J : L2.It) (j : PV.It) : Prop := ∀ (i : Nat) (H1 : Hp) (L1 : List Addr) (st1 : Sto), Ext H L H1 L1 → RpS C L1 H1 st1 → okW st1 j.watch = true →
  (i = j.items.length → J.stop i H1) ∧ ∀ d, j.items[i]? = some d → J.go i H1 ∧ ∀ x H2, J.yld i H1 x H2 → Ext H1 L1 H2 L1 ∧ RpS C L1 H2 st1 ∧ Rp C L1 H2 x d
def relIt (C : Cf) : List Addr → Hp → L2.It → PV.It → Prop := fun L H J j => WalkOk C L H J j
structure DI (S : Sx) (W : WX) (tg e : Expr) (f : FI) : Prop where
  ex : ∃ t : TI, (∀ X, Sta S X → Takes X W → PI X tg e t) ∧ ∀ (C : Cf) (L : List Addr) (σ : L2.St) (H : Hp) (ρ : En) (st : Sto) (R : L2.It → Hp → Prop), C.K = S.G.K → RpS C L H st → RpE C L H σ ρ → Out S.G C W σ L H (relIt C) (f ρ st) R → t σ H R
section
variable {C : Cf} {L L1 : List Addr} {H H1 : Hp} {st st1 : Sto}
/-- a list that stands: it is later what it was -/
theorem later_l (s : RpS C L H st) {a : Addr} {d : D} {xs : List D} (r : Rp C L H (.ref a) d) (h : lstOf d st = some xs) (e : Ext H L H1 L1) (s1 : RpS C L1 H1 st1) (w : okW st1 (watchOf d xs) = true) : ∃ vs, SqL C.K H1 a vs ∧ RpL C L1 H1 vs xs := by
  cases r with
  | tup h1 h2 => cases h
  | tpw h1 h2 => cases h
  | rls h1 h2 h3 h4 =>
    have q : _ = xs := Option.some.inj h
    subst q
    exact ⟨_, SqL.of (e.keep _ _ h1 h2), h4.ext s.mu e⟩
  | wls h1 h2 =>
    have q : _ = xs := Option.some.inj h
    subst q
    have r2 := (Rp.wls (C := C) (L := L) h1 h2).ext s.mu e
    cases r2 with
    | wls g1 g2 => exact ⟨_, g1.sq, g2⟩
  | @ref _ n h1 =>
    unfold watchOf okW at w
    rw [Bool.and_eq_true] at w
    have w1 := w.1
    split at w1
    · rename_i ys q
      have e2 := beqL_ok w1
      subst e2
      obtain ⟨b, vs, x1, x2, x3⟩ := s1.cell n _ q
      rw [e.get h1] at x1
      cases x1
      exact ⟨vs, SqL.of x2, x3⟩
    · cases w1
theorem okW_app {a b : List (Nat × List D)} (h : okW st (a ++ b) = true) : okW st a = true ∧ okW st b = true := by
  induction a with
  | nil => exact ⟨rfl, h⟩
  | cons p r ih =>
    obtain ⟨n, xs⟩ := p
    rw [List.cons_append] at h
    rw [okW, Bool.and_eq_true] at h
    obtain ⟨i1, i2⟩ := ih h.2
    exact ⟨by rw [okW, Bool.and_eq_true]; exact ⟨h.1, i1⟩, i2⟩
theorem later_t (s : RpS C L H st) {a : Addr} {ds : List D} (r : Rp C L H (.ref a) (.tup ds)) (e : Ext H L H1 L1) : ∃ vs, SqT C.K H1 a vs ∧ RpL C L1 H1 vs ds := by
  have r2 := r.ext s.mu e
  cases r2 with
  | tup h1 h2 => exact ⟨_, h1.sq, h2⟩
end
section
variable {S : Sx} {W : WX}
def iSeqT (K : PySem.W.Frag) (tl : TE) : TI := fun σ H R => tl σ H fun x H1 => ∃ a, x = .ref a ∧ (((∃ xs, SqL K H1 a xs) ∧ R (Itl K a) H1) ∨ ((∃ xs, SqT K H1 a xs) ∧ R (Itt K a) H1))
theorem pi_seq {X : Cx} {tg l : Expr} {tl : TE} (hl : PE X l tl) : PI X tg l (iSeqT X.K tl) := by
  refine ⟨fun pins s σ H R I h => ?_⟩
  refine thn (hl.run pins s σ H _ I h) fun v s1 hh => ?_
  obtain ⟨x, H1, I1, r1, a, ea, q⟩ := hh
  subst ea
  have go : ∀ (tl' : TE) (J : PI X tg l (iList X.K tl')) (tl2 : TE) (J2 : PI X tg l (iTup X.K tl2)), True := fun _ _ _ _ => trivial
  cases r1
  rcases q with ⟨⟨xs, hq⟩, q⟩ | ⟨⟨xs, hq⟩, q⟩
  · obtain ⟨us, rv, p, _⟩ := I1.list hq
    refine wpAny_pyIter_list p.isList ?_
    refine ⟨s1.heap.objs.size, [s1.heap.objs.size], _, _, H1, rfl, I1.kept (t' := s1.toks) fun b o z => Heap.get?_push_of_some _ z, turn_list a _, ⟨_, Heap.get?_push_size _ rfl, rfl, rfl⟩, fun b hb => ?_, q⟩
    have z : b = s1.heap.objs.size := by simpa using hb
    rw [z]
    exact I1.fpOk (Nat.le_refl _) (I1.hok.fresh (Nat.le_refl _))
  · obtain ⟨us, rv, p, _⟩ := I1.tuple hq
    refine wpAny_pyIter_tuple (show s1.heap.IsTuple a us.toArray from p) ?_
    refine ⟨s1.heap.objs.size, [s1.heap.objs.size], _, _, H1, rfl, I1.kept (t' := s1.toks) fun b o z => Heap.get?_push_of_some _ z, turn_tuple a _, ⟨_, Heap.get?_push_size _ rfl, rfl, rfl⟩, fun b hb => ?_, q⟩
    have z : b = s1.heap.objs.size := by simpa using hb
    rw [z]
    exact I1.fpOk (Nat.le_refl _) (I1.hok.fresh (Nat.le_refl _))
theorem di_seq {tg e : Expr} {f : FE} (ha : DE S W e f) : DI S W tg e (PV.iSeq f) := by
  obtain ⟨t, p, s⟩ := ha
  refine ⟨iSeqT S.G.K t, fun X x k => by rw [← x.K]; exact pi_seq (p X x k), fun C L σ H ρ st R hK hs he h => ?_⟩
  refine s C L σ H ρ st _ hK hs he (Out.bnd h fun d st1 x H1 L1 e1 s1 r1 h1 => ?_)
  unfold itSeq at h1
  split at h1
  · rename_i xs q
    by_cases ht : ∃ ds, d = .tup ds
    · obtain ⟨ds, rfl⟩ := ht
      cases r1 with
      | @tup a vs _ g1 g2 =>
        have q2 : ds = xs := Option.some.inj q
        subst q2
        have r1 : Rp C L1 H1 (.ref a) (.tup ds) := .tup g1 g2
        refine ⟨a, rfl, .inr ⟨⟨vs, hK ▸ g1.sq⟩, h1.now s1 fun i H2 L2 st2 e2 s2 w2 => ?_⟩⟩
        obtain ⟨ws, g1, g2⟩ := later_t s1 r1 e2
        rw [hK] at g1
        refine ⟨fun z => ⟨ws, g1, by rw [g2.len, z]; exact Nat.le_refl _⟩, fun d' hd => ?_⟩
        obtain ⟨v, hv, rv⟩ := g2.get hd
        refine ⟨⟨ws, v, g1, hv⟩, fun x H3 y => ?_⟩
        obtain ⟨rfl, y⟩ := y
        have z := y ws g1
        rw [hv] at z
        cases z
        exact ⟨Ext.refl _ _, s2, rv⟩
    · have q2 : lstOf d st1 = some xs := by
        cases d with
        | tup ds => exact absurd ⟨ds, rfl⟩ ht
        | _ => exact q
      obtain ⟨a, vs, rfl, hq, l1⟩ := lst_of s1 r1 q2
      rw [hK] at hq
      refine ⟨a, rfl, .inl ⟨⟨vs, hq⟩, h1.now s1 fun i H2 L2 st2 e2 s2 w2 => ?_⟩⟩
      obtain ⟨ws, g1, g2⟩ := later_l s1 r1 q2 e2 s2 w2
      rw [hK] at g1
      refine ⟨fun z => ⟨ws, g1, by rw [g2.len, z]; exact Nat.le_refl _⟩, fun d' hd => ?_⟩
      obtain ⟨v, hv, rv⟩ := g2.get hd
      refine ⟨⟨ws, v, g1, hv⟩, fun x H3 y => ?_⟩
      obtain ⟨rfl, y⟩ := y
      have z := y ws g1
      rw [hv] at z
      cases z
      exact ⟨Ext.refl _ _, s2, rv⟩
  · exact h1.elim
theorem rangeL_get {lo hi : Int} {i : Nat} {d : D} (h : (rangeL lo hi)[i]? = some d) : i < (hi - lo).toNat ∧ d = .int (lo + (i : Nat)) := by
  unfold rangeL at h
  rw [List.getElem?_map] at h
  by_cases hi' : i < (hi - lo).toNat
  · rw [List.getElem?_range hi'] at h
    cases h
    exact ⟨hi', rfl⟩
  · rw [List.getElem?_eq_none (by rw [List.length_range]; omega)] at h
    cases h
theorem walk_rg {C : Cf} {L : List Addr} {H : Hp} (lo hi : Int) : WalkOk C L H (Itr lo (hi - lo).toNat) ⟨rangeL lo hi, []⟩ := by
  intro i H1 L1 st1 e s w
  refine ⟨fun z => ?_, fun d hd => ?_⟩
  · show (hi - lo).toNat ≤ i
    rw [z]
    show _ ≤ (rangeL lo hi).length
    unfold rangeL
    rw [List.length_map, List.length_range]
    exact Nat.le_refl _
  · obtain ⟨h1, rfl⟩ := rangeL_get hd
    refine ⟨h1, fun x H2 y => ?_⟩
    obtain ⟨rfl, rfl⟩ := y
    exact ⟨Ext.refl _ _, s, .int _⟩
theorem lim_eq : (2 : Int) ^ 62 = lim := by decide
theorem di_range1 {tg a : Expr} {f : FE} {p pos : Pos} (ha : DE S W a f) (hm : S.G.mg "range" = none) (hg : GlB S.sc "range" = true := by rfl) (hs : ∀ env, starEach [a] env = [(false, eval a env)] := by intro _; rfl) : DI S W tg (.Call (.Name "range" p) [a] [] pos) (PV.iRange1 f) := by
  obtain ⟨t, pa, sa⟩ := ha
  refine ⟨iRng1 (tCons t tNil), fun X s k => pi_range1 (gl_of s hg) (by rw [s.mg]; exact hm) (pa_cons (pa X s k) pa_nil (by rw [hs]; rfl)) (hs X.env), fun C L σ H ρ st R hK hs he h => ?_⟩
  refine sa C L σ H ρ st _ hK hs he (Out.bnd h fun d st1 x H1 L1 e1 s1 r1 h1 => ?_)
  unfold itRange1 at h1
  split at h1
  · rename_i j
    cases r1
    split at h1
    · rename_i hz
      refine ⟨j, rfl, by rw [lim_eq]; exact hz.1, by rw [lim_eq]; exact hz.2, ?_⟩
      refine h1.now s1 ?_
      have := walk_rg (C := C) (L := L1) (H := H1) 0 j
      rw [Int.sub_zero] at this
      exact this
    · exact h1.elim
  · exact h1.elim
theorem di_range2 {tg a b : Expr} {f g : FE} {p pos : Pos} (ha : DE S W a f) (hb : DE S W b g) (hm : S.G.mg "range" = none) (hg : GlB S.sc "range" = true := by rfl) (hs : ∀ env, starEach [a, b] env = [(false, eval a env), (false, eval b env)] := by intro _; rfl) (hs2 : ∀ env, starEach [b] env = [(false, eval b env)] := by intro _; rfl) :
    DI S W tg (.Call (.Name "range" p) [a, b] [] pos) (PV.iRange2 f g) := by
  obtain ⟨t, pa, sa⟩ := ha
  obtain ⟨t2, pb, sb⟩ := hb
  refine ⟨iRng2 (tCons t (tCons t2 tNil)), fun X s k => pi_range2 (gl_of s hg) (by rw [s.mg]; exact hm) (pa_cons (pa X s k) (pa_cons (pb X s k) pa_nil (by rw [hs2]; rfl)) (by rw [hs, hs2])) (hs X.env) (hs2 X.env), fun C L σ H ρ st R hK hs he h => ?_⟩
  refine sa C L σ H ρ st _ hK hs he (Out.bnd h fun d st1 x H1 L1 e1 s1 r1 h1 => ?_)
  refine sb C L1 σ H1 ρ st1 _ hK s1 (he.ext hs.mu e1) (Out.bnd h1 fun d2 st2 y H2 L2 e2 s2 r2 h2 => ?_)
  unfold itRange2 at h2
  split at h2
  · rename_i i j
    cases r1
    cases r2
    split at h2
    · rename_i hz
      exact ⟨i, j, rfl, by rw [lim_eq]; exact hz, h2.now s2 (walk_rg i j)⟩
    · exact h2.elim
  · exact h2.elim
/-! a new pair at a turn -/
theorem pair_ok {C : Cf} {L : List Addr} {H : Hp} {st : Sto} (s : RpS C L H st) {T : Addr} {x y : V} {c d : D} (n : H T = none) (r1 : Rp C L H x c) (r2 : Rp C L H y d) :
    Ext H L (upd H T (.tup [x, y])) L ∧ RpS C L (upd H T (.tup [x, y])) st ∧ Rp C L (upd H T (.tup [x, y])) (.ref T) (.tpw [c, d]) :=
  ⟨s.ext_new n, s.laid n, .tpw (SqT.of upd_same) (.cons (r1.ext s.mu (s.ext_new n)) (.cons (r2.ext s.mu (s.ext_new n)) .nil))⟩
theorem enumL_len : ∀ (k : Nat) (xs : List D), (enumL k xs).length = xs.length
  | _, [] => rfl
  | k, _ :: r => by rw [enumL, List.length_cons, List.length_cons, enumL_len (k + 1) r]
theorem enumL_get : ∀ (k : Nat) (xs : List D) (i : Nat) (d : D), (enumL k xs)[i]? = some d → ∃ x, xs[i]? = some x ∧ d = .tpw [.int ((k + i : Nat) : Int), x]
  | _, [], i, d, h => by simp [enumL] at h
  | k, x :: r, 0, d, h => by
    simp [enumL] at h
    exact ⟨x, rfl, by rw [← h]; rfl⟩
  | k, x :: r, i + 1, d, h => by
    rw [enumL] at h
    obtain ⟨y, h1, h2⟩ := enumL_get (k + 1) r i d (by simpa using h)
    refine ⟨y, by simpa using h1, ?_⟩
    rw [h2, show k + 1 + i = k + (i + 1) by omega]
theorem di_enum {e : Expr} {f : FE} {elts : List Expr} {kk : Nat} {tpos p pos : Pos} (ha : DE S W e f) (hm : S.G.mg "enumerate" = none) (hg : GlB S.sc "enumerate" = true := by rfl) (hs : ∀ env, starEach [e] env = [(false, eval e env)] := by intro _; rfl) :
    DI S W (.Tuple elts kk tpos) (.Call (.Name "enumerate" p) [e] [] pos) (PV.iEnum f) := by
  obtain ⟨t, pa, sa⟩ := ha
  refine ⟨L2.iEnum S.G.K (tCons t tNil), fun X s k => by rw [← s.K]; exact pi_enum (gl_of s hg) (by rw [s.mg]; exact hm) (pa_cons (pa X s k) pa_nil (by rw [hs]; rfl)) (hs X.env), fun C L σ H ρ st R hK hs he h => ?_⟩
  refine sa C L σ H ρ st _ hK hs he (Out.bnd h fun d st1 x H1 L1 e1 s1 r1 h1 => ?_)
  unfold itEnum at h1
  split at h1
  · rename_i xs q
    obtain ⟨a, vs, rfl, hq, l1⟩ := lst_of s1 r1 q
    rw [hK] at hq
    refine ⟨a, vs, rfl, hq, h1.now s1 fun i H2 L2 st2 e2 s2 w2 => ?_⟩
    obtain ⟨ws, g1, g2⟩ := later_l s1 r1 q e2 s2 w2
    rw [hK] at g1
    refine ⟨fun z => ⟨ws, g1, by rw [g2.len, z, enumL_len]; exact Nat.le_refl _⟩, fun d' hd => ?_⟩
    obtain ⟨y, hy, rfl⟩ := enumL_get 0 xs i d' hd
    obtain ⟨v, hv, rv⟩ := g2.get hy
    refine ⟨⟨ws, v, g1, hv⟩, fun x H3 z => ?_⟩
    obtain ⟨T, x', rfl, nT, rfl, hx⟩ := z
    have z := hx ws g1
    rw [hv] at z
    cases z
    rw [Nat.zero_add]
    exact pair_ok s2 nT (.int _) rv
  · exact h1.elim
theorem zipL_len : ∀ (xs ys : List D), (zipL xs ys).length = min xs.length ys.length
  | [], ys => by simp [zipL]
  | x :: r, [] => by simp [zipL]
  | x :: r, y :: s => by
    rw [zipL, List.length_cons, List.length_cons, List.length_cons, zipL_len r s]
    omega
theorem zipL_get : ∀ (xs ys : List D) (i : Nat) (d : D), (zipL xs ys)[i]? = some d → ∃ x y, xs[i]? = some x ∧ ys[i]? = some y ∧ d = .tpw [x, y]
  | [], ys, i, d, h => by simp [zipL] at h
  | x :: r, [], i, d, h => by simp [zipL] at h
  | x :: r, y :: s, 0, d, h => by
    simp [zipL] at h
    exact ⟨x, y, rfl, rfl, h.symm⟩
  | x :: r, y :: s, i + 1, d, h => by
    rw [zipL] at h
    obtain ⟨a, b, h1, h2, h3⟩ := zipL_get r s i d (by simpa using h)
    exact ⟨a, b, by simpa using h1, by simpa using h2, h3⟩
theorem di_zip {e e' : Expr} {f f' : FE} {elts : List Expr} {kk : Nat} {tpos p pos : Pos} (ha : DE S W e f) (hb : DE S W e' f') (hm : S.G.mg "zip" = none) (hg : GlB S.sc "zip" = true := by rfl) (hs : ∀ env, starEach [e, e'] env = (false, eval e env) :: starEach [e'] env := by intro _; rfl)
    (hs2 : ∀ env, starEach [e'] env = [(false, eval e' env)] := by intro _; rfl) (hpl : ∀ env, (backTo pos (starEach [e'] env)).any (·.1) = false := by intro _; rfl) :
    DI S W (.Tuple elts kk tpos) (.Call (.Name "zip" p) [e, e'] [] pos) (PV.iZip f f') := by
  obtain ⟨t, pa, sa⟩ := ha
  obtain ⟨t2, pb, sb⟩ := hb
  refine ⟨L2.iZip S.G.K (tCons t (tCons t2 tNil)), fun X s k => by rw [← s.K]; exact pi_zip (gl_of s hg) (by rw [s.mg]; exact hm) (pa_cons (pa X s k) (pa_cons (pb X s k) pa_nil (by rw [hs2]; rfl)) (hs X.env)) (hs X.env) (hpl X.env), fun C L σ H ρ st R hK hs he h => ?_⟩
  refine sa C L σ H ρ st _ hK hs he (Out.bnd h fun d st1 x H1 L1 e1 s1 r1 h1 => ?_)
  refine sb C L1 σ H1 ρ st1 _ hK s1 (he.ext hs.mu e1) (Out.bnd h1 fun d2 st2 y H2 L2 e2 s2 r2 h2 => ?_)
  unfold itZip at h2
  split at h2
  · rename_i xs ys q1 q2
    have r1' := r1.ext s1.mu e2
    obtain ⟨a, vs, rfl, hq1, l1⟩ := lst_of s2 r1' q1
    obtain ⟨b, ws, rfl, hq2, l2⟩ := lst_of s2 r2 q2
    rw [hK] at hq1 hq2
    refine ⟨a, b, vs, ws, rfl, hq1, hq2, h2.now s2 fun i H3 L3 st3 e3 s3 w3 => ?_⟩
    obtain ⟨wa, wb⟩ := okW_app w3
    obtain ⟨vs', g1, g2⟩ := later_l s2 r1' q1 e3 s3 wa
    obtain ⟨ws', g3, g4⟩ := later_l s2 r2 q2 e3 s3 wb
    rw [hK] at g1 g3
    refine ⟨fun z => ⟨vs', ws', g1, g3, by
      rw [g2.len, g4.len, z]
      show _ ≤ (zipL xs ys).length ∨ _ ≤ (zipL xs ys).length
      rw [zipL_len]
      omega⟩, fun d' hd => ?_⟩
    obtain ⟨c, d, hc, hd2, rfl⟩ := zipL_get xs ys i d' hd
    obtain ⟨u, hu, ru⟩ := g2.get hc
    obtain ⟨v, hv, rv⟩ := g4.get hd2
    refine ⟨⟨vs', ws', u, v, g1, g3, hu, hv⟩, fun x H4 z => ?_⟩
    obtain ⟨T, x', y', rfl, nT, rfl, hx, hy⟩ := z
    have z1 := hx vs' g1
    have z2 := hy ws' g3
    rw [hu] at z1
    rw [hv] at z2
    cases z1
    cases z2
    exact pair_ok s3 nT ru rv
  · exact h2.elim
theorem di_str {tg e : Expr} {f : FE} (ha : DE S W e f) : DI S W tg e (PV.iStr f) := by
  obtain ⟨t, pa, sa⟩ := ha
  refine ⟨L2.iStr t, fun X s k => pi_str (pa X s k), fun C L σ H ρ st R hK hs he h => ?_⟩
  refine sa C L σ H ρ st _ hK hs he (Out.bnd h fun d st1 x H1 L1 e1 s1 r1 h1 => ?_)
  unfold itStr at h1
  split at h1
  · rename_i z
    cases r1
    refine ⟨z, rfl, h1.now s1 fun i H2 L2 st2 e2 s2 w2 => ⟨fun q => ?_, fun d' hd => ?_⟩⟩
    · show z.cps.size ≤ i
      rw [q]
      simp
    · rw [List.getElem?_map] at hd
      cases q : z.cps.toList[i]? with
      | none =>
        rw [q] at hd
        cases hd
      | some c =>
        rw [q] at hd
        cases hd
        have hl := (List.getElem?_eq_some_iff.mp q).1
        refine ⟨show i < z.cps.size by simpa using hl, fun x H3 y => ?_⟩
        obtain ⟨rfl, c', hc, rfl⟩ := y
        have : z.cps[i]? = some c := by simpa using q
        rw [this] at hc
        cases hc
        exact ⟨Ext.refl _ _, s2, .str _⟩
  · exact h1.elim
/-! for -/
theorem ds_for {tg iter : Expr} {body : List Stmt} {fi : FI} {g : FG} {b : FS} {ws : List Nat} {pos : Pos} (hi : DI S W tg iter fi) (hg : DG S W tg ws g) (hb : DSs S W body b) (hs : ∀ env x, foldedSetIterable iter env x = pure x := by intro _ _; rfl) : DS S W (.For tg iter body [] pos) (sFor fi g b) := by
  obtain ⟨ti, pi, si⟩ := hi
  obtain ⟨tg', pg, sg⟩ := hg
  obtain ⟨tb, pb, sb⟩ := hb
  refine ⟨tFor ti tg' tb, fun X s k => ps_for s.po s.sta.calm (pi X s.sta k) (pg X s.sta k) (pb X s k) (hs X.env), fun C L σ H ρ st D hK hs he h => ?_⟩
  refine si C L σ H ρ st _ hK hs he (OutS.bnd hs he h fun j st1 J H1 L1 e1 s1 hw h1 => ?_)
  refine ⟨fun i m σ' H' => ∃ (L' : List Addr) (ρ' : En) (st' : Sto), m = j.items.length - i ∧ i ≤ j.items.length ∧ Ext H1 L1 H' L' ∧ RpS C L' H' st' ∧ RpE C L' H' σ' ρ' ∧ OutS S.G C W L' H' (forL g b j.watch (j.items.drop i) ρ' st') D,
    ⟨j.items.length, L1, ρ, st1, by omega, Nat.zero_le _, Ext.refl _ _, s1, he.ext hs.mu e1, h1⟩, ?_⟩
  rintro i m σ2 H2 ⟨L2, ρ2, st2, rfl, hi, e2, s2, E2, o2⟩
  by_cases hlt : i < j.items.length
  · rw [List.drop_eq_getElem_cons hlt] at o2
    unfold forL at o2
    cases hw2 : okW st2 j.watch with
    | false =>
      rw [hw2] at o2
      exact o2.elim
    | true =>
      rw [hw2] at o2
      have o3 : OutS S.G C W L2 H2 (match g j.items[i] ρ2 st2 with
        | some p => (match b p.1 p.2 with
          | .nx ρ2 st2 => forL g b j.watch (j.items.drop (i + 1)) ρ2 st2
          | .ct ρ2 st2 => forL g b j.watch (j.items.drop (i + 1)) ρ2 st2
          | .bk ρ2 st2 => .nx ρ2 st2
          | r => r)
        | none => .bad) D := o2
      obtain ⟨go, yl⟩ := (hw i H2 L2 st2 e2 s2 hw2).2 _ (List.getElem?_eq_getElem hlt)
      refine .inr ⟨go, fun σ' H' => ∃ (L' : List Addr) (ρ' : En) (st' : Sto), Ext H1 L1 H' L' ∧ RpS C L' H' st' ∧ RpE C L' H' σ' ρ' ∧ OutS S.G C W L' H' (forL g b j.watch (j.items.drop (i + 1)) ρ' st') D,
        fun σ' H' ⟨L', ρ', st', x1, x2, x3, x4⟩ => ⟨j.items.length - (i + 1), by omega, L', ρ', st', rfl, hlt, x1, x2, x3, x4⟩, fun x H3 y => ?_⟩
      obtain ⟨e3, s3, r3⟩ := yl x H3 y
      refine sg C L2 σ2 H3 ρ2 st2 x _ _ hK s3 (E2.ext s2.mu e3) r3 ?_
      cases q : g j.items[i] ρ2 st2 with
      | none =>
        rw [q] at o3
        exact o3.elim
      | some p =>
        rw [q] at o3
        intro σ4 H4 L4 e4 s4 E4 _
        refine sb C L4 σ4 H4 p.1 p.2 _ hK s4 E4 ?_
        have e14 : Ext H1 L1 H4 L4 := (e2.trans e3).trans e4
        have o4 := OutS.shift (e3.trans e4) o3
        cases q5 : b p.1 p.2 with
        | nx ρ5 st5 =>
          simp only [q5] at o4
          intro σ6 H6 L6 e6 s6 E6
          exact ⟨L6, ρ5, st5, e14.trans e6, s6, E6, OutS.shift e6 o4⟩
        | ct ρ5 st5 =>
          simp only [q5] at o4
          intro σ6 H6 L6 e6 s6 E6
          exact ⟨L6, ρ5, st5, e14.trans e6, s6, E6, OutS.shift e6 o4⟩
        | bk ρ5 st5 =>
          simp only [q5] at o4
          exact o4
        | rt d st5 =>
          simp only [q5] at o4
          exact o4
        | ex x ρ5 st5 =>
          simp only [q5] at o4
          exact o4
        | bad =>
          simp only [q5] at o4
          exact o4
  · have hz : i = j.items.length := by omega
    rw [List.drop_eq_nil_of_le (by omega)] at o2
    unfold forL at o2
    cases hw2 : okW st2 j.watch with
    | false =>
      rw [hw2] at o2
      exact o2.elim
    | true =>
      rw [hw2] at o2
      exact .inl ⟨(hw i H2 L2 st2 e2 s2 hw2).1 hz, OutS.now (show OutS S.G C W L2 H2 (.nx ρ2 st2) D from o2) s2 E2⟩
/-! while -/
theorem ds_while {c : Expr} {body : List Stmt} {fc : FT} {b : FS} {pos : Pos} (hc : DT S W c fc) (hb : DSs S W body b) : DS S W (.While c body [] pos) (sWhile fc b) := by
  obtain ⟨tc, pc, sc⟩ := hc
  obtain ⟨tb, pb, sb⟩ := hb
  refine ⟨tWhile tc tb, fun X s k => ps_while s.po (pc X s.sta k) (pb X s k), fun C L σ H ρ st D hK hs he h => ?_⟩
  unfold sWhile at h
  generalize fuel = n0 at h
  refine ⟨fun m σ' H' => ∃ (L' : List Addr) (ρ' : En) (st' : Sto), RpS C L' H' st' ∧ RpE C L' H' σ' ρ' ∧ OutS S.G C W L' H' (whL fc b m ρ' st') D, ⟨n0, L, ρ, st, hs, he, h⟩, ?_⟩
  rintro m σ2 H2 ⟨L2, ρ2, st2, s2, E2, o2⟩
  cases m with
  | zero => exact o2.elim
  | succ m =>
    unfold whL at o2
    refine sc C L2 σ2 H2 ρ2 st2 _ hK s2 E2 (OutS.bnd s2 E2 o2 fun k st3 x H3 L3 e3 s3 r3 o3 => ?_)
    cases r3
    have E3 := E2.ext s2.mu e3
    cases k with
    | false => exact iteF (OutS.now (show OutS S.G C W L3 H3 (.nx ρ2 st3) D from o3) s3 E3)
    | true =>
      refine iteT ⟨fun σ' H' => ∃ (L' : List Addr) (ρ' : En) (st' : Sto), RpS C L' H' st' ∧ RpE C L' H' σ' ρ' ∧ OutS S.G C W L' H' (whL fc b m ρ' st') D, fun σ' H' q => ⟨m, Nat.lt_succ_self m, q⟩, ?_⟩
      refine sb C L3 σ2 H3 ρ2 st3 _ hK s3 E3 ?_
      have o4 : OutS S.G C W L3 H3 (match b ρ2 st3 with
        | .nx ρ2 st2 => whL fc b m ρ2 st2
        | .ct ρ2 st2 => whL fc b m ρ2 st2
        | .bk ρ2 st2 => .nx ρ2 st2
        | r => r) D := o3
      cases q5 : b ρ2 st3 with
      | nx ρ5 st5 =>
        simp only [q5] at o4
        intro σ6 H6 L6 e6 s6 E6
        exact ⟨L6, ρ5, st5, s6, E6, OutS.shift e6 o4⟩
      | ct ρ5 st5 =>
        simp only [q5] at o4
        intro σ6 H6 L6 e6 s6 E6
        exact ⟨L6, ρ5, st5, s6, E6, OutS.shift e6 o4⟩
      | bk ρ5 st5 =>
        simp only [q5] at o4
        exact o4
      | rt d st5 =>
        simp only [q5] at o4
        exact o4
      | ex x ρ5 st5 =>
        simp only [q5] at o4
        exact o4
      | bad =>
        simp only [q5] at o4
        exact o4
end
end PV

set_option maxHeartbeats 2000000
/-! comprehensions; a def by its body -/
namespace PV
open PySem PySem.Spec PyProof.Rows L2
def wNo : WX := fun _ _ _ _ => False
theorem Out.calmed {α β γ δ : Type} {G : Glob} {C : Cf} {W W' : WX} {σ σ' : L2.St} {L : List Addr} {H : Hp} {rel : List Addr → Hp → β → α → Prop} {rel2 : List Addr → Hp → δ → γ → Prop} {r : R α} {f : α → Sto → R γ} {Q : δ → Hp → Prop} (h : Out G C W σ L H rel2 ((calm r).bind f) Q) {Q1 : β → Hp → Prop}
    (hk : ∀ a st1 x H1 L1, Ext H L H1 L1 → RpS C L1 H1 st1 → rel L1 H1 x a → Out G C W σ L1 H1 rel2 (f a st1) Q → Q1 x H1) : Out G C W' σ' L H rel r Q1 := by
  cases r with
  | ok a st =>
    intro v H' L' e s q
    exact hk a st v H' L' e s q (Out.shift e (show Out G C W σ L H rel2 (f a st) Q from h))
  | ex x st => exact h.elim
  | bad => exact h.elim
section
variable {S : Sx} {W : WX}
/-- the same, within a comprehension's block -/
def Sx.blk (S : Sx) (scope : Scope) : Sx := { S with sc := relS scope S.sc, df := false }
theorem sta_blk {X : Cx} {scope : Scope} (x : Sta S X) (s : Shared) (H : Hp) (A : Addr) (cl : List (Str × Addr)) (fp : List Addr) : Sta (S.blk scope) (X.blk s H scope (compEnvC scope cl A X.env) fp) :=
  ⟨x.N, by show relS scope X.env.scope = relS scope S.sc; rw [x.sc], x.mg, x.K, x.P, x.w, x.base, x.calm, x.room, x.gd, fun z => by cases z⟩
theorem takes_blk {X : Cx} : Takes X wNo := takes0
theorem RpE.none {C : Cf} {L : List Addr} {H : Hp} {σ : L2.St} {ρ : En} (h : RpE C L H σ ρ) (i : Nat) : RpE C L H (σ.set i none) (ρ.set i none) := by
  refine ⟨by rw [List.length_set, List.length_set]; exact h.len, fun j e q => ?_⟩
  by_cases hj : j = i
  · subst hj
    have hl : j < ρ.length := by
      have := (List.getElem?_eq_some_iff.mp q).1
      rw [List.length_set] at this
      exact this
    rw [List.getElem?_set_self hl] at q
    cases q
  · rw [List.getElem?_set_ne (fun z => hj z.symm)] at q
    obtain ⟨w, a, b⟩ := h.at_ j e q
    exact ⟨w, by rw [List.getElem?_set_ne (fun z => hj z.symm)]; exact a, b⟩
theorem RpE.wipe {C : Cf} {L : List Addr} {H : Hp} {σ : L2.St} {ρ : En} (h : RpE C L H σ ρ) : ∀ vs : List Nat, RpE C L H (L2.wipe σ vs) (wipeD ρ vs)
  | [] => h
  | v :: vs => by
    unfold L2.wipe wipeD
    exact (RpE.wipe h vs).none v
theorem wipe_at (σ : L2.St) : ∀ (vs : List Nat) (i : Nat), (L2.wipe σ vs)[i]? = if i ∈ vs ∧ i < σ.length then some none else σ[i]?
  | [], i => by simp [L2.wipe]
  | v :: vs, i => by
    unfold L2.wipe
    by_cases hi : v = i
    · subst hi
      by_cases hl : v < σ.length
      · rw [List.getElem?_set_self (by rw [wipe_length]; exact hl), if_pos ⟨by simp, hl⟩]
      · rw [List.getElem?_eq_none (by rw [List.length_set, wipe_length]; omega), if_neg (fun z => hl z.2), List.getElem?_eq_none (by omega)]
    · rw [List.getElem?_set_ne hi, wipe_at σ vs i]
      have : (i ∈ v :: vs) ↔ i ∈ vs := by
        rw [List.mem_cons]
        exact ⟨fun z => z.elim (fun e => absurd e.symm hi) id, .inr⟩
      simp only [this]
theorem keeps_wipe {ws vs : List Nat} (hsub : ∀ i ∈ ws, i ∈ vs) {σ σ' : L2.St} (k : Keeps ws (L2.wipe σ vs) σ') : L2.wipe σ' vs = L2.wipe σ vs := by
  have hl : σ'.length = σ.length := by rw [k.1, wipe_length]
  refine List.ext_getElem? fun i => ?_
  rw [wipe_at, wipe_at, hl]
  by_cases hi : i ∈ vs ∧ i < σ.length
  · rw [if_pos hi, if_pos hi]
  · rw [if_neg hi, if_neg hi]
    by_cases hv : i ∈ vs
    · have : ¬ i < σ.length := fun z => hi ⟨hv, z⟩
      rw [List.getElem?_eq_none (by omega), List.getElem?_eq_none (by omega)]
    · rw [k.2 i fun z => hv (hsub i z), wipe_at, if_neg hi]
/-- a clause's tests -/
structure DTs (S : Sx) (W : WX) (es : List Expr) (f : FT) : Prop where
  ex : ∃ t : TT, (∀ X, Sta S X → Takes X W → PTs X es t) ∧ ∀ (C : Cf) (L : List Addr) (σ : L2.St) (H : Hp) (ρ : En) (st : Sto) (Q : Bool → Hp → Prop), C.K = S.G.K → RpS C L H st → RpE C L H σ ρ → Out S.G C W σ L H relE (f ρ st) Q → t σ H Q
theorem dts_nil : DTs S W [] PV.tYes := ⟨L2.tYes, fun _ _ _ => pts_nil, fun _ _ _ _ _ _ _ _ hs _ h => h.now hs rfl⟩
theorem dts_one {c : Expr} {f : FT} (h : DT S W c f) : DTs S W [c] f := by
  obtain ⟨t, p, s⟩ := h
  exact ⟨t, fun X x k => pts_one (p X x k), s⟩
theorem lc_sound {own : List (Str × Nat)} {ti : TI} {tg' : TG} {tt' : TT} {te' : TE} {fi : FI} {g : FG} {t : FT} {e : FE} {ws : List Nat} (hsub : ∀ i ∈ ws, i ∈ own.map (·.2))
    (si : ∀ (C : Cf) (L : List Addr) (σ : L2.St) (H : Hp) (ρ : En) (st : Sto) (R : L2.It → Hp → Prop), C.K = S.G.K → RpS C L H st → RpE C L H σ ρ → Out S.G C W σ L H (relIt C) (fi ρ st) R → ti σ H R)
    (sg : ∀ (C : Cf) (L : List Addr) (σ : L2.St) (H : Hp) (ρ : En) (st : Sto) (v : V) (d : D) (Q : L2.St → Hp → Prop), C.K = S.G.K → RpS C L H st → RpE C L H σ ρ → Rp C L H v d → OutG C L H ws σ (g d ρ st) Q → tg' v σ H Q)
    (st' : ∀ (C : Cf) (L : List Addr) (σ : L2.St) (H : Hp) (ρ : En) (st : Sto) (Q : Bool → Hp → Prop), C.K = S.G.K → RpS C L H st → RpE C L H σ ρ → Out S.G C wNo σ L H relE (t ρ st) Q → tt' σ H Q)
    (se : ∀ (C : Cf) (L : List Addr) (σ : L2.St) (H : Hp) (ρ : En) (st : Sto) (Q : VK), C.K = S.G.K → RpS C L H st → RpE C L H σ ρ → Out S.G C wNo σ L H (Rp C) (e ρ st) Q → te' σ H Q)
    (C : Cf) (L : List Addr) (σ : L2.St) (H : Hp) (ρ : En) (st : Sto) (Q : VK) (hK : C.K = S.G.K) (hs : RpS C L H st) (he : RpE C L H σ ρ) (h : Out S.G C W σ L H (Rp C) (eLc (own.map (·.2)) fi g t e ρ st) Q) : tLc ti tg' tt' te' (own.map (·.2)) σ H Q := by
  refine si C L σ H ρ st _ hK hs he (Out.bnd h fun j st1 J H1 L1 e1 s1 hw h1 => ?_)
  intro D hD
  have s0 := s1.made (vs := []) (xs := []) hD .nil
  have e0 : Ext H1 L1 (upd H1 D (.lst [])) (L1 ++ [D]) := s1.ext_made hD
  have hn : (L1 ++ [D])[st1.length]? = some D := by
    rw [← s1.len]
    simp
  have E0 := (he.ext hs.mu e1).ext s1.mu e0
  refine ⟨fun i m H' => ∃ (L' : List Addr) (st2 : Sto), m = j.items.length - i ∧ i ≤ j.items.length ∧ Ext (upd H1 D (.lst [])) (L1 ++ [D]) H' L' ∧ RpS C L' H' st2 ∧ Out S.G C W σ L' H' (Rp C) (lcL st1.length (wipeD ρ (own.map (·.2))) g t e j.watch (j.items.drop i) st2) Q,
    ⟨j.items.length, L1 ++ [D], _, by omega, Nat.zero_le _, Ext.refl _ _, s0, Out.shift e0 h1⟩, ?_⟩
  rintro i m H2 ⟨L2, st2, rfl, hi, e2, s2, o2⟩
  have e12 := e0.trans e2
  by_cases hlt : i < j.items.length
  · rw [List.drop_eq_getElem_cons hlt] at o2
    unfold lcL at o2
    cases hw2 : okW st2 j.watch with
    | false =>
      rw [hw2] at o2
      exact o2.elim
    | true =>
      rw [hw2] at o2
      obtain ⟨go, yl⟩ := (hw i H2 L2 st2 e12 s2 hw2).2 _ (List.getElem?_eq_getElem hlt)
      refine .inr ⟨go, fun H' => ∃ (L' : List Addr) (st3 : Sto), Ext (upd H1 D (.lst [])) (L1 ++ [D]) H' L' ∧ RpS C L' H' st3 ∧ Out S.G C W σ L' H' (Rp C) (lcL st1.length (wipeD ρ (own.map (·.2))) g t e j.watch (j.items.drop (i + 1)) st3) Q,
        fun H' ⟨L', st3, x1, x2, x3⟩ => ⟨j.items.length - (i + 1), by omega, L', st3, rfl, hlt, x1, x2, x3⟩, fun x H3 y => ?_⟩
      obtain ⟨e3, s3, r3⟩ := yl x H3 y
      have E3 := ((E0.ext s0.mu e2).ext s2.mu e3).wipe (own.map (·.2))
      refine sg C L2 _ H3 _ st2 x _ _ hK s3 E3 r3 ?_
      have o3 := Out.shift e3 o2
      clear o2
      cases q : g j.items[i] (wipeD ρ (own.map (·.2))) st2 with
      | none =>
        simp only [q] at o3
        exact o3.elim
      | some p =>
        simp only [q] at o3
        intro σ4 H4 L4 e4 s4 E4 k4
        refine ⟨keeps_wipe hsub k4, ?_⟩
        refine st' C L4 σ4 H4 p.1 p.2 _ hK s4 E4 ?_
        refine Out.calmed (Out.shift e4 (show Out S.G C W σ L2 H3 (Rp C) _ Q from o3)) fun k st5 k' H5 L5 e5 s5 r5 o5 => ?_
        cases r5
        have E5 := E4.ext s4.mu e5
        have e15 := ((e2.trans e3).trans e4).trans e5
        cases k with
        | false => exact iteF ⟨L5, st5, e15, s5, o5⟩
        | true =>
          refine iteT (se C L5 σ4 H5 p.1 st5 _ hK s5 E5 ?_)
          refine Out.calmed (show Out S.G C W σ L5 H5 (Rp C) _ Q from o5) fun y' st6 v6 H6 L6 e6 s6 r6 o6 => ?_
          have e16 := e15.trans e6
          have hn6 := e16.get hn
          split at o6
          · rename_i acc qa
            obtain ⟨D', vs, x1, x2, x3⟩ := s6.cell _ _ qa
            rw [hn6] at x1
            cases x1
            split at o6
            · rename_i hz
              refine ⟨vs, x2, by rw [x3.len, line_eq]; exact hz, L6, _, e16.trans (s6.ext_put hn6), s6.put hn6 (x3.append (.cons r6 .nil)), Out.shift (s6.ext_put hn6) o6⟩
            · exact o6.elim
          · exact o6.elim
  · have hz : i = j.items.length := by omega
    rw [List.drop_eq_nil_of_le (by omega)] at o2
    unfold lcL at o2
    cases hw2 : okW st2 j.watch with
    | false =>
      rw [hw2] at o2
      exact o2.elim
    | true =>
      rw [hw2] at o2
      exact .inl ⟨(hw i H2 L2 st2 e12 s2 hw2).1 hz, Out.now (show Out S.G C W σ L2 H2 (Rp C) (.ok (.ref st1.length) st2) Q from o2) s2 (.ref (e2.get hn))⟩
theorem de_lc {elt tg iter : Expr} {ifs : List Expr} {scope : Scope} (own : List (Str × Nat)) {pos : Pos} {fi : FI} {g : FG} {t : FT} {e : FE} {ws : List Nat} (nd : S.N.Nodup) (hi : DI S W tg iter fi) (ok : blkC S.N S.sc scope own = true)
    (hg : DG (S.blk scope) wNo tg ws g) (ht : DTs (S.blk scope) wNo ifs t) (he : DE (S.blk scope) wNo elt e) (hsub : ∀ i ∈ ws, i ∈ own.map (·.2) := by decide) (hs : ∀ env x, foldedSetIterable iter env x = pure x := by intro _ _; rfl) :
    DE S W (.ListComp elt [⟨tg, iter, ifs, 0⟩] scope pos) (eLc (own.map (·.2)) fi g t e) := by
  obtain ⟨ti, pi, si⟩ := hi
  obtain ⟨tg', pg, sg⟩ := hg
  obtain ⟨tt', pt, st'⟩ := ht
  obtain ⟨te', pe, se⟩ := he
  exact ⟨tLc ti tg' tt' te' (own.map (·.2)), fun X s k => pe_lc s.calm (by rw [s.N]; exact nd) (pi X s k) (by rw [s.N, s.sc]; exact blkOk_by ok) (fun s0 H A cl fp => pg _ (sta_blk s s0 H A cl fp) takes_blk) (fun s0 H A cl fp => pt _ (sta_blk s s0 H A cl fp) takes_blk)
    (fun s0 H A cl fp => pe _ (sta_blk s s0 H A cl fp) takes_blk) (hs X.env), lc_sound hsub si sg st' se⟩
/-- y = [..] on one line, y a local -/
theorem ds_setLc {i : Nat} {y : Str} {py : Pos} {elt tg iter : Expr} {ifs : List Expr} {scope : Scope} (own : List (Str × Nat)) {pos spos : Pos} {fi : FI} {g : FG} {t : FT} {e : FE} {ws : List Nat} (nd : S.N.Nodup) (hi : DI S W tg iter fi) (ok : blkC S.N S.sc scope own = true)
    (hg : DG (S.blk scope) wNo tg ws g) (ht : DTs (S.blk scope) wNo ifs t) (he : DE (S.blk scope) wNo elt e) (hN : S.N[i]? = some y := by rfl) (hk : S.sc.kind = .function := by rfl) (hy : S.sc.names.lookup y = some .local := by rfl)
    (hl : (py.line == pos.line) = true := by rfl) (ha : (scope.names.any fun (n, k) => n == y && (k == .local || k == .cell)) = false := by rfl)
    (hsub : ∀ i ∈ ws, i ∈ own.map (·.2) := by decide) (hs : ∀ env x, foldedSetIterable iter env x = pure x := by intro _ _; rfl) :
    DS S W (.Assign [.Name y py] (.ListComp elt [⟨tg, iter, ifs, 0⟩] scope pos) spos) (sAsg (eLc (own.map (·.2)) fi g t e) (gSlot i)) := by
  obtain ⟨ti, pi, si⟩ := hi
  obtain ⟨tg', pg, sg⟩ := hg
  obtain ⟨tt', pt, st'⟩ := ht
  obtain ⟨te', pe, se⟩ := he
  refine ⟨tAsg (tLc ti tg' tt' te' (own.map (·.2))) (gName i), fun X s k => ps_setLc s.sta.calm (by rw [s.sta.N]; exact nd) (by rw [s.sta.N]; exact hN) (by rw [s.sta.sc]; exact hy) (sw_true (by rw [s.sta.sc]; exact hk) (by rw [s.sta.sc]; exact hy) hl ha) (pi X s.sta k) (by rw [s.sta.N, s.sta.sc]; exact blkOk_by ok)
    (fun s0 H A cl fp => pg _ (sta_blk s.sta s0 H A cl fp) takes_blk) (fun s0 H A cl fp => pt _ (sta_blk s.sta s0 H A cl fp) takes_blk) (fun s0 H A cl fp => pe _ (sta_blk s.sta s0 H A cl fp) takes_blk) (hs X.env), fun C L σ H ρ st D hK hs he h => ?_⟩
  refine lc_sound hsub si sg st' se C L σ H ρ st _ hK hs he (OutS.bnd hs he h fun a st1 x H1 L1 e1 s1 r1 h1 => ?_)
  exact h1 _ H1 L1 (Ext.refl _ _) s1 ((he.ext hs.mu e1).set i r1)

/-! a def by its body -/
theorem rpe_start {C : Cf} {L : List Addr} {H : Hp} {vs : List V} {as : List D} (N : List Str) (r : RpL C L H vs as) (hl : as.length ≤ N.length) : RpE C L H (L2.start N vs) (as.map some ++ List.replicate (N.length - as.length) none) := by
  unfold L2.start
  refine ⟨by simp [r.len], fun i d q => ?_⟩
  by_cases hi : i < as.length
  · rw [List.getElem?_append_left (by simpa using hi), List.getElem?_map] at q
    cases q2 : as[i]? with
    | none =>
      rw [q2] at q
      cases q
    | some d' =>
      rw [q2] at q
      cases q
      obtain ⟨v, a, b⟩ := r.get q2
      exact ⟨v, by rw [List.getElem?_append_left (by rw [List.length_map, r.len]; exact hi), List.getElem?_map, a]; rfl, b⟩
  · rw [List.getElem?_append_right (by simpa using hi), List.getElem?_replicate] at q
    split at q <;> cases q
/-- what the body's outcome is worth to the caller -/
theorem fin_out {G : Glob} {C : Cf} {L : List Addr} {H : Hp} {r : SR} {Q : VK} {E : XK} (hk : C.k = L.length)
    (h : match finS L.length r with
      | .ok d st' => ∀ (v : V) (H' : Hp), Ext H L H' L → RpS C L H' st' → Rp C L H' v d → Q v H'
      | .ex x st' => ∀ (cls : Value) (od : Option Addr) (H' : Hp), Ext H L H' L → RpS C L H' st' → RpX G C H' cls od x → E cls od H'
      | .bad => False) : OutS G C (fun cls od _ H' => E cls od H') L H r { nx := fun _ H' => Q .non H', rt := Q } := by
  cases r with
  | nx ρ st =>
    intro σ H' L' e s E'
    have q := fin_ok hk e s (.non : Rp C L' H' .non .non)
    have h' : match fin L.length .non st with
      | .ok d st' => ∀ (v : V) (H' : Hp), Ext H L H' L → RpS C L H' st' → Rp C L H' v d → Q v H'
      | .ex x st' => ∀ (cls : Value) (od : Option Addr) (H' : Hp), Ext H L H' L → RpS C L H' st' → RpX G C H' cls od x → E cls od H'
      | .bad => False := h
    split at q
    · rename_i d st' q2
      rw [q2] at h'
      exact h' _ H' q.1 q.2.1 q.2.2.1
    · exact q.elim
    · rename_i q2
      rw [q2] at h'
      exact h'.elim
  | rt d st =>
    intro v H' L' e s r
    have q := fin_ok hk e s r
    have h' : match fin L.length d st with
      | .ok d st' => ∀ (v : V) (H' : Hp), Ext H L H' L → RpS C L H' st' → Rp C L H' v d → Q v H'
      | .ex x st' => ∀ (cls : Value) (od : Option Addr) (H' : Hp), Ext H L H' L → RpS C L H' st' → RpX G C H' cls od x → E cls od H'
      | .bad => False := h
    split at q
    · rename_i d st' q2
      rw [q2] at h'
      exact h' _ H' q.1 q.2.1 q.2.2.1
    · exact q.elim
    · rename_i q2
      rw [q2] at h'
      exact h'.elim
  | ex x ρ st =>
    intro cls od σ H' L' e s E' rx
    have h' : match (if x.imm && (st.take L.length).all Cell.imm then R.ex (α := D) x (st.take L.length) else .bad) with
      | .ok d st' => ∀ (v : V) (H' : Hp), Ext H L H' L → RpS C L H' st' → Rp C L H' v d → Q v H'
      | .ex x st' => ∀ (cls : Value) (od : Option Addr) (H' : Hp), Ext H L H' L → RpS C L H' st' → RpX G C H' cls od x → E cls od H'
      | .bad => False := h
    obtain ⟨ex, hL, hn⟩ := e.pre
    cases q : x.imm && (st.take L.length).all Cell.imm with
    | false =>
      rw [q] at h'
      exact h'.elim
    | true =>
      rw [q] at h'
      rw [Bool.and_eq_true] at q
      exact h' cls od H' ⟨e.keep, e.tr, ⟨[], by simp, by simp⟩⟩ (imms_of s rfl hL q.2 s.h0 hk) rx
  | bk ρ st => exact h.elim
  | ct ρ st => exact h.elim
  | bad => exact h.elim
mutual
theorem clo_of {g : Nat → Option (List D)} : ∀ (d e : D), (∀ n ds, g n = some ds → D.clos ds = true) → d.fzR g = some e → e.clo = true
  | .non, e, _, h => by
    rw [D.fzR] at h
    cases h
    rfl
  | .bl b, e, _, h => by
    rw [D.fzR] at h
    cases h
    rfl
  | .int i, e, _, h => by
    rw [D.fzR] at h
    cases h
    rfl
  | .str x, e, _, h => by
    rw [D.fzR] at h
    cases h
    rfl
  | .tup ds, e, hg, h => by
    rw [D.fzR] at h
    cases q : D.fzRs g ds with
    | none =>
      rw [q] at h
      cases h
    | some es =>
      rw [q] at h
      cases h
      rw [D.clo]
      exact clos_of ds es hg q
  | .tpw ds, e, hg, h => by
    rw [D.fzR] at h
    cases q : D.fzRs g ds with
    | none =>
      rw [q] at h
      cases h
    | some es =>
      rw [q] at h
      cases h
      rw [D.clo]
      exact clos_of ds es hg q
  | .rls true ds, e, hg, h => by
    rw [D.fzR] at h
    cases q : D.fzRs g ds with
    | none =>
      rw [q] at h
      cases h
    | some es =>
      rw [q] at h
      cases h
      rw [D.clo, clos_of ds es hg q]
      rfl
  | .rls false ds, e, _, h => by
    rw [D.fzR] at h
    cases h
  | .wls ds, e, _, h => by
    rw [D.fzR] at h
    cases h
  | .ref n, e, hg, h => by
    rw [D.fzR] at h
    cases q : g n with
    | none =>
      rw [q] at h
      cases h
    | some es =>
      rw [q] at h
      cases h
      rw [D.clo, hg n es q]
      rfl
theorem clos_of {g : Nat → Option (List D)} : ∀ (ds es : List D), (∀ n ds, g n = some ds → D.clos ds = true) → D.fzRs g ds = some es → D.clos es = true
  | [], es, _, h => by
    rw [D.fzRs] at h
    cases h
    rfl
  | d :: ds, es, hg, h => by
    rw [D.fzRs] at h
    cases q : D.fzR g d with
    | none =>
      rw [q] at h
      cases h
    | some p =>
      cases q' : D.fzRs g ds with
      | none =>
        rw [q, q'] at h
        cases h
      | some ps' =>
        rw [q, q'] at h
        cases h
        rw [D.clos, clo_of d p hg q, clos_of ds ps' hg q']
        rfl
end
theorem clo_cell (k : Nat) (st : Sto) : ∀ (m n : Nat) (ds : List D), cellR k m st n = some ds → D.clos ds = true := by
  intro m
  induction m with
  | zero =>
    intro n ds h
    cases h
  | succ m ih =>
    intro n ds h
    unfold cellR at h
    split at h
    · cases h
    · split at h
      · exact clos_of _ _ ih h
      · cases h
theorem clo_semOf (n : Nat) (b : FS) : Clo (semOf n b) := by
  intro as st
  have key : ∀ k d st', match fin k d st' with | .ok d _ => d.clo = true | .ex x _ => x.imm = true | .bad => True := by
    intro k d st'
    unfold fin
    cases q : D.fzR (cellR k 6 st') d with
    | none => exact trivial
    | some r =>
      show match (if (st'.take k).all Cell.imm then R.ok r (st'.take k) else R.bad) with | .ok d _ => d.clo = true | .ex x _ => x.imm = true | .bad => True
      cases hi : (st'.take k).all Cell.imm with
      | false => exact trivial
      | true => exact clo_of d r (fun n ds => clo_cell k st' 6 n ds) q
  unfold semOf
  cases b (as.map some ++ List.replicate (n - as.length) none) st with
  | nx ρ st' => exact key st.length .non st'
  | rt d st' => exact key st.length d st'
  | ex x ρ st' =>
    show match (if x.imm && (st'.take st.length).all Cell.imm then R.ex (α := D) x (st'.take st.length) else .bad) with | .ok d _ => d.clo = true | .ex x _ => x.imm = true | .bad => True
    cases q : x.imm && (st'.take st.length).all Cell.imm with
    | false => exact trivial
    | true =>
      rw [Bool.and_eq_true] at q
      exact q.1
  | bk ρ st' => exact trivial
  | ct ρ st' => exact trivial
  | bad => exact trivial
end
end PV

set_option maxHeartbeats 2000000
/-! a def of the text; the law's end -/
namespace PV
open PySem PySem.Spec PyProof.Rows L2
section
variable {G : Glob} {base : Heap} {k : Nat} {x qual : Str} {st : Stmt} {f : Addr} {fd : FuncData} {N ps : List Str} {sp : Sp} {dvs : List V}
/-- a def of the text as it stands behind the top -/
abbrev FunG (G : Glob) (x qual : Str) (st : Stmt) (dvs : List V) (f : Addr) (fd : FuncData) : Prop := FunD G.K x qual (defArgs st) (defBody st) (defScope st) dvs [] f fd
abbrev cxG (G : Glob) (base : Heap) (N : List Str) (qual : Str) (sc : Scope) (f : Addr) (cdv : Value) (A : Around) (outer : List Env) (s : Shared) (H : Hp) (E : XK) : Cx :=
  cxOf (L2.CX G.P G.w) G.P G.w G.K G.mg base N qual sc f cdv A outer s H E
theorem fnG_of (F : FunG G x qual st dvs f fd) (S : FnScope N ps (defScope st)) (len : ∀ vs H Q E, sp vs H Q E → vs.length = ps.length)
    (hb : ∀ (cdv : Value) (A : Around) (outer : List Env) (s : Shared) (H : Hp) (vs : List V) (Q : VK) (E : XK), Room k (A.deeper (envOfC qual (defScope st) s.heap.objs.size f cdv)) → A.guards = some [] → sp vs H Q E →
      ∃ t, PSs (cxG G base N qual (defScope st) f cdv A outer s H E) (defBody st) t ∧ t { nx := fun _ H' => Q .non H', rt := Q } (start N vs) H) : FnG G base (k + 1) f fd ps sp := by
  obtain ⟨oc, od, dV, kV, doc, pm, an, cdv, ct, osl, hfd, lk, cod, _, _⟩ := F.ex
  subst hfd
  constructor
  · exact len
  intro A outer s0 H args us vs Q E room gd e0 bnd rel hsp
  have size := len vs H Q E hsp
  have kin : G.K.In s0.heap := e0.mod.kin.keeps (fun b o q => (e0.bs b o q).1)
  have lim0 : s0.heap.NoLimit := e0.mod.nolimit.keeps (fun b o q => (e0.bs b o q).1)
  refine codeAny_call_function room.depth (kin _ _ lk) rfl S.co S.gen rfl (PySem.W.codeRec_of kin cod) (bnd _ _ _ _ ?_)
  have kinds : ∀ y ∈ ps.zip us, (defScope st).names.lookup y.1 = some .local ∨ ((defScope st).names.lookup y.1 = some .cell ∧ ((cellsFrom (s0.heap.objs.size + 1) (defScope st).names []).lookup y.1).isSome = true) := by
    intro y hy
    have hm : y.1 ∈ ps := (List.of_mem_zip (a := y.1) (b := y.2) hy).1
    cases S.par y.1 hm with
    | inl q => exact Or.inl q
    | inr q => exact Or.inr ⟨q, PySem.W.cellsFrom_some _ _ _ (Or.inl q)⟩
  refine wpAny_newFunctionEnv_cells S.kind kinds (fun env eqE s1 inC => ?_)
  subst eqE
  refine ⟨lim0.keeps inC.toInCall.keep, codeAny_func ?_⟩
  obtain ⟨t, pt, ht⟩ := hb cdv A outer s0 H vs Q E (room.deeper _) gd hsp
  have inv0 := inv_start (CX := L2.CX G.P G.w) (cd := cdv) (f := f) (qual := qual) (E := E) S room.hd e0 size rel inC
  have done : ∀ {τ : L2.St} {H' : Hp} {v : V} {u : Value} {s' : Shared}, Inv (cxG G base N qual (defScope st) f cdv A outer s0 H E) [] τ H' s' → RelV v u → Q v H' → CE outer G.P G.w H s0 Q u s' := by
    intro τ H' v u s' J rv hq
    exact ⟨v, H', J.os, J.bare, J.base, J.hok, rv, hq⟩
  refine wpAny_mono (pt.run [] s1 (start N vs) H _ inv0 ht) ?_ (fun _ _ z => z)
  intro fl s' res
  cases fl with
  | brk =>
    obtain ⟨_, _, _, z⟩ := res
    exact z.elim
  | cont =>
    obtain ⟨_, _, _, z⟩ := res
    exact z.elim
  | next =>
    obtain ⟨τ, H', J, hq⟩ := res
    exact done (v := V.non) (u := Value.none) J rfl hq
  | ret u =>
    obtain ⟨v, τ, H', J, rv, hq⟩ := res
    exact done J rv hq
theorem sta_def {df : Bool} {cdv : Value} {A : Around} {outer : List Env} {s : Shared} {H : Hp} {E : XK} (room : Room k (A.deeper (envOfC qual (defScope st) s.heap.objs.size f cdv))) (gd : A.guards = some []) :
    StaS ⟨G, base, k, N, defScope st, df⟩ (cxG G base N qual (defScope st) f cdv A outer s H E) :=
  ⟨⟨rfl, rfl, rfl, rfl, rfl, rfl, rfl, rfl, room, gd, fun _ _ => rfl⟩, passes_of rfl, rfl, rfl⟩
theorem fn_mk (F : FunG G x qual st dvs f fd) (S : FnScope N ps (defScope st)) {b : FS} (hd : ∀ W, DSs ⟨G, base, k, N, defScope st, true⟩ W (defBody st) b) : FnG G base (k + 1) f fd ps (spF G ps.length (semOf N.length b)) := by
  have hpl : ps.length ≤ N.length := by
    have := congrArg List.length S.pre
    rw [List.length_take] at this
    omega
  refine fnG_of F S (fun vs H Q E h => ?_) (fun cdv A outer s H vs Q E room gd h => ?_)
  · obtain ⟨C, L, st, as, _, _, _, hn, _, r, _⟩ := h
    rw [r.len, hn]
  · obtain ⟨C, L, st', as, hK, hH, hk, hn, hs, r, h⟩ := h
    obtain ⟨t, pt, so⟩ := hd (fun cls d _ H => E cls d H)
    refine ⟨t, pt _ (sta_def room gd) (takes_of rfl rfl rfl rfl), ?_⟩
    refine so C L _ H (as.map some ++ List.replicate (N.length - as.length) none) st' _ hK hs (rpe_start N r (by omega)) ?_
    have hl : C.k = L.length := by rw [hk, hs.len]
    refine fin_out hl ?_
    unfold semOf at h
    rw [hs.len]
    exact h
theorem def_mk (F : FunG G x qual st dvs f fd) (S : FnScope N ps (defScope st)) (hm : G.mg x = some (.ref f)) (hb : Binds G.K fd ps []) {b : FS} (hd : ∀ W, DSs ⟨G, base, k, N, defScope st, true⟩ W (defBody st) b) :
    Def G base x ps.length (k + 1) (semOf N.length b) := ⟨⟨f, fd, ps, fn_mk F S hd, hm, F.kp, hb⟩, clo_semOf _ _⟩
/-- what stands for a call that leaves the last arguments out: dd their values -/
structure DefV (G : Glob) (base : Heap) (x : Str) (m : Nat) (dd : List D) (k : Nat) (f : Fs) : Prop where
  ex : ∃ (fa : Addr) (fd : FuncData) (ps : List Str) (ds : List Value) (dvs : List V), FnG G base k fa fd ps (spF G (m + dd.length) f) ∧ G.mg x = some (.ref fa) ∧ PySem.W.keepIn G.K (.ref fa) = true ∧ Binds G.K fd ps ds ∧ Vals dvs ds ∧ ∀ (C : Cf) (L : List Addr) (H : Hp), RpL C L H dvs dd
  clo : Clo f
theorem def_bindN (F : FunG G x qual st [] f fd) (h : ∀ (kV doc pm : Value) (an : Option Addr) (cdv ct : Value) (us : List Value), us.length = ps.length → bindArgs (PySem.W.fnOf x qual (defArgs st) (defBody st) (defScope st) .none kV doc pm an cdv ct) ⟨us, []⟩ = pure (ps.zip us)) : Binds G.K fd ps [] := F.bindsN h
theorem def_bindAll {d : V} (F : FunG G x qual st [d] f fd) (h : ∀ (T : Addr) (kV doc pm : Value) (an : Option Addr) (cdv ct : Value) (us its : List Value), us.length = ps.length → its.length = 1 →
      ∃ k, bindArgs (PySem.W.fnOf x qual (defArgs st) (defBody st) (defScope st) (.ref T) kV doc pm an cdv ct) ⟨us, []⟩ = seqItems? (.ref T) >>= k ∧ k (some its.toArray) = pure (ps.zip us)) : Binds G.K fd ps [] := by
  obtain ⟨ds, r, b⟩ := F.binds1 (ps := ps) ps.length 1 (by simp) (by simp) fun T kV doc pm an cdv ct us its h1 h2 => by
    obtain ⟨k, e1, e2⟩ := h T kV doc pm an cdv ct us its h1 h2
    refine ⟨k, e1, ?_⟩
    have : its.drop 1 = [] := by
      rw [List.drop_eq_nil_iff]
      have h3 : its.length = 1 := h2
      omega
    rw [this, List.append_nil]
    exact e2
  cases r
  exact b
theorem def_bindOne {d : V} (F : FunG G x qual st [d] f fd) (m : Nat) (hm : m + 1 = ps.length) (h : ∀ (T : Addr) (kV doc pm : Value) (an : Option Addr) (cdv ct : Value) (us its : List Value), us.length = m → its.length = 1 →
      ∃ k, bindArgs (PySem.W.fnOf x qual (defArgs st) (defBody st) (defScope st) (.ref T) kV doc pm an cdv ct) ⟨us, []⟩ = seqItems? (.ref T) >>= k ∧ k (some its.toArray) = pure (ps.zip (us ++ its))) : ∃ ds, Vals [d] ds ∧ Binds G.K fd ps ds :=
  F.binds1 (ps := ps) m 0 (by simp) (by simp; omega) fun T kV doc pm an cdv ct us its h1 h2 => h T kV doc pm an cdv ct us its h1 h2
theorem defV_mk {m : Nat} {z : Str} (F : FunG G x qual st [.str z] f fd) (S : FnScope N ps (defScope st)) (hm : G.mg x = some (.ref f)) (hn : ps.length = m + 1) (hb : ∃ ds, Vals [.str z] ds ∧ Binds G.K fd ps ds) {b : FS}
    (hd : ∀ W, DSs ⟨G, base, k, N, defScope st, true⟩ W (defBody st) b) : DefV G base x m [.str z] (k + 1) (semOf N.length b) := by
  obtain ⟨ds, r, b3⟩ := hb
  have F1 := fn_mk F S hd
  rw [hn] at F1
  exact ⟨⟨f, fd, ps, ds, [.str z], F1, hm, F.kp, b3, r, fun C L H => .cons (.str z) .nil⟩, clo_semOf _ _⟩
end
end PV

set_option maxHeartbeats 2000000
/-! the law's end -/
namespace PV
open PySem PySem.Spec PyProof.Rows L2
/-- the script's object -/
abbrev scrO (vs : List Value) : Obj := { cls := .type "list", data := .seq vs.toArray }
section
variable {G : Glob} {s₁ : Shared} {mb : Str → Option Value} {a fa : Addr} {vs : List Value} {ns : List Int} {x : Str} {k : Nat} {f : Fs}
/-- a heap in words in which nothing but the script may be told -/
structure Scr (K : PySem.W.Frag) (a : Addr) (vs : List Value) (ns : List Int) (H : Hp) : Prop where
  only : ∀ b u, H b = some u → b = a ∧ K.lookup a = none ∧ u = .frz (scrO vs) (.lst (ns.map V.int))
  sq : WqL K H a (ns.map V.int)
theorem scr_of (K : PySem.W.Frag) (ok : ∀ o, K.lookup a = some o → o = scrO vs) (hi : IntsAre vs ns) (hl : ns.length ≤ sizeLine) : ∃ H, Scr K a vs ns H := by
  cases q : K.lookup a with
  | none =>
    refine ⟨fun b => if b = a then some (.frz (scrO vs) (.lst (ns.map V.int))) else none, ⟨fun b u h => ?_, .inl ⟨scrO vs, if_pos rfl⟩⟩⟩
    by_cases e : b = a
    · have h2 := (if_pos e).symm.trans h
      cases h2
      exact ⟨e, q, rfl⟩
    · have h2 := (if_neg e).symm.trans h
      cases h2
  | some o =>
    refine ⟨fun _ => none, ⟨(fun b u h => by exact nomatch (show (none : Option HO) = some u from h)), Or.inr ?_⟩⟩
    have e := ok o q
    subst e
    exact ⟨_, vs.toArray, _, q, rfl, rfl, rfl, by rw [List.size_toArray, hi.length]; exact hl, by simpa using vals_ints hi⟩
theorem rpl_ints {C : Cf} {L : List Addr} {H : Hp} : ∀ ns : List Int, RpL C L H (ns.map V.int) (ns.map D.int)
  | [] => .nil
  | i :: r => .cons (.int i) (rpl_ints r)
theorem law_pv (KX : G.K.In s₁.heap) (hns : s₁.heap.Ns mainGlobals G.mg) (hb : s₁.heap.Ns builtinsNs mb) (hbb : ∀ x : Str, x ≠ "__name__" → mb x = bootBuiltins x) (hlim : s₁.heap.NoLimit) (hg : s₁.gens = #[])
    (ha : s₁.heap.get? a = some (scrO vs)) (hi : IntsAre vs ns) (hl : ns.length ≤ sizeLine) (hr : Room k callerA) (hm : G.mg x = some (.ref fa))
    (F : ∀ base : Heap, Def G base x 1 k f) {st' : Sto} (hf : f [.wls (ns.map D.int)] [] = .ok (.bl true) st') :
    codeAny (model G.P G.w) callerA (.call (.ref fa) ⟨[.ref a], []⟩) (fun r s' => r = .ok (.ret (.bool true)) ∧ OldK s₁.heap s'.heap ∧ s'.os = s₁.os ∧ AllBare s'.gens) s₁ := by
  obtain ⟨H, sc⟩ := scr_of G.K (fun o q => by
    have e := KX a o q
    rw [ha] at e
    exact (Option.some.inj e).symm) hi hl
  -- the base: all but the script
  have out : ∀ {b : Addr} {o : Obj} {es : Array DictEntry} {ep : Nat}, s₁.heap.get? b = some o → o.data = .dict es ep → H b = none := by
    intro b o es ep e d
    cases q : H b with
    | none => rfl
    | some u =>
      obtain ⟨rfl, _, _⟩ := sc.only b u q
      rw [ha] at e
      cases e
      cases d
  have keepNs : ∀ {b : Addr} {m : Str → Option Value}, s₁.heap.Ns b m → (hidT s₁.heap H).Ns b m := by
    intro b m hN
    obtain ⟨o, es, ep, e, d, r⟩ := hN
    exact ⟨o, es, ep, hidT_get e (out e d), d, r⟩
  have kin : G.K.In (hidT s₁.heap H) := by
    intro b o e
    refine hidT_get (KX b o e) ?_
    cases q : H b with
    | none => rfl
    | some u =>
      obtain ⟨rfl, z, _⟩ := sc.only b u q
      rw [z] at e
      cases e
  have hok : HOk G.P G.w H s₁.heap := by
    intro b u q
    obtain ⟨rfl, _, rfl⟩ := sc.only b u q
    exact ⟨ha, by rw [List.length_map]; exact hl, vs, _, vals_ints hi, ha⟩
  have md : Mod G.K G.mg (hidT s₁.heap H) := by
    obtain ⟨mc, h1, h2⟩ := hlim
    exact ⟨kin, keepNs hns, ⟨mb, keepNs hb, hbb⟩, ⟨mc, keepNs h1, h2⟩⟩
  have e0 : Env0 G.P G.w G.K G.mg (hidT s₁.heap H) callerA [] s₁ H :=
    ⟨rfl, md, fun b o e => of_hidT e, Nat.le_of_eq (hidT_size _ _), trivial, (fun b q => absurd q (List.not_mem_nil)), hok, AllBare.of_eq hg⟩
  obtain ⟨⟨fb, fd, ps, FG, hm2, _, hbi⟩, cl⟩ := F (hidT s₁.heap H)
  rw [hm] at hm2
  cases hm2
  have good : spF G 1 f [.ref a] H (fun v _ => v = .bl true) (fun _ _ _ => False) := by
    refine ⟨⟨G.K, H, 0⟩, [], [], [.wls (ns.map D.int)], rfl, rfl, rfl, rfl, rps_none, .cons (.wls sc.sq (rpl_ints ns)) .nil, ?_⟩
    rw [hf]
    intro v H' _ _ rp
    cases rp
    rfl
  have one := FG.len _ _ _ _ good
  refine codeAny_mono (FG.run callerA [] s₁ H ⟨[.ref a], []⟩ ([.ref a] ++ []) [V.ref a] _ _ hr rfl e0 (hbi s₁ [Value.ref a] KX one) (show Vals [V.ref a] [Value.ref a] from .cons rfl .nil) good) (fun r s' h => ?_)
  match r, h with
  | .error e, h =>
    obtain ⟨_, _, _, _, _, _, _, _, _, _, _, _, z⟩ := h
    exact z.elim
  | .ok .next, h => exact False.elim h
  | .ok .brk, h => exact False.elim h
  | .ok .cont, h => exact False.elim h
  | .ok (.ret u), h =>
    obtain ⟨v, H', os, bare, un, hok', rv, hv⟩ := h
    cases (show v = .bl true from hv)
    cases (show u = Value.bool true from rv)
    refine ⟨rfl, OldK.of_keep (fun b o e => ?_), os, bare⟩
    cases q : H b with
    | none => exact un.keep b o e q (by intro z; cases z) (by intro z; cases z)
    | some w =>
      obtain ⟨rfl, _, rfl⟩ := sc.only b w q
      have same := (hok' b _ (un.frzs b _ _ q)).1
      rw [ha] at e
      cases e
      exact same
end
/-- the goal that a head by facts leaves, from what the law's def is worth -/
theorem walk_pv {l : PySem.W.OpenLaw} {n k : Nat} {q : Program} {loose : List Str} {XP : (Str → Option Value) → Heap → Prop} {YP : World → Heap → Prop} {d : DefRec} (f : Fs)
    (hn : l.most = some n) (hn2 : n ≤ sizeLine) (hdf : d.params.defaults = []) (hr : Room k callerA)
    (F : ∀ (w : World) (mg : Str → Option Value) (h : Heap), YP w h → h.Ns mainGlobals mg → ∃ G : Glob, G.P = l.prog ∧ G.w = w ∧ G.mg = mg ∧ G.K.In h ∧ ∀ base : Heap, Def G base d.name 1 k f)
    (hf : ∀ ns : List Int, ns.length ≤ n → (∀ z ∈ ns, Builtin.Int.intBits z ≤ 1048576) → ∃ st', f [.wls (ns.map D.int)] [] = .ok (.bl true) st') :
    PySem.W.WalkO q loose XP YP l.row.toRowW d [] (fun f vs => PySem.call f vs) := by
  refine Att.attach_callB hn hdf fun w s₀ s₁ mg mb fa o pm cd doc a vs ns Gr Y ho hd hcd hmg hobj hints hlen hbits hg => ?_
  obtain ⟨G, e1, e2, e3, KX, hF⟩ := F w mg _ Y Gr.T.g
  subst e2
  subst e3
  rw [← e1]
  obtain ⟨st', e⟩ := hf ns hlen hbits
  exact law_pv (G := G) KX Gr.T.g Gr.T.b Gr.T.builtins Gr.T.nolimit hg hobj hints (Nat.le_trans hlen hn2) hr hmg hF e
end PV

set_option maxHeartbeats 2000000
/-! built-in functions and methods -/
namespace PV
open PySem PySem.Spec PyProof.Rows L2
def a1 (f : D → Sto → R D) : List D → Sto → R D
  | [x], st => f x st
  | _, _ => .bad
def a2 (f : D → D → Sto → R D) : List D → Sto → R D
  | [x, y], st => f x y st
  | _, _ => .bad
section
variable {S : Sx} {W : WX} {x : Str} {p pos : Pos} {e : Expr} {es : List Expr} {id T : String} {r : List V → Hp → VK → Prop} {f : List D → Sto → R D} {g : FA}
theorem cB_ok (sn : SnA S.G r f) {t : TA} (sa : ∀ (C : Cf) (L : List Addr) (σ : L2.St) (H : Hp) (ρ : En) (st : Sto) (Q : List V → Hp → Prop), C.K = S.G.K → RpS C L H st → RpE C L H σ ρ → Out S.G C W σ L H (RpL C) (g ρ st) Q → t σ H Q)
    (C : Cf) (L : List Addr) (σ : L2.St) (H : Hp) (ρ : En) (st : Sto) (Q : VK) (hK : C.K = S.G.K) (hs : RpS C L H st) (he : RpE C L H σ ρ) (h : Out S.G C W σ L H (Rp C) (eA f g ρ st) Q) : tCB r t σ H Q :=
  sa C L σ H ρ st _ hK hs he (Out.bnd h fun c st1 x H1 L1 e1 s1 r1 h1 => sn C W σ L1 H1 st1 x c Q hK s1 r1 h1)
/-- f(e, ..), f a built-in function -/
theorem de_blt (hc : ∀ X, Sta S X → CallR X (.builtin id) r) (sn : SnA S.G r f) (ha : DA S W (e :: es) g) (hm : S.G.mg x = none) (hg : GlB S.sc x = true := by rfl) (hv : bootBuiltins x = some (.builtin id) := by rfl) (hn : x ≠ "__name__" := by decide) (hdb : (x == ("__debug__" : Str)) = false := by decide)
    (he : ∀ env, starEach (e :: es) env = (false, eval e env) :: starEach es env := by intro _; rfl) (hpl : ∀ env, (backTo pos (starEach es env)).any (·.1) = false := by intro _; rfl) : DE S W (.Call (.Name x p) (e :: es) [] pos) (eA f g) := by
  obtain ⟨t, pa, sa⟩ := ha
  exact ⟨tCB r t, fun X s k => pe_callB (hc X s) (gl_of s hg) (by rw [s.mg]; exact hm) hv (pa X s k) hn hdb (he _) (hpl _), cB_ok sn sa⟩
/-- T(e, ..), T a built-in type -/
theorem de_bty (hc : ∀ X, Sta S X → CallR X (.type T) r) (sn : SnA S.G r f) (ha : DA S W (e :: es) g) (hm : S.G.mg x = none) (hg : GlB S.sc x = true := by rfl) (hv : bootBuiltins x = some (.type T) := by rfl) (hn : x ≠ "__name__" := by decide) (hdb : (x == ("__debug__" : Str)) = false := by decide)
    (he : ∀ env, starEach (e :: es) env = (false, eval e env) :: starEach es env := by intro _; rfl) (hpl : ∀ env, (backTo pos (starEach es env)).any (·.1) = false := by intro _; rfl) : DE S W (.Call (.Name x p) (e :: es) [] pos) (eA f g) := by
  obtain ⟨t, pa, sa⟩ := ha
  exact ⟨tCB r t, fun X s k => pe_callTy (hc X s) (gl_of s hg) (by rw [s.mg]; exact hm) hv (pa X s k) hn hdb (he _) (hpl _), cB_ok sn sa⟩
theorem sna1 {f : D → Sto → R D} {r : List V → Hp → VK → Prop} (h : ∀ (C : Cf) (W : WX) (σ : L2.St) (L : List Addr) (H : Hp) (st : Sto) (v : V) (d : D) (Q : VK), C.K = S.G.K → RpS C L H st → Rp C L H v d → Out S.G C W σ L H (Rp C) (f d st) Q → r [v] H Q) : SnA S.G r (a1 f) := by
  intro C W σ L H st xs cs Q hK s rl h1
  cases rl with
  | nil => exact h1.elim
  | cons ra rb =>
    cases rb with
    | nil => exact h C W σ L H st _ _ Q hK s ra h1
    | cons _ _ => exact h1.elim
theorem sna2 {f : D → D → Sto → R D} {r : List V → Hp → VK → Prop} (h : ∀ (C : Cf) (W : WX) (σ : L2.St) (L : List Addr) (H : Hp) (st : Sto) (v w : V) (c d : D) (Q : VK), C.K = S.G.K → RpS C L H st → Rp C L H v c → Rp C L H w d → Out S.G C W σ L H (Rp C) (f c d st) Q → r [v, w] H Q) : SnA S.G r (a2 f) := by
  intro C W σ L H st xs cs Q hK s rl h1
  cases rl with
  | nil => exact h1.elim
  | cons ra rb =>
    cases rb with
    | nil => exact h1.elim
    | cons rb rc =>
      cases rc with
      | nil => exact h C W σ L H st _ _ _ _ Q hK s ra rb h1
      | cons _ _ => exact h1.elim
theorem big_line {n : Nat} (h : n ≤ line) : n ≤ sizeLine := by
  rw [line_eq]
  exact h
/-! len -/
theorem rp_len {C : Cf} {L : List Addr} {H : Hp} {st : Sto} (s : RpS C L H st) {v : V} {d : D} {xs : List D} (r : Rp C L H v d) (h : seqOf d st = some xs) : LenV C.K v H xs.length := by
  obtain ⟨a, vs, rfl, hq, rl⟩ := seq_of s r h
  rcases hq with hq | hq
  · exact .inl ⟨vs, hq, rl.len.symm⟩
  · exact .inr ⟨vs, hq, rl.len.symm⟩
theorem sn_len : SnA S.G (fun xs H Q => ∃ x n, xs = [x] ∧ LenV S.G.K x H n ∧ Q (.int n) H) (a1 dLen) := sna1 fun C W σ L H st v d Q hK s r h => by
  have seqs : ∀ xs, seqOf d st = some xs → Out S.G C W σ L H (Rp C) (.ok (.int (xs.length : Nat)) st) Q → ∃ x n, [v] = [x] ∧ LenV S.G.K x H n ∧ Q (.int n) H := fun xs q h => by
    refine ⟨v, xs.length, rfl, ?_, h.now s (.int _)⟩
    rw [← hK]
    exact rp_len s r q
  unfold dLen at h
  split at h
  · rename_i z
    cases r
    split at h
    · rename_i hz
      exact ⟨_, z.length, rfl, ⟨big_line hz, rfl⟩, h.now s (.int _)⟩
    · exact h.elim
  · split at h
    · rename_i xs q
      exact seqs xs q h
    · exact h.elim
theorem de_len (ha : DE S W e f1) (hm : S.G.mg "len" = none) (hg : GlB S.sc "len" = true := by rfl) (he : ∀ env, starEach [e] env = (false, eval e env) :: starEach [] env := by intro _; rfl) : DE S W (.Call (.Name "len" p) [e] [] pos) (eA (a1 dLen) (aCons f1 aNil)) :=
  de_blt (fun X s => by have := @call_len X; rw [s.K] at this; exact this) sn_len (da_cons ha da_nil he) hm hg rfl (by decide) (by decide) he
/-! abs, int, max, min -/
theorem sn_abs : SnA S.G (fun xs H Q => ∃ i, xs = [.int i] ∧ Q (.int (if i < 0 then -i else i)) H) (a1 dAbs) := sna1 fun C W σ L H st v d Q hK s r h => by
  unfold dAbs at h
  split at h
  · cases r
    exact ⟨_, rfl, h.now s (.int _)⟩
  · exact h.elim
theorem de_abs (ha : DE S W e f1) (hm : S.G.mg "abs" = none) (hg : GlB S.sc "abs" = true := by rfl) (he : ∀ env, starEach [e] env = (false, eval e env) :: starEach [] env := by intro _; rfl) : DE S W (.Call (.Name "abs" p) [e] [] pos) (eA (a1 dAbs) (aCons f1 aNil)) :=
  de_blt (fun X s => call_abs) sn_abs (da_cons ha da_nil he) hm hg rfl (by decide) (by decide) he
theorem sn_int : SnA S.G (fun xs H Q => (∃ i, xs = [.int i] ∧ Q (.int i) H) ∨ ∃ k, xs = [.bl k] ∧ Q (.int (if k then 1 else 0)) H) (a1 dInt) := sna1 fun C W σ L H st v d Q hK s r h => by
  unfold dInt at h
  split at h
  · cases r
    exact .inl ⟨_, rfl, h.now s (.int _)⟩
  · cases r
    exact .inr ⟨_, rfl, h.now s (.int _)⟩
  · exact h.elim
theorem de_int1 (ha : DE S W e f1) (hm : S.G.mg "int" = none) (hg : GlB S.sc "int" = true := by rfl) (he : ∀ env, starEach [e] env = (false, eval e env) :: starEach [] env := by intro _; rfl) : DE S W (.Call (.Name "int" p) [e] [] pos) (eA (a1 dInt) (aCons f1 aNil)) :=
  de_bty (fun X s => call_int1) sn_int (da_cons ha da_nil he) hm hg rfl (by decide) (by decide) he
theorem sn_max2 : SnA S.G (fun xs H Q => ∃ i j, xs = [.int i, .int j] ∧ Q (.int (if j > i then j else i)) H) (a2 dMax2) := sna2 fun C W σ L H st v w c d Q hK s r1 r2 h => by
  unfold dMax2 at h
  split at h
  · cases r1
    cases r2
    exact ⟨_, _, rfl, h.now s (.int _)⟩
  · exact h.elim
theorem sn_min2 : SnA S.G (fun xs H Q => ∃ i j, xs = [.int i, .int j] ∧ Q (.int (if j < i then j else i)) H) (a2 dMin2) := sna2 fun C W σ L H st v w c d Q hK s r1 r2 h => by
  unfold dMin2 at h
  split at h
  · cases r1
    cases r2
    exact ⟨_, _, rfl, h.now s (.int _)⟩
  · exact h.elim
theorem de_max2 {e2 : Expr} (ha : DE S W e f1) (hb : DE S W e2 f2) (hm : S.G.mg "max" = none) (hg : GlB S.sc "max" = true := by rfl) (he : ∀ env, starEach [e, e2] env = (false, eval e env) :: starEach [e2] env := by intro _; rfl) (he2 : ∀ env, starEach [e2] env = (false, eval e2 env) :: starEach [] env := by intro _; rfl)
    (hpl : ∀ env, (backTo pos (starEach [e2] env)).any (·.1) = false := by intro _; rfl) : DE S W (.Call (.Name "max" p) [e, e2] [] pos) (eA (a2 dMax2) (aCons f1 (aCons f2 aNil))) :=
  de_blt (fun X s => call_max2 s.calm) sn_max2 (da_cons ha (da_cons hb da_nil he2) he) hm hg rfl (by decide) (by decide) he hpl
theorem de_min2 {e2 : Expr} (ha : DE S W e f1) (hb : DE S W e2 f2) (hm : S.G.mg "min" = none) (hg : GlB S.sc "min" = true := by rfl) (he : ∀ env, starEach [e, e2] env = (false, eval e env) :: starEach [e2] env := by intro _; rfl) (he2 : ∀ env, starEach [e2] env = (false, eval e2 env) :: starEach [] env := by intro _; rfl)
    (hpl : ∀ env, (backTo pos (starEach [e2] env)).any (·.1) = false := by intro _; rfl) : DE S W (.Call (.Name "min" p) [e, e2] [] pos) (eA (a2 dMin2) (aCons f1 (aCons f2 aNil))) :=
  de_blt (fun X s => call_min2 s.calm) sn_min2 (da_cons ha (da_cons hb da_nil he2) he) hm hg rfl (by decide) (by decide) he hpl
/-! sum, max, min, any, all of a list -/
theorem rpl_intsOf {C : Cf} {L : List Addr} {H : Hp} : ∀ {vs : List V} {ds : List D} {ns : List Int}, RpL C L H vs ds → intsOf ds = some ns → vs = ns.map V.int
  | _, _, ns, .nil, h => by
    unfold intsOf at h
    cases h
    rfl
  | _, _, ns, .cons (d := d) (ds := ds) r1 r2, h => by
    cases d with
    | int i =>
      have h' : (intsOf ds).map (i :: ·) = some ns := h
      cases q : intsOf ds with
      | none =>
        rw [q] at h'
        cases h'
      | some ms =>
        rw [q] at h'
        cases h'
        cases r1
        rw [rpl_intsOf r2 q]
        rfl
    | _ => exact nomatch (show none = some ns from h)
theorem rpl_blsOf {C : Cf} {L : List Addr} {H : Hp} : ∀ {vs : List V} {ds : List D} {ns : List Bool}, RpL C L H vs ds → blsOf ds = some ns → vs = ns.map V.bl
  | _, _, ns, .nil, h => by
    unfold blsOf at h
    cases h
    rfl
  | _, _, ns, .cons (d := d) (ds := ds) r1 r2, h => by
    cases d with
    | bl i =>
      have h' : (blsOf ds).map (i :: ·) = some ns := h
      cases q : blsOf ds with
      | none =>
        rw [q] at h'
        cases h'
      | some ms =>
        rw [q] at h'
        cases h'
        cases r1
        rw [rpl_blsOf r2 q]
        rfl
    | _ => exact nomatch (show none = some ns from h)
theorem ints_at {C : Cf} {L : List Addr} {H : Hp} {st : Sto} (s : RpS C L H st) {v : V} {d : D} {ns : List Int} (r : Rp C L H v d) (h : (lstOf d st).bind intsOf = some ns) : ∃ a, v = .ref a ∧ SqL C.K H a (ns.map V.int) := by
  cases q : lstOf d st with
  | none =>
    rw [q] at h
    cases h
  | some xs =>
    rw [q] at h
    obtain ⟨a, vs, rfl, hq, rl⟩ := lst_of s r q
    have e := rpl_intsOf rl h
    subst e
    exact ⟨a, rfl, hq⟩
theorem bls_at {C : Cf} {L : List Addr} {H : Hp} {st : Sto} (s : RpS C L H st) {v : V} {d : D} {ns : List Bool} (r : Rp C L H v d) (h : (lstOf d st).bind blsOf = some ns) : ∃ a, v = .ref a ∧ SqL C.K H a (ns.map V.bl) := by
  cases q : lstOf d st with
  | none =>
    rw [q] at h
    cases h
  | some xs =>
    rw [q] at h
    obtain ⟨a, vs, rfl, hq, rl⟩ := lst_of s r q
    have e := rpl_blsOf rl h
    subst e
    exact ⟨a, rfl, hq⟩
theorem sn_sum : SnA S.G (rSum S.G.K) (a1 dSum) := sna1 fun C W σ L H st v d Q hK s r h => by
  unfold dSum at h
  split at h
  · rename_i ns q
    obtain ⟨a, rfl, hq⟩ := ints_at s r q
    rw [hK] at hq
    exact ⟨a, ns, rfl, hq, h.now s (.int _)⟩
  · exact h.elim
theorem sn_any : SnA S.G (rAny S.G.K) (a1 dAny) := sna1 fun C W σ L H st v d Q hK s r h => by
  unfold dAny at h
  split at h
  · rename_i ns q
    obtain ⟨a, rfl, hq⟩ := bls_at s r q
    rw [hK] at hq
    exact ⟨a, ns, rfl, hq, h.now s (.bl _)⟩
  · exact h.elim
theorem sn_all : SnA S.G (rAll S.G.K) (a1 dAll) := sna1 fun C W σ L H st v d Q hK s r h => by
  unfold dAll at h
  split at h
  · rename_i ns q
    obtain ⟨a, rfl, hq⟩ := bls_at s r q
    rw [hK] at hq
    exact ⟨a, ns, rfl, hq, h.now s (.bl _)⟩
  · exact h.elim
theorem maxL_in : ∀ (r : List Int) (x m : Int), (m ∈ x :: r) → (∀ y ∈ x :: r, y ≤ m) → r.foldl (fun a b => if a < b then b else a) x = m
  | [], x, m, h, _ => by
    simp at h
    exact h.symm
  | b :: r, x, m, h, h2 => by
    rw [List.foldl_cons]
    have hx := h2 x (by simp)
    have hb := h2 b (by simp)
    refine maxL_in r _ m ?_ fun y hy => ?_
    · rcases List.mem_cons.mp h with e | h
      · subst e
        have : ¬ m < b := by omega
        rw [if_neg this]
        simp
      · rcases List.mem_cons.mp h with e | h
        · subst e
          by_cases q : x < m
          · rw [if_pos q]
            simp
          · rw [if_neg q]
            have : x = m := by omega
            rw [this]
            simp
        · exact List.mem_cons_of_mem _ h
    · rcases List.mem_cons.mp hy with e | hy
      · rw [e]
        split <;> assumption
      · exact h2 y (List.mem_cons_of_mem _ (List.mem_cons_of_mem _ hy))
theorem minL_in : ∀ (r : List Int) (x m : Int), (m ∈ x :: r) → (∀ y ∈ x :: r, m ≤ y) → r.foldl (fun a b => if b < a then b else a) x = m
  | [], x, m, h, _ => by
    simp at h
    exact h.symm
  | b :: r, x, m, h, h2 => by
    rw [List.foldl_cons]
    have hx := h2 x (by simp)
    have hb := h2 b (by simp)
    refine minL_in r _ m ?_ fun y hy => ?_
    · rcases List.mem_cons.mp h with e | h
      · subst e
        have : ¬ b < m := by omega
        rw [if_neg this]
        simp
      · rcases List.mem_cons.mp h with e | h
        · subst e
          by_cases q : m < x
          · rw [if_pos q]
            simp
          · rw [if_neg q]
            have : x = m := by omega
            rw [this]
            simp
        · exact List.mem_cons_of_mem _ h
    · rcases List.mem_cons.mp hy with e | hy
      · rw [e]
        split <;> assumption
      · exact h2 y (List.mem_cons_of_mem _ (List.mem_cons_of_mem _ hy))
theorem sn_max1 : SnA S.G (rMax S.G.K) (a1 dMax1) := sna1 fun C W σ L H st v d Q hK s r h => by
  unfold dMax1 at h
  split at h
  · rename_i ns q
    obtain ⟨a, rfl, hq⟩ := ints_at s r q
    rw [hK] at hq
    cases ns with
    | nil => exact h.elim
    | cons x ns =>
      refine ⟨a, _, rfl, hq, by simp, fun m hm hall => ?_⟩
      have h' := h.now s (.int _)
      rw [maxL_in ns x m hm hall] at h'
      exact h'
  · exact h.elim
theorem sn_min1 : SnA S.G (rMin S.G.K) (a1 dMin1) := sna1 fun C W σ L H st v d Q hK s r h => by
  unfold dMin1 at h
  split at h
  · rename_i ns q
    obtain ⟨a, rfl, hq⟩ := ints_at s r q
    rw [hK] at hq
    cases ns with
    | nil => exact h.elim
    | cons x ns =>
      refine ⟨a, _, rfl, hq, by simp, fun m hm hall => ?_⟩
      have h' := h.now s (.int _)
      rw [minL_in ns x m hm hall] at h'
      exact h'
  · exact h.elim
theorem de_sum (ha : DE S W e f1) (hm : S.G.mg "sum" = none) (hg : GlB S.sc "sum" = true := by rfl) (he : ∀ env, starEach [e] env = (false, eval e env) :: starEach [] env := by intro _; rfl) : DE S W (.Call (.Name "sum" p) [e] [] pos) (eA (a1 dSum) (aCons f1 aNil)) :=
  de_blt (fun X s => by have := @cr_sum X s.calm; rw [s.K] at this; exact this) sn_sum (da_cons ha da_nil he) hm hg rfl (by decide) (by decide) he
theorem de_any (ha : DE S W e f1) (hm : S.G.mg "any" = none) (hg : GlB S.sc "any" = true := by rfl) (he : ∀ env, starEach [e] env = (false, eval e env) :: starEach [] env := by intro _; rfl) : DE S W (.Call (.Name "any" p) [e] [] pos) (eA (a1 dAny) (aCons f1 aNil)) :=
  de_blt (fun X s => by have := @cr_any X s.calm; rw [s.K] at this; exact this) sn_any (da_cons ha da_nil he) hm hg rfl (by decide) (by decide) he
theorem de_all (ha : DE S W e f1) (hm : S.G.mg "all" = none) (hg : GlB S.sc "all" = true := by rfl) (he : ∀ env, starEach [e] env = (false, eval e env) :: starEach [] env := by intro _; rfl) : DE S W (.Call (.Name "all" p) [e] [] pos) (eA (a1 dAll) (aCons f1 aNil)) :=
  de_blt (fun X s => by have := @cr_all X s.calm; rw [s.K] at this; exact this) sn_all (da_cons ha da_nil he) hm hg rfl (by decide) (by decide) he
theorem de_max1 (ha : DE S W e f1) (hm : S.G.mg "max" = none) (hg : GlB S.sc "max" = true := by rfl) (he : ∀ env, starEach [e] env = (false, eval e env) :: starEach [] env := by intro _; rfl) : DE S W (.Call (.Name "max" p) [e] [] pos) (eA (a1 dMax1) (aCons f1 aNil)) :=
  de_blt (fun X s => by have := @cr_max X s.calm; rw [s.K] at this; exact this) sn_max1 (da_cons ha da_nil he) hm hg rfl (by decide) (by decide) he
theorem de_min1 (ha : DE S W e f1) (hm : S.G.mg "min" = none) (hg : GlB S.sc "min" = true := by rfl) (he : ∀ env, starEach [e] env = (false, eval e env) :: starEach [] env := by intro _; rfl) : DE S W (.Call (.Name "min" p) [e] [] pos) (eA (a1 dMin1) (aCons f1 aNil)) :=
  de_blt (fun X s => by have := @cr_min X s.calm; rw [s.K] at this; exact this) sn_min1 (da_cons ha da_nil he) hm hg rfl (by decide) (by decide) he
/-! list(xs), tuple(xs) -/
theorem sn_list : SnA S.G (fun xs H Q => ∃ p ys, xs = [.ref p] ∧ (SqL S.G.K H p ys ∨ SqT S.G.K H p ys) ∧ ∀ l, H l = none → Q (.ref l) (upd H l (.lst ys))) (a1 dList) := sna1 fun C W σ L H st v d Q hK s r h => by
  unfold dList at h
  split at h
  · rename_i xs q
    obtain ⟨a, vs, rfl, hq, rl⟩ := seq_of s r q
    rw [hK] at hq
    exact ⟨a, vs, rfl, hq, fun l n => out_new s rl h l n⟩
  · exact h.elim
theorem sn_tuple : SnA S.G (rTupleF S.G.K) (a1 dTuple) := sna1 fun C W σ L H st v d Q hK s r h => by
  unfold dTuple at h
  split at h
  · cases r with
    | tup h1 h2 =>
      have h1' := h1.sq
      rw [hK] at h1'
      exact ⟨_, _, rfl, .inr ⟨h1', h.now s (.tup h1 h2)⟩⟩
  · split at h
    · rename_i xs q
      obtain ⟨a, vs, rfl, hq, rl⟩ := lst_of s r q
      rw [hK] at hq
      exact ⟨a, vs, rfl, .inl ⟨hq, out_tup s rl h⟩⟩
    · exact h.elim
theorem de_list (ha : DE S W e f1) (hm : S.G.mg "list" = none) (hg : GlB S.sc "list" = true := by rfl) (he : ∀ env, starEach [e] env = (false, eval e env) :: starEach [] env := by intro _; rfl) : DE S W (.Call (.Name "list" p) [e] [] pos) (eA (a1 dList) (aCons f1 aNil)) :=
  de_bty (fun X s => by have := @call_list_of X; rw [s.K] at this; exact this) sn_list (da_cons ha da_nil he) hm hg rfl (by decide) (by decide) he
theorem de_tuple (ha : DE S W e f1) (hm : S.G.mg "tuple" = none) (hg : GlB S.sc "tuple" = true := by rfl) (he : ∀ env, starEach [e] env = (false, eval e env) :: starEach [] env := by intro _; rfl) : DE S W (.Call (.Name "tuple" p) [e] [] pos) (eA (a1 dTuple) (aCons f1 aNil)) :=
  de_bty (fun X s => by have := @call_tupleF X; rw [s.K] at this; exact this) sn_tuple (da_cons ha da_nil he) hm hg rfl (by decide) (by decide) he
end
end PV

set_option maxHeartbeats 2000000
/-! repr, isinstance, ranges -/
namespace PV
open PySem PySem.Spec PyProof.Rows L2
section
variable {X : Cx}
def rRep (K : PySem.W.Frag) : List V → Hp → VK → Prop := fun vs H Q => ∃ (v : V) (p : PyData), vs = [v] ∧ Dp K H v p ∧ p.showable = true ∧ p.hasDict = false ∧ p.depth ≤ 60 ∧ p.shown.length ≤ sizeLine ∧ Q (.str p.shown) H
theorem call_rep (hg : X.A.guards = some []) (hu : X.A.units + 64 < cLine) : CallR X (.builtin "repr") (rRep X.K) := by
  intro pins s σ H xs us Q I r h
  obtain ⟨v, p, rfl, hp, sh, hd, dp, sz, q⟩ := h
  obtain ⟨u, rfl, rv⟩ := vals1 r
  have seq : ∀ a, v = .ref a → wpAny (model X.prog X.w) X.A (call (.builtin "repr") [u]) (EP X pins σ Q) X.xe s := by
    intro a e
    subst e
    cases (show u = Value.ref a from rv)
    obtain ⟨as, rd⟩ := Dp.reads I p (.ref a) (.ref a) hp rfl
    refine repr_of_reads' rd sh (fun z => ?_) hg (by omega) (fun _ _ z => z) (fun h' t tk hk => ?_) sz
    · rw [hd] at z
      cases z
    · exact ⟨.str p.shown, H, I.kept hk, ⟨t, rfl⟩, q⟩
  cases hp with
  | non =>
    cases rv
    exact PySem.P.repr_of_none ⟨.str "None", H, I.tok _, ⟨_, rfl⟩, q⟩
  | bl b =>
    cases rv
    exact PySem.P.repr_of_bool ⟨.str _, H, I.tok _, ⟨_, rfl⟩, q⟩
  | int i =>
    obtain ⟨t, rfl⟩ := rv
    exact PySem.P.repr_of_int (by simpa [PyData.showable] using sh) ⟨.str _, H, I.tok _, ⟨_, rfl⟩, q⟩
  | str z =>
    obtain ⟨t, rfl⟩ := rv
    exact PySem.P.repr_of_str ⟨.str _, H, I.tok _, ⟨_, rfl⟩, q⟩ sz
  | lst h1 h2 => exact seq _ rfl
  | tup h1 h2 => exact seq _ rfl
end
mutual
theorem nodict {K : PySem.W.Frag} {H : Hp} : ∀ {v : V} {p : PyData}, Dp K H v p → p.hasDict = false
  | _, _, .non => by rw [PyData.hasDict]
  | _, _, .bl b => by rw [PyData.hasDict]
  | _, _, .int i => by rw [PyData.hasDict]
  | _, _, .str x => by rw [PyData.hasDict]
  | _, _, .lst _ h => by rw [PyData.hasDict]; exact nodictA h
  | _, _, .tup _ h => by rw [PyData.hasDict]; exact nodictA h
theorem nodictA {K : PySem.W.Frag} {H : Hp} : ∀ {vs : List V} {ps : List PyData}, DpAll K H vs ps → PyData.hasDictAll ps = false
  | _, _, .nil => by rw [PyData.hasDictAll]
  | _, _, .cons a b => by rw [PyData.hasDictAll, nodict a, nodictA b]; rfl
end
section
variable {S : Sx} {W : WX} {x : Str} {p pos : Pos} {e : Expr} {es : List Expr}
theorem sn_repr : SnA S.G (rRep S.G.K) (a1 dRepr) := sna1 fun C W σ L H st v d Q hK s r h => by
  unfold dRepr at h
  split at h
  · rename_i p q
    split at h
    · rename_i c
      rw [Bool.and_eq_true, Bool.and_eq_true] at c
      obtain ⟨⟨c1, c3⟩, c4⟩ := c
      have dp := pd_of s r q
      rw [hK] at dp
      exact ⟨v, p, rfl, dp, c1, nodict dp, of_decide_eq_true c3, big_line (of_decide_eq_true c4), h.now s (.str _)⟩
    · exact h.elim
  · exact h.elim
theorem de_repr (ha : DE S W e f1) (hm : S.G.mg "repr" = none) (hg : GlB S.sc "repr" = true := by rfl) (he : ∀ env, starEach [e] env = (false, eval e env) :: starEach [] env := by intro _; rfl) : DE S W (.Call (.Name "repr" p) [e] [] pos) (eA (a1 dRepr) (aCons f1 aNil)) :=
  de_blt (fun X s => by have := @call_rep X s.gd (by have := s.room.un; omega); rw [s.K] at this; exact this) sn_repr (da_cons ha da_nil he) hm hg rfl (by decide) (by decide) he
/-! isinstance -/
def Ty.nm : Ty → String
  | .tInt => "int"
  | .tBool => "bool"
  | .tStr => "str"
  | .tTuple => "tuple"
  | .tList => "list"
def tyN : D → String
  | .non => "NoneType"
  | .bl _ => "bool"
  | .int _ => "int"
  | .str _ => "str"
  | .tup _ => "tuple"
  | .tpw _ => "tuple"
  | _ => "list"
def tyNs : List String := ["NoneType", "bool", "int", "str", "tuple", "list"]
def isTyN (t : Ty) (n : String) : Bool := n == t.nm || (t.nm == "int" && n == "bool")
theorem tyN_in (d : D) : tyN d ∈ tyNs := by cases d <;> simp [tyN, tyNs]
theorem isTy_eq (t : Ty) (d : D) : isTy t d = isTyN t (tyN d) := by
  cases t <;> cases d <;> rfl
theorem kit_t (K : PySem.W.Frag) (t : Ty) (d : D) : PySem.W.kitOne K (.type (tyN d)) (.type t.nm) = some (isTy t d) := by
  rw [isTy_eq]
  refine kit_ty ?_
  have m := tyN_in d
  revert m
  generalize tyN d = n
  revert n
  cases t with
  | tInt => exact (by decide +kernel : ∀ n ∈ tyNs, kitB n "int" = some (isTyN .tInt n))
  | tBool => exact (by decide +kernel : ∀ n ∈ tyNs, kitB n "bool" = some (isTyN .tBool n))
  | tStr => exact (by decide +kernel : ∀ n ∈ tyNs, kitB n "str" = some (isTyN .tStr n))
  | tTuple => exact (by decide +kernel : ∀ n ∈ tyNs, kitB n "tuple" = some (isTyN .tTuple n))
  | tList => exact (by decide +kernel : ∀ n ∈ tyNs, kitB n "list" = some (isTyN .tList n))
theorem tyx_of {C : Cf} {L : List Addr} {H : Hp} {st : Sto} (s : RpS C L H st) {v : V} {d : D} (r : Rp C L H v d) : TyX C.K H v (.type (tyN d)) := by
  cases r with
  | non => exact .base .non
  | bl b => exact .base (.bl b)
  | int i => exact .base (.int i)
  | str z => exact .base (.str z)
  | tup h _ =>
    rcases h with ⟨o, h, _⟩ | ⟨o, its, n, e, c, _⟩
    · exact .fTuple h
    · exact .kTuple e c
  | tpw h _ =>
    rcases h with h | ⟨o, its, n, e, c, _⟩
    · rcases h with h | ⟨o, h⟩
      · exact .base (.tup h)
      · exact .fTuple h
    · exact .kTuple e c
  | rls h _ _ _ => exact .base (.lst h)
  | wls h _ =>
    rcases h with ⟨o, h⟩ | ⟨o, its, n, e, c, _⟩
    · exact .base (.frz h)
    · exact .kList e c
  | ref h =>
    obtain ⟨xs, q⟩ := s.mu _ (List.mem_of_getElem? h)
    exact .base (.lst q)
/-- isinstance(e, T), T a built-in type -/
theorem de_isi {p2 : Pos} (t : Ty) (ha : DE S W e f1) (hm : S.G.mg "isinstance" = none) (hmT : S.G.mg x = none) (hv : bootBuiltins x = some (.type t.nm) := by rfl) (hg : GlB S.sc "isinstance" = true := by rfl) (hgT : GlB S.sc x = true := by rfl)
    (hn : x ≠ "__name__" := by decide) (hdb : (x == ("__debug__" : Str)) = false := by decide) (he : ∀ env, starEach [e, .Name x p2] env = (false, eval e env) :: starEach [.Name x p2] env := by intro _; rfl) (he2 : ∀ env, starEach [.Name x p2] env = (false, eval (.Name x p2) env) :: starEach [] env := by intro _; rfl)
    (hpl : ∀ env, (backTo pos (starEach [.Name x p2] env)).any (·.1) = false := by intro _; rfl) : DE S W (.Call (.Name "isinstance" p) [e, .Name x p2] [] pos) (e1 (dIsi t) f1) := by
  obtain ⟨ta, pa, sa⟩ := ha
  refine ⟨tCB (rIsi S.G.K) (tCons ta (tCons (L2.tC (V.ty t.nm)) tNil)), fun X s k => ?_, fun C L σ H ρ st Q hK hs hE h => ?_⟩
  · exact pe_callB (by have := @call_isi X; rw [s.K] at this; exact this) (gl_of s hg) (by rw [s.mg]; exact hm) rfl (pa_cons (pa X s k) (pa_cons (pe_bltn (gl_of s hgT) (by rw [s.mg]; exact hmT) hv rfl hn hdb) pa_nil (he2 _)) (he _)) (by decide) (by decide) (he _) (hpl _)
  · refine sa C L σ H ρ st _ hK hs hE (Out.bnd h fun d st1 v H1 L1 e1 s1 r1 h1 => ?_)
    have ty := tyx_of s1 r1
    rw [hK] at ty
    exact ⟨v, .ty t.nm, _, .type t.nm, _, rfl, .ty _, ty, kit_t _ t d, h1.now s1 (.bl _)⟩
/-! list(range(..)), tuple(range(..)) -/
def rgOk (a b : Int) : Bool := decide (-lim ≤ a ∧ a < lim ∧ -lim ≤ b ∧ b < lim ∧ (b - a).toNat ≤ line)
def rgD (a b : Int) : List D := (List.range (b - a).toNat).map fun i => D.int (a + (i : Nat))
def dLR1 (x : D) (st : Sto) : R D := match x with
  | .int j => if rgOk 0 j then newLst (rgD 0 j) st else .bad
  | _ => .bad
def dLR2 (x y : D) (st : Sto) : R D := match x, y with
  | .int i, .int j => if rgOk i j then newLst (rgD i j) st else .bad
  | _, _ => .bad
def dTR1 (x : D) (st : Sto) : R D := match x with
  | .int j => if rgOk 0 j then .ok (.tup (rgD 0 j)) st else .bad
  | _ => .bad
def dTR2 (x y : D) (st : Sto) : R D := match x, y with
  | .int i, .int j => if rgOk i j then .ok (.tup (rgD i j)) st else .bad
  | _, _ => .bad
theorem rg_ok {a b : Int} (h : rgOk a b = true) : RgOk a b := by
  unfold rgOk lim line at h
  have h := of_decide_eq_true h
  obtain ⟨h1, h2, h3, h4, h5⟩ := h
  exact ⟨by omega, by omega, by omega, by omega, by omega⟩
theorem rpl_rgN {C : Cf} {L : List Addr} {H : Hp} (a : Int) : ∀ l : List Nat, RpL C L H (l.map fun i => V.int (a + (i : Nat))) (l.map fun i => D.int (a + (i : Nat)))
  | [] => .nil
  | i :: l => .cons (.int _) (rpl_rgN a l)
theorem rpl_rg {C : Cf} {L : List Addr} {H : Hp} (a b : Int) : RpL C L H (rgV a b) (rgD a b) := rpl_rgN a _
variable {a b : Expr} {fa fb : FE} {p2 : Pos}
theorem de_lstRg1 (ha : DE S W a fa) (hm : S.G.mg "range" = none) (hml : S.G.mg "list" = none) (hg : GlB S.sc "range" = true := by rfl) (hgl : GlB S.sc "list" = true := by rfl) (na : ∀ env, starEach [a] env = (false, eval a env) :: starEach [] env := by intro _; rfl)
    (nb : ∀ env, starEach [.Call (.Name "range" p) [a] [] pos] env = (false, eval (.Call (.Name "range" p) [a] [] pos) env) :: starEach [] env := by intro _; rfl) {q q2 : Pos} : DE S W (.Call (.Name "list" q) [.Call (.Name "range" p) [a] [] pos] [] q2) (e1 dLR1 fa) := by
  obtain ⟨ta, pa, sa⟩ := ha
  refine ⟨tLstRg (tRg1 ta), fun X s k => pe_listRg s.calm (gl_of s hgl) (by rw [s.mg]; exact hml) (prg_1 (gl_of s hg) (by rw [s.mg]; exact hm) (pa X s k) (na _)) (nb _), fun C L σ H ρ st Q hK hs hE h => ?_⟩
  refine sa C L σ H ρ st _ hK hs hE (Out.bnd h fun d st1 v H1 L1 e1 s1 r1 h1 => ?_)
  unfold dLR1 at h1
  split at h1
  · cases r1
    split at h1
    · rename_i ok
      exact ⟨_, rfl, rg_ok ok, fun q n => out_new s1 (rpl_rg _ _) h1 q n⟩
    · exact h1.elim
  · exact h1.elim
theorem de_tupRg1 (ha : DE S W a fa) (hm : S.G.mg "range" = none) (hml : S.G.mg "tuple" = none) (hg : GlB S.sc "range" = true := by rfl) (hgl : GlB S.sc "tuple" = true := by rfl) (na : ∀ env, starEach [a] env = (false, eval a env) :: starEach [] env := by intro _; rfl)
    (nb : ∀ env, starEach [.Call (.Name "range" p) [a] [] pos] env = (false, eval (.Call (.Name "range" p) [a] [] pos) env) :: starEach [] env := by intro _; rfl) {q q2 : Pos} : DE S W (.Call (.Name "tuple" q) [.Call (.Name "range" p) [a] [] pos] [] q2) (e1 dTR1 fa) := by
  obtain ⟨ta, pa, sa⟩ := ha
  refine ⟨tTupRgF (tRg1 ta), fun X s k => pe_tupRgF s.calm (gl_of s hgl) (by rw [s.mg]; exact hml) (prg_1 (gl_of s hg) (by rw [s.mg]; exact hm) (pa X s k) (na _)) (nb _), fun C L σ H ρ st Q hK hs hE h => ?_⟩
  refine sa C L σ H ρ st _ hK hs hE (Out.bnd h fun d st1 v H1 L1 e1 s1 r1 h1 => ?_)
  unfold dTR1 at h1
  split at h1
  · cases r1
    split at h1
    · rename_i ok
      exact ⟨_, rfl, rg_ok ok, out_tup s1 (rpl_rg _ _) h1⟩
    · exact h1.elim
  · exact h1.elim
theorem de_lstRg2 (ha : DE S W a fa) (hb : DE S W b fb) (hm : S.G.mg "range" = none) (hml : S.G.mg "list" = none) (hg : GlB S.sc "range" = true := by rfl) (hgl : GlB S.sc "list" = true := by rfl) (na : ∀ env, starEach [a, b] env = (false, eval a env) :: starEach [b] env := by intro _; rfl)
    (na2 : ∀ env, starEach [b] env = (false, eval b env) :: starEach [] env := by intro _; rfl) (hp : ∀ env, (backTo pos (starEach [b] env)).any (·.1) = false := by intro _; rfl)
    (nb : ∀ env, starEach [.Call (.Name "range" p) [a, b] [] pos] env = (false, eval (.Call (.Name "range" p) [a, b] [] pos) env) :: starEach [] env := by intro _; rfl) {q q2 : Pos} : DE S W (.Call (.Name "list" q) [.Call (.Name "range" p) [a, b] [] pos] [] q2) (e2 dLR2 fa fb) := by
  obtain ⟨ta, pa, sa⟩ := ha
  obtain ⟨tb, pb, sb⟩ := hb
  refine ⟨tLstRg (tRg2 ta tb), fun X s k => pe_listRg s.calm (gl_of s hgl) (by rw [s.mg]; exact hml) (prg_2 (gl_of s hg) (by rw [s.mg]; exact hm) (pa X s k) (pb X s k) (na _) (na2 _) (hp _)) (nb _), fun C L σ H ρ st Q hK hs hE h => ?_⟩
  refine sa C L σ H ρ st _ hK hs hE (Out.bnd h fun c st1 x H1 L1 e1 s1 r1 h1 => ?_)
  refine sb C L1 σ H1 ρ st1 _ hK s1 (hE.ext hs.mu e1) (Out.bnd h1 fun d st2 y H2 L2 e2 s2 r2 h2 => ?_)
  unfold dLR2 at h2
  split at h2
  · cases r1
    cases r2
    split at h2
    · rename_i ok
      exact ⟨_, _, rfl, rfl, rg_ok ok, fun q n => out_new s2 (rpl_rg _ _) h2 q n⟩
    · exact h2.elim
  · exact h2.elim
theorem de_tupRg2 (ha : DE S W a fa) (hb : DE S W b fb) (hm : S.G.mg "range" = none) (hml : S.G.mg "tuple" = none) (hg : GlB S.sc "range" = true := by rfl) (hgl : GlB S.sc "tuple" = true := by rfl) (na : ∀ env, starEach [a, b] env = (false, eval a env) :: starEach [b] env := by intro _; rfl)
    (na2 : ∀ env, starEach [b] env = (false, eval b env) :: starEach [] env := by intro _; rfl) (hp : ∀ env, (backTo pos (starEach [b] env)).any (·.1) = false := by intro _; rfl)
    (nb : ∀ env, starEach [.Call (.Name "range" p) [a, b] [] pos] env = (false, eval (.Call (.Name "range" p) [a, b] [] pos) env) :: starEach [] env := by intro _; rfl) {q q2 : Pos} : DE S W (.Call (.Name "tuple" q) [.Call (.Name "range" p) [a, b] [] pos] [] q2) (e2 dTR2 fa fb) := by
  obtain ⟨ta, pa, sa⟩ := ha
  obtain ⟨tb, pb, sb⟩ := hb
  refine ⟨tTupRgF (tRg2 ta tb), fun X s k => pe_tupRgF s.calm (gl_of s hgl) (by rw [s.mg]; exact hml) (prg_2 (gl_of s hg) (by rw [s.mg]; exact hm) (pa X s k) (pb X s k) (na _) (na2 _) (hp _)) (nb _), fun C L σ H ρ st Q hK hs hE h => ?_⟩
  refine sa C L σ H ρ st _ hK hs hE (Out.bnd h fun c st1 x H1 L1 e1 s1 r1 h1 => ?_)
  refine sb C L1 σ H1 ρ st1 _ hK s1 (hE.ext hs.mu e1) (Out.bnd h1 fun d st2 y H2 L2 e2 s2 r2 h2 => ?_)
  unfold dTR2 at h2
  split at h2
  · cases r1
    cases r2
    split at h2
    · rename_i ok
      exact ⟨_, _, rfl, rfl, rg_ok ok, out_tup s2 (rpl_rg _ _) h2⟩
    · exact h2.elim
  · exact h2.elim
end
end PV

set_option maxHeartbeats 2000000
/-! methods; the turned tuple -/
namespace PV
open PySem PySem.Spec PyProof.Rows L2
section
variable {prog : Program} {w : World} {A : Around} {E : Value → Shared → Prop} {s : Shared}
theorem adjust_rev (n : Nat) : Builtin.Slice.sliceAdjust none none (-1) (n : Int) = ((n : Int) - 1, -1) := rfl
theorem places_rev (n : Nat) : Builtin.Slice.slicePlaces ((n : Int) - 1) (-1) (-1) = n := by
  unfold Builtin.Slice.slicePlaces
  rw [if_neg (by decide)]
  show (if (n : Int) - 1 > -1 then ((n : Int) - 1 - (-1) - 1) / 1 + 1 else 0).toNat = n
  rw [Int.ediv_one]
  split <;> omega
theorem sliceApplied_rev {sl : Addr} {vs : Value} {n : Nat} {Q : Int × Int × Nat → Shared → Prop} (hs : s.heap.IsSliceOf sl .none .none vs) (ps : IsPart vs (some (-1))) (h : Q ((n : Int) - 1, -1, n) s) : wpAny (model prog w) A (Builtin.Slice.sliceApplied (.ref sl) (pure (n : Int))) Q E s := by
  obtain ⟨os, e1, e2, e3⟩ := hs
  unfold Builtin.Slice.sliceApplied Builtin.Slice.sliceFields
  refine wpAny_bind (wpAny_bind (wpAny_field e1 e3 (x := .none) rfl ?_))
  refine wpAny_bind (wpAny_field e1 e3 (x := .none) rfl ?_)
  refine wpAny_bind (wpAny_field e1 e3 (x := vs) rfl (wpAny_pure ?_))
  refine wpAny_bind (HT.slicePart_ ps ?_)
  show wpAny _ _ (if ((-1 : Int) == 0) = true then _ else _) _ _ s
  rw [if_neg (by decide)]
  refine wpAny_bind (slicePart_none ?_)
  refine wpAny_bind (slicePart_none ?_)
  refine wpAny_bind (wpAny_pure ?_)
  show wpAny _ _ (match Builtin.Slice.sliceAdjust none none (-1) (n : Int) with | (lo, hi) => pure (lo, (-1 : Int), Builtin.Slice.slicePlaces lo hi (-1))) _ _ s
  rw [adjust_rev]
  show wpAny _ _ (pure ((n : Int) - 1, (-1 : Int), Builtin.Slice.slicePlaces ((n : Int) - 1) (-1) (-1))) _ _ s
  rw [places_rev]
  exact wpAny_pure h
theorem getElem_rev {α : Type} (xs : List α) (k : Nat) (h : k < xs.length) : xs.reverse[k]? = xs[((xs.length : Int) - 1 + (k : Int) * -1).toNat]? := by
  have e : ((xs.length : Int) - 1 + (k : Int) * -1).toNat = xs.length - 1 - k := by omega
  rw [e, List.getElem?_reverse h]
theorem range_get {α : Type} (xs : List α) : (List.range xs.length).filterMap (fun k => xs[k]?) = xs := by
  induction xs with
  | nil => rfl
  | cons x xs ih =>
    rw [List.length_cons, List.range_succ_eq_map, List.filterMap_cons, List.filterMap_map]
    show x :: _ = _
    exact congrArg (x :: ·) ih
theorem fm_congr {α β : Type} {f g : α → Option β} : ∀ {l : List α}, (∀ x ∈ l, f x = g x) → l.filterMap f = l.filterMap g
  | [], _ => rfl
  | x :: l, h => by rw [List.filterMap_cons, List.filterMap_cons, h x (by simp), fm_congr fun y m => h y (List.mem_cons_of_mem _ m)]
theorem pick_rev (xs : Array Value) : ((List.range xs.size).filterMap fun (m : Nat) => xs[((xs.size : Int) - 1 + (m : Int) * -1).toNat]?).toArray = xs.toList.reverse.toArray := by
  congr 1
  have e : (List.range xs.size).filterMap (fun (m : Nat) => xs[((xs.size : Int) - 1 + (m : Int) * -1).toNat]?) = (List.range xs.size).filterMap (fun (m : Nat) => xs.toList.reverse[m]?) := by
    refine fm_congr fun m hm => ?_
    have hm := List.mem_range.mp hm
    rw [getElem_rev _ m (by rw [Array.length_toList]; exact hm), Array.length_toList, Array.getElem?_toList]
  rw [e]
  have := range_get xs.toList.reverse
  rw [List.length_reverse, Array.length_toList] at this
  exact this
theorem getItem_tup_rev {t sl : Addr} {items : Array Value} {vs : Value} {Q : Value → Shared → Prop} (ht : IsTup s.heap t items) (hs : s.heap.IsSliceOf sl .none .none vs) (ps : IsPart vs (some (-1)))
    (h : Q (.ref s.heap.objs.size) { s with heap := s.heap.push { cls := .type "tuple", data := .seq items.toList.reverse.toArray } }) (hz : items.size ≤ sizeLine) : wpAny (model prog w) A (getItem (.ref t) (.ref sl)) Q E s := by
  have fits : sizeOk (.seq items.toList.reverse.toArray) := by
    show items.toList.reverse.toArray.size ≤ sizeLine
    rw [List.size_toArray, List.length_reverse, Array.length_toList]
    exact hz
  have isSl : s.TypeIs (.ref sl) "slice" := by
    obtain ⟨os, e1, e2, e3⟩ := hs
    exact ⟨os, e1, e2⟩
  unfold getItem
  try with_reducible refine wpAny_holding ?_
  first | refine wpAny_bind (wpAny_pure ?_) | skip
  refine wpAny_bind (wpAny_sequenceKey ht.typeIs (by decide) ?_)
  refine wpAny_bind (wpAny_callSpecial?_slot (name := Str.ofString "__getitem__") ht.typeIs slot_tuple_getitem (wpAny_call_entry slot_tuple_getitem ht.typeIs entry_tuple_getitem ?_ (args_tuple_getitem _ _)))
  show wpAny _ _ (Builtin.Tuple.tupleItemsOf (.ref t) >>= _) _ _ s
  refine wpAny_bind (tupleItemsOf_ ht ?_)
  refine wpAny_bind (wpAny_typeOf isSl ?_)
  rw [if_pos (by decide)]
  refine wpAny_bind (sliceApplied_rev hs ps ?_)
  have no : ¬ ((((items.size : Int) - 1) == 0 && (-1 : Int) == 1 && items.size == items.size) = true) := by
    intro q
    rw [Bool.and_eq_true, Bool.and_eq_true] at q
    exact absurd q.1.2 (by decide)
  show wpAny _ _ (if (((items.size : Int) - 1) == 0 && (-1 : Int) == 1 && items.size == items.size) = true then _ else _) _ _ s
  rw [if_neg no, pick_rev]
  first
    | exact wpAny_bind (m := Builtin.Tuple.tupleExact _) (wpAny_newObj_type (wpAny_pure ⟨_, rfl, wpAny_pure h⟩) fits)
    | exact wpAny_bind (m := Builtin.Tuple.tupleExact _) (wpAny_newObj_type (wpAny_bind (wpAny_pure (wpAny_pure ⟨_, rfl, wpAny_pure h⟩))) fits)
    | exact wpAny_bind (wpAny_bind (m := Builtin.Tuple.tupleExact _) (wpAny_newObj_type (wpAny_pure (wpAny_pure ⟨_, rfl, wpAny_pure h⟩)) fits))
    | exact wpAny_bind (wpAny_bind (m := Builtin.Tuple.tupleExact _) (wpAny_newObj_type (wpAny_pure ⟨_, rfl, wpAny_pure h⟩) fits))
end
section
variable {X : Cx} {e : Expr} {te : TE} {k : Nat} {p1 p2 p3 pos : Pos}
/-- xs[::-1], xs a list or a tuple -/
def tRevA (K : PySem.W.Frag) (te : TE) : TE := fun σ H Q => te σ H fun x H1 => ∃ a xs, x = .ref a ∧ ((SqL K H1 a xs ∧ ∀ p, H1 p = none → Q (.ref p) (upd H1 p (.lst xs.reverse))) ∨ (SqT K H1 a xs ∧ NewT H1 xs.reverse Q))
theorem pe_revA (he : PE X e te) : PE X (.Subscript e (.Slice none none (some (.UnaryOp .USub (.Constant (.int 1) k p1) p2)) p3) pos) (tRevA X.K te) := by
  constructor
  intro pins s σ H Q I h
  refine Subscript_ (thn (he.run pins s σ H _ I h) fun v s1 ⟨x, H1, I1, r1, q1⟩ => ?_)
  obtain ⟨a, xs, rfl, q⟩ := q1
  cases r1
  have one : PO X (some (.UnaryOp .USub (.Constant (.int 1) k p1) p2)) (tPart (tUn (rU fun i => .int (-i)) (L2.tC (.int 1)))) := po_some (pe_un un_neg pe_int)
  refine wpAny_Slice (thn (po_none.run pins s1 σ H1 (fun o G => o = none ∧ G = H1) I1 ⟨rfl, rfl⟩) fun vl s2 ⟨_, G2, I2, pl, el, e2⟩ => ?_)
  subst el
  subst e2
  refine thn (po_none.run pins s2 σ G2 (fun o G => o = none ∧ G = G2) I2 ⟨rfl, rfl⟩) fun vu s3 ⟨_, G3, I3, pu, eu, e3⟩ => ?_
  subst eu
  subst e3
  refine thn (one.run pins s3 σ G3 (fun o G => o = some (-1) ∧ G = G3) I3 ⟨1, rfl, -1, rfl, rfl, rfl⟩) fun vs s4 ⟨_, G4, I4, ps, eo, e4⟩ => ?_
  subst eo
  subst e4
  have I5 : Inv X pins σ G4 { s4 with heap := s4.heap.push { cls := .type "slice", data := .fields #[vl, vu, vs] } } := I4.kept (t' := s4.toks) (fun b ob z => Heap.get?_push_of_some _ z)
  show wpAny (model X.prog X.w) X.A (subscriptTail e (.Slice none none (some (.UnaryOp .USub (.Constant (.int 1) k p1) p2)) p3) (.ref a) (.ref s4.heap.objs.size)) (EP X pins σ Q) X.xe { s4 with heap := s4.heap.push { cls := .type "slice", data := .fields #[vl, vu, vs] } }
  rcases q with ⟨hx, q⟩ | ⟨hx, q⟩
  · obtain ⟨its, r, ht, hz⟩ := I5.list hx
    have len := r.length
    refine tail_any (ops := [.ref a, .ref s4.heap.objs.size]) ht.isList.typeIs (PySem.slot_list_getitem.lookup) ?_ (by with_unfolding_all rfl)
    refine wpAny_getItem_list_slice ht.isList (Heap.IsSliceOf.new _ vl vu vs) pl pu ps (by decide) ?_ (by rw [List.size_toArray]; omega)
    rw [PySem.W.krv_pick]
    exact ⟨.ref _, _, I5.laid (t' := s4.toks) (o := .lst xs.reverse) (fun b ob z => Heap.get?_push_of_some _ z) (Nat.le_refl _) ⟨by rw [List.length_reverse]; exact hz, _, 0, r.reverse, Heap.get?_push_size _ rfl⟩, rfl, q _ (I5.hok.fresh (Nat.le_refl _))⟩
  · obtain ⟨its, r, ht, hz⟩ := I5.tuple hx
    have len := r.length
    cases pl
    cases pu
    refine tail_any (ops := [.ref a, .ref s4.heap.objs.size]) ht.typeIs (slot_tuple_getitem.lookup) ?_ (by with_unfolding_all rfl)
    refine getItem_tup_rev ht (Heap.IsSliceOf.new _ .none .none vs) ps ?_ (by rw [List.size_toArray]; omega)
    exact laidT I5 r.reverse (by rw [List.length_reverse]; exact hz) q
end
def dRev (x : D) (st : Sto) : R D := match x with
  | .tup xs => .ok (.tup xs.reverse) st
  | x => match lstOf x st with
    | some xs => newLst xs.reverse st
    | none => .bad
section
variable {S : Sx} {W : WX} {e : Expr} {k : Nat} {p1 p2 p3 pos : Pos}
theorem de_rev (ha : DE S W e f1) : DE S W (.Subscript e (.Slice none none (some (.UnaryOp .USub (.Constant (.int 1) k p1) p2)) p3) pos) (e1 dRev f1) := by
  obtain ⟨ta, pa, sa⟩ := ha
  refine ⟨tRevA S.G.K ta, fun X s k => by rw [← s.K]; exact pe_revA (pa X s k), fun C L σ H ρ st Q hK hs hE h => ?_⟩
  refine sa C L σ H ρ st _ hK hs hE (Out.bnd h fun d st1 v H1 L1 e1 s1 r1 h1 => ?_)
  unfold dRev at h1
  split at h1
  · cases r1 with
    | tup h2 h3 =>
      have h2 := h2.sq
      rw [hK] at h2
      exact ⟨_, _, rfl, .inr ⟨h2, out_tup s1 h3.reverse h1⟩⟩
  · split at h1
    · rename_i xs q
      obtain ⟨a, vs, rfl, hq, rl⟩ := lst_of s1 r1 q
      rw [hK] at hq
      exact ⟨a, vs, rfl, .inl ⟨hq, fun q n => out_new s1 rl.reverse h1 q n⟩⟩
    · exact h1.elim
end
end PV

set_option maxHeartbeats 2000000
/-! methods of lists and tuples -/
namespace PV
open PySem PySem.Spec PyProof.Rows L2
section
variable {X : Cx}
/-- t.index(x), flat items -/
def rTIndex (K : PySem.W.Frag) : V → List V → Hp → VK → Prop := fun x xs H Q => ∃ (a : Addr) (ys : List V) (y : V) (j : Nat) (z : V), x = V.ref a ∧ xs = [y] ∧ SqT K H a ys ∧ flatV y = true ∧ ys.all flatV = true ∧ ys[j]? = some z ∧ eqV z y = true ∧
  (∀ (m : Nat) (z' : V), m < j → ys[m]? = some z' → eqV z' y = false) ∧ Q (.int (j : Nat)) H
theorem mt_tindex : MtR X "tuple.index" (rTIndex X.K) := by
  intro pins s σ H x xs v us Q I rx rxs h
  obtain ⟨a, ys, y, j, z, rfl, rfl, hs, fy, fys, hz, hzj, hno, q⟩ := h
  cases rx
  obtain ⟨uy, rfl, ry⟩ := vals1 rxs
  obtain ⟨its, rv, pl, hlen⟩ := I.tuple hs
  obtain ⟨⟨cls, dd, data, sl⟩, ho, hc, n, hd⟩ := pl
  simp only at hc hd
  subst hc
  subst hd
  have hvl := rv.length
  have at_ : ∀ (m : Nat) (hm : m < its.toArray.size) (z' : V), ys[m]? = some z' → eqU y its.toArray[m] = eqV z' y := by
    intro m hm z' e
    obtain ⟨u2, hu2, ru2⟩ := rv.get e
    obtain ⟨_, e2⟩ := List.getElem?_eq_some_iff.mp hu2
    have e1 : its.toArray[m] = u2 := by simpa using e2
    rw [e1, eqU_of ru2 (flat_at fys e)]
  have hj : j < its.toArray.size := by
    have := (List.getElem?_eq_some_iff.mp hz).1
    rw [List.size_toArray]
    omega
  refine call_meets PySem.F.slot_tuple_index ⟨_, ho, rfl⟩ PySem.F.entry_tuple_index (PySem.F.args_tuple_index_2 _ _) (TI.tuple_indexAt a its.toArray n dd sl uy (eqU y) j hj ?_ ?_)
    ⟨ho, fun u' hu' => mem_eqAt ry fy rv fys u' (by simpa using hu'), ⟨.int (j : Nat), H, I.tok _, ⟨_, rfl⟩, q⟩⟩
  · rw [at_ j hj z hz]
    exact hzj
  · intro m hm hmj
    have hml : m < ys.length := by
      rw [List.size_toArray] at hm
      omega
    have e : ys[m]? = some ys[m] := List.getElem?_eq_getElem hml
    rw [at_ m hm _ e]
    exact hno m _ hmj e
theorem ty_tup : TyOk X "tuple" (fun x H => ∃ a xs, x = V.ref a ∧ TpS X.K H a xs) := by
  intro pins σ H s x v I r ty
  obtain ⟨a, xs, rfl, e⟩ := ty
  cases r
  rcases e with ⟨o, e, c, d⟩ | ⟨o, its, n, e, c, d, _⟩
  · obtain ⟨h1, _⟩ := (show ObjOk X.prog X.w H s.heap a (.frz o (.tup xs)) from I.hok a _ e)
    refine ⟨⟨o, h1, c⟩, fun b z => ?_⟩
    cases z
    exact ⟨o, h1, d⟩
  · refine ⟨⟨o, I.kIn a o e, c⟩, fun b z => ?_⟩
    cases z
    exact ⟨o, I.kIn _ o e, d⟩
end
def D.isRef : D → Bool
  | .ref _ => true
  | _ => false
def D.isTup : D → Bool
  | .tup _ => true
  | _ => false
/-- t.index(y) -/
def dTIndex (x y : D) (st : Sto) : R D := match x with
  | .tup xs => if y.flat && xs.all D.flat then (match xs.findIdx? (fun z => z.eqF y) with
    | some j => .ok (.int (j : Nat)) st
    | none => .bad) else .bad
  | _ => .bad
def D.isLst (d : D) (st : Sto) : Bool := (lstOf d st).isSome
/-- o.m(e): the type of o is asked first -/
def eM (k : D → Sto → Bool) (f : D → D → Sto → R D) (a b : FE) : FE := fun ρ st => (a ρ st).bind fun x st1 => if k x st1 then (b ρ st1).bind fun y st2 => f x y st2 else .bad
def eM0 (f : D → Sto → R D) (a : FE) : FE := e1 f a
section
variable {S : Sx} {W : WX} {o e : Expr} {es : List Expr} {fo f1 : FE} {apos cpos : Pos}
theorem m_ok {k : D → Sto → Bool} {f : D → D → Sto → R D} {r : V → List V → Hp → VK → Prop} {ty : V → Hp → Prop} {tO ta : TE}
    (hty : ∀ (C : Cf) (L : List Addr) (H : Hp) (st : Sto) (v : V) (d : D), C.K = S.G.K → RpS C L H st → Rp C L H v d → k d st = true → ty v H)
    (sn : ∀ (C : Cf) (W : WX) (σ : L2.St) (L : List Addr) (H : Hp) (st : Sto) (x y : V) (c d : D) (Q : VK), C.K = S.G.K → RpS C L H st → Rp C L H x c → Rp C L H y d → Out S.G C W σ L H (Rp C) (f c d st) Q → r x [y] H Q)
    (sO : ∀ (C : Cf) (L : List Addr) (σ : L2.St) (H : Hp) (ρ : En) (st : Sto) (Q : VK), C.K = S.G.K → RpS C L H st → RpE C L H σ ρ → Out S.G C W σ L H (Rp C) (fo ρ st) Q → tO σ H Q)
    (sa : ∀ (C : Cf) (L : List Addr) (σ : L2.St) (H : Hp) (ρ : En) (st : Sto) (Q : VK), C.K = S.G.K → RpS C L H st → RpE C L H σ ρ → Out S.G C W σ L H (Rp C) (f1 ρ st) Q → ta σ H Q)
    (C : Cf) (L : List Addr) (σ : L2.St) (H : Hp) (ρ : En) (st : Sto) (Q : VK) (hK : C.K = S.G.K) (hs : RpS C L H st) (hE : RpE C L H σ ρ) (h : Out S.G C W σ L H (Rp C) (eM k f fo f1 ρ st) Q) :
    tO σ H fun x H1 => ty x H1 ∧ (tCons ta tNil) σ H1 fun xs H2 => r x xs H2 Q := by
  refine sO C L σ H ρ st _ hK hs hE (Out.bnd h fun c st1 x H1 L1 e1 s1 r1 h1 => ?_)
  split at h1
  · rename_i hk
    refine ⟨hty C L1 H1 st1 x c hK s1 r1 hk, sa C L1 σ H1 ρ st1 _ hK s1 (hE.ext hs.mu e1) (Out.bnd h1 fun d st2 y H2 L2 e2 s2 r2 h2 => ?_)⟩
    exact sn C W σ L2 H2 st2 x y c d Q hK s2 (r1.ext s1.mu e2) r2 h2
  · exact h1.elim
theorem ty_lst {C : Cf} {L : List Addr} {H : Hp} {st : Sto} {v : V} {d : D} (hK : C.K = S.G.K) (s : RpS C L H st) (r : Rp C L H v d) (h : d.isLst st = true) : tyV S.G.K "list" v H := by
  unfold D.isLst at h
  obtain ⟨xs, q⟩ := Option.isSome_iff_exists.mp h
  obtain ⟨a, vs, rfl, hq, _⟩ := lst_of s r q
  rw [hK] at hq
  exact .inl ⟨rfl, vs, hq⟩
theorem ty_ref {C : Cf} {L : List Addr} {H : Hp} {st : Sto} {v : V} {d : D} (s : RpS C L H st) (r : Rp C L H v d) (h : d.isRef = true) : tyV S.G.K "list" v H := by
  cases r with
  | ref ha =>
    obtain ⟨xs, q⟩ := s.mu _ (List.mem_of_getElem? ha)
    exact .inl ⟨rfl, xs, SqL.of q⟩
  | _ => cases h
theorem ref_at {C : Cf} {L : List Addr} {H : Hp} {st : Sto} {v : V} {n : Nat} {xs : List D} (s : RpS C L H st) (r : Rp C L H v (.ref n)) (q : st[n]? = some (.lst xs)) : ∃ a vs, v = .ref a ∧ L[n]? = some a ∧ H a = some (.lst vs) ∧ RpL C L H vs xs := by
  cases r with
  | ref ha =>
    obtain ⟨a, vs, e1, e3, e4⟩ := s.cell n xs q
    rw [ha] at e1
    cases e1
    exact ⟨_, vs, rfl, ha, e3, e4⟩
/-- o.append(e) -/
theorem de_append (ho : DE S W o fo) (ha : DE S W e f1) (hbase : ∀ env, attributeBase o "append" env (eval o env) = eval o env := by intro _; rfl)
    (hfew : ∀ env, ((backTo cpos (starEach [e] env)).all (fun x => !x.1) && (backToKw cpos (keywordEach [] env)).all (fun x => x.1.isSome) && decide ([e].length + ([] : List Keyword).length + (if ([] : List Keyword).isEmpty then 0 else 1) < 30)) = true := by intro _; rfl)
    (hline : (apos.endLine == cpos.line) = true := by rfl) (hs : ∀ env, starEach [e] env = (false, eval e env) :: starEach [] env := by intro _; rfl) (hpl : ∀ env, (backTo cpos (starEach [] env)).any (·.1) = false := by intro _; rfl) :
    DE S W (.Call (.Attribute o "append" apos) [e] [] cpos) (eM (fun d _ => d.isRef) dAppend fo f1) := by
  obtain ⟨tO, pO, sO⟩ := ho
  obtain ⟨ta, pa, sa⟩ := ha
  refine ⟨tBM S.G.K "list" rAppend tO (tCons ta tNil), fun X s k => by rw [← s.K]; exact pe_bm PySem.F.plainAttrs_list PySem.F.slot_list_append PySem.F.type_list_append mt_append (pO X s k) (pa_cons (pa X s k) pa_nil (hs _)) (hbase _) (hfew _) hline (hs _) (hpl _), m_ok (fun C L H st v d _ s r h => ty_ref s r h) (fun C W σ L H st x y c d Q hK s r1 r2 h => ?_) sO sa⟩
  unfold dAppend at h
  split at h
  · split at h
    · rename_i xs q
      split at h
      · rename_i hz
        obtain ⟨a, vs, rfl, ha, e3, e4⟩ := ref_at s r1 q
        exact ⟨a, vs, y, rfl, rfl, e3, by rw [e4.len, line_eq]; exact hz, h .non _ _ (s.ext_put ha) (s.put ha (e4.append (.cons r2 .nil))) .non⟩
      · exact h.elim
    · exact h.elim
  · exact h.elim
/-- o.pop() -/
theorem de_pop (ho : DE S W o fo) (hbase : ∀ env, attributeBase o "pop" env (eval o env) = eval o env := by intro _; rfl) (hline : (apos.endLine == cpos.line) = true := by rfl) : DE S W (.Call (.Attribute o "pop" apos) [] [] cpos) (eM0 dPop fo) := by
  obtain ⟨tO, pO, sO⟩ := ho
  refine ⟨tBM0 S.G.K "list" rPop tO, fun X s k => by rw [← s.K]; exact pe_bm0 PySem.F.plainAttrs_list PySem.F.slot_list_pop PySem.F.type_list_pop mt_pop (pO X s k) (hbase _) hline, fun C L σ H ρ st Q hK hs hE h => ?_⟩
  refine sO C L σ H ρ st _ hK hs hE (Out.bnd h fun c st1 x H1 L1 e1 s1 r1 h1 => ?_)
  unfold dPop at h1
  split at h1
  · split at h1
    · rename_i xs q
      split at h1
      · rename_i y e
        obtain ⟨a, vs, rfl, ha, e3, e4⟩ := ref_at s1 r1 q
        obtain ⟨v, hv, rv⟩ := e4.get e
        refine ⟨.inl ⟨rfl, vs, SqL.of e3⟩, a, vs, v, rfl, rfl, e3, by rw [e4.len]; exact hv, ?_⟩
        exact h1 v _ _ (s1.ext_put ha) (s1.put ha e4.dropLast) (rv.ext s1.mu (s1.ext_put ha))
      · exact h1.elim
    · exact h1.elim
  · exact h1.elim
/-! index -/
theorem index_ok {C : Cf} {L : List Addr} {H : Hp} {xs : List V} {ds : List D} {y : V} {d : D} (r : RpL C L H xs ds) (ry : Rp C L H y d) (hf : d.flat = true) (hfs : ds.all D.flat = true) {j : Nat} (h : ds.findIdx? (fun z => z.eqF d) = some j) :
    flatV y = true ∧ xs.all flatV = true ∧ ∃ z, xs[j]? = some z ∧ eqV z y = true ∧ ∀ (m : Nat) (z' : V), m < j → xs[m]? = some z' → eqV z' y = false := by
  refine ⟨flat_V ry hf, flats_V r hfs, ?_⟩
  obtain ⟨hj, e1, e2⟩ := List.findIdx?_eq_some_iff_getElem.mp h
  have fl : ∀ (i : Nat) (hi : i < ds.length), ds[i].flat = true := fun i hi => List.all_eq_true.mp hfs _ (List.getElem_mem hi)
  obtain ⟨z, hz, rz⟩ := r.get (List.getElem?_eq_getElem hj)
  refine ⟨z, hz, by rw [eqF_V rz ry (fl j hj) hf]; exact e1, fun m z' hm hz' => ?_⟩
  obtain ⟨d', hd', rd⟩ := r.getV hz'
  obtain ⟨hml, e3⟩ := List.getElem?_eq_some_iff.mp hd'
  have := e2 m hm
  rw [e3] at this
  rw [eqF_V rd ry (by rw [← e3]; exact fl m hml) hf]
  simpa using this
theorem de_lindex (ho : DE S W o fo) (ha : DE S W e f1) (hbase : ∀ env, attributeBase o "index" env (eval o env) = eval o env := by intro _; rfl)
    (hfew : ∀ env, ((backTo cpos (starEach [e] env)).all (fun x => !x.1) && (backToKw cpos (keywordEach [] env)).all (fun x => x.1.isSome) && decide ([e].length + ([] : List Keyword).length + (if ([] : List Keyword).isEmpty then 0 else 1) < 30)) = true := by intro _; rfl)
    (hline : (apos.endLine == cpos.line) = true := by rfl) (hs : ∀ env, starEach [e] env = (false, eval e env) :: starEach [] env := by intro _; rfl) (hpl : ∀ env, (backTo cpos (starEach [] env)).any (·.1) = false := by intro _; rfl) :
    DE S W (.Call (.Attribute o "index" apos) [e] [] cpos) (eM D.isLst dIndex fo f1) := by
  obtain ⟨tO, pO, sO⟩ := ho
  obtain ⟨ta, pa, sa⟩ := ha
  refine ⟨tBM S.G.K "list" (rIndex S.G.K) tO (tCons ta tNil), fun X s k => by rw [← s.K]; exact pe_bm PySem.F.plainAttrs_list PySem.F.slot_list_index PySem.F.type_list_index mt_index (pO X s k) (pa_cons (pa X s k) pa_nil (hs _)) (hbase _) (hfew _) hline (hs _) (hpl _), fun C L σ H ρ st Q hK hs hE h => ?_⟩
  refine sO C L σ H ρ st _ hK hs hE (Out.bnd h fun c st1 x H1 L1 e1 s1 r1 h1 => ?_)
  split at h1
  · rename_i hk
    have ty := ty_lst hK s1 r1 hk
    refine ⟨ty, sa C L1 σ H1 ρ st1 _ hK s1 (hE.ext hs.mu e1) (Out.bnd h1 fun d st2 y H2 L2 e2 s2 r2 h2 => ?_)⟩
    have r3 := r1.ext s1.mu e2
    unfold dIndex at h2
    split at h2
    · rename_i xs q
      split at h2
      · rename_i hf
        rw [Bool.and_eq_true] at hf
        split at h2
        · rename_i j hj
          have q2 : lstOf c st2 = some xs := by
            cases c with
            | tup _ => cases r1; exact absurd hk (by unfold D.isLst lstOf; simp)
            | _ => exact q
          obtain ⟨a, vs, rfl, hq, rl⟩ := lst_of s2 r3 q2
          obtain ⟨f1, f2, z, f3, f4, f5⟩ := index_ok rl r2 hf.1 hf.2 hj
          rw [hK] at hq
          exact ⟨a, vs, y, j, z, rfl, rfl, hq, f1, f2, f3, f4, f5, h2.now s2 (.int _)⟩
        · exact h2.elim
      · exact h2.elim
    · exact h2.elim
  · exact h1.elim
theorem de_tindex (ho : DE S W o fo) (ha : DE S W e f1) (hbase : ∀ env, attributeBase o "index" env (eval o env) = eval o env := by intro _; rfl)
    (hfew : ∀ env, ((backTo cpos (starEach [e] env)).all (fun x => !x.1) && (backToKw cpos (keywordEach [] env)).all (fun x => x.1.isSome) && decide ([e].length + ([] : List Keyword).length + (if ([] : List Keyword).isEmpty then 0 else 1) < 30)) = true := by intro _; rfl)
    (hline : (apos.endLine == cpos.line) = true := by rfl) (hs : ∀ env, starEach [e] env = (false, eval e env) :: starEach [] env := by intro _; rfl) (hpl : ∀ env, (backTo cpos (starEach [] env)).any (·.1) = false := by intro _; rfl) :
    DE S W (.Call (.Attribute o "index" apos) [e] [] cpos) (eM (fun d _ => d.isTup) dTIndex fo f1) := by
  obtain ⟨tO, pO, sO⟩ := ho
  obtain ⟨ta, pa, sa⟩ := ha
  refine ⟨tMG (fun x H => ∃ a xs, x = V.ref a ∧ TpS S.G.K H a xs) (rTIndex S.G.K) tO (tCons ta tNil), fun X s k => by rw [← s.K]; exact pe_mG ty_tup PySem.F.plainAttrs_tuple PySem.F.slot_tuple_index PySem.F.type_tuple_index mt_tindex (pO X s k) (pa_cons (pa X s k) pa_nil (hs _)) (hbase _) (hfew _) hline (hs _) (hpl _), m_ok (fun C L H st v d hK s r h => ?_) (fun C W σ L H st x y c d Q hK s r1 r2 h => ?_) sO sa⟩
  · cases r with
    | tup h1 h2 =>
      rw [hK] at h1
      exact ⟨_, _, rfl, h1⟩
    | _ => cases h
  · unfold dTIndex at h
    split at h
    · rename_i xs
      split at h
      · rename_i hf
        rw [Bool.and_eq_true] at hf
        split at h
        · rename_i j hj
          cases r1 with
          | tup h1 rl =>
            obtain ⟨f1, f2, z, f3, f4, f5⟩ := index_ok rl r2 hf.1 hf.2 hj
            have h1 := h1.sq
            rw [hK] at h1
            exact ⟨_, _, y, j, z, rfl, rfl, h1, f1, f2, f3, f4, f5, h.now s (.int _)⟩
        · exact h.elim
      · exact h.elim
    · exact h.elim
end
end PV

set_option maxHeartbeats 2000000
/-! calls that turn a list of the caller; in-place operators; defaults -/
namespace PV
open PySem PySem.Spec PyProof.Rows L2
section
variable {S : Sx} {W : WX} {x : Str} {p pos : Pos} {e : Expr} {es : List Expr} {n k : Nat} {f : Fs}
theorem RpS.kill {C : Cf} {L : List Addr} {H : Hp} {st : Sto} (s : RpS C L H st) (m : Nat) : RpS C L H (st.set m .dead) := by
  refine ⟨s.nd, by rw [List.length_set]; exact s.len, s.mu, fun i xs h => ?_, s.h0, s.new⟩
  by_cases z : i = m
  · subst z
    by_cases hl : i < st.length
    · rw [List.getElem?_set_self hl] at h
      cases h
    · rw [List.getElem?_eq_none (by rw [List.length_set]; omega)] at h
      cases h
  · rw [List.getElem?_set_ne (fun w => z w.symm)] at h
    exact s.cell i xs h
theorem set_back {α : Type} {l : List α} {j : Nat} {x y : α} (h : l[j]? = some x) : (l.set j y).set j x = l := by
  rw [List.set_set]
  obtain ⟨hl, e⟩ := List.getElem?_eq_some_iff.mp h
  rw [← e]
  exact List.set_getElem_self hl
theorem callM_ok {C : Cf} {σ : L2.St} {L : List Addr} {H : Hp} {st : Sto} {vs : List V} {as : List D} {Q : VK} {j : Nat} (cl : Clo f) (hK : C.K = S.G.K) (s : RpS C L H st) (r : RpL C L H vs as) (hn : as.length = n) (h : Out S.G C W σ L H (Rp C) (callM j f as st) Q) :
    spF S.G n f vs H Q (WE W σ) := by
  unfold callM at h
  split at h
  · rename_i m hj
    split at h
    · rename_i xs hm
      split at h
      · rename_i himm
        split at h
        · rename_i bs hb
          obtain ⟨v, hv, rv⟩ := r.get hj
          obtain ⟨a, ws, rfl, hL, hHa, rws⟩ := ref_at s rv hm
          have ha : a ∈ L := List.mem_of_getElem? hL
          have K2 : C.K = (Cf.mk S.G.K H 1).K := hK
          have sk := s.kill m
          have rb0 : RpL ⟨S.G.K, H, 1⟩ [a] H (vs.set j .non) bs := by
            refine rpl_fzA K2 (fun b hb2 => ?_) (cellA_ok sk K2 (fun b hb2 => ?_) (fun i b ys h1 h2 hb2 => ?_) 6) (r.set j .non) hb
            · have : b = a := by simpa using hb2
              rw [this]; exact ha
            · have : b = a := by simpa using hb2
              rw [this]; exact ha
            · have : b = a := by simpa using hb2
              subst this
              have := nodup_at s.nd h1 hL
              subst this
              have hl := (List.getElem?_eq_some_iff.mp hm).1
              rw [List.getElem?_set_self hl] at h2
              cases h2
          have rb : RpL ⟨S.G.K, H, 1⟩ [a] H vs (bs.set j (.ref 0)) := by
            have q := rb0.set j (show Rp ⟨S.G.K, H, 1⟩ [a] H (.ref a) (.ref 0) from .ref rfl)
            rw [set_back hv] at q
            exact q
          have ln : (bs.set j (.ref 0)).length = n := by rw [← rb.len, r.len, hn]
          have sc : RpS ⟨S.G.K, H, 1⟩ [a] H [.lst xs] := by
            refine ⟨by simp, rfl, fun b hb2 => ?_, fun i ys h1 => ?_, fun b hb2 => hb2, fun i b h1 h2 => ?_⟩
            · have : b = a := by simpa using hb2
              rw [this]; exact ⟨ws, hHa⟩
            · cases i with
              | zero =>
                cases h1
                exact ⟨a, ws, rfl, hHa, rpl_imm K2 rws himm⟩
              | succ i => simp at h1
            · cases i with
              | zero => exact absurd h1 (by show ¬ 1 ≤ 0; omega)
              | succ i => simp at h2
          refine ⟨⟨S.G.K, H, 1⟩, [a], [.lst xs], _, rfl, rfl, rfl, ln, sc, rb, ?_⟩
          have c := cl (bs.set j (.ref 0)) [.lst xs]
          have back : ∀ {H' : Hp} {ys : List D}, Ext H [a] H' [a] → RpS ⟨S.G.K, H, 1⟩ [a] H' [.lst ys] → D.imms ys = true → Ext H L H' L ∧ RpS C L H' (st.set m (.lst ys)) := by
            intro H' ys e' s' hi
            have e2 : Ext H L H' L := ⟨fun b o q nb => e'.keep b o q (fun z => nb (by have : b = a := by simpa using z
                                                                                      rw [this]; exact ha)), e'.tr, ⟨[], by simp, by simp⟩⟩
            refine ⟨e2, s.nd, by rw [List.length_set]; exact s.len, fun b mb => ?_, fun i zs q => ?_, fun b q => s.h0 b (e2.tr b q), s.new⟩
            · by_cases z : b = a
              · rw [z]
                exact s'.mu a (by simp)
              · obtain ⟨us, q⟩ := s.mu b mb
                exact ⟨us, e'.keep _ _ q (by simpa using z)⟩
            · by_cases z : i = m
              · subst z
                have hl := (List.getElem?_eq_some_iff.mp hm).1
                rw [List.getElem?_set_self hl] at q
                have q2 : ys = zs := by simpa using q
                subst q2
                obtain ⟨b, us, h1, h2, h3⟩ := s'.cell 0 ys rfl
                cases h1
                exact ⟨a, us, hL, h2, rpl_imm K2.symm h3 hi⟩
              · rw [List.getElem?_set_ne (fun w => z w.symm)] at q
                obtain ⟨b, us, h1, h2, h3⟩ := s.cell i zs q
                refine ⟨b, us, h1, e'.keep _ _ h2 (fun w => ?_), h3.ext s.mu e2⟩
                have : b = a := by simpa using w
                subst this
                exact z (nodup_at s.nd h1 hL)
          split at h
          · rename_i d ys q
            rw [q] at c ⊢
            split at h
            · rename_i hi
              intro v H' e' s' rp
              obtain ⟨e2, s2⟩ := back e' s' hi
              exact h v H' L e2 s2 (rp_back (C := ⟨S.G.K, H, 1⟩) hK.symm s.h0 s.fresh rp c)
            · exact h.elim
          · rename_i x ys q
            rw [q] at c ⊢
            split at h
            · rename_i hi
              intro cls od H' e' s' rx
              obtain ⟨e2, s2⟩ := back e' s' hi
              exact h cls od H' L e2 s2 (rx.cf (C := ⟨S.G.K, H, 1⟩) hK.symm)
            · exact h.elim
          · exact h.elim
        · exact h.elim
      · exact h.elim
    · exact h.elim
  · exact h.elim
/-- f(a, ..), the j-th argument a list that f may turn -/
theorem de_callM (j : Nat) (F : Def S.G S.base x n k f) (hk : k ≤ S.k) {g : FA} (ha : DA S W (e :: es) g) (hl : ∀ ρ st as st', g ρ st = .ok as st' → as.length = n) (hg : GlB S.sc x = true := by rfl) (hdb : (x == ("__debug__" : Str)) = false := by decide)
    (he : ∀ env, starEach (e :: es) env = (false, eval e env) :: starEach es env := by intro _; rfl) (hpl : ∀ env, (backTo pos (starEach es env)).any (·.1) = false := by intro _; rfl) :
    DE S W (.Call (.Name x p) (e :: es) [] pos) (eA (callM j f) g) := by
  obtain ⟨⟨fa, fd, ps, F1, hm, hkp, hb⟩, cl⟩ := F
  obtain ⟨t, pa, sa⟩ := ha
  refine ⟨tCallG (spF S.G n f) [] W t, fun X s tk => pe_callG s F1 hk hg hm hkp hb .nil tk (pa X s tk) hdb he hpl, fun C L σ H ρ st Q hK hs hE h => ?_⟩
  have hl' := hl ρ st
  unfold eA at h
  revert h
  cases q : g ρ st with
  | ok as st1 =>
    intro h
    refine sa C L σ H ρ st _ hK hs hE ?_
    rw [q]
    intro vs H1 L1 e1 s1 r1
    rw [List.append_nil]
    exact callM_ok cl hK s1 r1 (hl' as st1 q) (Out.shift e1 (show Out S.G C W σ L H (Rp C) (callM j f as st1) Q from h))
  | ex x st1 =>
    intro h
    refine sa C L σ H ρ st _ hK hs hE ?_
    rw [q]
    exact h
  | bad =>
    intro h
    exact h.elim
/-- f(a, ..), the last arguments left out -/
theorem de_callV {dd : List D} (F : DefV S.G S.base x n dd k f) (hk : k ≤ S.k) {g : FA} (ha : DA S W (e :: es) g) (hl : ∀ ρ st as st', g ρ st = .ok as st' → as.length = n) (hg : GlB S.sc x = true := by rfl) (hdb : (x == ("__debug__" : Str)) = false := by decide)
    (he : ∀ env, starEach (e :: es) env = (false, eval e env) :: starEach es env := by intro _; rfl) (hpl : ∀ env, (backTo pos (starEach es env)).any (·.1) = false := by intro _; rfl) :
    DE S W (.Call (.Name x p) (e :: es) [] pos) (eA (fun as st => callP f (as ++ dd) st) g) := by
  obtain ⟨⟨fa, fd, ps, ds, dvs, F1, hm, hkp, hb, hv, hd⟩, cl⟩ := F
  obtain ⟨t, pa, sa⟩ := ha
  refine ⟨tCallG (spF S.G (n + dd.length) f) dvs W t, fun X s tk => pe_callG s F1 hk hg hm hkp hb hv tk (pa X s tk) hdb he hpl, fun C L σ H ρ st Q hK hs hE h => ?_⟩
  have hl' := hl ρ st
  unfold eA at h
  revert h
  cases q : g ρ st with
  | ok as st1 =>
    intro h
    refine sa C L σ H ρ st _ hK hs hE ?_
    rw [q]
    intro vs H1 L1 e1 s1 r1
    exact callP_ok cl hK s1 (r1.append (hd C L1 H1)) (by rw [List.length_append, hl' as st1 q]) (Out.shift e1 (show Out S.G C W σ L H (Rp C) (callP f (as ++ dd) st1) Q from h))
  | ex x st1 =>
    intro h
    refine sa C L σ H ρ st _ hK hs hE ?_
    rw [q]
    exact h
  | bad =>
    intro h
    exact h.elim
/-! in-place operators -/
theorem or_iadd : ∀ X, Sta S X → OpR X (inplaceOp .Add) (fun x y H Q => rI0 (fun i j => .int (i + j)) x y H Q ∨ (∃ i j, x = .str i ∧ y = .str j ∧ i.length + j.length ≤ sizeLine ∧ Q (.str (i ++ j)) H) ∨ rExt2 x y H Q) := fun X s => iop_add.or (iop_add_str.or iop_ext)
/-- += of ints, texts, lists of one's own -/
def dIadd (x y : D) (st : Sto) : R D := match x, y with
  | .int a, .int b => .ok (.int (a + b)) st
  | .str a, .str b => if a.length + b.length ≤ line then .ok (.str (a ++ b)) st else .bad
  | .ref n, y => match st[n]?, trkOf y st with
    | some (.lst xs), some ys => if xs.length + ys.length ≤ line then .ok (.ref n) (st.set n (.lst (xs ++ ys))) else .bad
    | _, _ => .bad
  | _, _ => .bad
theorem sn_iadd : Sn2 S.G (fun x y H Q => rI0 (fun i j => .int (i + j)) x y H Q ∨ (∃ i j, x = .str i ∧ y = .str j ∧ i.length + j.length ≤ sizeLine ∧ Q (.str (i ++ j)) H) ∨ rExt2 x y H Q) dIadd := by
  intro C W σ L H st x y c d Q hK s r1 r2 h
  unfold dIadd at h
  split at h
  · cases r1
    cases r2
    exact .inl ⟨_, _, rfl, rfl, h.now s (.int _)⟩
  · cases r1
    cases r2
    split at h
    · rename_i hz
      exact .inr (.inl ⟨_, _, rfl, rfl, by rw [line_eq]; exact hz, h.now s (.str _)⟩)
    · exact h.elim
  · split at h
    · rename_i n xs ys q1 q2
      split at h
      · rename_i hz
        obtain ⟨a, vs, rfl, ha, e3, e4⟩ := ref_at s r1 q1
        obtain ⟨b, ws, rfl, h2, l2⟩ := trk_of s r2 q2
        exact .inr (.inr ⟨a, b, vs, ws, rfl, rfl, e3, h2, by rw [e4.len, l2.len, line_eq]; exact hz, h _ _ _ (s.ext_put ha) (s.put ha (e4.append l2)) (.ref ha)⟩)
      · exact h.elim
    · exact h.elim
  · exact h.elim
theorem sn_isub : Sn2 S.G (rI0 fun i j => .int (i - j)) dSub := sn_sub
theorem ds_iadd {i : Nat} {x : Str} {e : Expr} {f : FE} {pos' pos : Pos} (nd : S.N.Nodup) (he : DE S W e f) (hN : S.N[i]? = some x := by rfl) (hx : LocB S.sc x S.df = true := by rfl) : DS S W (.AugAssign (.Name x pos') .Add e pos) (sAug i dIadd f) :=
  ds_aug nd or_iadd sn_iadd he hN hx
theorem ds_isub {i : Nat} {x : Str} {e : Expr} {f : FE} {pos' pos : Pos} (nd : S.N.Nodup) (he : DE S W e f) (hN : S.N[i]? = some x := by rfl) (hx : LocB S.sc x S.df = true := by rfl) : DS S W (.AugAssign (.Name x pos') .Sub e pos) (sAug i dSub f) :=
  ds_aug nd (fun _ _ => iop_sub) sn_sub he hN hx
end
end PV

set_option maxHeartbeats 2000000
/-! a, b = x, y -/
namespace PV
open PySem PySem.Spec PyProof.Rows L2
/-- a, b = x, y with plain local names -/
def sPar (i j : Nat) (f : FA) : FS := fun ρ st => (f ρ st).on ρ fun vs st => match vs with
  | [v, w] => .nx ((ρ.set i (some v)).set j (some w)) st
  | _ => .bad
section
variable {S : Sx} {W : WX}
def LocOnly (sc : Scope) (x : Str) : Bool := match sc.names.lookup x with
  | some .local => true
  | _ => false
theorem loc_only {sc : Scope} {x : Str} (h : LocOnly sc x = true) : sc.names.lookup x = some .local := by
  unfold LocOnly at h
  split at h
  · assumption
  · cases h
theorem ds_par (i j : Nat) {x y : Str} {a b : Expr} {f : FA} {px py pt pos : Pos} {kt k2 pt2} (nd : S.N.Nodup) (ha : DA S W [a, b] f) (hi : S.N[i]? = some x := by rfl) (hj : S.N[j]? = some y := by rfl) (hij : i ≠ j := by decide) (hx : LocOnly S.sc x = true := by rfl) (hy : LocOnly S.sc y = true := by rfl)
    (hw : ∀ env : Env, env.scope = S.sc → swappedStores [.Tuple [.Name x px, .Name y py] kt pt] (.Tuple [a, b] k2 pt2) env = pure (some [x, y]) := by intro env h; cases env; cases h; rfl)
    (hs : ∀ env, swapsWithSole [.Tuple [.Name x px, .Name y py] kt pt] (.Tuple [a, b] k2 pt2) pos.line env = pure false := by intro _; rfl) :
    DS S W (.Assign [.Tuple [.Name x px, .Name y py] kt pt] (.Tuple [a, b] k2 pt2) pos) (sPar i j f) := by
  obtain ⟨t, p, s⟩ := ha
  refine ⟨tPar i j t, fun X k tk => ps_par k.sta.calm (by rw [k.sta.N]; exact nd) (by rw [k.sta.N]; exact hi) (by rw [k.sta.N]; exact hj) hij (by rw [k.sta.sc]; exact loc_only hx) (by rw [k.sta.sc]; exact loc_only hy) (p X k.sta tk) (hw X.env k.sta.sc) (hs X.env), fun C L σ H ρ st D hK hs he h => ?_⟩
  refine s C L σ H ρ st _ hK hs he (OutS.bnd hs he h fun vs st1 xs H1 L1 e1 s1 r1 h1 => ?_)
  split at h1
  · cases r1 with
    | cons ra rb =>
      cases rb with
      | cons rb rc =>
        cases rc
        exact ⟨_, _, rfl, h1 _ H1 L1 (Ext.refl _ _) s1 (((he.ext hs.mu e1).set i ra).set j rb)⟩
  · exact h1.elim
end
end PV

set_option maxHeartbeats 2000000
/-! reckoning with the evaluator, in plain Lean -/
namespace PV
open PySem PySem.Spec
/-! the steps of the evaluator, without a binder: nothing is reckoned ahead of its turn -/
def SR.thn (r : SR) (b : FS) : SR := match r with
  | .nx ρ st => b ρ st
  | r => r
def R.iff (r : R Bool) (ρ : En) (a b : FS) : SR := r.on ρ fun x st => if x then a ρ st else b ρ st
def R.ife (r : R Bool) (ρ : En) (a b : FE) : R D := r.bind fun x st => if x then a ρ st else b ρ st
def R.two (r : R D) (f : D → D → Sto → R D) (b : FE) (ρ : En) : R D := r.bind fun x st => (b ρ st).bind fun y st => f x y st
def R.ccat (r : R D) (g : FA) (ρ : En) : R (List D) := r.bind fun x st => (g ρ st).bind fun xs st => .ok (x :: xs) st
def R.cons (r : R (List D)) (x : D) : R (List D) := r.bind fun xs st => .ok (x :: xs) st
def R.toB (r : R D) : R Bool := r.bind fun x st => match x with
  | .bl b => .ok b st
  | _ => .bad
def R.toI (r : R D) : R (Option Int) := r.bind fun x st => match x with
  | .int i => .ok (some i) st
  | _ => .bad
def R.andT (r : R Bool) (b : FT) (ρ : En) : R Bool := r.bind fun x st => if x then b ρ st else .ok false st
def R.orT (r : R Bool) (b : FT) (ρ : En) : R Bool := r.bind fun x st => if x then .ok true st else b ρ st
def R.notT (r : R Bool) : R Bool := r.bind fun x st => .ok (!x) st
def R.notE (r : R Bool) : R D := r.bind fun x st => .ok (.bl (!x)) st
def R.andE (r : R D) (b : FE) (ρ : En) : R D := r.bind fun x st => match x with
  | .bl c => if c then b ρ st else .ok (.bl false) st
  | _ => .bad
def R.orE (r : R D) (b : FE) (ρ : En) : R D := r.bind fun x st => match x with
  | .bl c => if c then .ok (.bl true) st else b ρ st
  | _ => .bad
def R.chn (r : R D) (f g : D → D → Sto → R D) (b c : FE) (ρ : En) : R D := r.bind fun x st => (b ρ st).bind fun y st => (f x y st).bind fun k st => match k with
  | .bl k => if k then (c ρ st).bind fun z st => g y z st else .ok (.bl false) st
  | _ => .bad
def R.chn2 (r : R D) (f g : D → D → Sto → R D) (x : D) (c : FE) (ρ : En) : R D := r.bind fun y st => (f x y st).bind fun k st => match k with
  | .bl k => if k then (c ρ st).bind fun z st => g y z st else .ok (.bl false) st
  | _ => .bad
def R.chn3 (r : R D) (g : D → D → Sto → R D) (y : D) (c : FE) (ρ : En) : R D := r.bind fun k st => match k with
  | .bl k => if k then (c ρ st).bind fun z st => g y z st else .ok (.bl false) st
  | _ => .bad
def R.slc (r : R D) (lo hi : FO) (ρ : En) : R D := r.bind fun x st => (lo ρ st).bind fun l st => (hi ρ st).bind fun h st => dSl x l h st
def R.slc2 (r : R (Option Int)) (x : D) (hi : FO) (ρ : En) : R D := r.bind fun l st => (hi ρ st).bind fun h st => dSl x l h st
def R.slc3 (r : R (Option Int)) (x : D) (l : Option Int) : R D := r.bind fun h st => dSl x l h st
def R.mth (r : R D) (k : D → Sto → Bool) (f : D → D → Sto → R D) (b : FE) (ρ : En) : R D := r.bind fun x st1 => if k x st1 then (b ρ st1).bind fun y st2 => f x y st2 else .bad
def mth2 (c : Bool) (r : R D) (f : D → Sto → R D) : R D := if c then r.bind f else .bad
def R.asg (r : R D) (ρ : En) (g : FG) : SR := r.on ρ fun x st' => match g x ρ st' with
  | some p => .nx p.1 p.2
  | none => .bad
def nxt (o : Option (En × Sto)) : SR := match o with
  | some p => .nx p.1 p.2
  | none => .bad
def R.par (r : R (List D)) (i j : Nat) (ρ : En) : SR := r.on ρ fun vs st => match vs with
  | [v, w] => .nx ((ρ.set i (some v)).set j (some w)) st
  | _ => .bad
def R.drop (r : R D) (ρ : En) : SR := r.on ρ fun _ st => .nx ρ st
def R.ret (r : R D) (ρ : En) : SR := r.on ρ fun x st => .rt x st
def R.putAt (r : R D) (i : Nat) (ρ : En) : SR := r.on ρ fun z st => .nx (ρ.set i (some z)) st
def augAt (o : Option (Option D)) (i : Nat) (f : D → D → Sto → R D) (e : FE) (ρ : En) (st : Sto) : SR := match o with
  | some (some x) => (e ρ st).on ρ fun y st => (f x y st).on ρ fun z st => .nx (ρ.set i (some z)) st
  | _ => .bad
def R.aug (r : R D) (i : Nat) (f : D → Sto → R D) (ρ : En) : SR := r.on ρ fun y st => (f y st).on ρ fun z st => .nx (ρ.set i (some z)) st
def R.forI (r : R It) (ρ : En) (g : FG) (b : FS) : SR := r.on ρ fun j st => forL g b j.watch j.items ρ st
def R.lcI (r : R It) (vs : List Nat) (g : FG) (t : FT) (e : FE) (ρ : En) : R D := r.bind fun j st => lcL st.length (wipeD ρ vs) g t e j.watch j.items (st ++ [.lst []])
def gc (o : Option (En × Sto)) (gs : FGs) (r : List D) : Option (En × Sto) := o.bind fun p => gs r p.1 p.2
def sub1 (o : Option (D × Sto)) (i : FE) (d : D) (ρ : En) : Option (En × Sto) := o.bind fun p => (i ρ p.2).get.bind fun q => (dSet p.1 q.1 d q.2).bind fun st' => some (ρ, st')
def sub2 (o : Option (D × Sto)) (x d : D) (ρ : En) : Option (En × Sto) := o.bind fun q => (dSet x q.1 d q.2).bind fun st' => some (ρ, st')
def sub3 (o : Option Sto) (ρ : En) : Option (En × Sto) := o.bind fun st' => some (ρ, st')
def R.rg2 (r : R D) (b : FE) (ρ : En) : R It := r.bind fun x st => (b ρ st).bind fun y st => itRange2 x y st
def R.zp2 (r : R D) (b : FE) (ρ : En) : R It := r.bind fun x st => (b ρ st).bind fun y st => itZip x y st
section
variable {α β : Type} {ρ : En} {st : Sto}
@[simp] theorem bind_ok (a : α) (f : α → Sto → R β) : (R.ok a st).bind f = f a st := rfl
@[simp] theorem bind_ex (x : Exn) (f : α → Sto → R β) : (R.ex x st : R α).bind f = .ex x st := rfl
@[simp] theorem on_ok (a : α) (f : α → Sto → SR) : (R.ok a st).on ρ f = f a st := rfl
@[simp] theorem slot_ev (i : Nat) : eSlot i ρ st = match ρ[i]? with
  | some (some d) => .ok d st
  | _ => .bad := rfl
@[simp] theorem c_ev (d : D) : eC d ρ st = .ok d st := rfl
@[simp] theorem e1_ev (f : D → Sto → R D) (a : FE) : e1 f a ρ st = (a ρ st).bind f := rfl
@[simp] theorem e2_ev (f : D → D → Sto → R D) (a b : FE) : e2 f a b ρ st = (a ρ st).two f b ρ := rfl
@[simp] theorem two_ok (x : D) (f : D → D → Sto → R D) (b : FE) : (R.ok x st).two f b ρ = (b ρ st).bind (f x) := rfl
@[simp] theorem anil_ev : aNil ρ st = .ok [] st := rfl
@[simp] theorem acons_ev (a : FE) (r : FA) : aCons a r ρ st = (a ρ st).ccat r ρ := rfl
@[simp] theorem ccat_ok (x : D) (r : FA) : (R.ok x st).ccat r ρ = (r ρ st).cons x := rfl
@[simp] theorem cons_ok (x : D) (xs : List D) : (R.ok xs st).cons x = .ok (x :: xs) st := rfl
@[simp] theorem ea_ev (f : List D → Sto → R D) (a : FA) : eA f a ρ st = (a ρ st).bind f := rfl
@[simp] theorem em_ev (k : D → Sto → Bool) (f : D → D → Sto → R D) (a b : FE) : eM k f a b ρ st = (a ρ st).mth k f b ρ := rfl
@[simp] theorem mth_ok (x : D) (k : D → Sto → Bool) (f : D → D → Sto → R D) (b : FE) : (R.ok x st).mth k f b ρ = mth2 (k x st) (b ρ st) (f x) := rfl
@[simp] theorem mth2_t (r : R D) (f : D → Sto → R D) : mth2 true r f = r.bind f := rfl
@[simp] theorem em0_ev (f : D → Sto → R D) (a : FE) : eM0 f a ρ st = (a ρ st).bind f := rfl
@[simp] theorem a1_ev (f : D → Sto → R D) (x : D) : a1 f [x] st = f x st := rfl
@[simp] theorem a2_ev (f : D → D → Sto → R D) (x y : D) : a2 f [x, y] st = f x y st := rfl
@[simp] theorem sl_ev (a : FE) (lo hi : FO) : eSl a lo hi ρ st = (a ρ st).slc lo hi ρ := rfl
@[simp] theorem slc_ok (x : D) (lo hi : FO) : (R.ok x st).slc lo hi ρ = (lo ρ st).slc2 x hi ρ := rfl
@[simp] theorem slc2_ok (l : Option Int) (x : D) (hi : FO) : (R.ok l st).slc2 x hi ρ = (hi ρ st).slc3 x l := rfl
@[simp] theorem slc3_ok (h : Option Int) (x : D) (l : Option Int) : (R.ok h st).slc3 x l = dSl x l h st := rfl
@[simp] theorem ono_ev : oNo ρ st = .ok none st := rfl
@[simp] theorem oso_ev (a : FE) : oSo a ρ st = (a ρ st).toI := rfl
@[simp] theorem toI_ok (i : Int) : (R.ok (.int i) st).toI = .ok (some i) st := rfl
/-! tests -/
@[simp] theorem te_ev (a : FE) : tE a ρ st = (a ρ st).toB := rfl
@[simp] theorem toB_ok (b : Bool) : (R.ok (.bl b) st).toB = .ok b st := rfl
@[simp] theorem ttru_ev (a : FE) : tTru a ρ st = (a ρ st).bind dTru := rfl
@[simp] theorem tand_ev (a b : FT) : tAnd a b ρ st = (a ρ st).andT b ρ := rfl
@[simp] theorem andT_t (b : FT) : (R.ok true st).andT b ρ = b ρ st := rfl
@[simp] theorem andT_f (b : FT) : (R.ok false st).andT b ρ = .ok false st := rfl
@[simp] theorem tor_ev (a b : FT) : tOr a b ρ st = (a ρ st).orT b ρ := rfl
@[simp] theorem orT_t (b : FT) : (R.ok true st).orT b ρ = .ok true st := rfl
@[simp] theorem orT_f (b : FT) : (R.ok false st).orT b ρ = b ρ st := rfl
@[simp] theorem tnot_ev (a : FT) : tNot a ρ st = (a ρ st).notT := rfl
@[simp] theorem notT_ok (b : Bool) : (R.ok b st).notT = .ok (!b) st := rfl
@[simp] theorem tyes_ev : tYes ρ st = .ok true st := rfl
@[simp] theorem eand_ev (a b : FE) : eAnd a b ρ st = (a ρ st).andE b ρ := rfl
@[simp] theorem andE_t (b : FE) : (R.ok (.bl true) st).andE b ρ = b ρ st := rfl
@[simp] theorem andE_f (b : FE) : (R.ok (.bl false) st).andE b ρ = .ok (.bl false) st := rfl
@[simp] theorem eor_ev (a b : FE) : eOr a b ρ st = (a ρ st).orE b ρ := rfl
@[simp] theorem orE_t (b : FE) : (R.ok (.bl true) st).orE b ρ = .ok (.bl true) st := rfl
@[simp] theorem orE_f (b : FE) : (R.ok (.bl false) st).orE b ρ = b ρ st := rfl
@[simp] theorem enot_ev (a : FT) : eNot a ρ st = (a ρ st).notE := rfl
@[simp] theorem notE_ok (b : Bool) : (R.ok b st).notE = .ok (.bl (!b)) st := rfl
@[simp] theorem eif_ev (c : FT) (a b : FE) : eIf c a b ρ st = (c ρ st).ife ρ a b := rfl
@[simp] theorem ife_t (a b : FE) : (R.ok true st).ife ρ a b = a ρ st := rfl
@[simp] theorem ife_f (a b : FE) : (R.ok false st).ife ρ a b = b ρ st := rfl
@[simp] theorem ech_ev (f g : D → D → Sto → R D) (a b c : FE) : eCh f g a b c ρ st = (a ρ st).chn f g b c ρ := rfl
@[simp] theorem chn_ok (x : D) (f g : D → D → Sto → R D) (b c : FE) : (R.ok x st).chn f g b c ρ = (b ρ st).chn2 f g x c ρ := rfl
@[simp] theorem chn2_ok (y : D) (f g : D → D → Sto → R D) (x : D) (c : FE) : (R.ok y st).chn2 f g x c ρ = (f x y st).chn3 g y c ρ := rfl
@[simp] theorem chn3_t (g : D → D → Sto → R D) (y : D) (c : FE) : (R.ok (.bl true) st).chn3 g y c ρ = (c ρ st).bind (g y) := rfl
@[simp] theorem chn3_f (g : D → D → Sto → R D) (y : D) (c : FE) : (R.ok (.bl false) st).chn3 g y c ρ = .ok (.bl false) st := rfl
/-! statements, targets -/
@[simp] theorem snext_ev : sNext ρ st = .nx ρ st := rfl
@[simp] theorem sseq_ev (a b : FS) : sSeq a b ρ st = (a ρ st).thn b := rfl
@[simp] theorem thn_nx (b : FS) : (SR.nx ρ st).thn b = b ρ st := rfl
@[simp] theorem thn_rt (d : D) (b : FS) : (SR.rt d st).thn b = .rt d st := rfl
@[simp] theorem thn_ct (b : FS) : (SR.ct ρ st).thn b = .ct ρ st := rfl
@[simp] theorem thn_bk (b : FS) : (SR.bk ρ st).thn b = .bk ρ st := rfl
@[simp] theorem sasg_ev (e : FE) (g : FG) : sAsg e g ρ st = (e ρ st).asg ρ g := rfl
@[simp] theorem asg_ok (x : D) (g : FG) : (R.ok x st).asg ρ g = nxt (g x ρ st) := rfl
@[simp] theorem nxt_some (p : En × Sto) : nxt (some p) = .nx p.1 p.2 := rfl
@[simp] theorem spar_ev (i j : Nat) (f : FA) : sPar i j f ρ st = (f ρ st).par i j ρ := rfl
@[simp] theorem par_ok (i j : Nat) (v w : D) : (R.ok [v, w] st).par i j ρ = .nx ((ρ.set i (some v)).set j (some w)) st := rfl
@[simp] theorem sex_ev (e : FE) : sEx e ρ st = (e ρ st).drop ρ := rfl
@[simp] theorem drop_ok (d : D) : (R.ok d st).drop ρ = .nx ρ st := rfl
@[simp] theorem sret_ev (e : FE) : sRet e ρ st = (e ρ st).ret ρ := rfl
@[simp] theorem ret_ok (d : D) : (R.ok d st).ret ρ = .rt d st := rfl
@[simp] theorem sretn_ev : sRetN ρ st = .rt .non st := rfl
@[simp] theorem sif_ev (c : FT) (a b : FS) : sIf c a b ρ st = (c ρ st).iff ρ a b := rfl
@[simp] theorem iff_t (a b : FS) : (R.ok true st).iff ρ a b = a ρ st := rfl
@[simp] theorem iff_f (a b : FS) : (R.ok false st).iff ρ a b = b ρ st := rfl
@[simp] theorem saug_ev (i : Nat) (f : D → D → Sto → R D) (e : FE) : sAug i f e ρ st = augAt ρ[i]? i f e ρ st := rfl
@[simp] theorem augAt_ok (x : D) (i : Nat) (f : D → D → Sto → R D) (e : FE) : augAt (some (some x)) i f e ρ st = (e ρ st).aug i (f x) ρ := rfl
@[simp] theorem aug_ok (y : D) (i : Nat) (f : D → Sto → R D) : (R.ok y st).aug i f ρ = (f y st).putAt i ρ := rfl
@[simp] theorem putAt_ok (z : D) (i : Nat) : (R.ok z st).putAt i ρ = .nx (ρ.set i (some z)) st := rfl
@[simp] theorem sfor_ev (it : FI) (g : FG) (b : FS) : sFor it g b ρ st = (it ρ st).forI ρ g b := rfl
@[simp] theorem forI_ok (j : It) (g : FG) (b : FS) : (R.ok j st).forI ρ g b = forL g b j.watch j.items ρ st := rfl
@[simp] theorem gslot_ev (i : Nat) (d : D) : gSlot i d ρ st = some (ρ.set i (some d), st) := rfl
@[simp] theorem gnil_ev : PV.gNil [] ρ st = some (ρ, st) := rfl
@[simp] theorem gcons_ev (g : FG) (gs : FGs) (d : D) (r : List D) : PV.gCons g gs (d :: r) ρ st = gc (g d ρ st) gs r := rfl
@[simp] theorem gc_some (p : En × Sto) (gs : FGs) (r : List D) : gc (some p) gs r = gs r p.1 p.2 := rfl
@[simp] theorem gtup_ev (n : Nat) (gs : FGs) (xs : List D) : PV.gTup n gs (.tup xs) ρ st = if xs.length = n then gs xs ρ st else none := rfl
@[simp] theorem gtpw_ev (n : Nat) (gs : FGs) (xs : List D) : PV.gTup n gs (.tpw xs) ρ st = if xs.length = n then gs xs ρ st else none := rfl
@[simp] theorem rget_ok (a : α) : (R.ok a st).get = some (a, st) := rfl
@[simp] theorem gsub_ev (o i : FE) (d : D) : gSub o i d ρ st = sub1 (o ρ st).get i d ρ := rfl
@[simp] theorem sub1_ok (p : D × Sto) (i : FE) (d : D) : sub1 (some p) i d ρ = sub2 (i ρ p.2).get p.1 d ρ := rfl
@[simp] theorem sub2_ok (q : D × Sto) (x d : D) : sub2 (some q) x d ρ = sub3 (dSet x q.1 d q.2) ρ := rfl
@[simp] theorem sub3_ok (st' : Sto) : sub3 (some st') ρ = some (ρ, st') := rfl
@[simp] theorem iseq_ev (a : FE) : iSeq a ρ st = (a ρ st).bind itSeq := rfl
@[simp] theorem irg1_ev (a : FE) : iRange1 a ρ st = (a ρ st).bind itRange1 := rfl
@[simp] theorem irg2_ev (a b : FE) : iRange2 a b ρ st = (a ρ st).rg2 b ρ := rfl
@[simp] theorem rg2_ok (x : D) (b : FE) : (R.ok x st).rg2 b ρ = (b ρ st).bind (itRange2 x) := rfl
@[simp] theorem ienum_ev (a : FE) : iEnum a ρ st = (a ρ st).bind itEnum := rfl
@[simp] theorem izip_ev (a b : FE) : iZip a b ρ st = (a ρ st).zp2 b ρ := rfl
@[simp] theorem zp2_ok (x : D) (b : FE) : (R.ok x st).zp2 b ρ = (b ρ st).bind (itZip x) := rfl
@[simp] theorem elc_ev (vs : List Nat) (it : FI) (g : FG) (t : FT) (e : FE) : eLc vs it g t e ρ st = (it ρ st).lcI vs g t e ρ := rfl
@[simp] theorem lcI_ok (j : It) (vs : List Nat) (g : FG) (t : FT) (e : FE) : (R.ok j st).lcI vs g t e ρ = lcL st.length (wipeD ρ vs) g t e j.watch j.items (st ++ [.lst []]) := rfl
@[simp] theorem wipe_nil : wipeD ρ [] = ρ := rfl
@[simp] theorem wipe_cons (v : Nat) (vs : List Nat) : wipeD ρ (v :: vs) = (wipeD ρ vs).set v none := rfl
end
/-! operators at given values -/
section
variable {st : Sto} {xs ys : List D} {f : Bool}
@[simp] theorem add_i (a b : Int) : dAdd (.int a) (.int b) st = .ok (.int (a + b)) st := rfl
@[simp] theorem sub_i (a b : Int) : dSub (.int a) (.int b) st = .ok (.int (a - b)) st := rfl
@[simp] theorem neg_i (a : Int) : dNeg (.int a) st = .ok (.int (-a)) st := rfl
@[simp] theorem iadd_i (a b : Int) : dIadd (.int a) (.int b) st = .ok (.int (a + b)) st := rfl
@[simp] theorem lt_i (a b : Int) : dLt (.int a) (.int b) st = .ok (.bl (decide (a < b))) st := rfl
@[simp] theorem le_i (a b : Int) : dLe (.int a) (.int b) st = .ok (.bl (decide (a ≤ b))) st := rfl
@[simp] theorem gt_i (a b : Int) : dGt (.int a) (.int b) st = .ok (.bl (decide (b < a))) st := rfl
@[simp] theorem ge_i (a b : Int) : dGe (.int a) (.int b) st = .ok (.bl (decide (b ≤ a))) st := rfl
@[simp] theorem eq_i (a b : Int) : dEq (.int a) (.int b) st = .ok (.bl (decide (a = b))) st := rfl
@[simp] theorem ne_i (a b : Int) : dNe (.int a) (.int b) st = .ok (.bl (!decide (a = b))) st := rfl
@[simp] theorem eq_s (a b : Str) : dEq (.str a) (.str b) st = .ok (.bl (decide (a = b))) st := rfl
@[simp] theorem ne_s (a b : Str) : dNe (.str a) (.str b) st = .ok (.bl (!decide (a = b))) st := rfl
@[simp] theorem isn_ev (x : D) : dIsN x .non st = .ok (.bl x.isNon) st := rfl
@[simp] theorem notn_ev (x : D) : dNotN x .non st = .ok (.bl (!x.isNon)) st := rfl
@[simp] theorem int_i (a : Int) : dInt (.int a) st = .ok (.int a) st := rfl
@[simp] theorem abs_i (a : Int) : dAbs (.int a) st = .ok (.int (if a < 0 then -a else a)) st := rfl
@[simp] theorem max2_i (a b : Int) : dMax2 (.int a) (.int b) st = .ok (.int (if b > a then b else a)) st := rfl
@[simp] theorem min2_i (a b : Int) : dMin2 (.int a) (.int b) st = .ok (.int (if b < a then b else a)) st := rfl
@[simp] theorem isi_ev (t : Ty) (x : D) : dIsi t x st = .ok (.bl (isTy t x)) st := rfl
theorem mul_i {a b : Int} (h : (-big < a ∧ a < big) ∨ (-big < b ∧ b < big)) : dMul (.int a) (.int b) st = .ok (.int (a * b)) st := if_pos h
theorem fdiv_i {a b : Int} (h : 0 < b ∧ b < 1073741824) : dFdiv (.int a) (.int b) st = .ok (.int (a / b)) st := if_pos h
theorem mod_i {a b : Int} (h : 0 < b) : dMod (.int a) (.int b) st = .ok (.int (a % b)) st := if_pos h
@[simp] theorem seq_tup : seqOf (.tup xs) st = some xs := rfl
@[simp] theorem seq_rls : seqOf (.rls f xs) st = some xs := rfl
@[simp] theorem seq_wls : seqOf (.wls xs) st = some xs := rfl
@[simp] theorem seq_ref (n : Nat) : seqOf (.ref n) st = match st[n]? with
  | some (.lst xs) => some xs
  | _ => none := rfl
@[simp] theorem lst_rls : lstOf (.rls f xs) st = some xs := rfl
@[simp] theorem lst_wls : lstOf (.wls xs) st = some xs := rfl
@[simp] theorem lst_ref (n : Nat) : lstOf (.ref n) st = match st[n]? with
  | some (.lst xs) => some xs
  | _ => none := rfl
@[simp] theorem lst_tup : lstOf (.tup xs) st = none := rfl
@[simp] theorem trk_rls : trkOf (.rls f xs) st = some xs := rfl
@[simp] theorem trk_ref (n : Nat) : trkOf (.ref n) st = match st[n]? with
  | some (.lst xs) => some xs
  | _ => none := rfl
@[simp] theorem len_tup : dLen (.tup xs) st = .ok (.int (xs.length : Nat)) st := rfl
@[simp] theorem len_rls : dLen (.rls f xs) st = .ok (.int (xs.length : Nat)) st := rfl
@[simp] theorem len_wls : dLen (.wls xs) st = .ok (.int (xs.length : Nat)) st := rfl
@[simp] theorem len_ref (n : Nat) : dLen (.ref n) st = match seqOf (.ref n) st with
  | some xs => .ok (.int (xs.length : Nat)) st
  | none => .bad := rfl
@[simp] theorem tru_bl (b : Bool) : dTru (.bl b) st = .ok b st := rfl
@[simp] theorem tru_tup : dTru (.tup xs) st = .ok (!xs.isEmpty) st := rfl
@[simp] theorem tru_rls : dTru (.rls f xs) st = .ok (!xs.isEmpty) st := rfl
@[simp] theorem tru_ref (n : Nat) : dTru (.ref n) st = match seqOf (.ref n) st with
  | some xs => .ok (!xs.isEmpty) st
  | none => .bad := rfl
@[simp] theorem tru_non : dTru .non st = .ok false st := rfl
@[simp] theorem ix_tup (i : Int) : dIx (.tup xs) (.int i) st = match L2.atI xs i with
  | some v => .ok v st
  | none => .bad := rfl
@[simp] theorem ix_rls (i : Int) : dIx (.rls f xs) (.int i) st = match L2.atI xs i with
  | some v => .ok v st
  | none => .bad := rfl
@[simp] theorem ix_ref (n : Nat) (i : Int) : dIx (.ref n) (.int i) st = match seqOf (.ref n) st with
  | some xs => match L2.atI xs i with
    | some v => .ok v st
    | none => .bad
  | none => .bad := rfl
@[simp] theorem sl_tup (lo hi : Option Int) : dSl (.tup xs) lo hi st = .ok (.tup (cut xs lo hi)) st := rfl
@[simp] theorem sl_wls (lo hi : Option Int) : dSl (.wls xs) lo hi st = newLst (cut xs lo hi) st := rfl
@[simp] theorem sl_rls (lo hi : Option Int) : dSl (.rls f xs) lo hi st = newLst (cut xs lo hi) st := rfl
@[simp] theorem sl_ref (n : Nat) (lo hi : Option Int) : dSl (.ref n) lo hi st = match lstOf (.ref n) st with
  | some xs => newLst (cut xs lo hi) st
  | none => .bad := rfl
@[simp] theorem new_ev : newLst xs st = .ok (.ref st.length) (st ++ [.lst xs]) := rfl
@[simp] theorem rev_tup : dRev (.tup xs) st = .ok (.tup xs.reverse) st := rfl
@[simp] theorem rev_ref (n : Nat) : dRev (.ref n) st = match lstOf (.ref n) st with
  | some xs => newLst xs.reverse st
  | none => .bad := rfl
@[simp] theorem tuple_ref (n : Nat) : dTuple (.ref n) st = match lstOf (.ref n) st with
  | some xs => .ok (.tup xs) st
  | none => .bad := rfl
@[simp] theorem tuple_tup : dTuple (.tup xs) st = .ok (.tup xs) st := rfl
@[simp] theorem list_tup : dList (.tup xs) st = newLst xs st := rfl
@[simp] theorem list_rls : dList (.rls f xs) st = newLst xs st := rfl
@[simp] theorem list_ref (n : Nat) : dList (.ref n) st = match seqOf (.ref n) st with
  | some xs => newLst xs st
  | none => .bad := rfl
theorem tup_ev (h : xs.length ≤ line) : dTup xs st = .ok (.tup xs) st := if_pos h
theorem lst_ev (h : xs.length ≤ line) : dLst xs st = .ok (.ref st.length) (st ++ [.lst xs]) := if_pos h
@[simp] theorem tup0 : dTup [] st = .ok (.tup []) st := rfl
@[simp] theorem lst0 : dLst [] st = .ok (.ref st.length) (st ++ [.lst []]) := rfl
@[simp] theorem lst1 (x0 : D) : dLst [x0] st = .ok (.ref st.length) (st ++ [.lst [x0]]) := lst_ev (by unfold line; simp)
@[simp] theorem tup1 (x0 : D) : dTup [x0] st = .ok (.tup [x0]) st := tup_ev (by unfold line; simp)
@[simp] theorem lst2 (x0 x1 : D) : dLst [x0, x1] st = .ok (.ref st.length) (st ++ [.lst [x0, x1]]) := lst_ev (by unfold line; simp)
@[simp] theorem tup2 (x0 x1 : D) : dTup [x0, x1] st = .ok (.tup [x0, x1]) st := tup_ev (by unfold line; simp)
@[simp] theorem lst3 (x0 x1 x2 : D) : dLst [x0, x1, x2] st = .ok (.ref st.length) (st ++ [.lst [x0, x1, x2]]) := lst_ev (by unfold line; simp)
@[simp] theorem tup3 (x0 x1 x2 : D) : dTup [x0, x1, x2] st = .ok (.tup [x0, x1, x2]) st := tup_ev (by unfold line; simp)
@[simp] theorem lst4 (x0 x1 x2 x3 : D) : dLst [x0, x1, x2, x3] st = .ok (.ref st.length) (st ++ [.lst [x0, x1, x2, x3]]) := lst_ev (by unfold line; simp)
@[simp] theorem tup4 (x0 x1 x2 x3 : D) : dTup [x0, x1, x2, x3] st = .ok (.tup [x0, x1, x2, x3]) st := tup_ev (by unfold line; simp)
@[simp] theorem lst5 (x0 x1 x2 x3 x4 : D) : dLst [x0, x1, x2, x3, x4] st = .ok (.ref st.length) (st ++ [.lst [x0, x1, x2, x3, x4]]) := lst_ev (by unfold line; simp)
@[simp] theorem tup5 (x0 x1 x2 x3 x4 : D) : dTup [x0, x1, x2, x3, x4] st = .ok (.tup [x0, x1, x2, x3, x4]) st := tup_ev (by unfold line; simp)
@[simp] theorem lst6 (x0 x1 x2 x3 x4 x5 : D) : dLst [x0, x1, x2, x3, x4, x5] st = .ok (.ref st.length) (st ++ [.lst [x0, x1, x2, x3, x4, x5]]) := lst_ev (by unfold line; simp)
@[simp] theorem tup6 (x0 x1 x2 x3 x4 x5 : D) : dTup [x0, x1, x2, x3, x4, x5] st = .ok (.tup [x0, x1, x2, x3, x4, x5]) st := tup_ev (by unfold line; simp)
@[simp] theorem lst7 (x0 x1 x2 x3 x4 x5 x6 : D) : dLst [x0, x1, x2, x3, x4, x5, x6] st = .ok (.ref st.length) (st ++ [.lst [x0, x1, x2, x3, x4, x5, x6]]) := lst_ev (by unfold line; simp)
@[simp] theorem tup7 (x0 x1 x2 x3 x4 x5 x6 : D) : dTup [x0, x1, x2, x3, x4, x5, x6] st = .ok (.tup [x0, x1, x2, x3, x4, x5, x6]) st := tup_ev (by unfold line; simp)
@[simp] theorem lst8 (x0 x1 x2 x3 x4 x5 x6 x7 : D) : dLst [x0, x1, x2, x3, x4, x5, x6, x7] st = .ok (.ref st.length) (st ++ [.lst [x0, x1, x2, x3, x4, x5, x6, x7]]) := lst_ev (by unfold line; simp)
@[simp] theorem tup8 (x0 x1 x2 x3 x4 x5 x6 x7 : D) : dTup [x0, x1, x2, x3, x4, x5, x6, x7] st = .ok (.tup [x0, x1, x2, x3, x4, x5, x6, x7]) st := tup_ev (by unfold line; simp)
@[simp] theorem lst9 (x0 x1 x2 x3 x4 x5 x6 x7 x8 : D) : dLst [x0, x1, x2, x3, x4, x5, x6, x7, x8] st = .ok (.ref st.length) (st ++ [.lst [x0, x1, x2, x3, x4, x5, x6, x7, x8]]) := lst_ev (by unfold line; simp)
@[simp] theorem tup9 (x0 x1 x2 x3 x4 x5 x6 x7 x8 : D) : dTup [x0, x1, x2, x3, x4, x5, x6, x7, x8] st = .ok (.tup [x0, x1, x2, x3, x4, x5, x6, x7, x8]) st := tup_ev (by unfold line; simp)
@[simp] theorem lst10 (x0 x1 x2 x3 x4 x5 x6 x7 x8 x9 : D) : dLst [x0, x1, x2, x3, x4, x5, x6, x7, x8, x9] st = .ok (.ref st.length) (st ++ [.lst [x0, x1, x2, x3, x4, x5, x6, x7, x8, x9]]) := lst_ev (by unfold line; simp)
@[simp] theorem tup10 (x0 x1 x2 x3 x4 x5 x6 x7 x8 x9 : D) : dTup [x0, x1, x2, x3, x4, x5, x6, x7, x8, x9] st = .ok (.tup [x0, x1, x2, x3, x4, x5, x6, x7, x8, x9]) st := tup_ev (by unfold line; simp)
@[simp] theorem isref_ref (n : Nat) : D.isRef (.ref n) = true := rfl
@[simp] theorem istup_tup : D.isTup (.tup xs) = true := rfl
@[simp] theorem itseq_tup : itSeq (.tup xs) st = .ok ⟨xs, []⟩ st := rfl
@[simp] theorem itseq_rls : itSeq (.rls f xs) st = .ok ⟨xs, []⟩ st := rfl
@[simp] theorem itseq_wls : itSeq (.wls xs) st = .ok ⟨xs, []⟩ st := rfl
@[simp] theorem itseq_ref (n : Nat) : itSeq (.ref n) st = match seqOf (.ref n) st with
  | some xs => .ok ⟨xs, [(n, xs)]⟩ st
  | none => .bad := by
  unfold itSeq
  cases seqOf (.ref n) st <;> rfl
theorem app_ref {n : Nat} {v : D} (h : st[n]? = some (.lst xs)) (hl : xs.length < line) : dAppend (.ref n) v st = .ok .non (st.set n (.lst (xs ++ [v]))) := by
  show (match st[n]? with
    | some (.lst xs) => if xs.length < line then R.ok D.non (st.set n (.lst (xs ++ [v]))) else .bad
    | _ => .bad) = _
  rw [h]
  exact if_pos hl
/-! lists that stand in the store -/
theorem get_app {q : Nat} {c : Cell} {l : Sto} (h : st[q]? = some c) : (st ++ l)[q]? = some c := by
  rw [List.getElem?_append_left (List.getElem?_eq_some_iff.mp h).1]
  exact h
theorem sl_at {q : Nat} {lo hi : Option Int} (h : st[q]? = some (.lst xs)) : dSl (.ref q) lo hi st = .ok (.ref st.length) (st ++ [.lst (cut xs lo hi)]) := by
  rw [sl_ref, lst_ref, h]
  rfl
theorem rev_at {q : Nat} (h : st[q]? = some (.lst xs)) : dRev (.ref q) st = .ok (.ref st.length) (st ++ [.lst xs.reverse]) := by
  rw [rev_ref, lst_ref, h]
  rfl
theorem len_at {q : Nat} (h : st[q]? = some (.lst xs)) : dLen (.ref q) st = .ok (.int (xs.length : Nat)) st := by
  rw [len_ref, seq_ref, h]
theorem tuple_at {q : Nat} (h : st[q]? = some (.lst xs)) : dTuple (.ref q) st = .ok (.tup xs) st := by
  rw [tuple_ref, lst_ref, h]
theorem list_at {q : Nat} (h : st[q]? = some (.lst xs)) : dList (.ref q) st = .ok (.ref st.length) (st ++ [.lst xs]) := by
  rw [list_ref, seq_ref, h]
  rfl
theorem itseq_at {q : Nat} (h : st[q]? = some (.lst xs)) : itSeq (.ref q) st = .ok ⟨xs, [(q, xs)]⟩ st := by
  rw [itseq_ref, seq_ref, h]
theorem add_at {q r : Nat} (h : st[q]? = some (.lst xs)) (h2 : st[r]? = some (.lst ys)) (hl : xs.length + ys.length ≤ line) : dAdd (.ref q) (.ref r) st = .ok (.ref st.length) (st ++ [.lst (xs ++ ys)]) := by
  have e1 : trkOf (.ref q) st = some xs := by rw [trk_ref, h]
  have e2 : trkOf (.ref r) st = some ys := by rw [trk_ref, h2]
  show (match trkOf (.ref q) st, trkOf (.ref r) st with
    | some a, some b => if a.length + b.length ≤ line then newLst (a ++ b) st else .bad
    | _, _ => .bad) = _
  rw [e1, e2]
  exact if_pos hl
theorem ix_at {q : Nat} {i : Int} {v : D} (h : st[q]? = some (.lst xs)) (hv : L2.atI xs i = some v) : dIx (.ref q) (.int i) st = .ok v st := by
  rw [ix_ref, seq_ref, h]
  show (match L2.atI xs i with
    | some v => R.ok v st
    | none => .bad) = _
  rw [hv]
/-! ranges -/
theorem rg1_ev {j : Int} (h : -lim ≤ j ∧ j < lim) : itRange1 (.int j) st = .ok ⟨rangeL 0 j, []⟩ st := if_pos h
theorem rg2_ev {i j : Int} (h : -lim ≤ i ∧ i < lim ∧ -lim ≤ j ∧ j < lim) : itRange2 (.int i) (.int j) st = .ok ⟨rangeL i j, []⟩ st := if_pos h
theorem mem_rangeL {lo hi : Int} {x : D} (h : x ∈ rangeL lo hi) : ∃ k : Nat, k < (hi - lo).toNat ∧ x = .int (lo + (k : Int)) := by
  unfold rangeL at h
  obtain ⟨k, hk, e⟩ := List.mem_map.mp h
  exact ⟨k, List.mem_range.mp hk, e.symm⟩
/-! the store's last cell -/
theorem at_last (l : Sto) (c : Cell) : (l ++ [c])[l.length]? = some c := by simp
theorem set_last (l : Sto) (c d : Cell) : (l ++ [c]).set l.length d = l ++ [d] := by
  rw [List.set_append_right _ _ (Nat.le_refl _), Nat.sub_self]
  rfl
theorem atI_of {xs : List D} {i : Nat} {d : D} (h : xs[i]? = some d) : L2.atI xs (i : Int) = some d := L2.atI_nat h
end
/-! whatever hangs on no list is handed in and back as it is -/
mutual
theorem fzA_imm (g : Nat → Option (List D)) : ∀ d : D, d.imm = true → d.fzA g = some d
  | .non, _ => by rw [D.fzA]
  | .bl _, _ => by rw [D.fzA]
  | .int _, _ => by rw [D.fzA]
  | .str _, _ => by rw [D.fzA]
  | .tup xs, h => by
    rw [D.imm] at h
    rw [D.fzA, fzAs_imm g xs h]
    rfl
  | .tpw xs, h => by
    rw [D.imm] at h
    rw [D.fzA, fzAs_imm g xs h]
    rfl
  | .rls _ _, h => by rw [D.imm] at h; cases h
  | .wls _, h => by rw [D.imm] at h; cases h
  | .ref _, h => by rw [D.imm] at h; cases h
theorem fzAs_imm (g : Nat → Option (List D)) : ∀ ds : List D, D.imms ds = true → D.fzAs g ds = some ds
  | [], _ => by rw [D.fzAs]
  | d :: ds, h => by
    rw [D.imms, Bool.and_eq_true] at h
    rw [D.fzAs, fzA_imm g d h.1, fzAs_imm g ds h.2]
end
mutual
theorem fzR_imm (g : Nat → Option (List D)) : ∀ d : D, d.imm = true → d.fzR g = some d
  | .non, _ => by rw [D.fzR]
  | .bl _, _ => by rw [D.fzR]
  | .int _, _ => by rw [D.fzR]
  | .str _, _ => by rw [D.fzR]
  | .tup xs, h => by
    rw [D.imm] at h
    rw [D.fzR, fzRs_imm g xs h]
    rfl
  | .tpw xs, h => by
    rw [D.imm] at h
    rw [D.fzR, fzRs_imm g xs h]
    rfl
  | .rls _ _, h => by rw [D.imm] at h; cases h
  | .wls _, h => by rw [D.imm] at h; cases h
  | .ref _, h => by rw [D.imm] at h; cases h
theorem fzRs_imm (g : Nat → Option (List D)) : ∀ ds : List D, D.imms ds = true → D.fzRs g ds = some ds
  | [], _ => by rw [D.fzRs]
  | d :: ds, h => by
    rw [D.imms, Bool.and_eq_true] at h
    rw [D.fzRs, fzR_imm g d h.1, fzRs_imm g ds h.2]
end
@[simp] theorem fzA_int (g : Nat → Option (List D)) (i : Int) : (D.int i).fzA g = some (.int i) := by rw [D.fzA]
@[simp] theorem fzA_str (g : Nat → Option (List D)) (i : Str) : (D.str i).fzA g = some (.str i) := by rw [D.fzA]
@[simp] theorem fzA_bl (g : Nat → Option (List D)) (i : Bool) : (D.bl i).fzA g = some (.bl i) := by rw [D.fzA]
@[simp] theorem fzA_non (g : Nat → Option (List D)) : D.non.fzA g = some .non := by rw [D.fzA]
@[simp] theorem fzA_ref (g : Nat → Option (List D)) (n : Nat) : (D.ref n).fzA g = (g n).map (.rls false) := by rw [D.fzA]
@[simp] theorem fzA_rls (g : Nat → Option (List D)) (f : Bool) (xs : List D) : (D.rls f xs).fzA g = (D.fzAs g xs).map (.rls false) := by rw [D.fzA]
@[simp] theorem fzA_wls (g : Nat → Option (List D)) (xs : List D) : (D.wls xs).fzA g = (D.fzAs g xs).map .wls := by rw [D.fzA]
@[simp] theorem fzA_tup (g : Nat → Option (List D)) (xs : List D) : (D.tup xs).fzA g = (D.fzAs g xs).map .tup := by rw [D.fzA]
@[simp] theorem fzAs_nil (g : Nat → Option (List D)) : D.fzAs g [] = some [] := by rw [D.fzAs]
theorem fzAs_cons (g : Nat → Option (List D)) (d : D) (ds : List D) {e : D} {es : List D} (h : d.fzA g = some e) (h2 : D.fzAs g ds = some es) : D.fzAs g (d :: ds) = some (e :: es) := by rw [D.fzAs, h, h2]
@[simp] theorem fzAs_cons' (g : Nat → Option (List D)) (d : D) (ds : List D) : D.fzAs g (d :: ds) = match d.fzA g, D.fzAs g ds with
  | some p, some ps => some (p :: ps)
  | _, _ => none := by rw [D.fzAs] <;> rfl
theorem imms_ints : ∀ ns : List Int, D.imms (ns.map D.int) = true
  | [] => by rw [List.map_nil, D.imms]
  | i :: r => by rw [List.map_cons, D.imms, imms_ints r]; rfl
@[simp] theorem fzAs_ints (g : Nat → Option (List D)) (ns : List Int) : D.fzAs g (ns.map D.int) = some (ns.map D.int) := fzAs_imm g _ (imms_ints ns)
theorem cellA_at {m n : Nat} {st : Sto} {ds : List D} (h : st[n]? = some (.lst ds)) (hi : D.imms ds = true) : cellA (m + 1) st n = some ds := by
  unfold cellA
  rw [h]
  exact fzAs_imm _ _ hi
theorem imms_app : ∀ xs ys : List D, D.imms (xs ++ ys) = (D.imms xs && D.imms ys)
  | [], ys => by rw [List.nil_append, D.imms]; rfl
  | x :: xs, ys => by rw [List.cons_append, D.imms, D.imms, imms_app xs ys, Bool.and_assoc]
theorem imms_mem {xs : List D} (h : ∀ x ∈ xs, x.imm = true) : D.imms xs = true := by
  induction xs with
  | nil => rw [D.imms]
  | cons x xs ih => rw [D.imms, h x (by simp), ih fun y m => h y (List.mem_cons_of_mem _ m)]; rfl
theorem mem_imms {xs : List D} (h : D.imms xs = true) : ∀ x ∈ xs, x.imm = true := by
  induction xs with
  | nil => intro x m; cases m
  | cons y xs ih =>
    rw [D.imms, Bool.and_eq_true] at h
    intro x m
    rcases List.mem_cons.mp m with rfl | m
    · exact h.1
    · exact ih h.2 x m
/-! places -/
theorem ixN_nat {n k : Nat} (h : k < n) : L2.ixN n (k : Int) = some k := by
  have e : ((k : Int)).toNat = k := by omega
  unfold L2.ixN
  simp [h] <;> omega
@[simp] theorem ixN_zero (n : Nat) : L2.ixN (n + 1) 0 = some 0 := ixN_nat (k := 0) (by omega)
@[simp] theorem atI_zero (x : D) (xs : List D) : L2.atI (x :: xs) 0 = some x := atI_of (i := 0) rfl
@[simp] theorem dset_ev (n : Nat) (k : Int) (v : D) (st : Sto) : dSet (.ref n) (.int k) v st = match st[n]? with
  | some (.lst xs) => match L2.ixN xs.length k with
    | some j => some (st.set n (.lst (xs.set j v)))
    | none => none
  | _ => none := rfl
/-! what a def hands back -/
@[simp] theorem fins_rt (k : Nat) (d : D) (st : Sto) : finS k (.rt d st) = fin k d st := rfl
@[simp] theorem fins_nx (k : Nat) (ρ : En) (st : Sto) : finS k (.nx ρ st) = fin k .non st := rfl
theorem fin_imm {k : Nat} {d : D} {st : Sto} (hd : d.imm = true) (h : (st.take k).all Cell.imm = true) : fin k d st = .ok d (st.take k) := by
  unfold fin
  rw [fzR_imm _ _ hd]
  exact if_pos h
@[simp] theorem imm_int (i : Int) : (D.int i).imm = true := rfl
@[simp] theorem imm_bl (i : Bool) : (D.bl i).imm = true := rfl
@[simp] theorem imm_str (i : Str) : (D.str i).imm = true := rfl
@[simp] theorem imm_non : D.non.imm = true := rfl
@[simp] theorem imm_tup (xs : List D) : (D.tup xs).imm = D.imms xs := by rw [D.imm]
@[simp] theorem imms_nil : D.imms [] = true := by rw [D.imms]
@[simp] theorem imms_cons (x : D) (xs : List D) : D.imms (x :: xs) = (x.imm && D.imms xs) := by rw [D.imms]
@[simp] theorem imms_zs (ns : List Int) : D.imms (ns.map D.int) = true := imms_ints ns
@[simp] theorem cimm_lst (xs : List D) : Cell.imm (.lst xs) = D.imms xs := rfl
@[simp] theorem fin_int (k : Nat) (i : Int) (st : Sto) : fin k (.int i) st = if (st.take k).all Cell.imm then .ok (.int i) (st.take k) else .bad := rfl
@[simp] theorem fin_bl (k : Nat) (i : Bool) (st : Sto) : fin k (.bl i) st = if (st.take k).all Cell.imm then .ok (.bl i) (st.take k) else .bad := rfl
@[simp] theorem fin_non (k : Nat) (st : Sto) : fin k .non st = if (st.take k).all Cell.imm then .ok .non (st.take k) else .bad := rfl
@[simp] theorem fin_str (k : Nat) (i : Str) (st : Sto) : fin k (.str i) st = if (st.take k).all Cell.imm then .ok (.str i) (st.take k) else .bad := rfl
theorem fin_tup {k : Nat} {xs : List D} {st : Sto} (hd : D.imms xs = true) : fin k (.tup xs) st = if (st.take k).all Cell.imm then .ok (.tup xs) (st.take k) else .bad := by
  unfold fin
  rw [fzR_imm _ _ (by simp [hd])]
theorem fin_ref {k n : Nat} {xs : List D} {st : Sto} (hk : k ≤ n) (h : st[n]? = some (.lst xs)) (hd : D.imms xs = true) : fin k (.ref n) st = if (st.take k).all Cell.imm then .ok (.rls true xs) (st.take k) else .bad := by
  have e : cellR k 6 st n = some xs := by
    unfold cellR
    rw [if_neg (by omega), h]
    exact fzRs_imm _ _ hd
  unfold fin
  rw [D.fzR, e]
  rfl
/-! calls (f stays a variable: the kernel never runs it) -/
theorem callP_of {f : Fs} {as bs : List D} {st : Sto} {d : D} (h : D.fzAs (cellA 6 st) as = some bs) (hf : f bs [] = .ok d []) : callP f as st = .ok d st := by
  unfold callP
  rw [h]
  show (match f bs [] with
    | .ok d [] => R.ok d st
    | .ex x [] => .ex x st
    | _ => .bad) = _
  rw [hf]
theorem callM_of {f : Fs} {as bs : List D} {st : Sto} {d : D} {j n : Nat} {xs ys : List D} (hj : as[j]? = some (.ref n)) (hn : st[n]? = some (.lst xs)) (hx : D.imms xs = true) (h : D.fzAs (cellA 6 (st.set n .dead)) (as.set j .non) = some bs)
    (hf : f (bs.set j (.ref 0)) [.lst xs] = .ok d [.lst ys]) (hy : D.imms ys = true) : callM j f as st = .ok d (st.set n (.lst ys)) := by
  unfold callM
  rw [hj]
  show (match st[n]? with
    | some (.lst xs) => if D.imms xs then (match D.fzAs (cellA 6 (st.set n .dead)) (as.set j .non) with
      | some bs => match f (bs.set j (.ref 0)) [.lst xs] with
        | .ok d [.lst ys] => if D.imms ys then R.ok d (st.set n (.lst ys)) else .bad
        | .ex x [.lst ys] => if D.imms ys then .ex x (st.set n (.lst ys)) else .bad
        | _ => .bad
      | none => .bad) else .bad
    | _ => .bad) = _
  rw [hn]
  show (if D.imms xs then (match D.fzAs (cellA 6 (st.set n .dead)) (as.set j .non) with
      | some bs => match f (bs.set j (.ref 0)) [.lst xs] with
        | .ok d [.lst ys] => if D.imms ys then R.ok d (st.set n (.lst ys)) else .bad
        | .ex x [.lst ys] => if D.imms ys then .ex x (st.set n (.lst ys)) else .bad
        | _ => .bad
      | none => .bad) else .bad) = _
  rw [if_pos hx, h]
  show (match f (bs.set j (.ref 0)) [.lst xs] with
        | .ok d [.lst ys] => if D.imms ys then R.ok d (st.set n (.lst ys)) else .bad
        | .ex x [.lst ys] => if D.imms ys then .ex x (st.set n (.lst ys)) else .bad
        | _ => .bad) = _
  rw [hf]
  exact if_pos hy
/-- a def's worth from its body's -/
theorem sem_rt {n : Nat} {b : FS} {as : List D} {st st' : Sto} {d : D} {r : R D} (h : b (as.map some ++ List.replicate (n - as.length) none) st = .rt d st') (hr : fin st.length d st' = r) : semOf n b as st = r := by
  unfold semOf
  rw [h]
  exact hr
theorem sem_nx {n : Nat} {b : FS} {as : List D} {st st' : Sto} {ρ' : En} {r : R D} (h : b (as.map some ++ List.replicate (n - as.length) none) st = .nx ρ' st') (hr : fin st.length .non st' = r) : semOf n b as st = r := by
  unfold semOf
  rw [h]
  exact hr
/-! loops -/
theorem forL_ok {g : FG} {b : FS} {w : List (Nat × List D)} {P : List D → En → Sto → Prop} (hw : ∀ xs ρ st, P xs ρ st → okW st w = true)
    (step : ∀ x xs ρ st, P (x :: xs) ρ st → ∃ ρ1 st1, g x ρ st = some (ρ1, st1) ∧ ∃ ρ2 st2, (b ρ1 st1 = .nx ρ2 st2 ∨ b ρ1 st1 = .ct ρ2 st2) ∧ P xs ρ2 st2) : ∀ (xs : List D) (ρ : En) (st : Sto), P xs ρ st → ∃ ρ' st', forL g b w xs ρ st = .nx ρ' st' ∧ P [] ρ' st'
  | [], ρ, st, h => by
    refine ⟨ρ, st, ?_, h⟩
    unfold forL
    rw [if_pos (hw _ _ _ h)]
  | x :: xs, ρ, st, h => by
    obtain ⟨ρ1, st1, e1, ρ2, st2, e2, h2⟩ := step x xs ρ st h
    obtain ⟨ρ', st', e3, h3⟩ := forL_ok hw step xs ρ2 st2 h2
    refine ⟨ρ', st', ?_, h3⟩
    unfold forL
    rw [if_pos (hw _ _ _ h), e1]
    rcases e2 with e2 | e2
    · simp only [e2]
      exact e3
    · simp only [e2]
      exact e3
/-- a comprehension whose parts read alone -/
theorem okW_more {st l : Sto} : ∀ {w : List (Nat × List D)}, okW st w = true → okW (st ++ l) w = true
  | [], _ => rfl
  | (n, xs) :: r, h => by
    unfold okW at h ⊢
    rw [Bool.and_eq_true] at h ⊢
    refine ⟨?_, okW_more h.2⟩
    have h1 := h.1
    split at h1
    · rename_i ys q
      have : (st ++ l)[n]? = some (.lst ys) := by
        rw [List.getElem?_append_left (List.getElem?_eq_some_iff.mp q).1]
        exact q
      rw [this]
      exact h1
    · cases h1
theorem lc_pure {ρ : En} {g : FG} {t : FT} {e : FE} {w : List (Nat × List D)} {st0 : Sto} (p : D → Bool) (f : D → D) (hw : okW st0 w = true) : ∀ (xs acc : List D),
    (∀ x ∈ xs, ∀ acc, ∃ ρ1, g x ρ (st0 ++ [.lst acc]) = some (ρ1, st0 ++ [.lst acc]) ∧ t ρ1 (st0 ++ [.lst acc]) = .ok (p x) (st0 ++ [.lst acc]) ∧ (p x = true → e ρ1 (st0 ++ [.lst acc]) = .ok (f x) (st0 ++ [.lst acc]))) →
    acc.length + xs.length ≤ line → lcL st0.length ρ g t e w xs (st0 ++ [.lst acc]) = .ok (.ref st0.length) (st0 ++ [.lst (acc ++ (xs.filter p).map f)])
  | [], acc, _, _ => by
    unfold lcL
    rw [if_pos (okW_more hw)]
    simp
  | x :: xs, acc, h, hl => by
    obtain ⟨ρ1, e1, e2, e3⟩ := h x (by simp) acc
    rw [List.length_cons] at hl
    unfold lcL
    rw [if_pos (okW_more hw), e1]
    simp only []
    rw [e2]
    cases hp : p x with
    | true =>
      simp only [calm, bind_ok, e3 hp, if_true]
      rw [at_last]
      have : acc.length < line := by omega
      simp only [this, if_true]
      rw [set_last, lc_pure p f hw xs (acc ++ [f x]) (fun y m => h y (List.mem_cons_of_mem _ m)) (by rw [List.length_append, List.length_singleton]; omega)]
      rw [List.filter_cons_of_pos hp, List.map_cons, List.append_assoc, List.singleton_append]
    | false =>
      simp only [calm, bind_ok]
      rw [if_neg (by simp), lc_pure p f hw xs acc (fun y m => h y (List.mem_cons_of_mem _ m)) (by omega)]
      rw [List.filter_cons_of_neg (by rw [hp]; simp)]
/-- the same over the images of a plain list -/
theorem lc_map {α : Type} {ρ : En} {g : FG} {t : FT} {e : FE} {w : List (Nat × List D)} {st0 : Sto} (mk : α → D) (p : α → Bool) (f : α → D) (hw : okW st0 w = true) : ∀ (xs : List α) (acc : List D),
    (∀ x ∈ xs, ∀ acc, ∃ ρ1, g (mk x) ρ (st0 ++ [.lst acc]) = some (ρ1, st0 ++ [.lst acc]) ∧ t ρ1 (st0 ++ [.lst acc]) = .ok (p x) (st0 ++ [.lst acc]) ∧ (p x = true → e ρ1 (st0 ++ [.lst acc]) = .ok (f x) (st0 ++ [.lst acc]))) →
    acc.length + xs.length ≤ line → lcL st0.length ρ g t e w (xs.map mk) (st0 ++ [.lst acc]) = .ok (.ref st0.length) (st0 ++ [.lst (acc ++ (xs.filter p).map f)])
  | [], acc, _, _ => by
    rw [List.map_nil]
    unfold lcL
    rw [if_pos (okW_more hw)]
    simp
  | x :: xs, acc, h, hl => by
    obtain ⟨ρ1, e1, e2, e3⟩ := h x (by simp) acc
    rw [List.length_cons] at hl
    rw [List.map_cons]
    unfold lcL
    rw [if_pos (okW_more hw), e1]
    simp only []
    rw [e2]
    cases hp : p x with
    | true =>
      simp only [calm, bind_ok, e3 hp, if_true]
      rw [at_last]
      have : acc.length < line := by omega
      simp only [this, if_true]
      rw [set_last, lc_map mk p f hw xs (acc ++ [f x]) (fun y m => h y (List.mem_cons_of_mem _ m)) (by rw [List.length_append, List.length_singleton]; omega)]
      rw [List.filter_cons_of_pos hp, List.map_cons, List.append_assoc, List.singleton_append]
    | false =>
      simp only [calm, bind_ok]
      rw [if_neg (by simp), lc_map mk p f hw xs acc (fun y m => h y (List.mem_cons_of_mem _ m)) (by omega)]
      rw [List.filter_cons_of_neg (by rw [hp]; simp)]
/-- .. that keeps all -/
theorem lc_all {α : Type} {ρ : En} {g : FG} {e : FE} {w : List (Nat × List D)} {st0 : Sto} (mk : α → D) (f : α → D) (hw : okW st0 w = true) (xs : List α)
    (h : ∀ x ∈ xs, ∀ acc, ∃ ρ1, g (mk x) ρ (st0 ++ [.lst acc]) = some (ρ1, st0 ++ [.lst acc]) ∧ e ρ1 (st0 ++ [.lst acc]) = .ok (f x) (st0 ++ [.lst acc])) (hl : xs.length ≤ line) :
    lcL st0.length ρ g tYes e w (xs.map mk) (st0 ++ [.lst []]) = .ok (.ref st0.length) (st0 ++ [.lst (xs.map f)]) := by
  have := lc_map (ρ := ρ) (g := g) (t := tYes) (e := e) (w := w) (st0 := st0) mk (fun _ => true) f hw xs [] (fun x m acc => by
    obtain ⟨ρ1, e1, e2⟩ := h x m acc
    exact ⟨ρ1, e1, rfl, fun _ => e2⟩) (by simpa using hl)
  rw [List.nil_append] at this
  have e : xs.filter (fun _ => true) = xs := by simp
  rw [e] at this
  exact this
end PV

set_option maxHeartbeats 2000000
/-! repr of what hangs on no list -/
namespace PV
open PySem PySem.Spec
mutual
def D.pdI : D → PyData
  | .non => .none
  | .bl b => .bool b
  | .int i => .int i
  | .str s => .str s
  | .tup xs => .tuple (D.pdIs xs)
  | .tpw xs => .tuple (D.pdIs xs)
  | _ => .none
def D.pdIs : List D → List PyData
  | [] => []
  | x :: xs => D.pdI x :: D.pdIs xs
end
mutual
theorem toP_imm (g : Nat → Option (List PyData)) : ∀ d : D, d.imm = true → d.toP g = some d.pdI
  | .non, _ => by rw [D.toP, D.pdI]
  | .bl _, _ => by rw [D.toP, D.pdI]
  | .int _, _ => by rw [D.toP, D.pdI]
  | .str _, _ => by rw [D.toP, D.pdI]
  | .tup xs, h => by
    rw [D.imm] at h
    rw [D.toP, toPs_imm g xs h, D.pdI]
    rfl
  | .tpw xs, h => by
    rw [D.imm] at h
    rw [D.toP, toPs_imm g xs h, D.pdI]
    rfl
  | .rls _ _, h => by rw [D.imm] at h; cases h
  | .wls _, h => by rw [D.imm] at h; cases h
  | .ref _, h => by rw [D.imm] at h; cases h
theorem toPs_imm (g : Nat → Option (List PyData)) : ∀ ds : List D, D.imms ds = true → D.toPs g ds = some (D.pdIs ds)
  | [], _ => by rw [D.toPs, D.pdIs]
  | d :: ds, h => by
    rw [D.imms, Bool.and_eq_true] at h
    rw [D.toPs, toP_imm g d h.1, toPs_imm g ds h.2, D.pdIs]
end
/-! tame data: small ints, plain texts -/
mutual
def tame : PyData → Bool
  | .none => true
  | .bool _ => true
  | .int i => decide (i.natAbs < 2 ^ 60)
  | .str x => x.cps.toList.all fun c => decide (c < 1114112)
  | .list xs => tameL xs
  | .tuple xs => tameL xs
  | .dict _ => false
def tameL : List PyData → Bool
  | [] => true
  | x :: xs => tame x && tameL xs
end
mutual
def nods : PyData → Nat
  | .str x => 1 + x.cps.size
  | .list xs => 1 + nodsL xs
  | .tuple xs => 1 + nodsL xs
  | .none => 1
  | .bool _ => 1
  | .int _ => 1
  | .dict _ => 1
def nodsL : List PyData → Nat
  | [] => 0
  | x :: xs => nods x + nodsL xs
end
theorem log_small {i : Int} (h : i.natAbs < 2 ^ 60) : i.natAbs.log2 < 60 := by
  by_cases z : i.natAbs = 0
  · rw [z]
    decide
  · exact (Nat.log2_lt z).mpr h
mutual
theorem tame_show : ∀ d : PyData, tame d = true → d.showable = true
  | .none, _ => by rw [PyData.showable]
  | .bool _, _ => by rw [PyData.showable]
  | .int i, h => by
    rw [tame] at h
    rw [PyData.showable]
    have := log_small (of_decide_eq_true h)
    exact decide_eq_true (by omega)
  | .str _, _ => by rw [PyData.showable]
  | .list xs, h => by
    rw [tame] at h
    rw [PyData.showable]
    exact tame_showL xs h
  | .tuple xs, h => by
    rw [tame] at h
    rw [PyData.showable]
    exact tame_showL xs h
  | .dict _, h => by rw [tame] at h; cases h
theorem tame_showL : ∀ ds : List PyData, tameL ds = true → PyData.showableAll ds = true
  | [], _ => by rw [PyData.showableAll]
  | d :: ds, h => by
    rw [tameL, Bool.and_eq_true] at h
    rw [PyData.showableAll, tame_show d h.1, tame_showL ds h.2]
    rfl
end
mutual
theorem tame_leaf : ∀ d : PyData, tame d = true → d.leavesShort 70 = true
  | .none, _ => by rw [PyData.leavesShort]
  | .bool _, _ => by rw [PyData.leavesShort]
  | .int i, h => by
    rw [tame] at h
    rw [PyData.leavesShort]
    refine decide_eq_true ?_
    have e := int_text_length_le (k := 60) (by omega) (log_small (of_decide_eq_true h))
    have e2 : (PyData.shown (.int i)).length = (toString i).length := by
      rw [PyData.shown]
      exact ofString_length _
    omega
  | .str x, h => by
    rw [tame] at h
    rw [PyData.leavesShort]
    refine List.all_eq_true.mpr fun c m => ?_
    have := of_decide_eq_true (List.all_eq_true.mp h c m)
    exact decide_eq_true (by omega)
  | .list xs, h => by
    rw [tame] at h
    rw [PyData.leavesShort]
    exact tame_leafL xs h
  | .tuple xs, h => by
    rw [tame] at h
    rw [PyData.leavesShort]
    exact tame_leafL xs h
  | .dict _, h => by rw [tame] at h; cases h
theorem tame_leafL : ∀ ds : List PyData, tameL ds = true → PyData.leavesShortAll 70 ds = true
  | [], _ => by rw [PyData.leavesShortAll]
  | d :: ds, h => by
    rw [tameL, Bool.and_eq_true] at h
    rw [PyData.leavesShortAll, tame_leaf d h.1, tame_leafL ds h.2]
    rfl
end
mutual
theorem tame_weight : ∀ d : PyData, tame d = true → d.weight + 1 ≤ 62 * nods d
  | .none, _ => by rw [PyData.weight, nods]; omega
  | .bool _, _ => by rw [PyData.weight, nods]; omega
  | .int i, h => by
    rw [tame] at h
    have := log_small (of_decide_eq_true h)
    rw [PyData.weight, nods]
    split <;> omega
  | .str x, _ => by
    rw [PyData.weight, nods]
    omega
  | .list xs, h => by
    rw [tame] at h
    have := tame_weightL xs h
    rw [PyData.weight, nods]
    omega
  | .tuple xs, h => by
    rw [tame] at h
    have := tame_weightL xs h
    rw [PyData.weight, nods]
    omega
  | .dict _, h => by rw [tame] at h; cases h
theorem tame_weightL : ∀ ds : List PyData, tameL ds = true → PyData.weightAll ds ≤ 62 * nodsL ds
  | [], _ => by rw [PyData.weightAll, nodsL]; omega
  | d :: ds, h => by
    rw [tameL, Bool.and_eq_true] at h
    have h1 := tame_weight d h.1
    have h2 := tame_weightL ds h.2
    rw [PyData.weightAll, nodsL]
    omega
end
theorem tame_size {d : PyData} (h : tame d = true) (hn : nods d ≤ 3000) : d.shown.length ≤ line := by
  have h1 := PyData.shown_le 70 (by omega) d (tame_leaf d h)
  have h2 := tame_weight d h
  unfold line
  omega
/-- the text of what hangs on no list -/
def txt (d : D) : Str := d.pdI.shown
theorem repr_imm {d : D} (st : Sto) (hi : d.imm = true) (h : tame d.pdI = true) (hn : nods d.pdI ≤ 3000) (hd : d.pdI.depth ≤ 60) : dRepr d st = .ok (.str (txt d)) st := by
  unfold dRepr pd
  rw [toP_imm _ d hi]
  have e : (d.pdI.showable && decide (d.pdI.depth ≤ 60) && decide (d.pdI.shown.length ≤ line)) = true := by
    rw [tame_show _ h, decide_eq_true hd, decide_eq_true (tame_size h hn)]
    rfl
  show (if (d.pdI.showable && decide (d.pdI.depth ≤ 60) && decide (d.pdI.shown.length ≤ line)) = true then R.ok (D.str d.pdI.shown) st else .bad) = _
  rw [if_pos e]
  rfl
/-! tuples of small ints -/
def smallI (ns : List Int) : Prop := ∀ z ∈ ns, z.natAbs < 2 ^ 60
theorem pdIs_zs : ∀ ns : List Int, D.pdIs (ns.map D.int) = ns.map PyData.int
  | [] => by rw [List.map_nil, D.pdIs]; rfl
  | n :: ns => by rw [List.map_cons, D.pdIs, pdIs_zs ns, D.pdI]; rfl
theorem tameL_ints : ∀ {ns : List Int}, smallI ns → tameL (ns.map PyData.int) = true
  | [], _ => by rw [List.map_nil, tameL]
  | n :: ns, h => by
    rw [List.map_cons, tameL, tame, tameL_ints (ns := ns) fun z m => h z (List.mem_cons_of_mem _ m), decide_eq_true (h n (by simp))]
    rfl
theorem nodsL_ints : ∀ ns : List Int, nodsL (ns.map PyData.int) = ns.length
  | [] => by rw [List.map_nil, nodsL]; rfl
  | n :: ns => by rw [List.map_cons, nodsL, nods, nodsL_ints ns, List.length_cons]; omega
theorem depth_ints : ∀ ns : List Int, PyData.depthAll (ns.map PyData.int) = 0
  | [] => by rw [List.map_nil, PyData.depthAll]
  | n :: ns => by rw [List.map_cons, PyData.depthAll, PyData.depth, depth_ints ns]; rfl
theorem repr_zs (ns : List Int) (st : Sto) (h : smallI ns) (hl : ns.length ≤ 2000) : dRepr (.tup (ns.map D.int)) st = .ok (.str (txt (.tup (ns.map D.int)))) st := by
  refine repr_imm st (by simp) ?_ ?_ ?_
  · rw [D.pdI, pdIs_zs, tame]
    exact tameL_ints h
  · rw [D.pdI, pdIs_zs, nods, nodsL_ints]
    omega
  · rw [D.pdI, pdIs_zs, PyData.depth, depth_ints]
    omega
/-- a tuple of tuples of ints -/
abbrev zss (nss : List (List Int)) : List D := nss.map fun ns => .tup (ns.map D.int)
theorem pdIs_zss : ∀ nss : List (List Int), D.pdIs (zss nss) = nss.map fun ns => .tuple (ns.map PyData.int)
  | [] => by rw [zss, List.map_nil, D.pdIs]; rfl
  | n :: ns => by
    have := pdIs_zss ns
    rw [zss, List.map_cons, D.pdIs, D.pdI, pdIs_zs, List.map_cons]
    rw [zss] at this
    rw [this]
theorem tameL_zss : ∀ {nss : List (List Int)}, (∀ ns ∈ nss, smallI ns) → tameL (nss.map fun ns => .tuple (ns.map PyData.int)) = true
  | [], _ => by rw [List.map_nil, tameL]
  | n :: ns, h => by
    rw [List.map_cons, tameL, tame, tameL_ints (h n (by simp)), tameL_zss (nss := ns) fun z m => h z (List.mem_cons_of_mem _ m)]
    rfl
theorem nodsL_zss {k : Nat} : ∀ {nss : List (List Int)}, (∀ ns ∈ nss, ns.length ≤ k) → nodsL (nss.map fun ns => .tuple (ns.map PyData.int)) ≤ nss.length * (k + 1)
  | [], _ => by rw [List.map_nil, nodsL]; omega
  | n :: ns, h => by
    have h1 := nodsL_zss (nss := ns) fun z m => h z (List.mem_cons_of_mem _ m)
    have h2 := h n (by simp)
    rw [List.map_cons, nodsL, nods, nodsL_ints, List.length_cons, Nat.succ_mul]
    omega
theorem depth_zss : ∀ nss : List (List Int), PyData.depthAll (nss.map fun ns => .tuple (ns.map PyData.int)) ≤ 1
  | [] => by rw [List.map_nil, PyData.depthAll]; omega
  | n :: ns => by
    have := depth_zss ns
    rw [List.map_cons, PyData.depthAll, PyData.depth, depth_ints]
    omega
@[simp] theorem imms_zss (nss : List (List Int)) : D.imms (nss.map fun ns => D.tup (ns.map D.int)) = true := imms_mem fun x m => by
  obtain ⟨ns, _, rfl⟩ := List.mem_map.mp m
  simp
theorem repr_zss (nss : List (List Int)) (st : Sto) (k : Nat) (h : ∀ ns ∈ nss, smallI ns) (hk : ∀ ns ∈ nss, ns.length ≤ k) (hl : nss.length * (k + 1) ≤ 2000) : dRepr (.tup (zss nss)) st = .ok (.str (txt (.tup (zss nss)))) st := by
  refine repr_imm st (by simp) ?_ ?_ ?_
  · rw [D.pdI, pdIs_zss, tame]
    exact tameL_zss h
  · have := nodsL_zss hk
    rw [D.pdI, pdIs_zss, nods]
    omega
  · have := depth_zss nss
    rw [D.pdI, pdIs_zss, PyData.depth]
    omega
theorem repr_bl (b : Bool) (st : Sto) : dRepr (.bl b) st = .ok (.str (txt (.bl b))) st := repr_imm st rfl (by rw [D.pdI, tame]) (by rw [D.pdI, nods]; omega) (by rw [D.pdI, PyData.depth]; omega)
theorem repr_non (st : Sto) : dRepr .non st = .ok (.str (txt .non)) st := repr_imm st rfl (by rw [D.pdI, tame]) (by rw [D.pdI, nods]; omega) (by rw [D.pdI, PyData.depth]; omega)
theorem repr_int (i : Int) (st : Sto) (h : i.natAbs < 2 ^ 60) : dRepr (.int i) st = .ok (.str (txt (.int i))) st := repr_imm st rfl (by rw [D.pdI, tame]; exact decide_eq_true h) (by rw [D.pdI, nods]; omega) (by rw [D.pdI, PyData.depth]; omega)
end PV

set_option maxHeartbeats 4000000
namespace Com
open PySem PySem.Spec L2 PV
/-! _law_draws -/
def N__law_draws : List Str := ["script", "draws", "cell", "rest", "k", "mixed"]
def c__law_draws_1 : FS :=
  (sIf (tE (e2 dGt (eSlot 3) (eC (.int 0))))
    (sSeq (sEx (eM (fun d _ => d.isRef) dAppend (eSlot 1) (e2 dMod (eA (a1 dInt) (aCons (eSlot 3) aNil)) (eC (.int 1009)))))
    (sAsg (e2 dFdiv (eSlot 3) (eC (.int 1009))) (gSlot 3)))
    sNext)
def c__law_draws_2 : FS :=
  (sSeq (sAsg (e2 dMod (eA (a1 dInt) (aCons (e2 dAdd (e2 dAdd (e2 dMul (eSlot 5) (eC (.int 16807))) (e2 dMul (eC (.int 69621)) (eSlot 4))) (eC (.int 5))) aNil)) (eC (.int 2147483629))) (gSlot 5))
    (sEx (eM (fun d _ => d.isRef) dAppend (eSlot 1) (e2 dFdiv (eSlot 5) (eC (.int 1009))))))
def c__law_draws_3 : FS :=
  (sSeq (sAsg (eA (a1 dAbs) (aCons (eSlot 2) aNil)) (gSlot 3))
    (sIf (tE (e2 dGe (eSlot 3) (e2 dPow (eC (.int 10)) (eC (.int 18)))))
    (sFor (iRange1 (eC (.int 60))) (gSlot 4)
    c__law_draws_1)
    (sSeq (sAsg (e2 dMod (eA (a1 dInt) (aCons (e2 dAdd (e2 dMul (eSlot 3) (eC (.int 48271))) (eC (.int 11))) aNil)) (eC (.int 2147483647))) (gSlot 5))
    (sFor (iRange1 (eC (.int 12))) (gSlot 4)
    c__law_draws_2))))
def b__law_draws : FS :=
  (sSeq (sAsg (eA dLst aNil) (gSlot 1))
    (sSeq (sFor (iSeq (eSl (eSlot 0) oNo (oSo (eC (.int 63))))) (gSlot 2)
    c__law_draws_3)
    (sRet (eSlot 1))))
def s__law_draws : Fs := semOf 6 b__law_draws
/-! _law_more -/
def N__law_more : List Str := ["draws", "place", "mixed", "k"]
def c__law_more_1 : FS :=
  (sSeq (sIf (tTru (eSlot 0))
    (sAsg (e2 dAdd (eSlot 2) (e2 dIx (eSlot 0) (e2 dMod (eA (a1 dInt) (aCons (e2 dAdd (e2 dMul (eSlot 1) (e2 dAdd (eSlot 3) (eC (.int 5)))) (eSlot 3)) aNil)) (eA (a1 dLen) (aCons (eSlot 0) aNil))))) (gSlot 2))
    sNext)
    (sAsg (e2 dMod (eA (a1 dInt) (aCons (e2 dAdd (e2 dAdd (e2 dMul (eSlot 2) (eC (.int 16807))) (e2 dMul (eC (.int 69621)) (eSlot 3))) (eC (.int 5))) aNil)) (eC (.int 2147483629))) (gSlot 2)))
def b__law_more : FS :=
  (sSeq (sAsg (e2 dMod (eA (a1 dInt) (aCons (e2 dAdd (e2 dAdd (e2 dMul (eSlot 1) (eC (.int 48271))) (eA (a1 dLen) (aCons (eSlot 0) aNil))) (eC (.int 11))) aNil)) (eC (.int 2147483629))) (gSlot 2))
    (sSeq (sFor (iRange1 (eC (.int 3))) (gSlot 3)
    c__law_more_1)
    (sRet (e2 dFdiv (eSlot 2) (eC (.int 1009))))))
def s__law_more : Fs := semOf 4 b__law_more
/-! _law_take -/
def N__law_take : List Str := ["draws", "at", "many", "place"]
def b__law_take : FS :=
  (sSeq (sAsg (e2 dIx (eSlot 1) (eC (.int 0))) (gSlot 3))
    (sSeq (sAsg (e2 dAdd (eSlot 3) (eC (.int 1))) (gSub (eSlot 1) (eC (.int 0))))
    (sRet (e2 dMod (eA (a1 dInt) (aCons (eIf (tE (e2 dLt (eSlot 3) (eA (a1 dLen) (aCons (eSlot 0) aNil)))) (e2 dIx (eSlot 0) (eSlot 3)) (eA (callP s__law_more) (aCons (eSlot 0) (aCons (eSlot 3) aNil)))) aNil)) (eSlot 2)))))
def s__law_take : Fs := semOf 4 b__law_take
/-! _law_one -/
def N__law_one : List Str := ["rows", "draws", "at"]
def b__law_one : FS :=
  (sRet (e2 dIx (eSlot 0) (eA (callM 1 s__law_take) (aCons (eSlot 1) (aCons (eSlot 2) (aCons (eA (a1 dLen) (aCons (eSlot 0) aNil)) aNil))))))
def s__law_one : Fs := semOf 3 b__law_one
/-! _law_word -/
def N__law_word : List Str := ["strands", "most", "draws", "at", "size", "kind", "word", "k", "one", "sign", "half"]
def c__law_word_1 : FS :=
  (sSeq (sAsg (e2 dAdd (eC (.int 1)) (eA (callM 1 s__law_take) (aCons (eSlot 2) (aCons (eSlot 3) (aCons (e2 dSub (eSlot 0) (eC (.int 1))) aNil))))) (gSlot 8))
    (sSeq (sIf (tAnd (tE (e2 dEq (eSlot 5) (eC (.int 3)))) (tE (e2 dNe (eSlot 6) (eA dLst aNil))))
    (sAsg (eA (a2 dMax2) (aCons (eC (.int 1)) (aCons (eA (a2 dMin2) (aCons (e2 dSub (eSlot 0) (eC (.int 1))) (aCons (e2 dAdd (eA (a1 dAbs) (aCons (e2 dIx (eSlot 6) (e2 dSub (eA (a1 dLen) (aCons (eSlot 6) aNil)) (eC (.int 1)))) aNil)) (eA (callM 2 s__law_one) (aCons (eA dLst (aCons (e1 dNeg (eC (.int 1))) (aCons (eC (.int 0)) (aCons (eC (.int 1)) (aCons (eC (.int 1)) aNil))))) (aCons (eSlot 2) (aCons (eSlot 3) aNil))))) aNil))) aNil))) (gSlot 8))
    sNext)
    (sSeq (sAsg (eIf (tE (e2 dEq (eSlot 5) (eC (.int 1)))) (eC (.int 1)) (eIf (tE (e2 dEq (eSlot 5) (eC (.int 2)))) (e1 dNeg (eC (.int 1))) (eA (callM 2 s__law_one) (aCons (eA dLst (aCons (eC (.int 1)) (aCons (e1 dNeg (eC (.int 1))) aNil))) (aCons (eSlot 2) (aCons (eSlot 3) aNil)))))) (gSlot 9))
    (sEx (eM (fun d _ => d.isRef) dAppend (eSlot 6) (e2 dMul (eSlot 9) (eSlot 8)))))))
def e__law_word_1 : FE :=
  eLc [8] (iSeq (e1 dRev (eSlot 10))) (gSlot 8) tYes (e2 dSub (eC (.int 0)) (eSlot 8))
def b__law_word : FS :=
  (sSeq (sAsg (eA (callM 1 s__law_take) (aCons (eSlot 2) (aCons (eSlot 3) (aCons (e2 dAdd (eSlot 1) (eC (.int 1))) aNil)))) (gSlot 4))
    (sSeq (sAsg (eA (callM 1 s__law_take) (aCons (eSlot 2) (aCons (eSlot 3) (aCons (eC (.int 5)) aNil)))) (gSlot 5))
    (sSeq (sAsg (eA dLst aNil) (gSlot 6))
    (sSeq (sFor (iRange1 (eSlot 4)) (gSlot 7)
    c__law_word_1)
    (sSeq (sIf (tE (e2 dEq (eSlot 5) (eC (.int 4))))
    (sSeq (sAsg (eSl (eSlot 6) oNo (oSo (e2 dFdiv (eSlot 4) (eC (.int 2))))) (gSlot 10))
    (sAsg (e2 dAdd (e2 dAdd (eSlot 10) (eSl e__law_word_1 oNo (oSo (e2 dSub (eSlot 4) (eA (a1 dLen) (aCons (eSlot 10) aNil)))))) (eSl (eSlot 6) oNo (oSo (e2 dMod (eSlot 4) (eC (.int 2)))))) (gSlot 6)))
    sNext)
    (sRet (eA (a1 dTuple) (aCons (eSl (eSlot 6) oNo (oSo (eSlot 1))) aNil))))))))
def s__law_word : Fs := semOf 11 b__law_word
/-! is_integer -/
def N_is_integer : List Str := ["value"]
def b_is_integer : FS :=
  (sRet (eAnd (e1 (dIsi .tInt) (eSlot 0)) (eNot (tE (e1 (dIsi .tBool) (eSlot 0))))))
def s_is_integer : Fs := semOf 1 b_is_integer
/-! in_range -/
def N_in_range : List Str := ["value", "least", "most"]
def b_in_range : FS :=
  (sRet (eAnd (eA (callP s_is_integer) (aCons (eSlot 0) aNil)) (eCh dLe dLe (eSlot 1) (eSlot 0) (eSlot 2))))
def s_in_range : Fs := semOf 3 b_in_range
/-! demand_strands -/
def N_demand_strands : List Str := ["strands"]
def b_demand_strands : FS :=
  (sIf (tNot (tTru (eA (callP s_in_range) (aCons (eSlot 0) (aCons (eC (.int 2)) (aCons (eC (.int 7)) aNil))))))
    sNever
    sNext)
def s_demand_strands : Fs := semOf 1 b_demand_strands
/-! is_word -/
def N_is_word : List Str := ["strands", "value", "most", "one"]
def e_is_word_1 : FE :=
  eLc [3] (iSeq (eSlot 1)) (gSlot 3) tYes (eAnd (eA (callP s_in_range) (aCons (eSlot 3) (aCons (e2 dSub (eC (.int 1)) (eSlot 0)) (aCons (e2 dSub (eSlot 0) (eC (.int 1))) aNil)))) (e2 dNe (eSlot 3) (eC (.int 0))))
def b_is_word : FS :=
  (sSeq (sIf (tOr (tNot (tTru (e1 (dIsi .tTuple) (eSlot 1)))) (tE (e2 dGt (eA (a1 dLen) (aCons (eSlot 1) aNil)) (eSlot 2))))
    (sRet (eC (.bl false)))
    sNext)
    (sRet (eA (a1 dAll) (aCons e_is_word_1 aNil))))
def s_is_word : Fs := semOf 4 b_is_word
/-! demand_plait -/
def N_demand_plait : List Str := ["strands", "word", "reason"]
def b_demand_plait : FS :=
  (sSeq (sEx (eA (callP s_demand_strands) (aCons (eSlot 0) aNil)))
    (sIf (tNot (tTru (eA (callP s_is_word) (aCons (eSlot 0) (aCons (eSlot 1) (aCons (eC (.int 60)) aNil))))))
    sNever
    sNext))
def s_demand_plait : Fs := semOf 3 b_demand_plait
/-! ends_of -/
def N_ends_of : List Str := ["strands", "word", "rows", "one", "place", "ends", "strand"]
def c_ends_of_1 : FS :=
  (sSeq (sAsg (eA (a1 dAbs) (aCons (eSlot 3) aNil)) (gSlot 4))
    (sAsg (eA dTup (aCons (e2 dIx (eSlot 2) (eSlot 4)) (aCons (e2 dIx (eSlot 2) (e2 dSub (eSlot 4) (eC (.int 1)))) aNil))) (gTup 2 (gCons (gSub (eSlot 2) (e2 dSub (eSlot 4) (eC (.int 1)))) (gCons (gSub (eSlot 2) (eSlot 4)) gNil)))))
def c_ends_of_2 : FS :=
  (sAsg (e2 dAdd (eSlot 4) (eC (.int 1))) (gSub (eSlot 5) (e2 dSub (eSlot 6) (eC (.int 1)))))
def b_ends_of : FS :=
  (sSeq (sAsg (e2 dLR2 (eC (.int 1)) (e2 dAdd (eSlot 0) (eC (.int 1)))) (gSlot 2))
    (sSeq (sFor (iSeq (eSlot 1)) (gSlot 3)
    c_ends_of_1)
    (sSeq (sAsg (e2 dMul (eA dLst (aCons (eC (.int 0)) aNil)) (eSlot 0)) (gSlot 5))
    (sSeq (sFor (iEnum (eSlot 2)) (gTup 2 (gCons (gSlot 4) (gCons (gSlot 6) gNil)))
    c_ends_of_2)
    (sRet (eA (a1 dTuple) (aCons (eSlot 5) aNil)))))))
def s_ends_of : Fs := semOf 7 b_ends_of
/-! turned_back -/
def N_turned_back : List Str := ["word", "one"]
def e_turned_back_1 : FE :=
  eLc [1] (iSeq (e1 dRev (eSlot 0))) (gSlot 1) tYes (e1 dNeg (eSlot 1))
def b_turned_back : FS :=
  (sRet (eA (a1 dTuple) (aCons e_turned_back_1 aNil)))
def s_turned_back : Fs := semOf 2 b_turned_back
/-! inverse -/
def N_inverse : List Str := ["strands", "word"]
def b_inverse : FS :=
  (sSeq (sEx (eA (fun as st => callP s_demand_plait (as ++ [.str "word"]) st) (aCons (eSlot 0) (aCons (eSlot 1) aNil))))
    (sRet (eA (callP s_turned_back) (aCons (eSlot 1) aNil))))
def s_inverse : Fs := semOf 2 b_inverse
/-! flipped -/
def N_flipped : List Str := ["strands", "word", "one"]
def e_flipped_1 : FE :=
  eLc [2] (iSeq (eSlot 1)) (gSlot 2) tYes (eIf (tE (e2 dGt (eSlot 2) (eC (.int 0)))) (e2 dSub (eSlot 0) (eSlot 2)) (e2 dSub (e1 dNeg (eSlot 0)) (eSlot 2)))
def b_flipped : FS :=
  (sRet (eA (a1 dTuple) (aCons e_flipped_1 aNil)))
def s_flipped : Fs := semOf 3 b_flipped
/-! flip -/
def N_flip : List Str := ["strands", "word"]
def b_flip : FS :=
  (sSeq (sEx (eA (fun as st => callP s_demand_plait (as ++ [.str "word"]) st) (aCons (eSlot 0) (aCons (eSlot 1) aNil))))
    (sRet (eA (callP s_flipped) (aCons (eSlot 0) (aCons (eSlot 1) aNil)))))
def s_flip : Fs := semOf 2 b_flip
/-! mirrored -/
def N_mirrored : List Str := ["strands", "word", "one"]
def e_mirrored_1 : FE :=
  eLc [2] (iSeq (eSlot 1)) (gSlot 2) tYes (e1 dNeg (eSlot 2))
def b_mirrored : FS :=
  (sSeq (sEx (eA (fun as st => callP s_demand_plait (as ++ [.str "word"]) st) (aCons (eSlot 0) (aCons (eSlot 1) aNil))))
    (sRet (eA (a1 dTuple) (aCons e_mirrored_1 aNil))))
def s_mirrored : Fs := semOf 3 b_mirrored
/-! upside_down -/
def N_upside_down : List Str := ["strands", "word"]
def b_upside_down : FS :=
  (sSeq (sEx (eA (fun as st => callP s_demand_plait (as ++ [.str "word"]) st) (aCons (eSlot 0) (aCons (eSlot 1) aNil))))
    (sRet (e1 dRev (eSlot 1))))
def s_upside_down : Fs := semOf 2 b_upside_down
/-! plain -/
def N_plain : List Str := ["word", "found", "one"]
def c_plain_1 : FS :=
  (sIf (tAnd (tTru (eSlot 1)) (tE (e2 dEq (e2 dIx (eSlot 1) (e1 dNeg (eC (.int 1)))) (e1 dNeg (eSlot 2)))))
    (sEx (eM0 dPop (eSlot 1)))
    (sEx (eM (fun d _ => d.isRef) dAppend (eSlot 1) (eSlot 2))))
def b_plain : FS :=
  (sSeq (sAsg (eA dLst aNil) (gSlot 1))
    (sSeq (sFor (iSeq (eSlot 0)) (gSlot 2)
    c_plain_1)
    (sRet (eA (a1 dTuple) (aCons (eSlot 1) aNil)))))
def s_plain : Fs := semOf 3 b_plain
/-! reduced -/
def N_reduced : List Str := ["strands", "word"]
def b_reduced : FS :=
  (sSeq (sEx (eA (fun as st => callP s_demand_plait (as ++ [.str "word"]) st) (aCons (eSlot 0) (aCons (eSlot 1) aNil))))
    (sRet (eA (callP s_plain) (aCons (eSlot 1) aNil))))
def s_reduced : Fs := semOf 2 b_reduced
/-! signs -/
def N_signs : List Str := ["strands", "word", "above", "one"]
def e_signs_1 : FE :=
  eLc [3] (iSeq (eSlot 1)) (gSlot 3) (tE (e2 dGt (eSlot 3) (eC (.int 0)))) (eSlot 3)
def b_signs : FS :=
  (sSeq (sEx (eA (fun as st => callP s_demand_plait (as ++ [.str "word"]) st) (aCons (eSlot 0) (aCons (eSlot 1) aNil))))
    (sSeq (sAsg (eA (a1 dLen) (aCons e_signs_1 aNil)) (gSlot 2))
    (sRet (eA dTup (aCons (eSlot 2) (aCons (e2 dSub (eA (a1 dLen) (aCons (eSlot 1) aNil)) (eSlot 2)) aNil))))))
def s_signs : Fs := semOf 4 b_signs
/-! ends -/
def N_ends : List Str := ["strands", "word"]
def b_ends : FS :=
  (sSeq (sEx (eA (fun as st => callP s_demand_plait (as ++ [.str "word"]) st) (aCons (eSlot 0) (aCons (eSlot 1) aNil))))
    (sRet (eA (callP s_ends_of) (aCons (eSlot 0) (aCons (eSlot 1) aNil)))))
def s_ends : Fs := semOf 2 b_ends
/-! crossings -/
def N_crossings : List Str := ["strands", "word", "rows", "found", "one", "place"]
def c_crossings_1 : FS :=
  (sSeq (sAsg (eA (a1 dAbs) (aCons (eSlot 4) aNil)) (gSlot 5))
    (sSeq (sEx (eM (fun d _ => d.isRef) dAppend (eSlot 3) (eA dTup (aCons (e2 dIx (eSlot 2) (e2 dSub (eSlot 5) (eC (.int 1)))) (aCons (e2 dIx (eSlot 2) (eSlot 5)) (aCons (eIf (tE (e2 dGt (eSlot 4) (eC (.int 0)))) (eC (.int 1)) (e1 dNeg (eC (.int 1)))) aNil))))))
    (sAsg (eA dTup (aCons (e2 dIx (eSlot 2) (eSlot 5)) (aCons (e2 dIx (eSlot 2) (e2 dSub (eSlot 5) (eC (.int 1)))) aNil))) (gTup 2 (gCons (gSub (eSlot 2) (e2 dSub (eSlot 5) (eC (.int 1)))) (gCons (gSub (eSlot 2) (eSlot 5)) gNil))))))
def b_crossings : FS :=
  (sSeq (sEx (eA (fun as st => callP s_demand_plait (as ++ [.str "word"]) st) (aCons (eSlot 0) (aCons (eSlot 1) aNil))))
    (sSeq (sAsg (e2 dLR2 (eC (.int 1)) (e2 dAdd (eSlot 0) (eC (.int 1)))) (gSlot 2))
    (sSeq (sAsg (eA dLst aNil) (gSlot 3))
    (sSeq (sFor (iSeq (eSlot 1)) (gSlot 4)
    c_crossings_1)
    (sRet (eA (a1 dTuple) (aCons (eSlot 3) aNil)))))))
def s_crossings : Fs := semOf 6 b_crossings
/-! is_pure -/
def N_is_pure : List Str := ["strands", "word"]
def b_is_pure : FS :=
  (sSeq (sEx (eA (fun as st => callP s_demand_plait (as ++ [.str "word"]) st) (aCons (eSlot 0) (aCons (eSlot 1) aNil))))
    (sRet (e2 dEq (eA (callP s_ends_of) (aCons (eSlot 0) (aCons (eSlot 1) aNil))) (e2 dTR2 (eC (.int 1)) (e2 dAdd (eSlot 0) (eC (.int 1)))))))
def s_is_pure : Fs := semOf 2 b_is_pure
/-! rows_of -/
def N_rows_of : List Str := ["strands", "word", "rows", "one", "row", "place"]
def c_rows_of_1 : FS :=
  (sSeq (sAsg (eA (a1 dList) (aCons (e2 dIx (eSlot 2) (e1 dNeg (eC (.int 1)))) aNil)) (gSlot 4))
    (sSeq (sAsg (eA (a1 dAbs) (aCons (eSlot 3) aNil)) (gSlot 5))
    (sSeq (sAsg (eA dTup (aCons (e2 dIx (eSlot 4) (eSlot 5)) (aCons (e2 dIx (eSlot 4) (e2 dSub (eSlot 5) (eC (.int 1)))) aNil))) (gTup 2 (gCons (gSub (eSlot 4) (e2 dSub (eSlot 5) (eC (.int 1)))) (gCons (gSub (eSlot 4) (eSlot 5)) gNil))))
    (sEx (eM (fun d _ => d.isRef) dAppend (eSlot 2) (eA (a1 dTuple) (aCons (eSlot 4) aNil)))))))
def b_rows_of : FS :=
  (sSeq (sEx (eA (fun as st => callP s_demand_plait (as ++ [.str "word"]) st) (aCons (eSlot 0) (aCons (eSlot 1) aNil))))
    (sSeq (sAsg (eA dLst (aCons (e2 dTR2 (eC (.int 1)) (e2 dAdd (eSlot 0) (eC (.int 1)))) aNil)) (gSlot 2))
    (sSeq (sFor (iSeq (eSlot 1)) (gSlot 3)
    c_rows_of_1)
    (sRet (eA (a1 dTuple) (aCons (eSlot 2) aNil))))))
def s_rows_of : Fs := semOf 6 b_rows_of
end Com

set_option maxHeartbeats 2000000
/-! what the laws' common helpers compute -/
namespace Com
open PySem PySem.Spec PV
abbrev zs (ns : List Int) : List D := ns.map D.int
theorem fdivk (a : Int) {b : Int} (h : 0 < b ∧ b < 1073741824) (st : Sto) : dFdiv (.int a) (.int b) st = .ok (.int (a / b)) st := if_pos h
theorem mulk (a : Int) {b : Int} (h : -big < b ∧ b < big) (st : Sto) : dMul (.int a) (.int b) st = .ok (.int (a * b)) st := if_pos (.inr h)
theorem mulk' (a : Int) {b : Int} (h : -big < b ∧ b < big) (st : Sto) : dMul (.int b) (.int a) st = .ok (.int (b * a)) st := if_pos (.inl h)
theorem modk (a : Int) {b : Int} (h : 0 < b) (st : Sto) : dMod (.int a) (.int b) st = .ok (.int (a % b)) st := if_pos h
theorem small_big {a : Int} (h : 0 ≤ a ∧ a < 10000000000) : -big < a ∧ a < big := by
  unfold big
  omega
/-! _law_more, _law_take -/
theorem more_nil (n k : Nat) (mx : Int) : c__law_more_1 [some (.rls false []), some (.int n), some (.int mx), some (.int k)] [] = .nx [some (.rls false []), some (.int n), some (.int ((mx * 16807 + 69621 * k + 5) % 2147483629)), some (.int k)] [] := by
  unfold c__law_more_1
  simp [mulk, mulk', modk, big]
theorem more_cons (l : List D) (n k : Nat) (mx y p q : Int) (ne : l.isEmpty = false) (m1 : dMul (.int (n : Int)) (.int ((k : Int) + 5)) [] = .ok (.int p) []) (m2 : dMod (.int (p + k)) (.int (l.length : Nat)) [] = .ok (.int q) [])
    (e : L2.atI l q = some (.int y)) : c__law_more_1 [some (.rls false l), some (.int n), some (.int mx), some (.int k)] [] = .nx [some (.rls false l), some (.int n), some (.int (((mx + y) * 16807 + 69621 * k + 5) % 2147483629)), some (.int k)] [] := by
  unfold c__law_more_1
  simp -implicitDefEqProofs [m1, m2, e, ne, mulk, mulk', modk, big]
theorem more_step (ds : List Int) (n : Nat) (hn : (n : Int) < 1000000000) (k : Nat) (mx : Int) (hk : k < 100) : ∃ mx', c__law_more_1 [some (.rls false (zs ds)), some (.int n), some (.int mx), some (.int k)] [] = .nx [some (.rls false (zs ds)), some (.int n), some (.int mx'), some (.int k)] [] := by
  by_cases hz : ds.length = 0
  · have : ds = [] := List.length_eq_zero_iff.mp hz
    subst this
    exact ⟨_, more_nil n k mx⟩
  · have hl : (zs ds).length = ds.length := by simp
    have hp : (0 : Int) < (ds.length : Nat) := by omega
    have h0 : 0 ≤ ((n : Int) * ((k : Int) + 5) + k) % (ds.length : Nat) := Int.emod_nonneg _ (by omega)
    have h1 : ((n : Int) * ((k : Int) + 5) + k) % (ds.length : Nat) < (ds.length : Nat) := Int.emod_lt_of_pos _ hp
    obtain ⟨j, hj⟩ := Int.eq_ofNat_of_zero_le h0
    have hjl : j < ds.length := by omega
    refine ⟨_, more_cons (zs ds) n k mx ds[j] ((n : Int) * ((k : Int) + 5)) j ?_ (mulk _ (small_big (by omega)) _) (by rw [hl, modk _ hp, hj]) (atI_of (by simp [hjl]))⟩
    cases ds with
    | nil => exact absurd rfl hz
    | cons x r => rfl
theorem more_loop (ds : List Int) (n : Nat) (hn : (n : Int) < 1000000000) (mx : Int) (u : Option D) : ∃ mx' u', forL (gSlot 3) c__law_more_1 [] (rangeL 0 3) [some (.rls false (zs ds)), some (.int n), some (.int mx), u] [] = .nx [some (.rls false (zs ds)), some (.int n), some (.int mx'), u'] [] := by
  have loop := forL_ok (g := gSlot 3) (b := c__law_more_1) (w := []) (P := fun xs ρ st => st = [] ∧ ∃ (mx : Int) (u : Option D), ρ = [some (.rls false (zs ds)), some (.int n), some (.int mx), u] ∧ ∀ x ∈ xs, ∃ k : Nat, k < 100 ∧ x = .int k)
    (fun _ _ _ _ => rfl) (by
      rintro x xs ρ st ⟨rfl, mx, u, rfl, hx⟩
      obtain ⟨k, hk, rfl⟩ := hx x (by simp)
      obtain ⟨mx', e⟩ := more_step ds n hn k mx hk
      exact ⟨_, _, rfl, _, _, .inl e, rfl, mx', _, rfl, fun y m => hx y (List.mem_cons_of_mem _ m)⟩)
  obtain ⟨ρ', st', e, rfl, mx', u', rfl, _⟩ := loop (rangeL 0 3) [some (.rls false (zs ds)), some (.int n), some (.int mx), u] [] ⟨rfl, _, _, rfl, fun x m => by
    obtain ⟨k, hk, rfl⟩ := mem_rangeL m
    exact ⟨k, by omega, by simp⟩⟩
  exact ⟨mx', u', e⟩
theorem more1 (ds : List Int) (n : Nat) (hn : (n : Int) < 1000000000) : ∃ v, s__law_more [.rls false (zs ds), .int n] [] = .ok (.int v) [] := by
  obtain ⟨mx, u, e⟩ := more_loop ds n hn (((n : Int) * 48271 + ds.length + 11) % 2147483629) none
  refine ⟨mx / 1009, sem_rt (b := b__law_more) (n := 4) (d := .int (mx / 1009)) (st' := []) ?_ (by simp)⟩
  have r3 : itRange1 (.int 3) [] = .ok ⟨rangeL 0 3, []⟩ [] := rg1_ev (by unfold lim; omega)
  unfold b__law_more
  simp -implicitDefEqProofs [mulk, modk, big, r3, e, fdivk]
theorem take1 (ds : List Int) (n : Nat) (hn : (n : Int) < 1000000000) (m : Int) (hm : 0 < m) :
    ∃ r, 0 ≤ r ∧ r < m ∧ s__law_take [.rls false (zs ds), .ref 0, .int m] [.lst [.int n]] = .ok (.int r) [.lst [.int (n + 1)]] := by
  obtain ⟨v, hv⟩ := more1 ds n hn
  by_cases h : n < ds.length
  · have e : L2.atI (zs ds) (n : Int) = some (.int ds[n]) := atI_of (by simp [h])
    refine ⟨ds[n] % m, Int.emod_nonneg _ (by omega), Int.emod_lt_of_pos _ hm, sem_rt (b := b__law_take) (n := 4) (d := .int (ds[n] % m)) (st' := [.lst [.int (n + 1)]]) ?_ (by simp)⟩
    unfold b__law_take
    simp [h, e, mod_i hm]
  · have c : callP s__law_more [.rls false (zs ds), .int n] [.lst [.int (n + 1)]] = .ok (.int v) [.lst [.int (n + 1)]] := callP_of (by simp) hv
    refine ⟨v % m, Int.emod_nonneg _ (by omega), Int.emod_lt_of_pos _ hm, sem_rt (b := b__law_take) (n := 4) (d := .int (v % m)) (st' := [.lst [.int (n + 1)]]) ?_ (by simp)⟩
    unfold b__law_take
    simp [h, mod_i hm, c]
/-- _law_take(draws, at, m) in a caller's frame: at stands in the i-th cell -/
theorem take_ok (f : Bool) (ds : List Int) (n : Nat) (hn : (n : Int) < 1000000000) (m : Int) (hm : 0 < m) (i : Nat) (st : Sto) (h : st[i]? = some (.lst [.int n])) :
    ∃ r, 0 ≤ r ∧ r < m ∧ callM 1 s__law_take [.rls f (zs ds), .ref i, .int m] st = .ok (.int r) (st.set i (.lst [.int ((n + 1 : Nat) : Int)])) := by
  obtain ⟨r, h1, h2, h3⟩ := take1 ds n hn m hm
  exact ⟨r, h1, h2, callM_of (bs := [.rls false (zs ds), .non, .int m]) rfl h (by simp) (by simp) h3 (by simp)⟩
end Com

set_option maxHeartbeats 2000000
/-! the laws' common helpers: draws, one, word -/
namespace PV
open PySem PySem.Spec
mutual
theorem beq_refl' : ∀ d : D, D.beq d d = true
  | .non => by rw [D.beq]
  | .bl b => by rw [D.beq]; exact beq_self_eq_true b
  | .int b => by rw [D.beq]; exact beq_self_eq_true b
  | .str b => by rw [D.beq]; exact beq_self_eq_true b
  | .tup xs => by rw [D.beq]; exact beqL_refl' xs
  | .tpw xs => by rw [D.beq]; exact beqL_refl' xs
  | .rls f xs => by rw [D.beq, beqL_refl' xs, beq_self_eq_true]; rfl
  | .wls xs => by rw [D.beq]; exact beqL_refl' xs
  | .ref n => by rw [D.beq]; exact beq_self_eq_true n
theorem beqL_refl' : ∀ ds : List D, D.beqL ds ds = true
  | [] => by rw [D.beqL]
  | d :: ds => by rw [D.beqL, beq_refl' d, beqL_refl' ds]; rfl
end
theorem okW_one {st : Sto} {n : Nat} {xs : List D} (h : st[n]? = some (.lst xs)) : okW st [(n, xs)] = true := by
  unfold okW
  rw [h]
  simp only [beqL_refl']
  rfl
/-! slices -/
theorem cut_to (xs : List D) (k : Nat) : cut xs none (some (k : Int)) = xs.take k := by
  unfold cut
  rw [HT.sIx_none, HT.sIx_nat, List.drop_zero, Nat.sub_zero]
  by_cases h : k ≤ xs.length
  · rw [Nat.min_eq_left h]
  · rw [Nat.min_eq_right (by omega), List.take_length, List.take_of_length_le (by omega)]
theorem cut_from (xs : List D) (k : Nat) : cut xs (some (k : Int)) none = xs.drop k := by
  unfold cut
  rw [HT.sIx_none, HT.sIx_nat]
  by_cases h : k ≤ xs.length
  · rw [Nat.min_eq_left h, List.take_of_length_le (by rw [List.length_drop]; omega)]
  · rw [Nat.min_eq_right (by omega), List.drop_length, List.drop_of_length_le (by omega), List.take_nil]
theorem cut_lit (xs : List D) (i : Int) (h : 0 ≤ i) : cut xs none (some i) = xs.take i.toNat := by
  have := cut_to xs i.toNat
  rw [Int.toNat_of_nonneg h] at this
  exact this
/-! data of ints -/
abbrev pis (ns : List Int) : List PyData := ns.map PyData.int
theorem toPs_zs (g : Nat → Option (List PyData)) : ∀ ns : List Int, D.toPs g (ns.map D.int) = some (pis ns)
  | [] => by rw [List.map_nil, D.toPs]; rfl
  | i :: r => by rw [List.map_cons, D.toPs, D.toP, toPs_zs g r]; rfl
theorem pd_tup_zs (st : Sto) (ns : List Int) : pd st (.tup (ns.map D.int)) = some (.tuple (pis ns)) := by
  unfold pd
  rw [D.toP, toPs_zs]
  rfl
theorem pd_ref_zs {st : Sto} {a : Nat} {ns : List Int} (h : st[a]? = some (.lst (ns.map D.int))) : pd st (.ref a) = some (.list (pis ns)) := by
  unfold pd
  rw [D.toP]
  have : cellP 6 st a = some (pis ns) := by
    unfold cellP
    rw [h]
    exact toPs_zs _ ns
  rw [this]
  rfl
theorem lay_pis : ∀ ns : List Int, PyData.canLayAll0 (pis ns) = true
  | [] => by rw [pis, List.map_nil, PyData.canLayAll0]
  | i :: r => by
    have := lay_pis r
    rw [pis, List.map_cons, PyData.canLayAll0, PyData.canLay0]
    exact this
theorem depth_pis : ∀ ns : List Int, PyData.depthAll (pis ns) = 0
  | [] => by rw [pis, List.map_nil, PyData.depthAll]
  | i :: r => by
    have := depth_pis r
    rw [pis, List.map_cons, PyData.depthAll, PyData.depth]
    have e : PyData.depthAll (List.map PyData.int r) = 0 := this
    rw [e]
    rfl
theorem flat_list (ns : List Int) : flatP (.list (pis ns)) = true := by
  unfold flatP
  rw [PyData.canLay0, lay_pis, PyData.depth, depth_pis]
  rfl
theorem flat_tuple (ns : List Int) : flatP (.tuple (pis ns)) = true := by
  unfold flatP
  rw [PyData.canLay0, lay_pis, PyData.depth, depth_pis]
  rfl
theorem eqv_pis : ∀ ns ms : List Int, PyData.eqvAll (pis ns) (pis ms) = decide (ns = ms)
  | [], [] => by rw [pis, List.map_nil, PyData.eqvAll]; rfl
  | [], m :: ms => by rw [pis, pis, List.map_nil, List.map_cons, PyData.eqvAll]; rfl
  | n :: ns, [] => by rw [pis, pis, List.map_nil, List.map_cons, PyData.eqvAll]; rfl
  | n :: ns, m :: ms => by
    have := eqv_pis ns ms
    rw [pis, pis, List.map_cons, List.map_cons, PyData.eqvAll, PyData.eqv]
    have e : PyData.eqvAll (List.map PyData.int ns) (List.map PyData.int ms) = decide (ns = ms) := this
    rw [e]
    by_cases h : n = m
    · subst h
      simp
    · simp [h]
theorem eqP_ref {st : Sto} {a b : Nat} {ns ms : List Int} (h : st[a]? = some (.lst (ns.map D.int))) (h2 : st[b]? = some (.lst (ms.map D.int))) : dEqP (.ref a) (.ref b) st = some (decide (ns = ms)) := by
  unfold dEqP
  rw [pd_ref_zs h, pd_ref_zs h2]
  simp only [flat_list, Bool.and_self, if_true]
  rw [PyData.eqv, eqv_pis]
theorem ne_ref {st : Sto} {a b : Nat} {ns ms : List Int} (h : st[a]? = some (.lst (ns.map D.int))) (h2 : st[b]? = some (.lst (ms.map D.int))) : dNe (.ref a) (.ref b) st = .ok (.bl (!decide (ns = ms))) st := by
  show (match dEqP (.ref a) (.ref b) st with
    | some b => R.ok (D.bl (!b)) st
    | none => .bad) = _
  rw [eqP_ref h h2]
theorem eqP_tup (st : Sto) (ns ms : List Int) : dEqP (.tup (ns.map D.int)) (.tup (ms.map D.int)) st = some (decide (ns = ms)) := by
  unfold dEqP
  rw [pd_tup_zs, pd_tup_zs]
  simp only [flat_tuple, Bool.and_self, if_true]
  rw [PyData.eqv, eqv_pis]
theorem eq_tup (st : Sto) (ns ms : List Int) : dEq (.tup (ns.map D.int)) (.tup (ms.map D.int)) st = .ok (.bl (decide (ns = ms))) st := by
  show (match dEqP (.tup (ns.map D.int)) (.tup (ms.map D.int)) st with
    | some b => R.ok (D.bl b) st
    | none => .bad) = _
  rw [eqP_tup]
end PV
namespace Com
open PySem PySem.Spec PV
/-! _law_draws -/
theorem draws1 (w c kk mm : Option D) (rest : Int) (ds : List Int) (cl : Cell) (hl : ds.length < line) : ∃ rest' ds', ds'.length ≤ ds.length + 1 ∧
    c__law_draws_1 [w, some (.ref 0), c, some (.int rest), kk, mm] [.lst (zs ds), cl] = .nx [w, some (.ref 0), c, some (.int rest'), kk, mm] [.lst (zs ds'), cl] := by
  by_cases h : 0 < rest
  · have a := app_ref (n := 0) (v := .int (rest % 1009)) (st := [.lst (zs ds), cl]) rfl (by simpa using hl)
    refine ⟨rest / 1009, ds ++ [rest % 1009], by simp, ?_⟩
    unfold c__law_draws_1
    simp -implicitDefEqProofs [h, modk, fdivk, a]
  · refine ⟨rest, ds, by omega, ?_⟩
    unfold c__law_draws_1
    simp -implicitDefEqProofs [h]
theorem draws2 (w c rr : Option D) (k mx : Int) (ds : List Int) (cl : Cell) (hl : ds.length < line) (hk : 0 ≤ k ∧ k < 100) : ∃ mx' ds', ds'.length ≤ ds.length + 1 ∧
    c__law_draws_2 [w, some (.ref 0), c, rr, some (.int k), some (.int mx)] [.lst (zs ds), cl] = .nx [w, some (.ref 0), c, rr, some (.int k), some (.int mx')] [.lst (zs ds'), cl] := by
  have a := app_ref (n := 0) (v := .int ((mx * 16807 + 69621 * k + 5) % 2147483629 / 1009)) (st := [.lst (zs ds), cl]) rfl (by simpa using hl)
  refine ⟨(mx * 16807 + 69621 * k + 5) % 2147483629, ds ++ [(mx * 16807 + 69621 * k + 5) % 2147483629 / 1009], by simp, ?_⟩
  unfold c__law_draws_2
  simp -implicitDefEqProofs [modk, fdivk, mulk, mulk', big, a]
theorem loop1 (w c mm u : Option D) (rest : Int) (ds : List Int) (cl : Cell) (hl : ds.length + 60 < line) : ∃ rest' ds' u', ds'.length ≤ ds.length + 60 ∧
    forL (gSlot 4) c__law_draws_1 [] (rangeL 0 60) [w, some (.ref 0), c, some (.int rest), u, mm] [.lst (zs ds), cl] = .nx [w, some (.ref 0), c, some (.int rest'), u', mm] [.lst (zs ds'), cl] := by
  have loop := forL_ok (g := gSlot 4) (b := c__law_draws_1) (w := []) (P := fun xs ρ st => ∃ (rest : Int) (ds' : List Int) (u : Option D), ds'.length + xs.length ≤ ds.length + 60 ∧ ρ = [w, some (.ref 0), c, some (.int rest), u, mm] ∧ st = [.lst (zs ds'), cl])
    (fun _ _ _ _ => rfl) (by
      rintro x xs ρ st ⟨rest, ds1, u, h, rfl, rfl⟩
      rw [List.length_cons] at h
      obtain ⟨rest', ds2, h2, e⟩ := draws1 w c (some x) mm rest ds1 cl (by omega)
      exact ⟨_, _, rfl, _, _, .inl e, rest', ds2, _, by omega, rfl, rfl⟩)
  obtain ⟨ρ', st', e, rest', ds', u', h, rfl, rfl⟩ := loop (rangeL 0 60) [w, some (.ref 0), c, some (.int rest), u, mm] [.lst (zs ds), cl] ⟨rest, ds, u, by simp [rangeL], rfl, rfl⟩
  exact ⟨rest', ds', u', by simpa using h, e⟩
theorem loop2 (w c rr u : Option D) (mx : Int) (ds : List Int) (cl : Cell) (hl : ds.length + 60 < line) : ∃ mx' ds' u', ds'.length ≤ ds.length + 60 ∧
    forL (gSlot 4) c__law_draws_2 [] (rangeL 0 12) [w, some (.ref 0), c, rr, u, some (.int mx)] [.lst (zs ds), cl] = .nx [w, some (.ref 0), c, rr, u', some (.int mx')] [.lst (zs ds'), cl] := by
  have loop := forL_ok (g := gSlot 4) (b := c__law_draws_2) (w := []) (P := fun xs ρ st => ∃ (mx : Int) (ds' : List Int) (u : Option D), ds'.length + xs.length ≤ ds.length + 60 ∧ (∀ x ∈ xs, ∃ k : Int, 0 ≤ k ∧ k < 100 ∧ x = .int k) ∧ ρ = [w, some (.ref 0), c, rr, u, some (.int mx)] ∧ st = [.lst (zs ds'), cl])
    (fun _ _ _ _ => rfl) (by
      rintro x xs ρ st ⟨mx, ds1, u, h, hx, rfl, rfl⟩
      rw [List.length_cons] at h
      obtain ⟨k, k1, k2, rfl⟩ := hx x (by simp)
      obtain ⟨mx', ds2, h2, e⟩ := draws2 w c rr k mx ds1 cl (by omega) ⟨k1, k2⟩
      exact ⟨_, _, rfl, _, _, .inl e, mx', ds2, _, by omega, fun y m => hx y (List.mem_cons_of_mem _ m), rfl, rfl⟩)
  obtain ⟨ρ', st', e, mx', ds', u', h, _, rfl, rfl⟩ := loop (rangeL 0 12) [w, some (.ref 0), c, rr, u, some (.int mx)] [.lst (zs ds), cl] ⟨mx, ds, u, by simp [rangeL], fun x m => by
    obtain ⟨k, hk, rfl⟩ := mem_rangeL m
    exact ⟨_, by omega, by omega, rfl⟩, rfl, rfl⟩
  exact ⟨mx', ds', u', by simpa using h, e⟩
theorem pow18 (st : Sto) : dPow (.int 10) (.int 18) st = .ok (.int 1000000000000000000) st := rfl
theorem draws3 (w rr kk mm : Option D) (x : Int) (ds : List Int) (cl : Cell) (hl : ds.length + 60 < line) : ∃ rr' kk' mm' ds', ds'.length ≤ ds.length + 60 ∧
    c__law_draws_3 [w, some (.ref 0), some (.int x), rr, kk, mm] [.lst (zs ds), cl] = .nx [w, some (.ref 0), some (.int x), rr', kk', mm'] [.lst (zs ds'), cl] := by
  have r60 : itRange1 (.int 60) [.lst (zs ds), cl] = .ok ⟨rangeL 0 60, []⟩ [.lst (zs ds), cl] := rg1_ev (by unfold lim; omega)
  have r12 : itRange1 (.int 12) [.lst (zs ds), cl] = .ok ⟨rangeL 0 12, []⟩ [.lst (zs ds), cl] := rg1_ev (by unfold lim; omega)
  generalize ha : (if x < 0 then -x else x) = a
  by_cases h : 1000000000000000000 ≤ a
  · obtain ⟨rest', ds', u', h1, e⟩ := loop1 w (some (.int x)) mm kk a ds cl hl
    refine ⟨some (.int rest'), u', mm, ds', h1, ?_⟩
    unfold c__law_draws_3
    simp -implicitDefEqProofs [ha, pow18, h, r60, e]
  · obtain ⟨mx', ds', u', h1, e⟩ := loop2 w (some (.int x)) (some (.int a)) kk ((a * 48271 + 11) % 2147483647) ds cl hl
    refine ⟨some (.int a), u', some (.int mx'), ds', h1, ?_⟩
    unfold c__law_draws_3
    simp -implicitDefEqProofs [ha, pow18, h, r12, e, mulk, modk, big]
theorem draws_ok (ns : List Int) : ∃ ds : List Int, ds.length ≤ 4000 ∧ s__law_draws [.wls (zs ns)] [] = .ok (.rls true (zs ds)) [] := by
  have loop := forL_ok (g := gSlot 2) (b := c__law_draws_3) (w := [(1, zs (ns.take 63))]) (P := fun xs ρ st => ∃ (ds : List Int) (c rr kk mm : Option D), ds.length + 60 * xs.length ≤ 3780 ∧ (∀ x ∈ xs, ∃ k : Int, x = .int k) ∧ ρ = [some (.wls (zs ns)), some (.ref 0), c, rr, kk, mm] ∧ st = [.lst (zs ds), .lst (zs (ns.take 63))])
    (by
      rintro xs ρ st ⟨ds, c, rr, kk, mm, h, _, rfl, rfl⟩
      exact okW_one rfl) (by
      rintro x xs ρ st ⟨ds, c, rr, kk, mm, h, hx, rfl, rfl⟩
      rw [List.length_cons] at h
      obtain ⟨k, rfl⟩ := hx x (by simp)
      obtain ⟨rr', kk', mm', ds2, h2, e⟩ := draws3 (some (.wls (zs ns))) rr kk mm k ds (.lst (zs (ns.take 63))) (by unfold line; omega)
      exact ⟨_, _, rfl, _, _, .inl e, ds2, _, _, _, _, by omega, fun y m => hx y (List.mem_cons_of_mem _ m), rfl, rfl⟩)
  obtain ⟨ρ', st', e, ds', c, rr, kk, mm, h, _, rfl, rfl⟩ := loop (zs (ns.take 63)) [some (.wls (zs ns)), some (.ref 0), none, none, none, none] [.lst (zs []), .lst (zs (ns.take 63))]
    ⟨[], none, none, none, none, by simp; omega, fun x m => by
      obtain ⟨k, _, rfl⟩ := List.mem_map.mp m
      exact ⟨k, rfl⟩, rfl, rfl⟩
  refine ⟨ds', by simp at h; omega, sem_rt (b := b__law_draws) (n := 6) (d := .ref 0) (st' := [.lst (zs ds'), .lst (zs (ns.take 63))]) ?_ ?_⟩
  · have c63 : cut (zs ns) none (some 63) = zs (ns.take 63) := by
      have := cut_to (zs ns) 63
      have e2 : zs (ns.take 63) = (zs ns).take 63 := List.map_take
      rw [e2]
      exact this
    have it : itSeq (.ref 1) [.lst [], .lst (zs (ns.take 63))] = .ok ⟨zs (ns.take 63), [(1, zs (ns.take 63))]⟩ [.lst [], .lst (zs (ns.take 63))] := rfl
    have e' : forL (gSlot 2) c__law_draws_3 [(1, zs (ns.take 63))] (zs (ns.take 63)) [some (.wls (zs ns)), some (.ref 0), none, none, none, none] [.lst [], .lst (zs (ns.take 63))] = _ := e
    unfold b__law_draws
    simp -implicitDefEqProofs only [sseq_ev, sasg_ev, ea_ev, anil_ev, bind_ok, lst0, asg_ok, gslot_ev, nxt_some, thn_nx, sfor_ev, iseq_ev, sl_ev, slot_ev, List.map_cons, List.map_nil, List.length_cons, List.length_nil, Nat.reduceAdd, Nat.reduceSub, List.replicate, List.cons_append, List.nil_append, List.set_cons_succ, List.set_cons_zero, List.getElem?_cons_zero, List.getElem?_cons_succ, slc_ok, ono_ev, slc2_ok, oso_ev, c_ev, toI_ok, slc3_ok, sl_wls, c63, new_ev, it, forI_ok, e', sret_ev, ret_ok]
  · exact (fin_ref (k := 0) (n := 0) (st := [.lst (zs ds'), .lst (zs (ns.take 63))]) (xs := zs ds') (Nat.le_refl _) rfl (by simp)).trans rfl
/-! _law_one -/
theorem one1 (xs : List D) (hx : xs ≠ []) (hi : D.imms xs = true) (ds : List Int) (n : Nat) (hn : (n : Int) < 1000000000) : ∃ d ∈ xs, s__law_one [.rls false xs, .rls false (zs ds), .ref 0] [.lst [.int n]] = .ok d [.lst [.int ((n + 1 : Nat) : Int)]] := by
  have hp : 0 < xs.length := List.length_pos_iff.mpr hx
  obtain ⟨r, r0, r1, e⟩ := take_ok false ds n hn (xs.length : Nat) (by omega) 0 [.lst [.int n]] rfl
  obtain ⟨j, rfl⟩ := Int.eq_ofNat_of_zero_le r0
  have hj : j < xs.length := by omega
  have ea : L2.atI xs (j : Int) = some xs[j] := atI_of (by simp [hj])
  have im := mem_imms hi xs[j] (List.getElem_mem hj)
  refine ⟨xs[j], List.getElem_mem hj, sem_rt (b := b__law_one) (n := 3) (d := xs[j]) (st' := [.lst [.int ((n + 1 : Nat) : Int)]]) ?_ ?_⟩
  · have e' : callM 1 s__law_take [.rls false (zs ds), .ref 0, .int (xs.length : Nat)] [.lst [.int n]] = .ok (.int j) [.lst [.int ((n + 1 : Nat) : Int)]] := e
    unfold b__law_one
    simp -implicitDefEqProofs only [sret_ev, e2_ev, slot_ev, List.map_cons, List.map_nil, List.length_cons, List.length_nil, Nat.reduceAdd, Nat.reduceSub, List.replicate, List.cons_append, List.nil_append, List.getElem?_cons_zero, List.getElem?_cons_succ, two_ok, ea_ev, acons_ev, ccat_ok, anil_ev, bind_ok, a1_ev, len_rls, cons_ok, e', ix_rls, ea, ret_ok]
  · exact fin_imm im (by simp)
/-- _law_one(rows, draws, at) in a caller's frame -/
theorem one_ok (xs : List D) (hx : xs ≠ []) (hi : D.imms xs = true) (f : Bool) (ds : List Int) (n : Nat) (hn : (n : Int) < 1000000000) (i p : Nat) (hp : p ≠ i) (st : Sto) (h : st[i]? = some (.lst [.int n])) (h2 : st[p]? = some (.lst xs)) :
    ∃ d ∈ xs, callM 2 s__law_one [.ref p, .rls f (zs ds), .ref i] st = .ok d (st.set i (.lst [.int ((n + 1 : Nat) : Int)])) := by
  obtain ⟨d, hd, e⟩ := one1 xs hx hi ds n hn
  refine ⟨d, hd, callM_of (bs := [.rls false xs, .rls false (zs ds), .non]) rfl h (by simp) ?_ e (by simp)⟩
  have c : cellA 6 (st.set i .dead) p = some xs := cellA_at (by rw [List.getElem?_set_ne (fun z => hp z.symm)]; exact h2) hi
  simp -implicitDefEqProofs [c]
/-! _law_word -/
/-- a letter of that many strands -/
def Lt (s : Int) (z : Int) : Prop := z ≠ 0 ∧ -s < z ∧ z < s
section
variable (s kd : Int) (f : Bool) (ds : List Int) (mo sz k o10 : Option D)
abbrev WE (o8 o9 : Option D) : En := [some (.int s), mo, some (.rls f (zs ds)), some (.ref 0), sz, some (.int kd), some (.ref 1), k, o8, o9, o10]
abbrev WT (n : Nat) (ws : List Int) (J : Sto) : Sto := .lst [.int (n : Int)] :: .lst (zs ws) :: J
def wB : FS := (sIf (tAnd (tE (e2 dEq (eSlot 5) (eC (.int 3)))) (tE (e2 dNe (eSlot 6) (eA dLst aNil))))
    (sAsg (eA (a2 dMax2) (aCons (eC (.int 1)) (aCons (eA (a2 dMin2) (aCons (e2 dSub (eSlot 0) (eC (.int 1))) (aCons (e2 dAdd (eA (a1 dAbs) (aCons (e2 dIx (eSlot 6) (e2 dSub (eA (a1 dLen) (aCons (eSlot 6) aNil)) (eC (.int 1)))) aNil)) (eA (callM 2 s__law_one) (aCons (eA dLst (aCons (e1 dNeg (eC (.int 1))) (aCons (eC (.int 0)) (aCons (eC (.int 1)) (aCons (eC (.int 1)) aNil))))) (aCons (eSlot 2) (aCons (eSlot 3) aNil))))) aNil))) aNil))) (gSlot 8))
    sNext)
theorem wordB (hs : 2 ≤ s) (o9 : Option D) (one : Int) (h1 : 1 ≤ one ∧ one < s) (n : Nat) (hn : (n : Int) < 100000000) (ws : List Int) (J : Sto) : ∃ (n' : Nat) (one' : Int) (J' : Sto), n' ≤ n + 1 ∧ (1 ≤ one' ∧ one' < s) ∧
    wB (WE s kd f ds mo sz k o10 (some (.int one)) o9) (WT n ws J) = .nx (WE s kd f ds mo sz k o10 (some (.int one')) o9) (WT n' ws J') := by
  by_cases hk : kd = 3
  · have ne := ne_ref (st := WT n ws (J ++ [.lst []])) (a := 1) (b := J.length + 2) (ns := ws) (ms := []) rfl (by simp)
    by_cases hw : ws = []
    · refine ⟨n, one, J ++ [.lst []], by omega, h1, ?_⟩
      subst hw
      have ne' : dNe (.ref 1) (.ref (J.length + 1 + 1)) (.lst [.int (n : Int)] :: .lst [] :: (J ++ [.lst []])) = .ok (.bl false) (.lst [.int (n : Int)] :: .lst [] :: (J ++ [.lst []])) := ne
      unfold wB
      simp -implicitDefEqProofs [hk, ne']
    · have ne' : dNe (.ref 1) (.ref (J.length + 1 + 1)) (WT n ws (J ++ [.lst []])) = .ok (.bl true) (WT n ws (J ++ [.lst []])) := by rw [ne]; simp [hw]
      obtain ⟨d, hd, e⟩ := one_ok [.int (-1), .int 0, .int 1, .int 1] (by simp) (by simp) f ds n (by omega) 0 (J.length + 3) (by omega) (WT n ws (J ++ [.lst []] ++ [.lst [.int (-1), .int 0, .int 1, .int 1]])) rfl (by simp)
      have hl : ws.length - 1 < ws.length := by
        have := List.length_pos_iff.mpr hw
        omega
      obtain ⟨q, rfl⟩ : ∃ q : Int, d = .int q := by
        simp at hd
        rcases hd with rfl | rfl | rfl <;> exact ⟨_, rfl⟩
      have ea : L2.atI (zs ws) ((ws.length : Int) - 1) = some (.int (ws[ws.length - 1])) := by
        have : ((ws.length : Int) - 1) = ((ws.length - 1 : Nat) : Int) := by omega
        rw [this]
        exact atI_of (by simp [hl])
      have e' : callM 2 s__law_one [.ref (J.length + 1 + 1 + 1), .rls f (zs ds), .ref 0] (.lst [.int (n : Int)] :: .lst (zs ws) :: (J ++ [.lst [], .lst [.int (-1), .int 0, .int 1, .int 1]])) = .ok (.int q) (.lst [.int ((n : Int) + 1)] :: .lst (zs ws) :: (J ++ [.lst [], .lst [.int (-1), .int 0, .int 1, .int 1]])) := by
        have := e
        simp -implicitDefEqProofs at this
        exact this
      generalize hab : (if ws[ws.length - 1] < 0 then -ws[ws.length - 1] else ws[ws.length - 1]) = ab at *
      generalize hmi : (if ab + q < s - 1 then ab + q else s - 1) = mi at *
      refine ⟨n + 1, (if mi > 1 then mi else 1), J ++ [.lst [], .lst [.int (-1), .int 0, .int 1, .int 1]], by omega, ?_, ?_⟩
      · have : mi ≤ s - 1 := by rw [← hmi]; split <;> omega
        split <;> omega
      · unfold wB
        simp -implicitDefEqProofs [hk, ne', ea, e', hab, hmi]
  · refine ⟨n, one, J, by omega, h1, ?_⟩
    unfold wB
    simp -implicitDefEqProofs [hk]
def wC : FS := (sAsg (eIf (tE (e2 dEq (eSlot 5) (eC (.int 1)))) (eC (.int 1)) (eIf (tE (e2 dEq (eSlot 5) (eC (.int 2)))) (e1 dNeg (eC (.int 1))) (eA (callM 2 s__law_one) (aCons (eA dLst (aCons (eC (.int 1)) (aCons (e1 dNeg (eC (.int 1))) aNil))) (aCons (eSlot 2) (aCons (eSlot 3) aNil)))))) (gSlot 9))
theorem wordC (o8 o9 : Option D) (n : Nat) (hn : (n : Int) < 100000000) (ws : List Int) (J : Sto) : ∃ (n' : Nat) (sg : Int) (J' : Sto), n' ≤ n + 1 ∧ (sg = 1 ∨ sg = -1) ∧
    wC (WE s kd f ds mo sz k o10 o8 o9) (WT n ws J) = .nx (WE s kd f ds mo sz k o10 o8 (some (.int sg))) (WT n' ws J') := by
  by_cases h1 : kd = 1
  · refine ⟨n, 1, J, by omega, .inl rfl, ?_⟩
    unfold wC
    simp -implicitDefEqProofs [h1]
  · by_cases h2 : kd = 2
    · refine ⟨n, -1, J, by omega, .inr rfl, ?_⟩
      unfold wC
      simp -implicitDefEqProofs [h2]
    · obtain ⟨d, hd, e⟩ := one_ok [.int 1, .int (-1)] (by simp) (by simp) f ds n (by omega) 0 (J.length + 2) (by omega) (WT n ws (J ++ [.lst [.int 1, .int (-1)]])) rfl (by simp)
      have e' : callM 2 s__law_one [.ref (J.length + 1 + 1), .rls f (zs ds), .ref 0] (.lst [.int (n : Int)] :: .lst (zs ws) :: (J ++ [.lst [.int 1, .int (-1)]])) = .ok d (.lst [.int ((n : Int) + 1)] :: .lst (zs ws) :: (J ++ [.lst [.int 1, .int (-1)]])) := by
        have := e
        simp -implicitDefEqProofs at this
        exact this
      obtain ⟨q, rfl, hq⟩ : ∃ q : Int, d = .int q ∧ (q = 1 ∨ q = -1) := by
        simp at hd
        rcases hd with rfl | rfl
        · exact ⟨_, rfl, .inl rfl⟩
        · exact ⟨_, rfl, .inr rfl⟩
      refine ⟨n + 1, q, J ++ [.lst [.int 1, .int (-1)]], by omega, hq, ?_⟩
      unfold wC
      simp -implicitDefEqProofs [h1, h2, e']
def wA : FS := (sAsg (e2 dAdd (eC (.int 1)) (eA (callM 1 s__law_take) (aCons (eSlot 2) (aCons (eSlot 3) (aCons (e2 dSub (eSlot 0) (eC (.int 1))) aNil))))) (gSlot 8))
theorem wordA (hs : 2 ≤ s) (o8 o9 : Option D) (n : Nat) (hn : (n : Int) < 100000000) (ws : List Int) (J : Sto) : ∃ one : Int, (1 ≤ one ∧ one < s) ∧
    wA (WE s kd f ds mo sz k o10 o8 o9) (WT n ws J) = .nx (WE s kd f ds mo sz k o10 (some (.int one)) o9) (WT (n + 1) ws J) := by
  obtain ⟨r, r0, r1, e⟩ := take_ok f ds n (by omega) (s - 1) (by omega) 0 (WT n ws J) rfl
  have e' : callM 1 s__law_take [.rls f (zs ds), .ref 0, .int (s - 1)] (.lst [.int (n : Int)] :: .lst (zs ws) :: J) = .ok (.int r) (.lst [.int ((n : Int) + 1)] :: .lst (zs ws) :: J) := e
  refine ⟨1 + r, by omega, ?_⟩
  unfold wA
  simp -implicitDefEqProofs [e']
def wD : FS := (sEx (eM (fun d _ => d.isRef) dAppend (eSlot 6) (e2 dMul (eSlot 9) (eSlot 8))))
theorem wordD (one sg : Int) (hg : sg = 1 ∨ sg = -1) (n : Nat) (ws : List Int) (hl : ws.length < line) (J : Sto) :
    wD (WE s kd f ds mo sz k o10 (some (.int one)) (some (.int sg))) (WT n ws J) = .nx (WE s kd f ds mo sz k o10 (some (.int one)) (some (.int sg))) (WT n (ws ++ [sg * one]) J) := by
  have a := app_ref (n := 1) (v := .int (sg * one)) (st := WT n ws J) (xs := zs ws) rfl (by simpa using hl)
  have m : dMul (.int sg) (.int one) (WT n ws J) = .ok (.int (sg * one)) (WT n ws J) := mulk' _ (by unfold big; omega) _
  unfold wD
  simp -implicitDefEqProofs [m, a]
theorem word1 (hs : 2 ≤ s) (o8 o9 : Option D) (n : Nat) (hn : (n : Int) < 10000000) (ws : List Int) (hw : ∀ z ∈ ws, Lt s z) (hl : ws.length < line) (J : Sto) :
    ∃ (n' : Nat) (z : Int) (J' : Sto) (p8 p9 : Option D), n' ≤ n + 3 ∧ Lt s z ∧ c__law_word_1 (WE s kd f ds mo sz k o10 o8 o9) (WT n ws J) = .nx (WE s kd f ds mo sz k o10 p8 p9) (WT n' (ws ++ [z]) J') := by
  obtain ⟨one, h1, eA⟩ := wordA s kd f ds mo sz k o10 hs o8 o9 n (by omega) ws J
  obtain ⟨n2, one2, J2, hn2, h2, eB⟩ := wordB s kd f ds mo sz k o10 hs o9 one h1 (n + 1) (by omega) ws J
  obtain ⟨n3, sg, J3, hn3, h3, eC⟩ := wordC s kd f ds mo sz k o10 (some (.int one2)) o9 n2 (by omega) ws J2
  have eD := wordD s kd f ds mo sz k o10 one2 sg h3 n3 ws hl J3
  refine ⟨n3, sg * one2, J3, some (.int one2), some (.int sg), by omega, ?_, ?_⟩
  · unfold Lt
    rcases h3 with rfl | rfl <;> omega
  · show sSeq wA (sSeq wB (sSeq wC wD)) _ _ = _
    rw [sseq_ev, eA, thn_nx, sseq_ev, eB, thn_nx, sseq_ev, eC, thn_nx, eD]
theorem wordL (hs : 2 ≤ s) (n : Nat) (hn : (n : Int) < 1000000) (m : Nat) (hm : m ≤ 1000) (k o8 o9 : Option D) :
    ∃ (n' : Nat) (ws : List Int) (J : Sto) (k' p8 p9 : Option D), n' ≤ n + 3 * m ∧ (∀ z ∈ ws, Lt s z) ∧ ws.length = m ∧ forL (gSlot 7) c__law_word_1 [] (rangeL 0 (m : Int)) (WE s kd f ds mo sz k o10 o8 o9) (WT n [] []) = .nx (WE s kd f ds mo sz k' o10 p8 p9) (WT n' ws J) := by
  have loop := forL_ok (g := gSlot 7) (b := c__law_word_1) (w := []) (P := fun xs ρ st => ∃ (n' : Nat) (ws : List Int) (J : Sto) (k p8 p9 : Option D), n' + 3 * xs.length ≤ n + 3 * m ∧ (∀ z ∈ ws, Lt s z) ∧ ws.length + xs.length = m ∧ ρ = WE s kd f ds mo sz k o10 p8 p9 ∧ st = WT n' ws J)
    (fun _ _ _ _ => rfl) (by
      rintro x xs ρ st ⟨n1, ws, J, k1, p8, p9, h1, h2, h3, rfl, rfl⟩
      rw [List.length_cons] at h1 h3
      obtain ⟨n2, z, J2, q8, q9, h4, h5, e⟩ := word1 s kd f ds mo sz (some x) o10 hs p8 p9 n1 (by omega) ws h2 (by unfold line; omega) J
      refine ⟨_, _, rfl, _, _, .inl e, n2, ws ++ [z], J2, _, _, _, by omega, fun y hy => ?_, by simp; omega, rfl, rfl⟩
      rcases List.mem_append.mp hy with hy | hy
      · exact h2 y hy
      · simp at hy
        subst hy
        exact h5)
  obtain ⟨ρ', st', e, n', ws, J, k', p8, p9, h1, h2, h3, rfl, rfl⟩ := loop (rangeL 0 (m : Int)) (WE s kd f ds mo sz k o10 o8 o9) (WT n [] []) ⟨n, [], [], k, o8, o9, by simp [rangeL], by simp, by simp [rangeL], rfl, rfl⟩
  exact ⟨n', ws, J, k', p8, p9, by simpa using h1, h2, by simpa using h3, e⟩
end
/-- a word of that many strands -/
def Wd (s : Int) (ws : List Int) : Prop := ∀ z ∈ ws, Lt s z
theorem Wd.take {s : Int} {ws : List Int} (h : Wd s ws) (k : Nat) : Wd s (ws.take k) := fun z m => h z (List.mem_of_mem_take m)
theorem Wd.app {s : Int} {ws vs : List Int} (h : Wd s ws) (h2 : Wd s vs) : Wd s (ws ++ vs) := fun z m => (List.mem_append.mp m).elim (h z) (h2 z)
theorem Wd.back {s : Int} {ws : List Int} (h : Wd s ws) : Wd s (ws.reverse.map fun z => 0 - z) := fun z m => by
  obtain ⟨y, hy, rfl⟩ := List.mem_map.mp m
  have := h y (List.mem_reverse.mp hy)
  unfold Lt at this ⊢
  omega
end Com

set_option maxHeartbeats 2000000
/-! _law_word, to its end -/
namespace Com
open PySem PySem.Spec PV
/-- [0 - one for one in half[::-1]] -/
theorem back_lc {ρ : En} {S : Sto} {h i : Nat} {hs : List Int} (hl : hs.length ≤ line) (h1 : ρ[h]? = some (some (.ref i))) (h2 : S[i]? = some (.lst (zs hs))) (v : Nat) (hv : v < ρ.length) :
    eLc [v] (iSeq (e1 dRev (eSlot h))) (gSlot v) tYes (e2 dSub (eC (.int 0)) (eSlot v)) ρ S = .ok (.ref (S.length + 1)) (S ++ [.lst (zs hs.reverse)] ++ [.lst (zs (hs.reverse.map fun z => 0 - z))]) := by
  have r1 : (e1 dRev (eSlot h)) ρ S = .ok (.ref S.length) (S ++ [.lst (zs hs.reverse)]) := by
    rw [e1_ev, slot_ev, h1]
    show dRev (.ref i) S = _
    rw [rev_at h2, ← List.map_reverse]
  have at_ : (S ++ [Cell.lst (zs hs.reverse)])[S.length]? = some (.lst (zs hs.reverse)) := at_last S _
  rw [elc_ev, iseq_ev, r1, bind_ok, itseq_at at_, lcI_ok]
  have lc := lc_pure (ρ := wipeD ρ [v]) (g := gSlot v) (t := tYes) (e := e2 dSub (eC (.int 0)) (eSlot v)) (w := [(S.length, zs hs.reverse)]) (st0 := S ++ [Cell.lst (zs hs.reverse)]) (fun _ => true) (fun d => match d with | .int z => .int (0 - z) | d => d)
    (okW_one at_) (zs hs.reverse) [] (fun x hx acc => by
      obtain ⟨z, _, rfl⟩ := List.mem_map.mp hx
      refine ⟨_, rfl, rfl, fun _ => ?_⟩
      have g : ((wipeD ρ [v]).set v (some (.int z)))[v]? = some (some (.int z)) := List.getElem?_set_self (by simp [wipeD]; exact hv)
      rw [e2_ev, c_ev, two_ok, slot_ev, g]
      rfl) (by simpa using hl)
  have len : (S ++ [Cell.lst (zs hs.reverse)]).length = S.length + 1 := by simp
  rw [len] at lc ⊢
  refine lc.trans ?_
  have f : ∀ l : List Int, ((zs l).filter fun _ => true).map (fun d => match d with | .int z => .int (0 - z) | d => d) = zs (l.map fun z => 0 - z) := by
    intro l
    induction l with
    | nil => rfl
    | cons z l ih =>
      show D.int (0 - z) :: _ = _
      rw [show (((zs l).filter fun _ => true).map (fun d => match d with | .int z => D.int (0 - z) | d => d)) = zs (l.map fun z => 0 - z) from ih]
      rfl
  rw [f, List.nil_append]
section
variable (s kd : Int) (f : Bool) (ds : List Int) (mo k : Option D)
def wE : FS := (sSeq (sAsg (eSl (eSlot 6) oNo (oSo (e2 dFdiv (eSlot 4) (eC (.int 2))))) (gSlot 10))
    (sAsg (e2 dAdd (e2 dAdd (eSlot 10) (eSl e__law_word_1 oNo (oSo (e2 dSub (eSlot 4) (eA (a1 dLen) (aCons (eSlot 10) aNil)))))) (eSl (eSlot 6) oNo (oSo (e2 dMod (eSlot 4) (eC (.int 2)))))) (gSlot 6)))
theorem wordE (m : Nat) (hm : m ≤ 1000) (n : Nat) (ws : List Int) (hl : ws.length ≤ 100000) (J : Sto) (o8 o9 o10 : Option D) : ∃ (p : Nat) (L : Sto) (vs : List Int) (q10 : Option D), (∀ {t : Int}, Wd t ws → Wd t vs) ∧ (WT n ws J ++ L)[p]? = some (.lst (zs vs)) ∧
    wE (WE s kd f ds mo (some (.int m)) k o10 o8 o9) (WT n ws J) = .nx [some (.int s), mo, some (.rls f (zs ds)), some (.ref 0), some (.int m), some (.int kd), some (.ref p), k, o8, o9, q10] (WT n ws J ++ L) := by
  generalize hS : WT n ws J = S
  have g1 : S[1]? = some (.lst (zs ws)) := by rw [← hS]; rfl
  have d2 : dFdiv (.int (m : Int)) (.int 2) S = .ok (.int ((m / 2 : Nat) : Int)) S := by rw [fdivk _ (by omega)]; rfl
  obtain ⟨half, hh⟩ : ∃ half, half = ws.take (m / 2) := ⟨_, rfl⟩
  have hhl : half.length ≤ 100000 := by rw [hh, List.length_take]; omega
  have c1 : cut (zs ws) none (some ((m / 2 : Nat) : Int)) = zs half := by rw [cut_to, hh]; exact (List.map_take).symm
  have s1 : dSl (.ref 1) none (some ((m / 2 : Nat) : Int)) S = .ok (.ref S.length) (S ++ [.lst (zs half)]) := by rw [sl_at g1, c1]
  have a1_ : (S ++ [Cell.lst (zs half)])[S.length]? = some (.lst (zs half)) := at_last S _
  have bl := back_lc (ρ := [some (.int s), mo, some (.rls f (zs ds)), some (.ref 0), some (.int m), some (.int kd), some (.ref 1), k, o8, o9, some (.ref S.length)]) (S := S ++ [.lst (zs half)]) (h := 10) (i := S.length) (hs := half) (by unfold line; omega) rfl a1_ 8 (by simp)
  have len1 : (S ++ [Cell.lst (zs half)]).length = S.length + 1 := by simp
  rw [len1] at bl
  obtain ⟨S1, hS1⟩ : ∃ S1, S1 = S ++ [Cell.lst (zs half)] := ⟨_, rfl⟩
  obtain ⟨neg, hn⟩ : ∃ neg, neg = half.reverse.map (fun z => 0 - z) := ⟨_, rfl⟩
  obtain ⟨S3, hS3⟩ : ∃ S3, S3 = S1 ++ [Cell.lst (zs half.reverse)] ++ [Cell.lst (zs neg)] := ⟨_, rfl⟩
  rw [← hn, ← hS1, ← hS3] at bl
  have bl' : e__law_word_1 [some (.int s), mo, some (.rls f (zs ds)), some (.ref 0), some (.int m), some (.int kd), some (.ref 1), k, o8, o9, some (.ref S.length)] S1 = .ok (.ref (S.length + 1 + 1)) S3 := bl
  have a3 : S3[S.length]? = some (.lst (zs half)) := by rw [hS3, hS1]; exact get_app (get_app a1_)
  have n3 : S3[S.length + 1 + 1]? = some (.lst (zs neg)) := by
    have : (S1 ++ [Cell.lst (zs half.reverse)]).length = S.length + 1 + 1 := by rw [hS1]; simp
    rw [hS3, ← this]
    exact at_last _ _
  have g3 : S3[1]? = some (.lst (zs ws)) := by rw [hS3, hS1]; exact get_app (get_app (get_app g1))
  have nl : neg.length = half.length := by rw [hn]; simp
  have hm2 : half.length ≤ m := by rw [hh, List.length_take]; omega
  obtain ⟨neg', hn'⟩ : ∃ neg', neg' = neg.take (m - half.length) := ⟨_, rfl⟩
  have c4 : cut (zs neg) none (some ((m : Int) - ((zs half).length : Nat))) = zs neg' := by
    have e : ((m : Int) - ((zs half).length : Nat)) = ((m - half.length : Nat) : Int) := by simp; omega
    rw [e, cut_to, hn']
    exact (List.map_take).symm
  obtain ⟨S4, hS4⟩ : ∃ S4, S4 = S3 ++ [Cell.lst (zs neg')] := ⟨_, rfl⟩
  have s4 : dSl (.ref (S.length + 1 + 1)) none (some ((m : Int) - ((zs half).length : Nat))) S3 = .ok (.ref S3.length) S4 := by rw [sl_at n3, c4, hS4]
  have l3 : dLen (.ref S.length) S3 = .ok (.int ((zs half).length : Nat)) S3 := len_at a3
  have a4 : S4[S.length]? = some (.lst (zs half)) := by rw [hS4]; exact get_app a3
  have n4 : S4[S3.length]? = some (.lst (zs neg')) := by rw [hS4]; exact at_last _ _
  have nl' : neg'.length ≤ 100000 := by rw [hn', List.length_take]; omega
  obtain ⟨S5, hS5⟩ : ∃ S5, S5 = S4 ++ [Cell.lst (zs half ++ zs neg')] := ⟨_, rfl⟩
  have s5 : dAdd (.ref S.length) (.ref S3.length) S4 = .ok (.ref S4.length) S5 := by rw [add_at a4 n4 (by simp; unfold line; omega), hS5]
  have g5 : S5[1]? = some (.lst (zs ws)) := by rw [hS5, hS4]; exact get_app (get_app g3)
  have m5 : dMod (.int (m : Int)) (.int 2) S5 = .ok (.int ((m % 2 : Nat) : Int)) S5 := by rw [modk _ (by omega)]; rfl
  have c6 : cut (zs ws) none (some ((m % 2 : Nat) : Int)) = zs (ws.take (m % 2)) := by rw [cut_to]; exact (List.map_take).symm
  obtain ⟨S6, hS6⟩ : ∃ S6, S6 = S5 ++ [Cell.lst (zs (ws.take (m % 2)))] := ⟨_, rfl⟩
  have s6 : dSl (.ref 1) none (some ((m % 2 : Nat) : Int)) S5 = .ok (.ref S5.length) S6 := by rw [sl_at g5, c6, hS6]
  have b6 : S6[S4.length]? = some (.lst (zs half ++ zs neg')) := by rw [hS6, hS5]; exact get_app (at_last _ _)
  have t6 : S6[S5.length]? = some (.lst (zs (ws.take (m % 2)))) := by rw [hS6]; exact at_last _ _
  have s7 : dAdd (.ref S4.length) (.ref S5.length) S6 = .ok (.ref S6.length) (S6 ++ [.lst ((zs half ++ zs neg') ++ zs (ws.take (m % 2)))]) := add_at b6 t6 (by simp; unfold line; omega)
  refine ⟨S6.length, [Cell.lst (zs half)] ++ [Cell.lst (zs half.reverse)] ++ [Cell.lst (zs neg)] ++ [Cell.lst (zs neg')] ++ [Cell.lst (zs half ++ zs neg')] ++ [Cell.lst (zs (ws.take (m % 2)))] ++ [.lst ((zs half ++ zs neg') ++ zs (ws.take (m % 2)))], half ++ neg' ++ ws.take (m % 2), some (.ref S.length), fun {t} hw => ?_, ?_, ?_⟩
  · have h1 : Wd t half := by rw [hh]; exact hw.take _
    have h2 : Wd t neg' := by rw [hn', hn]; exact (h1.back).take _
    exact (h1.app h2).app (hw.take _)
  · have : S ++ ([Cell.lst (zs half)] ++ [Cell.lst (zs half.reverse)] ++ [Cell.lst (zs neg)] ++ [Cell.lst (zs neg')] ++ [Cell.lst (zs half ++ zs neg')] ++ [Cell.lst (zs (ws.take (m % 2)))] ++ [Cell.lst ((zs half ++ zs neg') ++ zs (ws.take (m % 2)))]) = S6 ++ [Cell.lst ((zs half ++ zs neg') ++ zs (ws.take (m % 2)))] := by
      rw [hS6, hS5, hS4, hS3, hS1]
      simp only [List.append_assoc]
    rw [this, at_last]
    simp [zs]
  · have : S ++ ([Cell.lst (zs half)] ++ [Cell.lst (zs half.reverse)] ++ [Cell.lst (zs neg)] ++ [Cell.lst (zs neg')] ++ [Cell.lst (zs half ++ zs neg')] ++ [Cell.lst (zs (ws.take (m % 2)))] ++ [Cell.lst ((zs half ++ zs neg') ++ zs (ws.take (m % 2)))]) = S6 ++ [Cell.lst ((zs half ++ zs neg') ++ zs (ws.take (m % 2)))] := by
      rw [hS6, hS5, hS4, hS3, hS1]
      simp only [List.append_assoc]
    rw [this]
    rw [← hS1] at s1
    unfold wE WE
    simp -implicitDefEqProofs only [sseq_ev, sasg_ev, sl_ev, slot_ev, List.getElem?_cons_zero, List.getElem?_cons_succ, slc_ok, ono_ev, slc2_ok, oso_ev, e2_ev, two_ok, c_ev, bind_ok, d2, toI_ok, slc3_ok, s1, asg_ok, gslot_ev, List.set_cons_succ, List.set_cons_zero, nxt_some, thn_nx, bl', ea_ev, acons_ev, ccat_ok, anil_ev, cons_ok, a1_ev, l3, sub_i, s4, s5, m5, s6, s7]
end
theorem word_end (s kd : Int) (ds : List Int) (k : Option D) (most : Nat) (m : Nat) (hm : m ≤ 1000) (n : Nat) (ws : List Int) (hl : ws.length ≤ 100000) (hw : Wd s ws) (J : Sto) (o8 o9 o10 : Option D) :
    ∃ (vs : List Int) (L : Sto), Wd s vs ∧ vs.length ≤ most ∧ (sSeq (sIf (tE (e2 dEq (eSlot 5) (eC (.int 4)))) wE sNext) (sRet (eA (a1 dTuple) (aCons (eSl (eSlot 6) oNo (oSo (eSlot 1))) aNil)))) (WE s kd false ds (some (.int most)) (some (.int m)) k o10 o8 o9) (WT n ws J) = .rt (.tup (zs vs)) (WT n ws J ++ L) := by
  have fin : ∀ (S : Sto) (p : Nat) (vs : List Int) (q10 : Option D), S[p]? = some (.lst (zs vs)) → (sRet (eA (a1 dTuple) (aCons (eSl (eSlot 6) oNo (oSo (eSlot 1))) aNil))) [some (.int s), some (.int most), some (.rls false (zs ds)), some (.ref 0), some (.int m), some (.int kd), some (.ref p), k, o8, o9, q10] S = .rt (.tup (zs (vs.take most))) (S ++ [.lst (zs (vs.take most))]) := by
    intro S p vs q10 h
    have c1 : cut (zs vs) none (some (most : Int)) = zs (vs.take most) := by rw [cut_to]; exact (List.map_take).symm
    have s1 : dSl (.ref p) none (some (most : Int)) S = .ok (.ref S.length) (S ++ [.lst (zs (vs.take most))]) := by rw [sl_at h, c1]
    have t1 : dTuple (.ref S.length) (S ++ [Cell.lst (zs (vs.take most))]) = .ok (.tup (zs (vs.take most))) (S ++ [Cell.lst (zs (vs.take most))]) := tuple_at (at_last _ _)
    simp -implicitDefEqProofs only [sret_ev, ea_ev, acons_ev, sl_ev, slot_ev, List.getElem?_cons_zero, List.getElem?_cons_succ, slc_ok, ono_ev, slc2_ok, oso_ev, toI_ok, slc3_ok, s1, ccat_ok, anil_ev, cons_ok, bind_ok, a1_ev, t1, ret_ok]
  by_cases h4 : kd = 4
  · obtain ⟨p, L, vs, q10, h1, h2, e⟩ := wordE s kd false ds (some (.int most)) k m hm n ws hl J o8 o9 o10
    refine ⟨vs.take most, L ++ [.lst (zs (vs.take most))], (h1 hw).take _, by rw [List.length_take]; omega, ?_⟩
    have t : (sIf (tE (e2 dEq (eSlot 5) (eC (.int 4)))) wE sNext) (WE s kd false ds (some (.int most)) (some (.int m)) k o10 o8 o9) (WT n ws J) = wE (WE s kd false ds (some (.int most)) (some (.int m)) k o10 o8 o9) (WT n ws J) := by
      simp -implicitDefEqProofs [h4]
    rw [sseq_ev, t, e, thn_nx, fin _ p vs q10 h2, List.append_assoc]
  · refine ⟨ws.take most, [.lst (zs (ws.take most))], hw.take _, by rw [List.length_take]; omega, ?_⟩
    have t : (sIf (tE (e2 dEq (eSlot 5) (eC (.int 4)))) wE sNext) (WE s kd false ds (some (.int most)) (some (.int m)) k o10 o8 o9) (WT n ws J) = .nx (WE s kd false ds (some (.int most)) (some (.int m)) k o10 o8 o9) (WT n ws J) := by
      simp -implicitDefEqProofs [h4]
    rw [sseq_ev, t, thn_nx]
    exact fin (WT n ws J) 1 ws o10 rfl
theorem wword (s : Int) (hs : 2 ≤ s) (ds : List Int) (most : Nat) (hm : most ≤ 1000) (n : Nat) (hn : (n : Int) < 100000) :
    ∃ (n' : Nat) (vs : List Int), n' ≤ n + 2 + 3 * most ∧ Wd s vs ∧ vs.length ≤ most ∧ s__law_word [.int s, .int most, .rls false (zs ds), .ref 0] [.lst [.int n]] = .ok (.tup (zs vs)) [.lst [.int (n' : Nat)]] := by
  obtain ⟨r, r0, r1, e1⟩ := take_ok false ds n (by omega) (most + 1) (by omega) 0 [.lst [.int n]] rfl
  obtain ⟨m, rfl⟩ := Int.eq_ofNat_of_zero_le r0
  obtain ⟨kd, k0, k1, e2⟩ := take_ok false ds (n + 1) (by omega) 5 (by omega) 0 [.lst [.int ((n + 1 : Nat) : Int)]] rfl
  obtain ⟨n', ws, J, k', p8, p9, h1, h2, h3, eL⟩ := wordL s kd false ds (some (.int most)) (some (.int m)) none hs (n + 2) (by omega) m (by omega) none none none
  obtain ⟨vs, L, v1, v2, eE⟩ := word_end s kd ds k' most m (by omega) n' ws (by omega) h2 J p8 p9 none
  refine ⟨n', vs, by omega, v1, v2, sem_rt (b := b__law_word) (n := 11) (d := .tup (zs vs)) (st' := WT n' ws J ++ L) ?_ ?_⟩
  · have e1' : callM 1 s__law_take [.rls false (zs ds), .ref 0, .int ((most : Int) + 1)] [.lst [.int (n : Int)]] = .ok (.int m) [.lst [.int ((n + 1 : Nat) : Int)]] := e1
    have e2' : callM 1 s__law_take [.rls false (zs ds), .ref 0, .int 5] [.lst [.int ((n + 1 : Nat) : Int)]] = .ok (.int kd) [.lst [.int ((n + 2 : Nat) : Int)]] := e2
    have rg : itRange1 (.int (m : Int)) [.lst [.int ((n + 2 : Nat) : Int)], .lst []] = .ok ⟨rangeL 0 m, []⟩ [.lst [.int ((n + 2 : Nat) : Int)], .lst []] := rg1_ev (by unfold lim; omega)
    have eL' : forL (gSlot 7) c__law_word_1 [] (rangeL 0 (m : Int)) [some (.int s), some (.int most), some (.rls false (zs ds)), some (.ref 0), some (.int m), some (.int kd), some (.ref 1), none, none, none, none] [.lst [.int ((n + 2 : Nat) : Int)], .lst []] = _ := eL
    show sSeq _ (sSeq _ (sSeq _ (sSeq (sFor (iRange1 (eSlot 4)) (gSlot 7) c__law_word_1) (sSeq (sIf (tE (PV.e2 dEq (eSlot 5) (eC (.int 4)))) wE sNext) (sRet (eA (a1 dTuple) (aCons (eSl (eSlot 6) oNo (oSo (eSlot 1))) aNil))))))) _ _ = _
    simp -implicitDefEqProofs only [List.map_cons, List.map_nil, List.length_cons, List.length_nil, Nat.reduceAdd, Nat.reduceSub, List.replicate, List.cons_append, List.nil_append]
    rw [sseq_ev, sasg_ev, ea_ev, acons_ev, slot_ev]
    simp -implicitDefEqProofs only [List.getElem?_cons_zero, List.getElem?_cons_succ, ccat_ok, acons_ev, slot_ev, e2_ev, c_ev, two_ok, bind_ok, add_i, anil_ev, cons_ok, e1', asg_ok, gslot_ev, List.set_cons_succ, List.set_cons_zero, nxt_some, thn_nx]
    rw [sseq_ev, sasg_ev, ea_ev, acons_ev, slot_ev]
    simp -implicitDefEqProofs only [List.getElem?_cons_zero, List.getElem?_cons_succ, ccat_ok, acons_ev, slot_ev, c_ev, bind_ok, anil_ev, cons_ok, e2', asg_ok, gslot_ev, List.set_cons_succ, List.set_cons_zero, nxt_some, thn_nx]
    rw [sseq_ev, sasg_ev, ea_ev, anil_ev, bind_ok, lst0, asg_ok, gslot_ev, nxt_some, thn_nx]
    simp -implicitDefEqProofs only [List.length_cons, List.length_nil, Nat.reduceAdd, List.cons_append, List.nil_append, List.set_cons_succ, List.set_cons_zero]
    rw [sseq_ev, sfor_ev, irg1_ev, slot_ev]
    simp -implicitDefEqProofs only [List.getElem?_cons_zero, List.getElem?_cons_succ, bind_ok, rg, forI_ok, eL', thn_nx]
    exact eE
  · rw [fin_tup (by simp)]
    rfl
/-- _law_word(strands, most, draws, at) in a caller's frame: at stands in the i-th cell -/
theorem word_ok (f : Bool) (s : Int) (hs : 2 ≤ s) (ds : List Int) (most : Nat) (hm : most ≤ 1000) (n : Nat) (hn : (n : Int) < 100000) (i : Nat) (st : Sto) (h : st[i]? = some (.lst [.int n])) :
    ∃ (n' : Nat) (vs : List Int), n' ≤ n + 2 + 3 * most ∧ Wd s vs ∧ vs.length ≤ most ∧ callM 3 s__law_word [.int s, .int most, .rls f (zs ds), .ref i] st = .ok (.tup (zs vs)) (st.set i (.lst [.int (n' : Nat)])) := by
  obtain ⟨n', vs, h1, h2, h3, e⟩ := wword s hs ds most hm n hn
  exact ⟨n', vs, h1, h2, h3, callM_of (bs := [.int s, .int most, .rls false (zs ds), .non]) rfl h (by simp) (by simp) e (by simp)⟩
end Com

set_option maxHeartbeats 2000000
/-! the words' demands -/
namespace Com
open PySem PySem.Spec PV
theorem is_int1 (z : Int) : s_is_integer [.int z] [] = .ok (.bl true) [] := by
  refine sem_rt (b := b_is_integer) (n := 1) (d := .bl true) (st' := []) ?_ (by simp)
  unfold b_is_integer
  simp -implicitDefEqProofs [isTy]
theorem is_int_ok (z : Int) (st : Sto) : callP s_is_integer [.int z] st = .ok (.bl true) st := callP_of (by simp) (is_int1 z)
theorem in_range1 (v a b : Int) : s_in_range [.int v, .int a, .int b] [] = .ok (.bl (decide (a ≤ v) && decide (v ≤ b))) [] := by
  refine sem_rt (b := b_in_range) (n := 3) (d := .bl (decide (a ≤ v) && decide (v ≤ b))) (st' := []) ?_ (by simp)
  unfold b_in_range
  by_cases h : a ≤ v
  · simp -implicitDefEqProofs [is_int_ok, h]
  · simp -implicitDefEqProofs [is_int_ok, h]
theorem in_range_ok (v a b : Int) (st : Sto) : callP s_in_range [.int v, .int a, .int b] st = .ok (.bl (decide (a ≤ v) && decide (v ≤ b))) st := callP_of (by simp) (in_range1 v a b)
theorem strands1 (s : Int) (h : 2 ≤ s ∧ s ≤ 7) : s_demand_strands [.int s] [] = .ok .non [] := by
  refine sem_nx (b := b_demand_strands) (n := 1) (ρ' := [some (.int s)]) (st' := []) ?_ (by simp)
  unfold b_demand_strands
  simp -implicitDefEqProofs [in_range_ok, h.1, h.2]
theorem strands_ok (s : Int) (h : 2 ≤ s ∧ s ≤ 7) (st : Sto) : callP s_demand_strands [.int s] st = .ok .non st := callP_of (by simp) (strands1 s h)
theorem is_word1 (s : Int) (ws : List Int) (h : Wd s ws) (m : Nat) (hl : ws.length ≤ m) (hm : ws.length ≤ 100000) : s_is_word [.int s, .tup (zs ws), .int m] [] = .ok (.bl true) [] := by
  refine sem_rt (b := b_is_word) (n := 4) (d := .bl true) (st' := [.lst (ws.map fun _ => .bl true)]) ?_ (by simp)
  have lc := lc_all (ρ := [some (.int s), some (.tup (zs ws)), some (.int m), none]) (g := gSlot 3) (e := eAnd (eA (callP s_in_range) (aCons (eSlot 3) (aCons (e2 dSub (eC (.int 1)) (eSlot 0)) (aCons (e2 dSub (eSlot 0) (eC (.int 1))) aNil)))) (e2 dNe (eSlot 3) (eC (.int 0)))) (w := []) (st0 := []) D.int (fun _ => .bl true) rfl ws (fun z hz acc => by
      obtain ⟨z0, z1, z2⟩ := h z hz
      have e1 : 1 - s ≤ z := by omega
      have e2 : z ≤ s - 1 := by omega
      refine ⟨_, rfl, ?_⟩
      simp -implicitDefEqProofs [in_range_ok, e1, e2, z0]) (by unfold line; omega)
  have e : e_is_word_1 [some (.int s), some (.tup (zs ws)), some (.int m), none] [] = .ok (.ref 0) [.lst (ws.map fun _ => D.bl true)] := by
    unfold e_is_word_1
    simp -implicitDefEqProofs only [elc_ev, iseq_ev, slot_ev, List.getElem?_cons_zero, List.getElem?_cons_succ, bind_ok, itseq_tup, lcI_ok]
    exact lc
  have al : dAll (.ref 0) [.lst (ws.map fun _ => D.bl true)] = .ok (.bl true) [.lst (ws.map fun _ => D.bl true)] := by
    have b : ∀ l : List Int, blsOf (l.map fun _ => D.bl true) = some (l.map fun _ => true) := by
      intro l
      induction l with
      | nil => rfl
      | cons x l ih =>
        show (blsOf (l.map fun _ => D.bl true)).map (true :: ·) = _
        rw [ih]
        rfl
    unfold dAll
    show (match blsOf (ws.map fun _ => D.bl true) with
      | some bs => R.ok (D.bl (bs.all id)) _
      | none => .bad) = _
    rw [b]
    have : ((ws.map fun _ => true).all id) = true := by simp
    exact congrArg (fun q => R.ok (D.bl q) _) this
  have nl : ¬ ((m : Int) < ((zs ws).length : Nat)) := by simp; omega
  unfold b_is_word
  simp -implicitDefEqProofs only [sseq_ev, sif_ev, tor_ev, tnot_ev, ttru_ev, e1_ev, slot_ev, List.map_cons, List.map_nil, List.length_cons, List.length_nil, Nat.reduceAdd, Nat.reduceSub, List.replicate, List.cons_append, List.nil_append, List.getElem?_cons_zero, List.getElem?_cons_succ, bind_ok, isi_ev, isTy, tru_bl, notT_ok, Bool.not_true, orT_f, te_ev, e2_ev, ea_ev, acons_ev, ccat_ok, anil_ev, cons_ok, a1_ev, len_tup, two_ok, gt_i, toB_ok, nl, decide_false, iff_f, snext_ev, thn_nx, sret_ev, e, al, ret_ok]
theorem is_word_ok (s : Int) (ws : List Int) (h : Wd s ws) (m : Nat) (hl : ws.length ≤ m) (hm : ws.length ≤ 100000) (st : Sto) : callP s_is_word [.int s, .tup (zs ws), .int m] st = .ok (.bl true) st := callP_of (by simp) (is_word1 s ws h m hl hm)
theorem plait1 (s : Int) (hs : 2 ≤ s ∧ s ≤ 7) (ws : List Int) (h : Wd s ws) (hl : ws.length ≤ 60) (r : Str) : s_demand_plait [.int s, .tup (zs ws), .str r] [] = .ok .non [] := by
  refine sem_nx (b := b_demand_plait) (n := 3) (ρ' := [some (.int s), some (.tup (zs ws)), some (.str r)]) (st' := []) ?_ (by simp)
  have w : callP s_is_word [.int s, .tup (zs ws), .int 60] [] = .ok (.bl true) [] := is_word_ok s ws h 60 hl (by omega) []
  unfold b_demand_plait
  simp -implicitDefEqProofs [strands_ok s hs, w]
theorem plait_ok (s : Int) (hs : 2 ≤ s ∧ s ≤ 7) (ws : List Int) (h : Wd s ws) (hl : ws.length ≤ 60) (r : Str) (st : Sto) : callP s_demand_plait [.int s, .tup (zs ws), .str r] st = .ok .non st := callP_of (by simp) (plait1 s hs ws h hl r)
end Com

set_option maxHeartbeats 2000000
/-! words: rows, crossings, ends -/
namespace PV
open PySem PySem.Spec
theorem set_at {st : Sto} {q k : Nat} {xs : List D} (v : D) (h : st[q]? = some (.lst xs)) (hk : k < xs.length) : dSet (.ref q) (.int (k : Int)) v st = some (st.set q (.lst (xs.set k v))) := by
  rw [dset_ev, h]
  show (match L2.ixN xs.length (k : Int) with
    | some j => some (st.set q (.lst (xs.set j v)))
    | none => none) = _
  rw [ixN_nat hk]
theorem atI_end {xs : List D} (x : D) : L2.atI (xs ++ [x]) (-1) = some x := by
  have h : L2.ixN (xs ++ [x]).length (-1) = some xs.length := by
    unfold L2.ixN
    rw [if_neg (by omega), if_pos (by simp; omega)]
    simp
    omega
  unfold L2.atI
  rw [h]
  simp
theorem abs_nat (z : Int) (st : Sto) : dAbs (.int z) st = .ok (.int (z.natAbs : Nat)) st := by
  rw [abs_i]
  congr 2
  split <;> omega
end PV
namespace Com
open PySem PySem.Spec PV
/-- the row with the strands at p - 1 and p changed -/
def sw (p : Nat) (r : List Int) : List Int := (r.set (p - 1) (r.getD p 0)).set p (r.getD (p - 1) 0)
@[simp] theorem sw_len (p : Nat) (r : List Int) : (sw p r).length = r.length := by simp [sw]
theorem sw_cut {p : Nat} {r : List Int} (h1 : 1 ≤ p) (h2 : p < r.length) : r.take (p - 1) ++ [r.getD p 0, r.getD (p - 1) 0] ++ r.drop (p + 1) = sw p r := by
  apply List.ext_getElem?
  intro i
  unfold sw
  by_cases a : i < p - 1
  · rw [List.append_assoc, List.getElem?_append_left (by rw [List.length_take]; omega), List.getElem?_take_of_lt a, List.getElem?_set_ne (by omega), List.getElem?_set_ne (by omega)]
  · by_cases b : i = p - 1
    · subst b
      rw [List.append_assoc, List.getElem?_append_right (by rw [List.length_take]; omega), List.length_take, List.getElem?_set_ne (by omega), List.getElem?_set_self (by omega)]
      have : p - 1 - min (p - 1) r.length = 0 := by omega
      rw [this]
      rfl
    · by_cases c : i = p
      · subst c
        rw [List.append_assoc, List.getElem?_append_right (by rw [List.length_take]; omega), List.length_take, List.getElem?_set_self (by simp; omega)]
        have : i - min (i - 1) r.length = 1 := by omega
        rw [this]
        rfl
      · rw [List.getElem?_append_right (by simp; omega), List.getElem?_set_ne (by omega), List.getElem?_set_ne (by omega), List.getElem?_drop]
        congr 1
        simp
        omega
theorem at_zs {r : List Int} {k : Nat} (h : k < r.length) : L2.atI (zs r) (k : Int) = some (.int (r.getD k 0)) := atI_of (by rw [List.getElem?_map, List.getElem?_eq_getElem h, List.getD_eq_getElem?_getD, List.getElem?_eq_getElem h]; rfl)
/-- rows[place - 1], rows[place] = (rows[place], rows[place - 1]) -/
theorem swap_ok {ρ : En} {st : Sto} {a b q p : Nat} {r : List Int} (ha : ρ[a]? = some (some (.ref q))) (hb : ρ[b]? = some (some (.int (p : Int)))) (h : st[q]? = some (.lst (zs r))) (h1 : 1 ≤ p) (h2 : p < r.length) :
    sAsg (eA dTup (aCons (e2 dIx (eSlot a) (eSlot b)) (aCons (e2 dIx (eSlot a) (e2 dSub (eSlot b) (eC (.int 1)))) aNil))) (gTup 2 (gCons (gSub (eSlot a) (e2 dSub (eSlot b) (eC (.int 1)))) (gCons (gSub (eSlot a) (eSlot b)) gNil))) ρ st = .nx ρ (st.set q (.lst (zs (sw p r)))) := by
  have hq : q < st.length := (List.getElem?_eq_some_iff.mp h).1
  have e1 : ((p : Int) - 1) = ((p - 1 : Nat) : Int) := by omega
  have i1 : dIx (.ref q) (.int (p : Int)) st = .ok (.int (r.getD p 0)) st := ix_at h (at_zs h2)
  have i2 : dIx (.ref q) (.int ((p : Int) - 1)) st = .ok (.int (r.getD (p - 1) 0)) st := by rw [e1]; exact ix_at h (at_zs (by omega))
  have s1 : dSet (.ref q) (.int ((p : Int) - 1)) (.int (r.getD p 0)) st = some (st.set q (.lst ((zs r).set (p - 1) (.int (r.getD p 0))))) := by rw [e1]; exact set_at _ h (by simp; omega)
  have g2 : (st.set q (.lst ((zs r).set (p - 1) (.int (r.getD p 0)))))[q]? = some (.lst ((zs r).set (p - 1) (.int (r.getD p 0)))) := List.getElem?_set_self hq
  have s2 := set_at (k := p) (.int (r.getD (p - 1) 0)) g2 (by simp; omega)
  have z : (((zs r).set (p - 1) (.int (r.getD p 0))).set p (.int (r.getD (p - 1) 0))) = zs (sw p r) := by
    unfold sw zs
    rw [List.map_set, List.map_set]
  rw [List.set_set, z] at s2
  simp -implicitDefEqProofs only [sasg_ev, ea_ev, acons_ev, e2_ev, slot_ev, ha, hb, two_ok, bind_ok, i1, ccat_ok, c_ev, sub_i, i2, anil_ev, cons_ok, tup2, asg_ok, gtup_ev, List.length_cons, List.length_nil, Nat.reduceAdd, if_true, gcons_ev, gsub_ev, rget_ok, sub1_ok, sub2_ok, s1, sub3_ok, gc_some, s2, gnil_ev, nxt_some]
/-- the first row -/
def idr (s : Nat) : List Int := (List.range s).map fun (i : Nat) => 1 + (i : Int)
@[simp] theorem idr_len (s : Nat) : (idr s).length = s := by simp [idr]
theorem rgD_idr (s : Nat) : rgD 1 ((s : Int) + 1) = zs (idr s) := by
  unfold rgD idr
  have : ((s : Int) + 1 - 1).toNat = s := by omega
  rw [this]
  show _ = ((List.range s).map fun (i : Nat) => 1 + (i : Int)).map D.int
  rw [List.map_map]
  rfl
theorem lr2 (s : Nat) (h : s ≤ 1000) (st : Sto) : dLR2 (.int 1) (.int ((s : Int) + 1)) st = .ok (.ref st.length) (st ++ [.lst (zs (idr s))]) := by
  have ok : rgOk 1 ((s : Int) + 1) = true := by
    unfold rgOk lim line
    exact decide_eq_true ⟨by omega, by omega, by omega, by omega, by omega⟩
  show (if rgOk 1 ((s : Int) + 1) then newLst (rgD 1 ((s : Int) + 1)) st else .bad) = _
  rw [if_pos ok, rgD_idr]
  rfl
theorem tr2 (s : Nat) (h : s ≤ 1000) (st : Sto) : dTR2 (.int 1) (.int ((s : Int) + 1)) st = .ok (.tup (zs (idr s))) st := by
  have ok : rgOk 1 ((s : Int) + 1) = true := by
    unfold rgOk lim line
    exact decide_eq_true ⟨by omega, by omega, by omega, by omega, by omega⟩
  have e : dTR2 (.int 1) (.int ((s : Int) + 1)) st = if rgOk 1 ((s : Int) + 1) then R.ok (.tup (rgD 1 ((s : Int) + 1))) st else .bad := rfl
  rw [e, if_pos ok, rgD_idr]
/-- a letter's place -/
theorem Lt.place {s : Nat} {z : Int} (h : Lt s z) : 1 ≤ z.natAbs ∧ z.natAbs < s := by
  obtain ⟨a, b, c⟩ := h
  omega
def rowsL (r : List Int) : List Int → List (List Int)
  | [] => [r]
  | z :: ws => r :: rowsL (sw z.natAbs r) ws
def lastR (r : List Int) : List Int → List Int
  | [] => r
  | z :: ws => lastR (sw z.natAbs r) ws
def sgn (z : Int) : Int := if 0 < z then 1 else -1
def crossL (r : List Int) : List Int → List (List Int)
  | [] => []
  | z :: ws => [r.getD (z.natAbs - 1) 0, r.getD z.natAbs 0, sgn z] :: crossL (sw z.natAbs r) ws
/-! rows_of -/
theorem rows_step (s : Nat) (m0 m1 o4 o5 : Option D) (z : Int) (hz : Lt s z) (acc : List (List Int)) (r : List Int) (hr : r.length = s) (hl : acc.length < 1000) (J : Sto) : ∃ (q4 q5 : Option D) (J' : Sto),
    c_rows_of_1 [m0, m1, some (.ref 0), some (.int z), o4, o5] (.lst (zss (acc ++ [r])) :: J) = .nx [m0, m1, some (.ref 0), some (.int z), q4, q5] (.lst (zss (acc ++ [r] ++ [sw z.natAbs r])) :: J') := by
  obtain ⟨p1, p2⟩ := hz.place
  have i1 : dIx (.ref 0) (.int (-1)) (.lst (zss (acc ++ [r])) :: J) = .ok (.tup (zs r)) (.lst (zss (acc ++ [r])) :: J) := ix_at rfl (by rw [zss, List.map_append]; exact atI_end _)
  have w := swap_ok (ρ := [m0, m1, some (.ref 0), some (.int z), some (.ref (J.length + 1)), some (.int (z.natAbs : Nat))]) (st := .lst (zss (acc ++ [r])) :: (J ++ [.lst (zs r)])) (a := 4) (b := 5) (q := J.length + 1) (p := z.natAbs) (r := r) rfl rfl (by simp) p1 (by omega)
  have st2 : (Cell.lst (zss (acc ++ [r])) :: (J ++ [Cell.lst (zs r)])).set (J.length + 1) (.lst (zs (sw z.natAbs r))) = .lst (zss (acc ++ [r])) :: (J ++ [.lst (zs (sw z.natAbs r))]) := by
    rw [List.set_cons_succ, set_last]
  rw [st2] at w
  have t1 : dTuple (.ref (J.length + 1)) (.lst (zss (acc ++ [r])) :: (J ++ [.lst (zs (sw z.natAbs r))])) = .ok (.tup (zs (sw z.natAbs r))) (.lst (zss (acc ++ [r])) :: (J ++ [.lst (zs (sw z.natAbs r))])) := tuple_at (by simp)
  have ap := app_ref (st := .lst (zss (acc ++ [r])) :: (J ++ [.lst (zs (sw z.natAbs r))])) (n := 0) (v := .tup (zs (sw z.natAbs r))) (xs := zss (acc ++ [r])) rfl (by simp; unfold line; omega)
  refine ⟨some (.ref (J.length + 1)), some (.int (z.natAbs : Nat)), J ++ [.lst (zs (sw z.natAbs r))], ?_⟩
  have fin : zss (acc ++ [r] ++ [sw z.natAbs r]) = zss (acc ++ [r]) ++ [.tup (zs (sw z.natAbs r))] := by simp [zss]
  rw [fin]
  have A : sAsg (eA (a1 dList) (aCons (e2 dIx (eSlot 2) (e1 dNeg (eC (.int 1)))) aNil)) (gSlot 4) [m0, m1, some (.ref 0), some (.int z), o4, o5] (.lst (zss (acc ++ [r])) :: J) = .nx [m0, m1, some (.ref 0), some (.int z), some (.ref (J.length + 1)), o5] (.lst (zss (acc ++ [r])) :: (J ++ [.lst (zs r)])) := by
    simp -implicitDefEqProofs only [sasg_ev, ea_ev, acons_ev, e2_ev, slot_ev, List.getElem?_cons_zero, List.getElem?_cons_succ, two_ok, e1_ev, c_ev, bind_ok, neg_i, i1, ccat_ok, anil_ev, cons_ok, a1_ev, list_tup, new_ev, List.length_cons, List.cons_append, asg_ok, gslot_ev, List.set_cons_succ, List.set_cons_zero, nxt_some]
  have B : sAsg (eA (a1 dAbs) (aCons (eSlot 3) aNil)) (gSlot 5) [m0, m1, some (.ref 0), some (.int z), some (.ref (J.length + 1)), o5] (.lst (zss (acc ++ [r])) :: (J ++ [.lst (zs r)])) = .nx [m0, m1, some (.ref 0), some (.int z), some (.ref (J.length + 1)), some (.int (z.natAbs : Nat))] (.lst (zss (acc ++ [r])) :: (J ++ [.lst (zs r)])) := by
    simp -implicitDefEqProofs only [sasg_ev, ea_ev, acons_ev, slot_ev, List.getElem?_cons_zero, List.getElem?_cons_succ, ccat_ok, anil_ev, cons_ok, bind_ok, a1_ev, abs_nat, asg_ok, gslot_ev, List.set_cons_succ, List.set_cons_zero, nxt_some]
  have C : sEx (eM (fun d _ => d.isRef) dAppend (eSlot 2) (eA (a1 dTuple) (aCons (eSlot 4) aNil))) [m0, m1, some (.ref 0), some (.int z), some (.ref (J.length + 1)), some (.int (z.natAbs : Nat))] (.lst (zss (acc ++ [r])) :: (J ++ [.lst (zs (sw z.natAbs r))])) = .nx [m0, m1, some (.ref 0), some (.int z), some (.ref (J.length + 1)), some (.int (z.natAbs : Nat))] (.lst (zss (acc ++ [r]) ++ [.tup (zs (sw z.natAbs r))]) :: (J ++ [.lst (zs (sw z.natAbs r))])) := by
    simp -implicitDefEqProofs only [sex_ev, em_ev, slot_ev, List.getElem?_cons_zero, List.getElem?_cons_succ, mth_ok, isref_ref, ea_ev, acons_ev, ccat_ok, anil_ev, cons_ok, bind_ok, a1_ev, t1, mth2_t, ap, drop_ok, List.set_cons_zero]
  unfold c_rows_of_1
  rw [sseq_ev, A, thn_nx, sseq_ev, B, thn_nx, sseq_ev, w, thn_nx, C]
/-- demand_plait(strands, word) -/
theorem demand_st (s : Nat) (hs : 2 ≤ s ∧ s ≤ 7) (ws : List Int) (hw : Wd s ws) (hl : ws.length ≤ 60) (ρ : En) (st : Sto) (h0 : ρ[0]? = some (some (.int s))) (h1 : ρ[1]? = some (some (.tup (zs ws)))) :
    sEx (eA (fun as st => callP s_demand_plait (as ++ [.str "word"]) st) (aCons (eSlot 0) (aCons (eSlot 1) aNil))) ρ st = .nx ρ st := by
  have p := plait_ok s ⟨by omega, by omega⟩ ws hw hl "word" st
  simp -implicitDefEqProofs only [sex_ev, ea_ev, acons_ev, slot_ev, h0, h1, ccat_ok, anil_ev, cons_ok, bind_ok, List.cons_append, List.nil_append, p, drop_ok]
theorem zs_cons {us : List Int} {x : D} {xs : List D} (h : x :: xs = zs us) : ∃ z vs, us = z :: vs ∧ x = .int z ∧ xs = zs vs := by
  cases us with
  | nil => cases h
  | cons z vs =>
    rw [zs, List.map_cons] at h
    cases h
    exact ⟨z, vs, rfl, rfl, rfl⟩
theorem zs_nil {us : List Int} (h : [] = zs us) : us = [] := by
  cases us with
  | nil => rfl
  | cons z vs => cases h
theorem Wd.tail {s : Int} {z : Int} {ws : List Int} (h : Wd s (z :: ws)) : Wd s ws := fun y m => h y (List.mem_cons_of_mem _ m)
theorem rows_of1 (s : Nat) (hs : 2 ≤ s ∧ s ≤ 7) (ws : List Int) (hw : Wd s ws) (hl : ws.length ≤ 60) : s_rows_of [.int s, .tup (zs ws)] [] = .ok (.tup (zss (rowsL (idr s) ws))) [] := by
  have loop := forL_ok (g := gSlot 3) (b := c_rows_of_1) (w := []) (P := fun xs ρ st => ∃ (us : List Int) (r : List Int) (acc : List (List Int)) (o3 o4 o5 : Option D) (J : Sto), xs = zs us ∧ Wd s us ∧ r.length = s ∧ acc.length + us.length ≤ 60 ∧ acc ++ rowsL r us = rowsL (idr s) ws ∧ ρ = [some (.int s), some (.tup (zs ws)), some (.ref 0), o3, o4, o5] ∧ st = .lst (zss (acc ++ [r])) :: J)
    (fun _ _ _ _ => rfl) (by
      rintro x xs ρ st ⟨us, r, acc, o3, o4, o5, J, hx, hu, hr, ha, he, rfl, rfl⟩
      obtain ⟨z, vs, rfl, rfl, rfl⟩ := zs_cons hx
      rw [List.length_cons] at ha
      obtain ⟨q4, q5, J', e⟩ := rows_step s (some (.int s)) (some (.tup (zs ws))) o4 o5 z (hu z (by simp)) acc r hr (by omega) J
      refine ⟨_, _, rfl, _, _, .inl e, vs, sw z.natAbs r, acc ++ [r], _, q4, q5, J', rfl, hu.tail, by simp [hr], by simp; omega, ?_, rfl, rfl⟩
      rw [← he, List.append_assoc]
      rfl)
  obtain ⟨ρ', st', e, us, r, acc, o3, o4, o5, J, hx, _, hr, ha, he, rfl, rfl⟩ := loop (zs ws) [some (.int s), some (.tup (zs ws)), some (.ref 0), none, none, none] [.lst (zss [idr s])] ⟨ws, idr s, [], none, none, none, [], rfl, hw, by simp, by simpa using hl, rfl, rfl, rfl⟩
  have := zs_nil hx
  subst this
  have he' : acc ++ [r] = rowsL (idr s) ws := he
  rw [he'] at e
  have D0 := demand_st s hs ws hw hl [some (.int s), some (.tup (zs ws)), none, none, none, none] [] rfl rfl
  have t2 := tr2 s (by omega) []
  refine sem_rt (b := b_rows_of) (n := 6) (d := .tup (zss (rowsL (idr s) ws))) (st' := .lst (zss (rowsL (idr s) ws)) :: J) ?_ (by rw [fin_tup (by simp)]; rfl)
  have A : sAsg (eA dLst (aCons (e2 dTR2 (eC (.int 1)) (e2 dAdd (eSlot 0) (eC (.int 1)))) aNil)) (gSlot 2) [some (.int s), some (.tup (zs ws)), none, none, none, none] [] = .nx [some (.int s), some (.tup (zs ws)), some (.ref 0), none, none, none] [.lst (zss [idr s])] := by
    simp -implicitDefEqProofs only [sasg_ev, ea_ev, acons_ev, e2_ev, slot_ev, List.getElem?_cons_zero, List.getElem?_cons_succ, two_ok, c_ev, bind_ok, add_i, t2, ccat_ok, anil_ev, cons_ok, lst1, asg_ok, gslot_ev, List.set_cons_succ, List.set_cons_zero, nxt_some, List.length_nil, List.nil_append]
    rfl
  have B : sFor (iSeq (eSlot 1)) (gSlot 3) c_rows_of_1 [some (.int s), some (.tup (zs ws)), some (.ref 0), none, none, none] [.lst (zss [idr s])] = _ := (show _ = forL (gSlot 3) c_rows_of_1 [] (zs ws) _ _ by
    simp -implicitDefEqProofs only [sfor_ev, iseq_ev, slot_ev, List.getElem?_cons_zero, List.getElem?_cons_succ, bind_ok, itseq_tup, forI_ok]).trans e
  have C : sRet (eA (a1 dTuple) (aCons (eSlot 2) aNil)) [some (.int s), some (.tup (zs ws)), some (.ref 0), o3, o4, o5] (.lst (zss (rowsL (idr s) ws)) :: J) = .rt (.tup (zss (rowsL (idr s) ws))) (.lst (zss (rowsL (idr s) ws)) :: J) := by
    have t := tuple_at (st := .lst (zss (rowsL (idr s) ws)) :: J) (q := 0) rfl
    simp -implicitDefEqProofs only [sret_ev, ea_ev, acons_ev, slot_ev, List.getElem?_cons_zero, List.getElem?_cons_succ, ccat_ok, anil_ev, cons_ok, bind_ok, a1_ev, t, ret_ok]
  show b_rows_of [some (.int s), some (.tup (zs ws)), none, none, none, none] [] = _
  unfold b_rows_of
  rw [sseq_ev, D0, thn_nx, sseq_ev, A, thn_nx, sseq_ev, B, thn_nx, C]
theorem rows_of_ok (s : Nat) (hs : 2 ≤ s ∧ s ≤ 7) (ws : List Int) (hw : Wd s ws) (hl : ws.length ≤ 60) (st : Sto) : callP s_rows_of [.int s, .tup (zs ws)] st = .ok (.tup (zss (rowsL (idr s) ws))) st := callP_of (by simp) (rows_of1 s hs ws hw hl)
end Com

set_option maxHeartbeats 2000000
/-! crossings, ends_of -/
namespace Com
open PySem PySem.Spec PV
theorem sgn_if {ρ : En} {st : Sto} {k : Nat} {z : Int} (h : ρ[k]? = some (some (.int z))) : eIf (tE (e2 dGt (eSlot k) (eC (.int 0)))) (eC (.int 1)) (e1 dNeg (eC (.int 1))) ρ st = .ok (.int (sgn z)) st := by
  by_cases hz : 0 < z
  · simp -implicitDefEqProofs [h, hz, sgn]
  · simp -implicitDefEqProofs [h, hz, sgn]
theorem cross_step (s : Nat) (m0 m1 o5 : Option D) (z : Int) (hz : Lt s z) (acc : List (List Int)) (r : List Int) (hr : r.length = s) (hl : acc.length < 1000) : ∃ q5,
    c_crossings_1 [m0, m1, some (.ref 0), some (.ref 1), some (.int z), o5] [.lst (zs r), .lst (zss acc)] = .nx [m0, m1, some (.ref 0), some (.ref 1), some (.int z), q5] [.lst (zs (sw z.natAbs r)), .lst (zss (acc ++ [[r.getD (z.natAbs - 1) 0, r.getD z.natAbs 0, sgn z]]))] := by
  obtain ⟨p1, p2⟩ := hz.place
  have hz1 : ((z.natAbs : Int) - 1) = ((z.natAbs - 1 : Nat) : Int) := by omega
  have i1 : dIx (.ref 0) (.int (z.natAbs : Nat)) [.lst (zs r), .lst (zss acc)] = .ok (.int (r.getD z.natAbs 0)) [.lst (zs r), .lst (zss acc)] := ix_at rfl (at_zs (by omega))
  have i2 : dIx (.ref 0) (.int ((z.natAbs : Nat) - 1)) [.lst (zs r), .lst (zss acc)] = .ok (.int (r.getD (z.natAbs - 1) 0)) [.lst (zs r), .lst (zss acc)] := by rw [hz1]; exact ix_at rfl (at_zs (by omega))
  have ap := app_ref (st := [.lst (zs r), .lst (zss acc)]) (n := 1) (v := .tup [.int (r.getD (z.natAbs - 1) 0), .int (r.getD z.natAbs 0), .int (sgn z)]) (xs := zss acc) rfl (by simp; unfold line; omega)
  have A : sAsg (eA (a1 dAbs) (aCons (eSlot 4) aNil)) (gSlot 5) [m0, m1, some (.ref 0), some (.ref 1), some (.int z), o5] [.lst (zs r), .lst (zss acc)] = .nx [m0, m1, some (.ref 0), some (.ref 1), some (.int z), some (.int (z.natAbs : Nat))] [.lst (zs r), .lst (zss acc)] := by
    simp -implicitDefEqProofs only [sasg_ev, ea_ev, acons_ev, slot_ev, List.getElem?_cons_zero, List.getElem?_cons_succ, ccat_ok, anil_ev, cons_ok, bind_ok, a1_ev, abs_nat, asg_ok, gslot_ev, List.set_cons_succ, List.set_cons_zero, nxt_some]
  have sg := sgn_if (ρ := [m0, m1, some (.ref 0), some (.ref 1), some (.int z), some (.int (z.natAbs : Nat))]) (st := [.lst (zs r), .lst (zss acc)]) (k := 4) (z := z) rfl
  have B : sEx (eM (fun d _ => d.isRef) dAppend (eSlot 3) (eA dTup (aCons (e2 dIx (eSlot 2) (e2 dSub (eSlot 5) (eC (.int 1)))) (aCons (e2 dIx (eSlot 2) (eSlot 5)) (aCons (eIf (tE (e2 dGt (eSlot 4) (eC (.int 0)))) (eC (.int 1)) (e1 dNeg (eC (.int 1)))) aNil))))) [m0, m1, some (.ref 0), some (.ref 1), some (.int z), some (.int (z.natAbs : Nat))] [.lst (zs r), .lst (zss acc)] = .nx [m0, m1, some (.ref 0), some (.ref 1), some (.int z), some (.int (z.natAbs : Nat))] [.lst (zs r), .lst (zss acc ++ [.tup [.int (r.getD (z.natAbs - 1) 0), .int (r.getD z.natAbs 0), .int (sgn z)]])] := by
    rw [sex_ev, em_ev, slot_ev]
    simp -implicitDefEqProofs only [List.getElem?_cons_zero, List.getElem?_cons_succ, mth_ok, isref_ref, mth2_t]
    rw [ea_ev, acons_ev, e2_ev, slot_ev]
    simp -implicitDefEqProofs only [List.getElem?_cons_zero, List.getElem?_cons_succ, two_ok, e2_ev, slot_ev, c_ev, bind_ok, sub_i, i2, ccat_ok]
    rw [acons_ev, e2_ev, slot_ev]
    simp -implicitDefEqProofs only [List.getElem?_cons_zero, List.getElem?_cons_succ, two_ok, slot_ev, bind_ok, i1, ccat_ok]
    rw [acons_ev, sg, ccat_ok, anil_ev, cons_ok, cons_ok, cons_ok, bind_ok, tup3, bind_ok, ap, drop_ok]
    rfl
  have w := swap_ok (ρ := [m0, m1, some (.ref 0), some (.ref 1), some (.int z), some (.int (z.natAbs : Nat))]) (st := [.lst (zs r), .lst (zss acc ++ [.tup [.int (r.getD (z.natAbs - 1) 0), .int (r.getD z.natAbs 0), .int (sgn z)]])]) (a := 2) (b := 5) (q := 0) (p := z.natAbs) (r := r) rfl rfl rfl p1 (by omega)
  refine ⟨some (.int (z.natAbs : Nat)), ?_⟩
  have fin : zss (acc ++ [[r.getD (z.natAbs - 1) 0, r.getD z.natAbs 0, sgn z]]) = zss acc ++ [.tup [.int (r.getD (z.natAbs - 1) 0), .int (r.getD z.natAbs 0), .int (sgn z)]] := by rw [zss, List.map_append]; rfl
  rw [fin]
  unfold c_crossings_1
  rw [sseq_ev, A, thn_nx, sseq_ev, B, thn_nx, w]
  rfl
theorem crossings1 (s : Nat) (hs : 2 ≤ s ∧ s ≤ 7) (ws : List Int) (hw : Wd s ws) (hl : ws.length ≤ 60) : s_crossings [.int s, .tup (zs ws)] [] = .ok (.tup (zss (crossL (idr s) ws))) [] := by
  have loop := forL_ok (g := gSlot 4) (b := c_crossings_1) (w := []) (P := fun xs ρ st => ∃ (us : List Int) (r : List Int) (acc : List (List Int)) (o4 o5 : Option D), xs = zs us ∧ Wd s us ∧ r.length = s ∧ acc.length + us.length ≤ 60 ∧ acc ++ crossL r us = crossL (idr s) ws ∧ ρ = [some (.int s), some (.tup (zs ws)), some (.ref 0), some (.ref 1), o4, o5] ∧ st = [.lst (zs r), .lst (zss acc)])
    (fun _ _ _ _ => rfl) (by
      rintro x xs ρ st ⟨us, r, acc, o4, o5, hx, hu, hr, ha, he, rfl, rfl⟩
      obtain ⟨z, vs, rfl, rfl, rfl⟩ := zs_cons hx
      rw [List.length_cons] at ha
      obtain ⟨q5, e⟩ := cross_step s (some (.int s)) (some (.tup (zs ws))) o5 z (hu z (by simp)) acc r hr (by omega)
      refine ⟨_, _, rfl, _, _, .inl e, vs, sw z.natAbs r, _, _, q5, rfl, hu.tail, by simp [hr], by simp; omega, ?_, rfl, rfl⟩
      rw [← he, List.append_assoc]
      rfl)
  obtain ⟨ρ', st', e, us, r, acc, o4, o5, hx, _, hr, ha, he, rfl, rfl⟩ := loop (zs ws) [some (.int s), some (.tup (zs ws)), some (.ref 0), some (.ref 1), none, none] [.lst (zs (idr s)), .lst []] ⟨ws, idr s, [], none, none, rfl, hw, by simp, by simpa using hl, rfl, rfl, rfl⟩
  have := zs_nil hx
  subst this
  have he' : acc = crossL (idr s) ws := by rw [← he]; simp [crossL]
  subst he'
  have D0 := demand_st s hs ws hw hl [some (.int s), some (.tup (zs ws)), none, none, none, none] [] rfl rfl
  have l2 := lr2 s (by omega) []
  refine sem_rt (b := b_crossings) (n := 6) (d := .tup (zss (crossL (idr s) ws))) (st' := [.lst (zs r), .lst (zss (crossL (idr s) ws))]) ?_ (by rw [fin_tup (by simp)]; rfl)
  have A : sAsg (e2 dLR2 (eC (.int 1)) (e2 dAdd (eSlot 0) (eC (.int 1)))) (gSlot 2) [some (.int s), some (.tup (zs ws)), none, none, none, none] [] = .nx [some (.int s), some (.tup (zs ws)), some (.ref 0), none, none, none] [.lst (zs (idr s))] := by
    simp -implicitDefEqProofs only [sasg_ev, e2_ev, slot_ev, List.getElem?_cons_zero, List.getElem?_cons_succ, two_ok, c_ev, bind_ok, add_i, l2, asg_ok, gslot_ev, List.set_cons_succ, List.set_cons_zero, nxt_some, List.length_nil, List.nil_append]
  have A2 : sAsg (eA dLst aNil) (gSlot 3) [some (.int s), some (.tup (zs ws)), some (.ref 0), none, none, none] [.lst (zs (idr s))] = .nx [some (.int s), some (.tup (zs ws)), some (.ref 0), some (.ref 1), none, none] [.lst (zs (idr s)), .lst []] := rfl
  have B : sFor (iSeq (eSlot 1)) (gSlot 4) c_crossings_1 [some (.int s), some (.tup (zs ws)), some (.ref 0), some (.ref 1), none, none] [.lst (zs (idr s)), .lst []] = _ := (show _ = forL (gSlot 4) c_crossings_1 [] (zs ws) _ _ by
    simp -implicitDefEqProofs only [sfor_ev, iseq_ev, slot_ev, List.getElem?_cons_zero, List.getElem?_cons_succ, bind_ok, itseq_tup, forI_ok]).trans e
  have C : sRet (eA (a1 dTuple) (aCons (eSlot 3) aNil)) [some (.int s), some (.tup (zs ws)), some (.ref 0), some (.ref 1), o4, o5] [.lst (zs r), .lst (zss (crossL (idr s) ws))] = .rt (.tup (zss (crossL (idr s) ws))) [.lst (zs r), .lst (zss (crossL (idr s) ws))] := by
    have t := tuple_at (st := [.lst (zs r), .lst (zss (crossL (idr s) ws))]) (q := 1) rfl
    simp -implicitDefEqProofs only [sret_ev, ea_ev, acons_ev, slot_ev, List.getElem?_cons_zero, List.getElem?_cons_succ, ccat_ok, anil_ev, cons_ok, bind_ok, a1_ev, t, ret_ok]
  show b_crossings [some (.int s), some (.tup (zs ws)), none, none, none, none] [] = _
  unfold b_crossings
  rw [sseq_ev, D0, thn_nx, sseq_ev, A, thn_nx, sseq_ev, A2, thn_nx, sseq_ev, B, thn_nx, C]
theorem crossings_ok (s : Nat) (hs : 2 ≤ s ∧ s ≤ 7) (ws : List Int) (hw : Wd s ws) (hl : ws.length ≤ 60) (st : Sto) : callP s_crossings [.int s, .tup (zs ws)] st = .ok (.tup (zss (crossL (idr s) ws))) st := callP_of (by simp) (crossings1 s hs ws hw hl)
/-! ends_of -/
def endsOf : Nat → List Int → List Int → List Int
  | _, E, [] => E
  | i, E, x :: r => endsOf (i + 1) (E.set (x - 1).toNat ((i : Int) + 1)) r
theorem perm_sw {p : Nat} {r : List Int} (h1 : 1 ≤ p) (h2 : p < r.length) : (sw p r).Perm r := by
  rw [← sw_cut h1 h2]
  have e : r = r.take (p - 1) ++ [r.getD (p - 1) 0, r.getD p 0] ++ r.drop (p + 1) := by
    have a : r = r.take (p - 1) ++ r.drop (p - 1) := (List.take_append_drop _ _).symm
    have b : r.drop (p - 1) = r.getD (p - 1) 0 :: r.drop p := by
      rw [List.drop_eq_getElem_cons (by omega : p - 1 < r.length), List.getD_eq_getElem?_getD, List.getElem?_eq_getElem (by omega : p - 1 < r.length)]
      have : p - 1 + 1 = p := by omega
      rw [this]
      rfl
    have c : r.drop p = r.getD p 0 :: r.drop (p + 1) := by
      rw [List.drop_eq_getElem_cons h2, List.getD_eq_getElem?_getD, List.getElem?_eq_getElem h2]
      rfl
    rw [b, c] at a
    rw [List.append_assoc]
    exact a
  refine List.Perm.trans ?_ (List.Perm.of_eq e.symm)
  rw [List.append_assoc, List.append_assoc]
  exact List.Perm.append_left _ (List.Perm.append_right _ (List.Perm.swap _ _ _))
theorem lastR_perm {s : Nat} : ∀ (ws : List Int) (r : List Int), Wd s ws → r.length = s → (lastR r ws).Perm r
  | [], r, _, _ => List.Perm.refl _
  | z :: ws, r, h, hr => by
    obtain ⟨p1, p2⟩ := (h z (by simp)).place
    exact (lastR_perm ws (sw z.natAbs r) h.tail (by simp [hr])).trans (perm_sw p1 (by omega))
theorem mem_idr {s : Nat} {x : Int} : x ∈ idr s ↔ 1 ≤ x ∧ x ≤ s := by
  unfold idr
  rw [List.mem_map]
  constructor
  · rintro ⟨k, hk, rfl⟩
    have := List.mem_range.mp hk
    omega
  · rintro ⟨h1, h2⟩
    exact ⟨(x - 1).toNat, List.mem_range.mpr (by omega), by omega⟩
theorem idr_nodup (s : Nat) : (idr s).Nodup := by
  unfold idr
  exact List.Pairwise.map _ (fun a b h e => h (by omega)) List.nodup_range
end Com

set_option maxHeartbeats 2000000
/-! ends_of, and what it is -/
namespace Com
open PySem PySem.Spec PV
theorem ends_step1 (s : Nat) (m0 m1 o4 o5 o6 : Option D) (z : Int) (hz : Lt s z) (r : List Int) (hr : r.length = s) : ∃ q4,
    c_ends_of_1 [m0, m1, some (.ref 0), some (.int z), o4, o5, o6] [.lst (zs r)] = .nx [m0, m1, some (.ref 0), some (.int z), q4, o5, o6] [.lst (zs (sw z.natAbs r))] := by
  obtain ⟨p1, p2⟩ := hz.place
  have A : sAsg (eA (a1 dAbs) (aCons (eSlot 3) aNil)) (gSlot 4) [m0, m1, some (.ref 0), some (.int z), o4, o5, o6] [.lst (zs r)] = .nx [m0, m1, some (.ref 0), some (.int z), some (.int (z.natAbs : Nat)), o5, o6] [.lst (zs r)] := by
    simp -implicitDefEqProofs only [sasg_ev, ea_ev, acons_ev, slot_ev, List.getElem?_cons_zero, List.getElem?_cons_succ, ccat_ok, anil_ev, cons_ok, bind_ok, a1_ev, abs_nat, asg_ok, gslot_ev, List.set_cons_succ, List.set_cons_zero, nxt_some]
  have w := swap_ok (ρ := [m0, m1, some (.ref 0), some (.int z), some (.int (z.natAbs : Nat)), o5, o6]) (st := [.lst (zs r)]) (a := 2) (b := 4) (q := 0) (p := z.natAbs) (r := r) rfl rfl rfl p1 (by omega)
  refine ⟨some (.int (z.natAbs : Nat)), ?_⟩
  unfold c_ends_of_1
  rw [sseq_ev, A, thn_nx, w]
  rfl
theorem endsOf_len : ∀ (i : Nat) (E r : List Int), (endsOf i E r).length = E.length
  | _, _, [] => rfl
  | i, E, x :: r => by
    rw [endsOf, endsOf_len]
    simp
theorem enumL_zs (i : Nat) (x : Int) (r : List Int) : enumL i (zs (x :: r)) = .tpw [.int (i : Nat), .int x] :: enumL (i + 1) (zs r) := rfl
theorem ends_loop (m0 m1 o3 : Option D) (R J : List D) : ∀ (r : List Int) (i : Nat) (E : List Int) (o4 o6 : Option D), (∀ x ∈ r, 1 ≤ x ∧ x ≤ E.length) → ∃ q4 q6,
    forL (gTup 2 (gCons (gSlot 4) (gCons (gSlot 6) gNil))) c_ends_of_2 [(0, R)] (enumL i (zs r)) [m0, m1, some (.ref 0), o3, o4, some (.ref 2), o6] [.lst R, .lst J, .lst (zs E)] = .nx [m0, m1, some (.ref 0), o3, q4, some (.ref 2), q6] [.lst R, .lst J, .lst (zs (endsOf i E r))]
  | [], i, E, o4, o6, _ => by
    have w : okW [Cell.lst R, .lst J, .lst (zs E)] [(0, R)] = true := okW_one rfl
    refine ⟨o4, o6, ?_⟩
    rw [zs, List.map_nil, enumL]
    unfold forL
    rw [if_pos w]
    rfl
  | x :: r, i, E, o4, o6, h => by
    have w : okW [Cell.lst R, .lst J, .lst (zs E)] [(0, R)] = true := okW_one rfl
    obtain ⟨x1, x2⟩ := h x (by simp)
    have hx : (x - 1 : Int) = ((x - 1).toNat : Nat) := by omega
    have S1 : dSet (.ref 2) (.int (x - 1)) (.int ((i : Int) + 1)) [.lst R, .lst J, .lst (zs E)] = some [.lst R, .lst J, .lst (zs (E.set (x - 1).toNat ((i : Int) + 1)))] := by
      have := set_at (st := [.lst R, .lst J, .lst (zs E)]) (q := 2) (k := (x - 1).toNat) (xs := zs E) (.int ((i : Int) + 1)) rfl (by simp; omega)
      rw [← hx] at this
      rw [this]
      show some [Cell.lst R, .lst J, .lst ((zs E).set _ _)] = _
      rw [zs, ← List.map_set]
    have B : c_ends_of_2 [m0, m1, some (.ref 0), o3, some (.int (i : Nat)), some (.ref 2), some (.int x)] [.lst R, .lst J, .lst (zs E)] = .nx [m0, m1, some (.ref 0), o3, some (.int (i : Nat)), some (.ref 2), some (.int x)] [.lst R, .lst J, .lst (zs (E.set (x - 1).toNat ((i : Int) + 1)))] := by
      unfold c_ends_of_2
      simp -implicitDefEqProofs only [sasg_ev, e2_ev, slot_ev, List.getElem?_cons_zero, List.getElem?_cons_succ, two_ok, c_ev, bind_ok, add_i, asg_ok, gsub_ev, rget_ok, sub1_ok, sub_i, sub2_ok, S1, sub3_ok, nxt_some]
    obtain ⟨q4, q6, e⟩ := ends_loop m0 m1 o3 R J r (i + 1) (E.set (x - 1).toNat ((i : Int) + 1)) (some (.int (i : Nat))) (some (.int x)) (fun y m => by
      rw [List.length_set]
      exact h y (List.mem_cons_of_mem _ m))
    refine ⟨q4, q6, ?_⟩
    rw [enumL_zs]
    unfold forL
    rw [if_pos w]
    show (match c_ends_of_2 [m0, m1, some (.ref 0), o3, some (.int (i : Nat)), some (.ref 2), some (.int x)] [.lst R, .lst J, .lst (zs E)] with
      | .nx ρ2 st2 => forL _ c_ends_of_2 [(0, R)] (enumL (i + 1) (zs r)) ρ2 st2
      | .ct ρ2 st2 => forL _ c_ends_of_2 [(0, R)] (enumL (i + 1) (zs r)) ρ2 st2
      | .bk ρ2 st2 => .nx ρ2 st2
      | r => r) = _
    rw [B]
    exact e
theorem mul_at {st : Sto} {q : Nat} {xs : List D} {k : Nat} (h : st[q]? = some (.lst xs)) (hk : k ≤ 1000) (hl : xs.length ≤ 10) : dMul (.ref q) (.int (k : Int)) st = .ok (.ref st.length) (st ++ [.lst (List.replicate k xs).flatten]) := by
  have e : trkOf (.ref q) st = some xs := by rw [trk_ref, h]
  have b : xs.length * k ≤ line := by
    have := Nat.mul_le_mul hl hk
    unfold line
    omega
  show (match trkOf (.ref q) st with
    | some xs => if -1000000 ≤ (k : Int) ∧ (k : Int) ≤ 1000000 ∧ xs.length * (k : Int).toNat ≤ line then newLst (List.replicate (k : Int).toNat xs).flatten st else .bad
    | _ => .bad) = _
  rw [e]
  have t : (k : Int).toNat = k := by omega
  show (if -1000000 ≤ (k : Int) ∧ (k : Int) ≤ 1000000 ∧ xs.length * (k : Int).toNat ≤ line then newLst (List.replicate (k : Int).toNat xs).flatten st else .bad) = _
  rw [t, if_pos ⟨by omega, by omega, b⟩]
  rfl
theorem rep_one (k : Nat) (x : D) : (List.replicate k [x]).flatten = List.replicate k x := by
  induction k with
  | zero => rfl
  | succ k ih => rw [List.replicate_succ, List.flatten_cons, ih]; rfl
/-- the ends of a word -/
def endsW (s : Nat) (ws : List Int) : List Int := endsOf 0 (List.replicate s 0) (lastR (idr s) ws)
theorem ends_of1 (s : Nat) (hs : 2 ≤ s ∧ s ≤ 7) (ws : List Int) (hw : Wd s ws) : s_ends_of [.int s, .tup (zs ws)] [] = .ok (.tup (zs (endsW s ws))) [] := by
  have loop := forL_ok (g := gSlot 3) (b := c_ends_of_1) (w := []) (P := fun xs ρ st => ∃ (us : List Int) (r : List Int) (o3 o4 : Option D), xs = zs us ∧ Wd s us ∧ r.length = s ∧ lastR r us = lastR (idr s) ws ∧ ρ = [some (.int s), some (.tup (zs ws)), some (.ref 0), o3, o4, none, none] ∧ st = [.lst (zs r)])
    (fun _ _ _ _ => rfl) (by
      rintro x xs ρ st ⟨us, r, o3, o4, hx, hu, hr, he, rfl, rfl⟩
      obtain ⟨z, vs, rfl, rfl, rfl⟩ := zs_cons hx
      obtain ⟨q4, e⟩ := ends_step1 s (some (.int s)) (some (.tup (zs ws))) o4 none none z (hu z (by simp)) r hr
      exact ⟨_, _, rfl, _, _, .inl e, vs, sw z.natAbs r, _, q4, rfl, hu.tail, by simp [hr], he, rfl, rfl⟩)
  obtain ⟨ρ', st', e, us, r, o3, o4, hx, _, hr, he, rfl, rfl⟩ := loop (zs ws) [some (.int s), some (.tup (zs ws)), some (.ref 0), none, none, none, none] [.lst (zs (idr s))] ⟨ws, idr s, none, none, rfl, hw, by simp, rfl, rfl, rfl⟩
  have := zs_nil hx
  subst this
  have he' : r = lastR (idr s) ws := he
  have pm : r.Perm (idr s) := by rw [he']; exact lastR_perm ws (idr s) hw (by simp)
  have l2 := lr2 s (by omega) []
  have A : sAsg (e2 dLR2 (eC (.int 1)) (e2 dAdd (eSlot 0) (eC (.int 1)))) (gSlot 2) [some (.int s), some (.tup (zs ws)), none, none, none, none, none] [] = .nx [some (.int s), some (.tup (zs ws)), some (.ref 0), none, none, none, none] [.lst (zs (idr s))] := by
    simp -implicitDefEqProofs only [sasg_ev, e2_ev, slot_ev, List.getElem?_cons_zero, List.getElem?_cons_succ, two_ok, c_ev, bind_ok, add_i, l2, asg_ok, gslot_ev, List.set_cons_succ, List.set_cons_zero, nxt_some, List.length_nil, List.nil_append]
  have B : sFor (iSeq (eSlot 1)) (gSlot 3) c_ends_of_1 [some (.int s), some (.tup (zs ws)), some (.ref 0), none, none, none, none] [.lst (zs (idr s))] = _ := (show _ = forL (gSlot 3) c_ends_of_1 [] (zs ws) _ _ by
    simp -implicitDefEqProofs only [sfor_ev, iseq_ev, slot_ev, List.getElem?_cons_zero, List.getElem?_cons_succ, bind_ok, itseq_tup, forI_ok]).trans e
  have m2 := mul_at (st := [.lst (zs r), .lst [.int 0]]) (q := 1) (xs := [.int 0]) (k := s) rfl (by omega) (by simp)
  rw [rep_one] at m2
  have zr : List.replicate s (D.int 0) = zs (List.replicate s 0) := by rw [zs, List.map_replicate]
  rw [zr] at m2
  have A2 : sAsg (e2 dMul (eA dLst (aCons (eC (.int 0)) aNil)) (eSlot 0)) (gSlot 5) [some (.int s), some (.tup (zs ws)), some (.ref 0), o3, o4, none, none] [.lst (zs r)] = .nx [some (.int s), some (.tup (zs ws)), some (.ref 0), o3, o4, some (.ref 2), none] [.lst (zs r), .lst [.int 0], .lst (zs (List.replicate s 0))] := by
    simp -implicitDefEqProofs only [sasg_ev, e2_ev, ea_ev, acons_ev, c_ev, ccat_ok, anil_ev, cons_ok, bind_ok, lst1, List.length_cons, List.length_nil, Nat.reduceAdd, List.cons_append, List.nil_append, two_ok, slot_ev, List.getElem?_cons_zero, List.getElem?_cons_succ, m2, asg_ok, gslot_ev, List.set_cons_succ, List.set_cons_zero, nxt_some]
  obtain ⟨q4, q6, e2⟩ := ends_loop (some (.int s)) (some (.tup (zs ws))) o3 (zs r) [.int 0] r 0 (List.replicate s 0) o4 none (fun x m => by
    have := mem_idr.mp (pm.mem_iff.mp m)
    rw [List.length_replicate]
    exact this)
  have B2 : sFor (iEnum (eSlot 2)) (gTup 2 (gCons (gSlot 4) (gCons (gSlot 6) gNil))) c_ends_of_2 [some (.int s), some (.tup (zs ws)), some (.ref 0), o3, o4, some (.ref 2), none] [.lst (zs r), .lst [.int 0], .lst (zs (List.replicate s 0))] = _ := (show _ = forL (gTup 2 (gCons (gSlot 4) (gCons (gSlot 6) gNil))) c_ends_of_2 [(0, zs r)] (enumL 0 (zs r)) _ _ by
    have it : itEnum (.ref 0) [.lst (zs r), .lst [.int 0], .lst (zs (List.replicate s 0))] = .ok ⟨enumL 0 (zs r), [(0, zs r)]⟩ [.lst (zs r), .lst [.int 0], .lst (zs (List.replicate s 0))] := rfl
    simp -implicitDefEqProofs only [sfor_ev, ienum_ev, slot_ev, List.getElem?_cons_zero, List.getElem?_cons_succ, bind_ok, it, forI_ok]).trans e2
  refine sem_rt (b := b_ends_of) (n := 7) (d := .tup (zs (endsW s ws))) (st' := [.lst (zs r), .lst [.int 0], .lst (zs (endsW s ws))]) ?_ (by rw [fin_tup (by simp)]; rfl)
  have C : sRet (eA (a1 dTuple) (aCons (eSlot 5) aNil)) [some (.int s), some (.tup (zs ws)), some (.ref 0), o3, q4, some (.ref 2), q6] [.lst (zs r), .lst [.int 0], .lst (zs (endsOf 0 (List.replicate s 0) r))] = .rt (.tup (zs (endsW s ws))) [.lst (zs r), .lst [.int 0], .lst (zs (endsW s ws))] := by
    have t := tuple_at (st := [.lst (zs r), .lst [.int 0], .lst (zs (endsOf 0 (List.replicate s 0) r))]) (q := 2) rfl
    simp -implicitDefEqProofs only [sret_ev, ea_ev, acons_ev, slot_ev, List.getElem?_cons_zero, List.getElem?_cons_succ, ccat_ok, anil_ev, cons_ok, bind_ok, a1_ev, t, ret_ok]
    unfold endsW
    rw [← he']
  show b_ends_of [some (.int s), some (.tup (zs ws)), none, none, none, none, none] [] = _
  unfold b_ends_of
  rw [sseq_ev, A, thn_nx, sseq_ev, B, thn_nx, sseq_ev, A2, thn_nx, sseq_ev, B2, thn_nx, C]
theorem ends_of_ok (s : Nat) (hs : 2 ≤ s ∧ s ≤ 7) (ws : List Int) (hw : Wd s ws) (st : Sto) : callP s_ends_of [.int s, .tup (zs ws)] st = .ok (.tup (zs (endsW s ws))) st := callP_of (by simp) (ends_of1 s hs ws hw)
theorem ends1 (s : Nat) (hs : 2 ≤ s ∧ s ≤ 7) (ws : List Int) (hw : Wd s ws) (hl : ws.length ≤ 60) : s_ends [.int s, .tup (zs ws)] [] = .ok (.tup (zs (endsW s ws))) [] := by
  have D0 := demand_st s hs ws hw hl [some (.int s), some (.tup (zs ws))] [] rfl rfl
  refine sem_rt (b := b_ends) (n := 2) (d := .tup (zs (endsW s ws))) (st' := []) ?_ (by rw [fin_tup (by simp)]; rfl)
  show b_ends [some (.int s), some (.tup (zs ws))] [] = _
  unfold b_ends
  rw [sseq_ev, D0, thn_nx]
  simp -implicitDefEqProofs only [sret_ev, ea_ev, acons_ev, slot_ev, List.getElem?_cons_zero, List.getElem?_cons_succ, ccat_ok, anil_ev, cons_ok, bind_ok, ends_of_ok s hs ws hw, ret_ok]
theorem ends_ok (s : Nat) (hs : 2 ≤ s ∧ s ≤ 7) (ws : List Int) (hw : Wd s ws) (hl : ws.length ≤ 60) (st : Sto) : callP s_ends [.int s, .tup (zs ws)] st = .ok (.tup (zs (endsW s ws))) st := callP_of (by simp) (ends1 s hs ws hw hl)
theorem is_pure1 (s : Nat) (hs : 2 ≤ s ∧ s ≤ 7) (ws : List Int) (hw : Wd s ws) (hl : ws.length ≤ 60) : s_is_pure [.int s, .tup (zs ws)] [] = .ok (.bl (decide (endsW s ws = idr s))) [] := by
  have D0 := demand_st s hs ws hw hl [some (.int s), some (.tup (zs ws))] [] rfl rfl
  refine sem_rt (b := b_is_pure) (n := 2) (d := .bl (decide (endsW s ws = idr s))) (st' := []) ?_ (by simp)
  show b_is_pure [some (.int s), some (.tup (zs ws))] [] = _
  unfold b_is_pure
  rw [sseq_ev, D0, thn_nx]
  simp -implicitDefEqProofs only [sret_ev, e2_ev, ea_ev, acons_ev, slot_ev, List.getElem?_cons_zero, List.getElem?_cons_succ, ccat_ok, anil_ev, cons_ok, bind_ok, ends_of_ok s hs ws hw, two_ok, c_ev, add_i, tr2 s (by omega : s ≤ 1000), eq_tup, ret_ok]
theorem is_pure_ok (s : Nat) (hs : 2 ≤ s ∧ s ≤ 7) (ws : List Int) (hw : Wd s ws) (hl : ws.length ≤ 60) (st : Sto) : callP s_is_pure [.int s, .tup (zs ws)] st = .ok (.bl (decide (endsW s ws = idr s))) st := callP_of (by simp) (is_pure1 s hs ws hw hl)
/-! ends by places -/
theorem endsOf_get : ∀ (r : List Int) (i : Nat) (E : List Int) (k : Nat), r.Nodup → (∀ x ∈ r, 1 ≤ x ∧ x ≤ E.length) → k < E.length → (endsOf i E r)[k]? = if ((k : Int) + 1) ∈ r then some ((i : Int) + (r.idxOf ((k : Int) + 1) : Nat) + 1) else E[k]?
  | [], i, E, k, _, _, _ => by simp [endsOf]
  | x :: r, i, E, k, nd, h, hk => by
    obtain ⟨n1, n2⟩ := List.nodup_cons.mp nd
    obtain ⟨x1, x2⟩ := h x (by simp)
    rw [endsOf, endsOf_get r (i + 1) _ k n2 (fun y m => by rw [List.length_set]; exact h y (List.mem_cons_of_mem _ m)) (by rw [List.length_set]; exact hk)]
    by_cases hx : (k : Int) + 1 = x
    · subst hx
      rw [if_neg n1, if_pos (by simp)]
      have : ((k : Int) + 1 - 1).toNat = k := by omega
      rw [this, List.getElem?_set_self hk, List.idxOf_cons_self]
      simp
    · by_cases hm : (k : Int) + 1 ∈ r
      · have ne : (x == (k : Int) + 1) = false := by simp; exact fun z => hx z.symm
        rw [if_pos hm, if_pos (List.mem_cons_of_mem _ hm), List.idxOf_cons, ne]
        show some _ = some ((i : Int) + ((r.idxOf ((k : Int) + 1) + 1 : Nat) : Int) + 1)
        congr 1
        omega
      · rw [if_neg hm, if_neg (by simp [hx, hm]), List.getElem?_set_ne (by omega)]
end Com

set_option maxHeartbeats 2000000
/-! words turned letter by letter -/
namespace Com
open PySem PySem.Spec PV
theorem comp_seq {v w : Nat} {ρ : En} {S : Sto} {e : FE} {f : Int → D} {ws : List Int} (hw : ρ[w]? = some (some (.tup (zs ws)))) (h : ∀ z ∈ ws, ∀ S' : Sto, e ((ρ.set v none).set v (some (.int z))) S' = .ok (f z) S') (hl : ws.length ≤ line) :
    eLc [v] (iSeq (eSlot w)) (gSlot v) tYes e ρ S = .ok (.ref S.length) (S ++ [.lst (ws.map f)]) := by
  rw [elc_ev, iseq_ev, slot_ev, hw]
  show R.lcI (itSeq (.tup (zs ws)) S) _ _ _ _ _ = _
  rw [itseq_tup, lcI_ok]
  exact lc_all D.int f rfl ws (fun z m acc => ⟨_, rfl, h z m _⟩) hl
theorem comp_rev {v w : Nat} {ρ : En} {S : Sto} {e : FE} {f : Int → D} {ws : List Int} (hw : ρ[w]? = some (some (.tup (zs ws)))) (h : ∀ z ∈ ws, ∀ S' : Sto, e ((ρ.set v none).set v (some (.int z))) S' = .ok (f z) S') (hl : ws.length ≤ line) :
    eLc [v] (iSeq (e1 dRev (eSlot w))) (gSlot v) tYes e ρ S = .ok (.ref S.length) (S ++ [.lst (ws.reverse.map f)]) := by
  rw [elc_ev, iseq_ev, e1_ev, slot_ev, hw]
  show R.lcI ((dRev (.tup (zs ws)) S).bind itSeq) _ _ _ _ _ = _
  rw [rev_tup, bind_ok, itseq_tup, lcI_ok]
  have r : (zs ws).reverse = zs ws.reverse := by rw [zs, zs, List.map_reverse]
  rw [r]
  exact lc_all D.int f rfl ws.reverse (fun z m acc => ⟨_, rfl, h z (List.mem_reverse.mp m) _⟩) (by simpa using hl)
theorem comp_if {v w : Nat} {ρ : En} {S : Sto} {e : FE} {t : FT} {f : Int → D} {p : Int → Bool} {ws : List Int} (hw : ρ[w]? = some (some (.tup (zs ws)))) (h : ∀ z ∈ ws, ∀ S' : Sto, e ((ρ.set v none).set v (some (.int z))) S' = .ok (f z) S')
    (ht : ∀ z ∈ ws, ∀ S' : Sto, t ((ρ.set v none).set v (some (.int z))) S' = .ok (p z) S') (hl : ws.length ≤ line) :
    eLc [v] (iSeq (eSlot w)) (gSlot v) t e ρ S = .ok (.ref S.length) (S ++ [.lst ((ws.filter p).map f)]) := by
  rw [elc_ev, iseq_ev, slot_ev, hw]
  show R.lcI (itSeq (.tup (zs ws)) S) _ _ _ _ _ = _
  rw [itseq_tup, lcI_ok]
  have := lc_map (ρ := wipeD ρ [v]) (g := gSlot v) (t := t) (e := e) (w := []) (st0 := S) D.int p f rfl ws [] (fun z m acc => ⟨_, rfl, ht z m _, fun _ => h z m _⟩) (by simpa using hl)
  rw [List.nil_append] at this
  exact this
theorem fin_zs (xs : List Int) (st : Sto) : fin ([] : Sto).length (.tup (zs xs)) st = .ok (.tup (zs xs)) [] := by
  rw [fin_tup (imms_ints xs)]
  rfl
theorem ret_tuple {ρ : En} {S S' : Sto} {e : FE} {q : Nat} {xs : List D} (h : e ρ S = .ok (.ref q) S') (h2 : S'[q]? = some (.lst xs)) : sRet (eA (a1 dTuple) (aCons e aNil)) ρ S = .rt (.tup xs) S' := by
  simp -implicitDefEqProofs only [sret_ev, ea_ev, acons_ev, h, ccat_ok, anil_ev, cons_ok, bind_ok, a1_ev, tuple_at h2, ret_ok]
/-! turned_back, inverse -/
theorem turned_back1 (ws : List Int) (hl : ws.length ≤ 1000) : s_turned_back [.tup (zs ws)] [] = .ok (.tup (zs (ws.reverse.map fun z => -z))) [] := by
  have c : e_turned_back_1 [some (.tup (zs ws)), none] [] = .ok (.ref 0) [.lst (ws.reverse.map fun z => D.int (-z))] := comp_rev (f := fun z => .int (-z)) rfl (fun z m S' => rfl) (by unfold line; omega)
  have z : (ws.reverse.map fun z => D.int (-z)) = zs (ws.reverse.map fun z => -z) := by rw [zs, List.map_map]; rfl
  rw [z] at c
  refine sem_rt (b := b_turned_back) (n := 2) (d := .tup (zs (ws.reverse.map fun z => -z))) (st' := [.lst (zs (ws.reverse.map fun z => -z))]) ?_ (fin_zs _ _)
  exact ret_tuple c rfl
theorem turned_back_ok (ws : List Int) (hl : ws.length ≤ 1000) (st : Sto) : callP s_turned_back [.tup (zs ws)] st = .ok (.tup (zs (ws.reverse.map fun z => -z))) st := callP_of (by simp) (turned_back1 ws hl)
section
variable (s : Nat) (hs : 2 ≤ s ∧ s ≤ 7) (ws : List Int) (hw : Wd s ws) (hl : ws.length ≤ 60)
include hs hw hl
theorem inverse1 : s_inverse [.int s, .tup (zs ws)] [] = .ok (.tup (zs (ws.reverse.map fun z => -z))) [] := by
  have D0 := demand_st s hs ws hw hl [some (.int s), some (.tup (zs ws))] [] rfl rfl
  refine sem_rt (b := b_inverse) (n := 2) (d := .tup (zs (ws.reverse.map fun z => -z))) (st' := []) ?_ (fin_zs _ _)
  show b_inverse [some (.int s), some (.tup (zs ws))] [] = _
  unfold b_inverse
  rw [sseq_ev, D0, thn_nx]
  simp -implicitDefEqProofs only [sret_ev, ea_ev, acons_ev, slot_ev, List.getElem?_cons_zero, List.getElem?_cons_succ, ccat_ok, anil_ev, cons_ok, bind_ok, turned_back_ok ws (by omega : ws.length ≤ 1000), ret_ok]
theorem inverse_ok (st : Sto) : callP s_inverse [.int s, .tup (zs ws)] st = .ok (.tup (zs (ws.reverse.map fun z => -z))) st := callP_of (by simp) (inverse1 s hs ws hw hl)
/-! flip -/
def flp (s : Int) (z : Int) : Int := if 0 < z then s - z else -s - z
omit hs hw in
theorem flipped1 : s_flipped [.int s, .tup (zs ws)] [] = .ok (.tup (zs (ws.map (flp s)))) [] := by
  have c : e_flipped_1 [some (.int s), some (.tup (zs ws)), none] [] = .ok (.ref 0) [.lst (ws.map fun z => D.int (flp s z))] := comp_seq (f := fun z => .int (flp s z)) rfl (fun z m S' => by
    unfold flp
    by_cases h : 0 < z
    · simp -implicitDefEqProofs [h]
    · simp -implicitDefEqProofs [h]) (by unfold line; omega)
  have z : (ws.map fun z => D.int (flp s z)) = zs (ws.map (flp s)) := by rw [zs, List.map_map]; rfl
  rw [z] at c
  refine sem_rt (b := b_flipped) (n := 3) (d := .tup (zs (ws.map (flp s)))) (st' := [.lst (zs (ws.map (flp s)))]) ?_ (fin_zs _ _)
  exact ret_tuple c rfl
omit hs hw in
theorem flipped_ok (st : Sto) : callP s_flipped [.int s, .tup (zs ws)] st = .ok (.tup (zs (ws.map (flp s)))) st := callP_of (by simp) (flipped1 s ws hl)
theorem flip1 : s_flip [.int s, .tup (zs ws)] [] = .ok (.tup (zs (ws.map (flp s)))) [] := by
  have D0 := demand_st s hs ws hw hl [some (.int s), some (.tup (zs ws))] [] rfl rfl
  refine sem_rt (b := b_flip) (n := 2) (d := .tup (zs (ws.map (flp s)))) (st' := []) ?_ (fin_zs _ _)
  show b_flip [some (.int s), some (.tup (zs ws))] [] = _
  unfold b_flip
  rw [sseq_ev, D0, thn_nx]
  simp -implicitDefEqProofs only [sret_ev, ea_ev, acons_ev, slot_ev, List.getElem?_cons_zero, List.getElem?_cons_succ, ccat_ok, anil_ev, cons_ok, bind_ok, flipped_ok s ws hl, ret_ok]
theorem flip_ok (st : Sto) : callP s_flip [.int s, .tup (zs ws)] st = .ok (.tup (zs (ws.map (flp s)))) st := callP_of (by simp) (flip1 s hs ws hw hl)
/-! mirrored, upside_down, signs -/
theorem mirrored1 : s_mirrored [.int s, .tup (zs ws)] [] = .ok (.tup (zs (ws.map fun z => -z))) [] := by
  have D0 := demand_st s hs ws hw hl [some (.int s), some (.tup (zs ws)), none] [] rfl rfl
  have c : e_mirrored_1 [some (.int s), some (.tup (zs ws)), none] [] = .ok (.ref 0) [.lst (ws.map fun z => D.int (-z))] := comp_seq (f := fun z => .int (-z)) rfl (fun z m S' => rfl) (by unfold line; omega)
  have z : (ws.map fun z => D.int (-z)) = zs (ws.map fun z => -z) := by rw [zs, List.map_map]; rfl
  rw [z] at c
  refine sem_rt (b := b_mirrored) (n := 3) (d := .tup (zs (ws.map fun z => -z))) (st' := [.lst (zs (ws.map fun z => -z))]) ?_ (fin_zs _ _)
  show b_mirrored [some (.int s), some (.tup (zs ws)), none] [] = _
  unfold b_mirrored
  rw [sseq_ev, D0, thn_nx]
  exact ret_tuple c rfl
theorem mirrored_ok (st : Sto) : callP s_mirrored [.int s, .tup (zs ws)] st = .ok (.tup (zs (ws.map fun z => -z))) st := callP_of (by simp) (mirrored1 s hs ws hw hl)
theorem upside1 : s_upside_down [.int s, .tup (zs ws)] [] = .ok (.tup (zs ws.reverse)) [] := by
  have D0 := demand_st s hs ws hw hl [some (.int s), some (.tup (zs ws))] [] rfl rfl
  have r : (zs ws).reverse = zs ws.reverse := by rw [zs, zs, List.map_reverse]
  refine sem_rt (b := b_upside_down) (n := 2) (d := .tup (zs ws.reverse)) (st' := []) ?_ (fin_zs _ _)
  show b_upside_down [some (.int s), some (.tup (zs ws))] [] = _
  unfold b_upside_down
  rw [sseq_ev, D0, thn_nx]
  simp -implicitDefEqProofs only [sret_ev, e1_ev, slot_ev, List.getElem?_cons_zero, List.getElem?_cons_succ, bind_ok, rev_tup, r, ret_ok]
theorem upside_ok (st : Sto) : callP s_upside_down [.int s, .tup (zs ws)] st = .ok (.tup (zs ws.reverse)) st := callP_of (by simp) (upside1 s hs ws hw hl)
/-- how many letters cross above, below -/
def ups (ws : List Int) : Nat := (ws.filter fun z => decide (0 < z)).length
theorem signs1 : s_signs [.int s, .tup (zs ws)] [] = .ok (.tup (zs [(ups ws : Int), (ws.length : Int) - ups ws])) [] := by
  have D0 := demand_st s hs ws hw hl [some (.int s), some (.tup (zs ws)), none, none] [] rfl rfl
  have c : e_signs_1 [some (.int s), some (.tup (zs ws)), none, none] [] = .ok (.ref 0) [.lst ((ws.filter fun z => decide (0 < z)).map D.int)] := comp_if (f := fun z => .int z) (p := fun z => decide (0 < z)) rfl (fun z m S' => rfl) (fun z m S' => rfl) (by unfold line; omega)
  have l : dLen (.ref 0) [.lst ((ws.filter fun z => decide (0 < z)).map D.int)] = .ok (.int (ups ws : Nat)) [.lst ((ws.filter fun z => decide (0 < z)).map D.int)] := by
    rw [len_at (xs := (ws.filter fun z => decide (0 < z)).map D.int) rfl, List.length_map]
    rfl
  refine sem_rt (b := b_signs) (n := 4) (d := .tup (zs [(ups ws : Int), (ws.length : Int) - ups ws])) (st' := [.lst ((ws.filter fun z => decide (0 < z)).map D.int)]) ?_ (fin_zs _ _)
  show b_signs [some (.int s), some (.tup (zs ws)), none, none] [] = _
  unfold b_signs
  rw [sseq_ev, D0, thn_nx]
  have A : sAsg (eA (a1 dLen) (aCons e_signs_1 aNil)) (gSlot 2) [some (.int s), some (.tup (zs ws)), none, none] [] = .nx [some (.int s), some (.tup (zs ws)), some (.int (ups ws : Nat)), none] [.lst ((ws.filter fun z => decide (0 < z)).map D.int)] := by
    simp -implicitDefEqProofs only [sasg_ev, ea_ev, acons_ev, c, ccat_ok, anil_ev, cons_ok, bind_ok, a1_ev, l, asg_ok, gslot_ev, List.set_cons_succ, List.set_cons_zero, nxt_some]
  rw [sseq_ev, A, thn_nx]
  have zl : ((zs ws).length : Int) = (ws.length : Int) := by simp
  simp -implicitDefEqProofs only [sret_ev, ea_ev, acons_ev, slot_ev, List.getElem?_cons_zero, List.getElem?_cons_succ, ccat_ok, e2_ev, anil_ev, cons_ok, bind_ok, a1_ev, len_tup, zl, two_ok, sub_i, tup2, ret_ok]
  rfl
theorem signs_ok (st : Sto) : callP s_signs [.int s, .tup (zs ws)] st = .ok (.tup (zs [(ups ws : Int), (ws.length : Int) - ups ws])) st := callP_of (by simp) (signs1 s hs ws hw hl)
end
/-! plain, reduced -/
/-- a letter put behind: it falls with its opposite -/
def pushR (w : List Int) (y : Int) : List Int := if w ≠ [] ∧ w.getLast? = some (-y) then w.dropLast else w ++ [y]
theorem plain_step (w o2 : Option D) (f : List Int) (y : Int) (hl : f.length < 1000) : c_plain_1 [w, some (.ref 0), some (.int y)] [.lst (zs f)] = .nx [w, some (.ref 0), some (.int y)] [.lst (zs (pushR f y))] := by
  have ap := app_ref (st := [.lst (zs f)]) (n := 0) (v := .int y) (xs := zs f) rfl (by simp; unfold line; omega)
  have ape : [Cell.lst (zs f)].set 0 (.lst (zs f ++ [.int y])) = [.lst (zs (f ++ [y]))] := by rw [zs, zs, List.map_append]; rfl
  rw [ape] at ap
  have T : sEx (eM (fun d _ => d.isRef) dAppend (eSlot 1) (eSlot 2)) [w, some (.ref 0), some (.int y)] [.lst (zs f)] = .nx [w, some (.ref 0), some (.int y)] [.lst (zs (f ++ [y]))] := by
    simp -implicitDefEqProofs only [sex_ev, em_ev, slot_ev, List.getElem?_cons_zero, List.getElem?_cons_succ, mth_ok, isref_ref, mth2_t, bind_ok, ap, drop_ok]
  rcases List.eq_nil_or_concat f with rfl | ⟨g, x, hf⟩
  · have e : pushR [] y = [y] := rfl
    rw [e]
    have t : (tAnd (tTru (eSlot 1)) (tE (e2 dEq (e2 dIx (eSlot 1) (e1 dNeg (eC (.int 1)))) (e1 dNeg (eSlot 2))))) [w, some (.ref 0), some (.int y)] [.lst (zs [])] = .ok false [.lst (zs [])] := rfl
    unfold c_plain_1
    rw [sif_ev, t, iff_f, T]
    rfl
  · rw [List.concat_eq_append] at hf
    subst hf
    have i1 : dIx (.ref 0) (.int (-1)) [.lst (zs (g ++ [x]))] = .ok (.int x) [.lst (zs (g ++ [x]))] := ix_at rfl (by rw [zs, List.map_append]; exact atI_end _)
    have tr : dTru (.ref 0) [.lst (zs (g ++ [x]))] = .ok true [.lst (zs (g ++ [x]))] := by
      rw [tru_ref, seq_ref]
      show R.ok (!(zs (g ++ [x])).isEmpty) _ = _
      simp
    have t : (tAnd (tTru (eSlot 1)) (tE (e2 dEq (e2 dIx (eSlot 1) (e1 dNeg (eC (.int 1)))) (e1 dNeg (eSlot 2))))) [w, some (.ref 0), some (.int y)] [.lst (zs (g ++ [x]))] = .ok (decide (x = -y)) [.lst (zs (g ++ [x]))] := by
      simp -implicitDefEqProofs only [tand_ev, ttru_ev, slot_ev, List.getElem?_cons_zero, List.getElem?_cons_succ, bind_ok, tr, andT_t, te_ev, e2_ev, two_ok, e1_ev, c_ev, neg_i, i1, eq_i, toB_ok]
    have pl : dPop (.ref 0) [.lst (zs (g ++ [x]))] = .ok (.int x) [.lst (zs g)] := by
      have h1 : (zs (g ++ [x]))[(zs (g ++ [x])).length - 1]? = some (.int x) := by simp
      have h2 : (zs (g ++ [x])).dropLast = zs g := by simp
      show (match (zs (g ++ [x]))[(zs (g ++ [x])).length - 1]? with
        | some y => R.ok y [.lst (zs (g ++ [x])).dropLast]
        | none => .bad) = _
      rw [h1, h2]
    unfold c_plain_1
    rw [sif_ev, t]
    by_cases h : x = -y
    · have e : pushR (g ++ [x]) y = g := by
        unfold pushR
        rw [if_pos ⟨by simp, by simp [h]⟩]
        simp
      rw [e, decide_eq_true h, iff_t]
      simp -implicitDefEqProofs only [sex_ev, em0_ev, slot_ev, List.getElem?_cons_zero, List.getElem?_cons_succ, bind_ok, pl, drop_ok]
    · have e : pushR (g ++ [x]) y = g ++ [x] ++ [y] := by
        unfold pushR
        rw [if_neg (by simp [h])]
      rw [e, decide_eq_false h, iff_f, T]
theorem pushR_len (f : List Int) (y : Int) : (pushR f y).length ≤ f.length + 1 := by
  unfold pushR
  split <;> simp <;> omega
theorem plain1 (ws : List Int) (hl : ws.length ≤ 500) : s_plain [.tup (zs ws)] [] = .ok (.tup (zs (ws.foldl pushR []))) [] := by
  have loop := forL_ok (g := gSlot 2) (b := c_plain_1) (w := []) (P := fun xs ρ st => ∃ (us f : List Int) (o2 : Option D), xs = zs us ∧ f.length + us.length ≤ 500 ∧ us.foldl pushR f = ws.foldl pushR [] ∧ ρ = [some (.tup (zs ws)), some (.ref 0), o2] ∧ st = [.lst (zs f)])
    (fun _ _ _ _ => rfl) (by
      rintro x xs ρ st ⟨us, f, o2, hx, ha, he, rfl, rfl⟩
      obtain ⟨z, vs, rfl, rfl, rfl⟩ := zs_cons hx
      rw [List.length_cons] at ha
      have := pushR_len f z
      exact ⟨_, _, rfl, _, _, .inl (plain_step _ none f z (by omega)), vs, pushR f z, _, rfl, by omega, he, rfl, rfl⟩)
  obtain ⟨ρ', st', e, us, f, o2, hx, _, he, rfl, rfl⟩ := loop (zs ws) [some (.tup (zs ws)), some (.ref 0), none] [.lst (zs [])] ⟨ws, [], none, rfl, by simpa using hl, rfl, rfl, rfl⟩
  have := zs_nil hx
  subst this
  have he' : f = ws.foldl pushR [] := he
  subst he'
  refine sem_rt (b := b_plain) (n := 3) (d := .tup (zs (ws.foldl pushR []))) (st' := [.lst (zs (ws.foldl pushR []))]) ?_ (fin_zs _ _)
  have A : sAsg (eA dLst aNil) (gSlot 1) [some (.tup (zs ws)), none, none] [] = .nx [some (.tup (zs ws)), some (.ref 0), none] [.lst (zs [])] := rfl
  have B : sFor (iSeq (eSlot 0)) (gSlot 2) c_plain_1 [some (.tup (zs ws)), some (.ref 0), none] [.lst (zs [])] = _ := (show _ = forL (gSlot 2) c_plain_1 [] (zs ws) _ _ by
    simp -implicitDefEqProofs only [sfor_ev, iseq_ev, slot_ev, List.getElem?_cons_zero, List.getElem?_cons_succ, bind_ok, itseq_tup, forI_ok]).trans e
  show b_plain [some (.tup (zs ws)), none, none] [] = _
  unfold b_plain
  rw [sseq_ev, A, thn_nx, sseq_ev, B, thn_nx]
  exact ret_tuple (q := 0) rfl rfl
theorem plain_ok (ws : List Int) (hl : ws.length ≤ 500) (st : Sto) : callP s_plain [.tup (zs ws)] st = .ok (.tup (zs (ws.foldl pushR []))) st := callP_of (by simp) (plain1 ws hl)
theorem reduced1 (s : Nat) (hs : 2 ≤ s ∧ s ≤ 7) (ws : List Int) (hw : Wd s ws) (hl : ws.length ≤ 60) : s_reduced [.int s, .tup (zs ws)] [] = .ok (.tup (zs (ws.foldl pushR []))) [] := by
  have D0 := demand_st s hs ws hw hl [some (.int s), some (.tup (zs ws))] [] rfl rfl
  refine sem_rt (b := b_reduced) (n := 2) (d := .tup (zs (ws.foldl pushR []))) (st' := []) ?_ (fin_zs _ _)
  show b_reduced [some (.int s), some (.tup (zs ws))] [] = _
  unfold b_reduced
  rw [sseq_ev, D0, thn_nx]
  simp -implicitDefEqProofs only [sret_ev, ea_ev, acons_ev, slot_ev, List.getElem?_cons_zero, List.getElem?_cons_succ, ccat_ok, anil_ev, cons_ok, bind_ok, plain_ok ws (by omega : ws.length ≤ 500), ret_ok]
theorem reduced_ok (s : Nat) (hs : 2 ≤ s ∧ s ≤ 7) (ws : List Int) (hw : Wd s ws) (hl : ws.length ≤ 60) (st : Sto) : callP s_reduced [.int s, .tup (zs ws)] st = .ok (.tup (zs (ws.foldl pushR []))) st := callP_of (by simp) (reduced1 s hs ws hw hl)
end Com

set_option maxHeartbeats 4000000
namespace K01
open PySem PySem.Spec PyProof.Rows L2 PV Com
def top (i : Nat) : Stmt := PySem.Challenge.pw_plaited_k01_whole_words.main.body.getD i (.Pass ⟨0, 0, 0, 0⟩)
/-- the names that the walk leans on -/
structure Facts (G : Glob) : Prop where
  z_abs : G.mg "abs" = none
  z_all : G.mg "all" = none
  z_bool : G.mg "bool" = none
  z_enumerate : G.mg "enumerate" = none
  z_int : G.mg "int" = none
  z_isinstance : G.mg "isinstance" = none
  z_len : G.mg "len" = none
  z_list : G.mg "list" = none
  z_max : G.mg "max" = none
  z_min : G.mg "min" = none
  z_range : G.mg "range" = none
  z_repr : G.mg "repr" = none
  z_tuple : G.mg "tuple" = none
  i_MAX_STRANDS : ∃ t, G.mg "MAX_STRANDS" = some (.int 7 t)
  i_MAX_WORD : ∃ t, G.mg "MAX_WORD" = some (.int 60 t)
/-! _law_reduced -/
def N__law_reduced : List Str := ["word", "found", "one"]
def c__law_reduced_1 : FS :=
  (sIf (tAnd (tE (e2 dNe (eSlot 1) (eA dLst aNil))) (tE (e2 dEq (e2 dIx (eSlot 1) (eC (.int 0))) (e2 dSub (eC (.int 0)) (eSlot 2)))))
    (sAsg (eSl (eSlot 1) (oSo (eC (.int 1))) oNo) (gSlot 1))
    (sAsg (e2 dAdd (eA dLst (aCons (eSlot 2) aNil)) (eSlot 1)) (gSlot 1)))
def b__law_reduced : FS :=
  (sSeq (sAsg (eA dLst aNil) (gSlot 1))
    (sSeq (sFor (iSeq (e1 dRev (eSlot 0))) (gSlot 2)
    c__law_reduced_1)
    (sRet (eA (a1 dTuple) (aCons (eSlot 1) aNil)))))
def s__law_reduced : Fs := semOf 3 b__law_reduced
/-! law -/
def N_law : List Str := ["script", "draws", "at", "strands", "word", "row", "rows", "met", "one", "place", "found", "strand", "turned"]
def c_law_1 : FS :=
  (sSeq (sAsg (eA (a1 dAbs) (aCons (eSlot 8) aNil)) (gSlot 9))
    (sSeq (sEx (eM (fun d _ => d.isRef) dAppend (eSlot 7) (eA dTup (aCons (e2 dIx (eSlot 5) (e2 dSub (eSlot 9) (eC (.int 1)))) (aCons (e2 dIx (eSlot 5) (eSlot 9)) (aCons (eIf (tE (e2 dGt (eSlot 8) (eC (.int 0)))) (eC (.int 1)) (e1 dNeg (eC (.int 1)))) aNil))))))
    (sSeq (sAsg (e2 dAdd (e2 dAdd (eSl (eSlot 5) oNo (oSo (e2 dSub (eSlot 9) (eC (.int 1))))) (eA dTup (aCons (e2 dIx (eSlot 5) (eSlot 9)) (aCons (e2 dIx (eSlot 5) (e2 dSub (eSlot 9) (eC (.int 1)))) aNil)))) (eSl (eSlot 5) (oSo (e2 dAdd (eSlot 9) (eC (.int 1)))) oNo)) (gSlot 5))
    (sEx (eM (fun d _ => d.isRef) dAppend (eSlot 6) (eSlot 5))))))
def e_law_1 : FE :=
  eLc [11] (iRange2 (eC (.int 1)) (e2 dAdd (eSlot 3) (eC (.int 1)))) (gSlot 11) tYes (e2 dAdd (eM (fun d _ => d.isTup) dTIndex (eSlot 5) (eSlot 11)) (eC (.int 1)))
def e_law_2 : FE :=
  eLc [8] (iSeq (eSlot 4)) (gSlot 8) (tE (e2 dGt (eSlot 8) (eC (.int 0)))) (eSlot 8)
def e_law_3 : FE :=
  eLc [8] (iSeq (eSlot 4)) (gSlot 8) (tE (e2 dLt (eSlot 8) (eC (.int 0)))) (eSlot 8)
def e_law_4 : FE :=
  eLc [8] (iSeq (e1 dRev (eSlot 4))) (gSlot 8) tYes (e2 dSub (eC (.int 0)) (eSlot 8))
def e_law_5 : FE :=
  eLc [8] (iSeq (eSlot 4)) (gSlot 8) tYes (e2 dSub (eC (.int 0)) (eSlot 8))
def e_law_6 : FE :=
  eLc [8] (iSeq (eSlot 4)) (gSlot 8) tYes (eIf (tE (e2 dGt (eSlot 8) (eC (.int 0)))) (e2 dSub (eSlot 3) (eSlot 8)) (e2 dSub (e2 dSub (eC (.int 0)) (eSlot 3)) (eSlot 8)))
def b_law : FS :=
  (sSeq (sAsg (eA (callP s__law_draws) (aCons (eSlot 0) aNil)) (gSlot 1))
    (sSeq (sAsg (eA dLst (aCons (eC (.int 0)) aNil)) (gSlot 2))
    (sSeq (sAsg (eA (callM 2 s__law_one) (aCons (eA dLst (aCons (eC (.int 2)) (aCons (eC (.int 3)) (aCons (eC (.int 3)) (aCons (eC (.int 4)) (aCons (eC (.int 5)) (aCons (eC (.int 7)) aNil))))))) (aCons (eSlot 1) (aCons (eSlot 2) aNil)))) (gSlot 3))
    (sSeq (sAsg (eA (callM 3 s__law_word) (aCons (eSlot 3) (aCons (eA (callM 2 s__law_one) (aCons (eA dLst (aCons (eC (.int 4)) (aCons (eC (.int 12)) (aCons (eC (.int 60)) aNil)))) (aCons (eSlot 1) (aCons (eSlot 2) aNil)))) (aCons (eSlot 1) (aCons (eSlot 2) aNil))))) (gSlot 4))
    (sSeq (sAsg (e2 dTR2 (eC (.int 1)) (e2 dAdd (eSlot 3) (eC (.int 1)))) (gSlot 5))
    (sSeq (sAsg (eA dLst (aCons (eSlot 5) aNil)) (gSlot 6))
    (sSeq (sAsg (eA dLst aNil) (gSlot 7))
    (sSeq (sFor (iSeq (eSlot 4)) (gSlot 8)
    c_law_1)
    (sSeq (sIf (tOr (tE (e2 dNe (eA (a1 dRepr) (aCons (eA (callP s_rows_of) (aCons (eSlot 3) (aCons (eSlot 4) aNil))) aNil)) (eA (a1 dRepr) (aCons (eA (a1 dTuple) (aCons (eSlot 6) aNil)) aNil)))) (tE (e2 dNe (eA (a1 dRepr) (aCons (eA (callP s_crossings) (aCons (eSlot 3) (aCons (eSlot 4) aNil))) aNil)) (eA (a1 dRepr) (aCons (eA (a1 dTuple) (aCons (eSlot 7) aNil)) aNil)))))
    (sRet (eC (.bl false)))
    sNext)
    (sSeq (sAsg (eA (a1 dTuple) (aCons e_law_1 aNil)) (gSlot 10))
    (sSeq (sIf (tOr (tE (e2 dNe (eA (a1 dRepr) (aCons (eA (callP s_ends) (aCons (eSlot 3) (aCons (eSlot 4) aNil))) aNil)) (eA (a1 dRepr) (aCons (eSlot 10) aNil)))) (tE (e2 dNe (eA (a1 dRepr) (aCons (eA (callP s_is_pure) (aCons (eSlot 3) (aCons (eSlot 4) aNil))) aNil)) (eA (a1 dRepr) (aCons (e2 dEq (eSlot 10) (e2 dIx (eSlot 6) (eC (.int 0)))) aNil)))))
    (sRet (eC (.bl false)))
    sNext)
    (sSeq (sIf (tE (e2 dNe (eA (a1 dRepr) (aCons (eA (callP s_signs) (aCons (eSlot 3) (aCons (eSlot 4) aNil))) aNil)) (eA (a1 dRepr) (aCons (eA dTup (aCons (eA (a1 dLen) (aCons e_law_2 aNil)) (aCons (eA (a1 dLen) (aCons e_law_3 aNil)) aNil))) aNil))))
    (sRet (eC (.bl false)))
    sNext)
    (sSeq (sIf (tOr (tE (e2 dNe (eA (a1 dRepr) (aCons (eA (callP s_inverse) (aCons (eSlot 3) (aCons (eSlot 4) aNil))) aNil)) (eA (a1 dRepr) (aCons (eA (a1 dTuple) (aCons e_law_4 aNil)) aNil)))) (tE (e2 dNe (eA (a1 dRepr) (aCons (eA (callP s_mirrored) (aCons (eSlot 3) (aCons (eSlot 4) aNil))) aNil)) (eA (a1 dRepr) (aCons (eA (a1 dTuple) (aCons e_law_5 aNil)) aNil)))))
    (sRet (eC (.bl false)))
    sNext)
    (sSeq (sAsg (eA (a1 dTuple) (aCons e_law_6 aNil)) (gSlot 12))
    (sSeq (sIf (tOr (tE (e2 dNe (eA (a1 dRepr) (aCons (eA (callP s_upside_down) (aCons (eSlot 3) (aCons (eSlot 4) aNil))) aNil)) (eA (a1 dRepr) (aCons (e1 dRev (eSlot 4)) aNil)))) (tE (e2 dNe (eA (a1 dRepr) (aCons (eA (callP s_flip) (aCons (eSlot 3) (aCons (eSlot 4) aNil))) aNil)) (eA (a1 dRepr) (aCons (eSlot 12) aNil)))))
    (sRet (eC (.bl false)))
    sNext)
    (sRet (e2 dEq (eA (a1 dRepr) (aCons (eA (callP s_reduced) (aCons (eSlot 3) (aCons (eSlot 4) aNil))) aNil)) (eA (a1 dRepr) (aCons (eA (callP s__law_reduced) (aCons (eSlot 4) aNil)) aNil)))))))))))))))))))
def s_law : Fs := semOf 13 b_law
theorem sc__law_draws : FnScope N__law_draws ["script"] (defScope (top 28)) := ⟨rfl, rfl, rfl, by decide +kernel, rfl, by decide +kernel, by decide +kernel⟩
theorem d__law_draws {G : Glob} {base : Heap} (T : Facts G) : ∀ W, DSs ⟨G, base, 0, N__law_draws, defScope (top 28), true⟩ W (defBody (top 28)) b__law_draws := by
  intro W
  have nd : N__law_draws.Nodup := sc__law_draws.nd
  exact (dss_cons (ds_set (i := 1) nd (de_lst da_nil))
    (dss_cons (ds_for (di_seq (de_sl (de_slot 0) do_none (do_some de_int))) (dg_slot 2 nd)
    (dss_cons (ds_set (i := 3) nd (de_abs (de_slot 2) T.z_abs))
    (dss_one (ds_if (dt_ge (de_slot 3) (de_pow de_int de_int))
    (dss_one (ds_for (di_range1 de_int T.z_range) (dg_slot 4 nd)
    (dss_one (ds_if (dt_gt (de_slot 3) de_int)
    (dss_cons (ds_ex (de_append (de_slot 1) (de_mod (de_int1 (de_slot 3) T.z_int) de_int)))
    (dss_one (ds_set (i := 3) nd (de_fdiv (de_slot 3) de_int))))
    dss_nil))))
    (dss_cons (ds_set (i := 5) nd (de_mod (de_int1 (de_add (de_mul (de_slot 3) de_int) de_int) T.z_int) de_int))
    (dss_one (ds_for (di_range1 de_int T.z_range) (dg_slot 4 nd)
    (dss_cons (ds_set (i := 5) nd (de_mod (de_int1 (de_add (de_add (de_mul (de_slot 5) de_int) (de_mul de_int (de_slot 4))) de_int) T.z_int) de_int))
    (dss_one (ds_ex (de_append (de_slot 1) (de_fdiv (de_slot 5) de_int))))))))))))
    (dss_one (ds_ret (de_slot 1)))))
theorem sc__law_more : FnScope N__law_more ["draws", "place"] (defScope (top 29)) := ⟨rfl, rfl, rfl, by decide +kernel, rfl, by decide +kernel, by decide +kernel⟩
theorem d__law_more {G : Glob} {base : Heap} (T : Facts G) : ∀ W, DSs ⟨G, base, 0, N__law_more, defScope (top 29), true⟩ W (defBody (top 29)) b__law_more := by
  intro W
  have nd : N__law_more.Nodup := sc__law_more.nd
  exact (dss_cons (ds_set (i := 2) nd (de_mod (de_int1 (de_add (de_add (de_mul (de_slot 1) de_int) (de_len (de_slot 0) T.z_len)) de_int) T.z_int) de_int))
    (dss_cons (ds_for (di_range1 de_int T.z_range) (dg_slot 3 nd)
    (dss_cons (ds_if (dt_tru (de_slot 0))
    (dss_one (ds_set (i := 2) nd (de_add (de_slot 2) (de_item (de_slot 0) (de_mod (de_int1 (de_add (de_mul (de_slot 1) (de_add (de_slot 3) de_int)) (de_slot 3)) T.z_int) (de_len (de_slot 0) T.z_len))))))
    dss_nil)
    (dss_one (ds_set (i := 2) nd (de_mod (de_int1 (de_add (de_add (de_mul (de_slot 2) de_int) (de_mul de_int (de_slot 3))) de_int) T.z_int) de_int)))))
    (dss_one (ds_ret (de_fdiv (de_slot 2) de_int)))))
theorem sc__law_take : FnScope N__law_take ["draws", "at", "many"] (defScope (top 30)) := ⟨rfl, rfl, rfl, by decide +kernel, rfl, by decide +kernel, by decide +kernel⟩
theorem d__law_take {G : Glob} {base : Heap} (T : Facts G) (F__law_more : Def G base "_law_more" 2 1 s__law_more) : ∀ W, DSs ⟨G, base, 1, N__law_take, defScope (top 30), true⟩ W (defBody (top 30)) b__law_take := by
  intro W
  have nd : N__law_take.Nodup := sc__law_take.nd
  exact (dss_cons (ds_set (i := 3) nd (de_item (de_slot 1) de_int))
    (dss_cons (ds_asg (de_add (de_slot 3) de_int) (dg_sub (de_slot 1) de_int))
    (dss_one (ds_ret (de_mod (de_int1 (de_if (dt_lt (de_slot 3) (de_len (de_slot 0) T.z_len)) (de_item (de_slot 0) (de_slot 3)) (de_call F__law_more (Nat.le_of_ble_eq_true rfl) (da_cons (de_slot 0) (da_cons (de_slot 3) da_nil)) (len_cons (len_cons len_nil)))) T.z_int) (de_slot 2))))))
theorem sc__law_one : FnScope N__law_one ["rows", "draws", "at"] (defScope (top 31)) := ⟨rfl, rfl, rfl, by decide +kernel, rfl, by decide +kernel, by decide +kernel⟩
theorem d__law_one {G : Glob} {base : Heap} (T : Facts G) (F__law_take : Def G base "_law_take" 3 2 s__law_take) : ∀ W, DSs ⟨G, base, 2, N__law_one, defScope (top 31), true⟩ W (defBody (top 31)) b__law_one := by
  intro W
  have nd : N__law_one.Nodup := sc__law_one.nd
  exact (dss_one (ds_ret (de_item (de_slot 0) (de_callM 1 F__law_take (Nat.le_of_ble_eq_true rfl) (da_cons (de_slot 1) (da_cons (de_slot 2) (da_cons (de_len (de_slot 0) T.z_len) da_nil))) (len_cons (len_cons (len_cons len_nil)))))))
theorem sc__law_word : FnScope N__law_word ["strands", "most", "draws", "at"] (defScope (top 32)) := ⟨rfl, rfl, rfl, by decide +kernel, rfl, by decide +kernel, by decide +kernel⟩
theorem d__law_word {G : Glob} {base : Heap} (T : Facts G) (F__law_one : Def G base "_law_one" 3 3 s__law_one) (F__law_take : Def G base "_law_take" 3 2 s__law_take) : ∀ W, DSs ⟨G, base, 3, N__law_word, defScope (top 32), true⟩ W (defBody (top 32)) b__law_word := by
  intro W
  have nd : N__law_word.Nodup := sc__law_word.nd
  exact (dss_cons (ds_set (i := 4) nd (de_callM 1 F__law_take (Nat.le_of_ble_eq_true rfl) (da_cons (de_slot 2) (da_cons (de_slot 3) (da_cons (de_add (de_slot 1) de_int) da_nil))) (len_cons (len_cons (len_cons len_nil)))))
    (dss_cons (ds_set (i := 5) nd (de_callM 1 F__law_take (Nat.le_of_ble_eq_true rfl) (da_cons (de_slot 2) (da_cons (de_slot 3) (da_cons de_int da_nil))) (len_cons (len_cons (len_cons len_nil)))))
    (dss_cons (ds_set (i := 6) nd (de_lst da_nil))
    (dss_cons (ds_for (di_range1 (de_slot 4) T.z_range) (dg_slot 7 nd)
    (dss_cons (ds_set (i := 8) nd (de_add de_int (de_callM 1 F__law_take (Nat.le_of_ble_eq_true rfl) (da_cons (de_slot 2) (da_cons (de_slot 3) (da_cons (de_sub (de_slot 0) de_int) da_nil))) (len_cons (len_cons (len_cons len_nil))))))
    (dss_cons (ds_if (DW.t (dw_and (dt_eq (de_slot 5) de_int) (dw_and1 (dt_ne (de_slot 6) (de_lst da_nil)))))
    (dss_one (ds_set (i := 8) nd (de_max2 de_int (de_min2 (de_sub (de_slot 0) de_int) (de_add (de_abs (de_item (de_slot 6) (de_sub (de_len (de_slot 6) T.z_len) de_int)) T.z_abs) (de_callM 2 F__law_one (Nat.le_of_ble_eq_true rfl) (da_cons (de_lst (da_cons (de_neg de_int) (da_cons de_int (da_cons de_int (da_cons de_int da_nil))))) (da_cons (de_slot 2) (da_cons (de_slot 3) da_nil))) (len_cons (len_cons (len_cons len_nil))))) T.z_min) T.z_max)))
    dss_nil)
    (dss_cons (ds_set (i := 9) nd (de_if (dt_eq (de_slot 5) de_int) de_int (de_if (dt_eq (de_slot 5) de_int) (de_neg de_int) (de_callM 2 F__law_one (Nat.le_of_ble_eq_true rfl) (da_cons (de_lst (da_cons de_int (da_cons (de_neg de_int) da_nil))) (da_cons (de_slot 2) (da_cons (de_slot 3) da_nil))) (len_cons (len_cons (len_cons len_nil)))))))
    (dss_one (ds_ex (de_append (de_slot 6) (de_mul (de_slot 9) (de_slot 8)))))))))
    (dss_cons (ds_if (dt_eq (de_slot 5) de_int)
    (dss_cons (ds_set (i := 10) nd (de_sl (de_slot 6) do_none (do_some (de_fdiv (de_slot 4) de_int))))
    (dss_one (ds_set (i := 6) nd (de_add (de_add (de_slot 10) (de_sl (de_lc [("one", 8)] nd (di_seq (de_rev (de_slot 10))) (by rfl) (dg_slot 8 nd) dts_nil (de_sub de_int (de_slot 8))) do_none (do_some (de_sub (de_slot 4) (de_len (de_slot 10) T.z_len))))) (de_sl (de_slot 6) do_none (do_some (de_mod (de_slot 4) de_int)))))))
    dss_nil)
    (dss_one (ds_ret (de_tuple (de_sl (de_slot 6) do_none (do_some (de_slot 1))) T.z_tuple))))))))
theorem sc_is_integer : FnScope N_is_integer ["value"] (defScope (top 1)) := ⟨rfl, rfl, rfl, by decide +kernel, rfl, by decide +kernel, by decide +kernel⟩
theorem d_is_integer {G : Glob} {base : Heap} (T : Facts G) : ∀ W, DSs ⟨G, base, 0, N_is_integer, defScope (top 1), true⟩ W (defBody (top 1)) b_is_integer := by
  intro W
  have nd : N_is_integer.Nodup := sc_is_integer.nd
  exact (dss_one (ds_ret (de_and (de_isi .tInt (de_slot 0) T.z_isinstance T.z_int) (de_one (de_not (de_isi .tBool (de_slot 0) T.z_isinstance T.z_bool))))))
theorem sc_in_range : FnScope N_in_range ["value", "least", "most"] (defScope (top 2)) := ⟨rfl, rfl, rfl, by decide +kernel, rfl, by decide +kernel, by decide +kernel⟩
theorem d_in_range {G : Glob} {base : Heap} (T : Facts G) (F_is_integer : Def G base "is_integer" 1 1 s_is_integer) : ∀ W, DSs ⟨G, base, 1, N_in_range, defScope (top 2), true⟩ W (defBody (top 2)) b_in_range := by
  intro W
  have nd : N_in_range.Nodup := sc_in_range.nd
  exact (dss_one (ds_ret (de_and (de_call F_is_integer (Nat.le_of_ble_eq_true rfl) (da_cons (de_slot 0) da_nil) (len_cons len_nil)) (de_one (de_chain (fun _ _ => op_le) sn_cmp (fun _ _ => op_le) sn_cmp (de_slot 1) (de_slot 0) (de_slot 2))))))
theorem sc_demand_strands : FnScope N_demand_strands ["strands"] (defScope (top 10)) := ⟨rfl, rfl, rfl, by decide +kernel, rfl, by decide +kernel, by decide +kernel⟩
theorem d_demand_strands {G : Glob} {base : Heap} (T : Facts G) (F_in_range : Def G base "in_range" 3 2 s_in_range) : ∀ W, DSs ⟨G, base, 2, N_demand_strands, defScope (top 10), true⟩ W (defBody (top 10)) b_demand_strands := by
  obtain ⟨t_MAX_STRANDS, m_MAX_STRANDS⟩ := T.i_MAX_STRANDS
  intro W
  have nd : N_demand_strands.Nodup := sc_demand_strands.nd
  exact (dss_one (ds_if (dt_not (dt_tru (de_call F_in_range (Nat.le_of_ble_eq_true rfl) (da_cons (de_slot 0) (da_cons de_int (da_cons (de_gint rfl m_MAX_STRANDS) da_nil))) (len_cons (len_cons (len_cons len_nil))))))
    (dss_one ds_never)
    dss_nil))
theorem sc_is_word : FnScope N_is_word ["strands", "value", "most"] (defScope (top 11)) := ⟨rfl, rfl, rfl, by decide +kernel, rfl, by decide +kernel, by decide +kernel⟩
theorem d_is_word {G : Glob} {base : Heap} (T : Facts G) (F_in_range : Def G base "in_range" 3 2 s_in_range) : ∀ W, DSs ⟨G, base, 2, N_is_word, defScope (top 11), true⟩ W (defBody (top 11)) b_is_word := by
  intro W
  have nd : N_is_word.Nodup := sc_is_word.nd
  exact (dss_cons (ds_if (DW.t (dw_or (dt_not (dt_tru (de_isi .tTuple (de_slot 1) T.z_isinstance T.z_tuple))) (dw_or1 (dt_gt (de_len (de_slot 1) T.z_len) (de_slot 2)))))
    (dss_one (ds_ret de_bl))
    dss_nil)
    (dss_one (ds_ret (de_all (de_lc [("one", 3)] nd (di_seq (de_slot 1)) (by rfl) (dg_slot 3 nd) dts_nil (de_and (de_call F_in_range (Nat.le_of_ble_eq_true rfl) (da_cons (de_slot 3) (da_cons (de_sub de_int (de_slot 0)) (da_cons (de_sub (de_slot 0) de_int) da_nil))) (len_cons (len_cons (len_cons len_nil)))) (de_one (de_ne (de_slot 3) de_int)))) T.z_all))))
theorem sc_demand_plait : FnScope N_demand_plait ["strands", "word", "reason"] (defScope (top 12)) := ⟨rfl, rfl, rfl, by decide +kernel, rfl, by decide +kernel, by decide +kernel⟩
theorem d_demand_plait {G : Glob} {base : Heap} (T : Facts G) (F_demand_strands : Def G base "demand_strands" 1 3 s_demand_strands) (F_is_word : Def G base "is_word" 3 3 s_is_word) : ∀ W, DSs ⟨G, base, 3, N_demand_plait, defScope (top 12), true⟩ W (defBody (top 12)) b_demand_plait := by
  obtain ⟨t_MAX_WORD, m_MAX_WORD⟩ := T.i_MAX_WORD
  intro W
  have nd : N_demand_plait.Nodup := sc_demand_plait.nd
  exact (dss_cons (ds_ex (de_call F_demand_strands (Nat.le_of_ble_eq_true rfl) (da_cons (de_slot 0) da_nil) (len_cons len_nil)))
    (dss_one (ds_if (dt_not (dt_tru (de_call F_is_word (Nat.le_of_ble_eq_true rfl) (da_cons (de_slot 0) (da_cons (de_slot 1) (da_cons (de_gint rfl m_MAX_WORD) da_nil))) (len_cons (len_cons (len_cons len_nil))))))
    (dss_one ds_never)
    dss_nil)))
theorem sc_rows_of : FnScope N_rows_of ["strands", "word"] (defScope (top 26)) := ⟨rfl, rfl, rfl, by decide +kernel, rfl, by decide +kernel, by decide +kernel⟩
theorem d_rows_of {G : Glob} {base : Heap} (T : Facts G) (V_demand_plait : DefV G base "demand_plait" 2 [.str "word"] 4 s_demand_plait) : ∀ W, DSs ⟨G, base, 4, N_rows_of, defScope (top 26), true⟩ W (defBody (top 26)) b_rows_of := by
  intro W
  have nd : N_rows_of.Nodup := sc_rows_of.nd
  exact (dss_cons (ds_ex (de_callV V_demand_plait (Nat.le_of_ble_eq_true rfl) (da_cons (de_slot 0) (da_cons (de_slot 1) da_nil)) (len_cons (len_cons len_nil))))
    (dss_cons (ds_set (i := 2) nd (de_lst (da_cons (de_tupRg2 de_int (de_add (de_slot 0) de_int) T.z_range T.z_tuple) da_nil)))
    (dss_cons (ds_for (di_seq (de_slot 1)) (dg_slot 3 nd)
    (dss_cons (ds_set (i := 4) nd (de_list (de_item (de_slot 2) (de_neg de_int)) T.z_list))
    (dss_cons (ds_set (i := 5) nd (de_abs (de_slot 3) T.z_abs))
    (dss_cons (ds_asg (de_tup (da_cons (de_item (de_slot 4) (de_slot 5)) (da_cons (de_item (de_slot 4) (de_sub (de_slot 5) de_int)) da_nil))) (dg_tup (dgs_cons (dg_sub (de_slot 4) (de_sub (de_slot 5) de_int)) (dgs_cons (dg_sub (de_slot 4) (de_slot 5)) dgs_nil))))
    (dss_one (ds_ex (de_append (de_slot 2) (de_tuple (de_slot 4) T.z_tuple))))))))
    (dss_one (ds_ret (de_tuple (de_slot 2) T.z_tuple))))))
theorem sc_crossings : FnScope N_crossings ["strands", "word"] (defScope (top 24)) := ⟨rfl, rfl, rfl, by decide +kernel, rfl, by decide +kernel, by decide +kernel⟩
theorem d_crossings {G : Glob} {base : Heap} (T : Facts G) (V_demand_plait : DefV G base "demand_plait" 2 [.str "word"] 4 s_demand_plait) : ∀ W, DSs ⟨G, base, 4, N_crossings, defScope (top 24), true⟩ W (defBody (top 24)) b_crossings := by
  intro W
  have nd : N_crossings.Nodup := sc_crossings.nd
  exact (dss_cons (ds_ex (de_callV V_demand_plait (Nat.le_of_ble_eq_true rfl) (da_cons (de_slot 0) (da_cons (de_slot 1) da_nil)) (len_cons (len_cons len_nil))))
    (dss_cons (ds_set (i := 2) nd (de_lstRg2 de_int (de_add (de_slot 0) de_int) T.z_range T.z_list))
    (dss_cons (ds_set (i := 3) nd (de_lst da_nil))
    (dss_cons (ds_for (di_seq (de_slot 1)) (dg_slot 4 nd)
    (dss_cons (ds_set (i := 5) nd (de_abs (de_slot 4) T.z_abs))
    (dss_cons (ds_ex (de_append (de_slot 3) (de_tup (da_cons (de_item (de_slot 2) (de_sub (de_slot 5) de_int)) (da_cons (de_item (de_slot 2) (de_slot 5)) (da_cons (de_if (dt_gt (de_slot 4) de_int) de_int (de_neg de_int)) da_nil))))))
    (dss_one (ds_asg (de_tup (da_cons (de_item (de_slot 2) (de_slot 5)) (da_cons (de_item (de_slot 2) (de_sub (de_slot 5) de_int)) da_nil))) (dg_tup (dgs_cons (dg_sub (de_slot 2) (de_sub (de_slot 5) de_int)) (dgs_cons (dg_sub (de_slot 2) (de_slot 5)) dgs_nil))))))))
    (dss_one (ds_ret (de_tuple (de_slot 3) T.z_tuple)))))))
theorem sc_ends_of : FnScope N_ends_of ["strands", "word"] (defScope (top 13)) := ⟨rfl, rfl, rfl, by decide +kernel, rfl, by decide +kernel, by decide +kernel⟩
theorem d_ends_of {G : Glob} {base : Heap} (T : Facts G) : ∀ W, DSs ⟨G, base, 0, N_ends_of, defScope (top 13), true⟩ W (defBody (top 13)) b_ends_of := by
  intro W
  have nd : N_ends_of.Nodup := sc_ends_of.nd
  exact (dss_cons (ds_set (i := 2) nd (de_lstRg2 de_int (de_add (de_slot 0) de_int) T.z_range T.z_list))
    (dss_cons (ds_for (di_seq (de_slot 1)) (dg_slot 3 nd)
    (dss_cons (ds_set (i := 4) nd (de_abs (de_slot 3) T.z_abs))
    (dss_one (ds_asg (de_tup (da_cons (de_item (de_slot 2) (de_slot 4)) (da_cons (de_item (de_slot 2) (de_sub (de_slot 4) de_int)) da_nil))) (dg_tup (dgs_cons (dg_sub (de_slot 2) (de_sub (de_slot 4) de_int)) (dgs_cons (dg_sub (de_slot 2) (de_slot 4)) dgs_nil)))))))
    (dss_cons (ds_set (i := 5) nd (de_mul (de_lst (da_cons de_int da_nil)) (de_slot 0)))
    (dss_cons (ds_for (di_enum (de_slot 2) T.z_enumerate) (dg_tup (dgs_cons (dg_slot 4 nd) (dgs_cons (dg_slot 6 nd) dgs_nil)))
    (dss_one (ds_asg (de_add (de_slot 4) de_int) (dg_sub (de_slot 5) (de_sub (de_slot 6) de_int)))))
    (dss_one (ds_ret (de_tuple (de_slot 5) T.z_tuple)))))))
theorem sc_ends : FnScope N_ends ["strands", "word"] (defScope (top 14)) := ⟨rfl, rfl, rfl, by decide +kernel, rfl, by decide +kernel, by decide +kernel⟩
theorem d_ends {G : Glob} {base : Heap} (T : Facts G) (F_ends_of : Def G base "ends_of" 2 1 s_ends_of) (V_demand_plait : DefV G base "demand_plait" 2 [.str "word"] 4 s_demand_plait) : ∀ W, DSs ⟨G, base, 4, N_ends, defScope (top 14), true⟩ W (defBody (top 14)) b_ends := by
  intro W
  have nd : N_ends.Nodup := sc_ends.nd
  exact (dss_cons (ds_ex (de_callV V_demand_plait (Nat.le_of_ble_eq_true rfl) (da_cons (de_slot 0) (da_cons (de_slot 1) da_nil)) (len_cons (len_cons len_nil))))
    (dss_one (ds_ret (de_call F_ends_of (Nat.le_of_ble_eq_true rfl) (da_cons (de_slot 0) (da_cons (de_slot 1) da_nil)) (len_cons (len_cons len_nil))))))
theorem sc_is_pure : FnScope N_is_pure ["strands", "word"] (defScope (top 25)) := ⟨rfl, rfl, rfl, by decide +kernel, rfl, by decide +kernel, by decide +kernel⟩
theorem d_is_pure {G : Glob} {base : Heap} (T : Facts G) (F_ends_of : Def G base "ends_of" 2 1 s_ends_of) (V_demand_plait : DefV G base "demand_plait" 2 [.str "word"] 4 s_demand_plait) : ∀ W, DSs ⟨G, base, 4, N_is_pure, defScope (top 25), true⟩ W (defBody (top 25)) b_is_pure := by
  intro W
  have nd : N_is_pure.Nodup := sc_is_pure.nd
  exact (dss_cons (ds_ex (de_callV V_demand_plait (Nat.le_of_ble_eq_true rfl) (da_cons (de_slot 0) (da_cons (de_slot 1) da_nil)) (len_cons (len_cons len_nil))))
    (dss_one (ds_ret (de_eq (de_call F_ends_of (Nat.le_of_ble_eq_true rfl) (da_cons (de_slot 0) (da_cons (de_slot 1) da_nil)) (len_cons (len_cons len_nil))) (de_tupRg2 de_int (de_add (de_slot 0) de_int) T.z_range T.z_tuple)))))
theorem sc_signs : FnScope N_signs ["strands", "word"] (defScope (top 23)) := ⟨rfl, rfl, rfl, by decide +kernel, rfl, by decide +kernel, by decide +kernel⟩
theorem d_signs {G : Glob} {base : Heap} (T : Facts G) (V_demand_plait : DefV G base "demand_plait" 2 [.str "word"] 4 s_demand_plait) : ∀ W, DSs ⟨G, base, 4, N_signs, defScope (top 23), true⟩ W (defBody (top 23)) b_signs := by
  intro W
  have nd : N_signs.Nodup := sc_signs.nd
  exact (dss_cons (ds_ex (de_callV V_demand_plait (Nat.le_of_ble_eq_true rfl) (da_cons (de_slot 0) (da_cons (de_slot 1) da_nil)) (len_cons (len_cons len_nil))))
    (dss_cons (ds_set (i := 2) nd (de_len (de_lc [("one", 3)] nd (di_seq (de_slot 1)) (by rfl) (dg_slot 3 nd) (dts_one (dt_gt (de_slot 3) de_int)) (de_slot 3)) T.z_len))
    (dss_one (ds_ret (de_tup (da_cons (de_slot 2) (da_cons (de_sub (de_len (de_slot 1) T.z_len) (de_slot 2)) da_nil)))))))
theorem sc_turned_back : FnScope N_turned_back ["word"] (defScope (top 15)) := ⟨rfl, rfl, rfl, by decide +kernel, rfl, by decide +kernel, by decide +kernel⟩
theorem d_turned_back {G : Glob} {base : Heap} (T : Facts G) : ∀ W, DSs ⟨G, base, 0, N_turned_back, defScope (top 15), true⟩ W (defBody (top 15)) b_turned_back := by
  intro W
  have nd : N_turned_back.Nodup := sc_turned_back.nd
  exact (dss_one (ds_ret (de_tuple (de_lc [("one", 1)] nd (di_seq (de_rev (de_slot 0))) (by rfl) (dg_slot 1 nd) dts_nil (de_neg (de_slot 1))) T.z_tuple)))
theorem sc_inverse : FnScope N_inverse ["strands", "word"] (defScope (top 16)) := ⟨rfl, rfl, rfl, by decide +kernel, rfl, by decide +kernel, by decide +kernel⟩
theorem d_inverse {G : Glob} {base : Heap} (T : Facts G) (F_turned_back : Def G base "turned_back" 1 1 s_turned_back) (V_demand_plait : DefV G base "demand_plait" 2 [.str "word"] 4 s_demand_plait) : ∀ W, DSs ⟨G, base, 4, N_inverse, defScope (top 16), true⟩ W (defBody (top 16)) b_inverse := by
  intro W
  have nd : N_inverse.Nodup := sc_inverse.nd
  exact (dss_cons (ds_ex (de_callV V_demand_plait (Nat.le_of_ble_eq_true rfl) (da_cons (de_slot 0) (da_cons (de_slot 1) da_nil)) (len_cons (len_cons len_nil))))
    (dss_one (ds_ret (de_call F_turned_back (Nat.le_of_ble_eq_true rfl) (da_cons (de_slot 1) da_nil) (len_cons len_nil)))))
theorem sc_mirrored : FnScope N_mirrored ["strands", "word"] (defScope (top 19)) := ⟨rfl, rfl, rfl, by decide +kernel, rfl, by decide +kernel, by decide +kernel⟩
theorem d_mirrored {G : Glob} {base : Heap} (T : Facts G) (V_demand_plait : DefV G base "demand_plait" 2 [.str "word"] 4 s_demand_plait) : ∀ W, DSs ⟨G, base, 4, N_mirrored, defScope (top 19), true⟩ W (defBody (top 19)) b_mirrored := by
  intro W
  have nd : N_mirrored.Nodup := sc_mirrored.nd
  exact (dss_cons (ds_ex (de_callV V_demand_plait (Nat.le_of_ble_eq_true rfl) (da_cons (de_slot 0) (da_cons (de_slot 1) da_nil)) (len_cons (len_cons len_nil))))
    (dss_one (ds_ret (de_tuple (de_lc [("one", 2)] nd (di_seq (de_slot 1)) (by rfl) (dg_slot 2 nd) dts_nil (de_neg (de_slot 2))) T.z_tuple))))
theorem sc_upside_down : FnScope N_upside_down ["strands", "word"] (defScope (top 20)) := ⟨rfl, rfl, rfl, by decide +kernel, rfl, by decide +kernel, by decide +kernel⟩
theorem d_upside_down {G : Glob} {base : Heap} (T : Facts G) (V_demand_plait : DefV G base "demand_plait" 2 [.str "word"] 4 s_demand_plait) : ∀ W, DSs ⟨G, base, 4, N_upside_down, defScope (top 20), true⟩ W (defBody (top 20)) b_upside_down := by
  intro W
  have nd : N_upside_down.Nodup := sc_upside_down.nd
  exact (dss_cons (ds_ex (de_callV V_demand_plait (Nat.le_of_ble_eq_true rfl) (da_cons (de_slot 0) (da_cons (de_slot 1) da_nil)) (len_cons (len_cons len_nil))))
    (dss_one (ds_ret (de_rev (de_slot 1)))))
theorem sc_flipped : FnScope N_flipped ["strands", "word"] (defScope (top 17)) := ⟨rfl, rfl, rfl, by decide +kernel, rfl, by decide +kernel, by decide +kernel⟩
theorem d_flipped {G : Glob} {base : Heap} (T : Facts G) : ∀ W, DSs ⟨G, base, 0, N_flipped, defScope (top 17), true⟩ W (defBody (top 17)) b_flipped := by
  intro W
  have nd : N_flipped.Nodup := sc_flipped.nd
  exact (dss_one (ds_ret (de_tuple (de_lc [("one", 2)] nd (di_seq (de_slot 1)) (by rfl) (dg_slot 2 nd) dts_nil (de_if (dt_gt (de_slot 2) de_int) (de_sub (de_slot 0) (de_slot 2)) (de_sub (de_neg (de_slot 0)) (de_slot 2)))) T.z_tuple)))
theorem sc_flip : FnScope N_flip ["strands", "word"] (defScope (top 18)) := ⟨rfl, rfl, rfl, by decide +kernel, rfl, by decide +kernel, by decide +kernel⟩
theorem d_flip {G : Glob} {base : Heap} (T : Facts G) (F_flipped : Def G base "flipped" 2 1 s_flipped) (V_demand_plait : DefV G base "demand_plait" 2 [.str "word"] 4 s_demand_plait) : ∀ W, DSs ⟨G, base, 4, N_flip, defScope (top 18), true⟩ W (defBody (top 18)) b_flip := by
  intro W
  have nd : N_flip.Nodup := sc_flip.nd
  exact (dss_cons (ds_ex (de_callV V_demand_plait (Nat.le_of_ble_eq_true rfl) (da_cons (de_slot 0) (da_cons (de_slot 1) da_nil)) (len_cons (len_cons len_nil))))
    (dss_one (ds_ret (de_call F_flipped (Nat.le_of_ble_eq_true rfl) (da_cons (de_slot 0) (da_cons (de_slot 1) da_nil)) (len_cons (len_cons len_nil))))))
theorem sc_plain : FnScope N_plain ["word"] (defScope (top 21)) := ⟨rfl, rfl, rfl, by decide +kernel, rfl, by decide +kernel, by decide +kernel⟩
theorem d_plain {G : Glob} {base : Heap} (T : Facts G) : ∀ W, DSs ⟨G, base, 0, N_plain, defScope (top 21), true⟩ W (defBody (top 21)) b_plain := by
  intro W
  have nd : N_plain.Nodup := sc_plain.nd
  exact (dss_cons (ds_set (i := 1) nd (de_lst da_nil))
    (dss_cons (ds_for (di_seq (de_slot 0)) (dg_slot 2 nd)
    (dss_one (ds_if (DW.t (dw_and (dt_tru (de_slot 1)) (dw_and1 (dt_eq (de_item (de_slot 1) (de_neg de_int)) (de_neg (de_slot 2))))))
    (dss_one (ds_ex (de_pop (de_slot 1))))
    (dss_one (ds_ex (de_append (de_slot 1) (de_slot 2)))))))
    (dss_one (ds_ret (de_tuple (de_slot 1) T.z_tuple)))))
theorem sc_reduced : FnScope N_reduced ["strands", "word"] (defScope (top 22)) := ⟨rfl, rfl, rfl, by decide +kernel, rfl, by decide +kernel, by decide +kernel⟩
theorem d_reduced {G : Glob} {base : Heap} (T : Facts G) (F_plain : Def G base "plain" 1 1 s_plain) (V_demand_plait : DefV G base "demand_plait" 2 [.str "word"] 4 s_demand_plait) : ∀ W, DSs ⟨G, base, 4, N_reduced, defScope (top 22), true⟩ W (defBody (top 22)) b_reduced := by
  intro W
  have nd : N_reduced.Nodup := sc_reduced.nd
  exact (dss_cons (ds_ex (de_callV V_demand_plait (Nat.le_of_ble_eq_true rfl) (da_cons (de_slot 0) (da_cons (de_slot 1) da_nil)) (len_cons (len_cons len_nil))))
    (dss_one (ds_ret (de_call F_plain (Nat.le_of_ble_eq_true rfl) (da_cons (de_slot 1) da_nil) (len_cons len_nil)))))
theorem sc__law_reduced : FnScope N__law_reduced ["word"] (defScope (top 33)) := ⟨rfl, rfl, rfl, by decide +kernel, rfl, by decide +kernel, by decide +kernel⟩
theorem d__law_reduced {G : Glob} {base : Heap} (T : Facts G) : ∀ W, DSs ⟨G, base, 0, N__law_reduced, defScope (top 33), true⟩ W (defBody (top 33)) b__law_reduced := by
  intro W
  have nd : N__law_reduced.Nodup := sc__law_reduced.nd
  exact (dss_cons (ds_set (i := 1) nd (de_lst da_nil))
    (dss_cons (ds_for (di_seq (de_rev (de_slot 0))) (dg_slot 2 nd)
    (dss_one (ds_if (DW.t (dw_and (dt_ne (de_slot 1) (de_lst da_nil)) (dw_and1 (dt_eq (de_item (de_slot 1) de_int) (de_sub de_int (de_slot 2))))))
    (dss_one (ds_set (i := 1) nd (de_sl (de_slot 1) (do_some de_int) do_none)))
    (dss_one (ds_set (i := 1) nd (de_add (de_lst (da_cons (de_slot 2) da_nil)) (de_slot 1)))))))
    (dss_one (ds_ret (de_tuple (de_slot 1) T.z_tuple)))))
theorem sc_law : FnScope N_law ["script"] (defScope (top 34)) := ⟨rfl, rfl, rfl, by decide +kernel, rfl, by decide +kernel, by decide +kernel⟩
theorem d_law {G : Glob} {base : Heap} (T : Facts G) (F__law_draws : Def G base "_law_draws" 1 1 s__law_draws) (F__law_one : Def G base "_law_one" 3 3 s__law_one) (F__law_reduced : Def G base "_law_reduced" 1 1 s__law_reduced) (F__law_word : Def G base "_law_word" 4 4 s__law_word) (F_crossings : Def G base "crossings" 2 5 s_crossings) (F_ends : Def G base "ends" 2 5 s_ends) (F_flip : Def G base "flip" 2 5 s_flip) (F_inverse : Def G base "inverse" 2 5 s_inverse) (F_is_pure : Def G base "is_pure" 2 5 s_is_pure) (F_mirrored : Def G base "mirrored" 2 5 s_mirrored) (F_reduced : Def G base "reduced" 2 5 s_reduced) (F_rows_of : Def G base "rows_of" 2 5 s_rows_of) (F_signs : Def G base "signs" 2 5 s_signs) (F_upside_down : Def G base "upside_down" 2 5 s_upside_down) : ∀ W, DSs ⟨G, base, 5, N_law, defScope (top 34), true⟩ W (defBody (top 34)) b_law := by
  intro W
  have nd : N_law.Nodup := sc_law.nd
  exact (dss_cons (ds_set (i := 1) nd (de_call F__law_draws (Nat.le_of_ble_eq_true rfl) (da_cons (de_slot 0) da_nil) (len_cons len_nil)))
    (dss_cons (ds_set (i := 2) nd (de_lst (da_cons de_int da_nil)))
    (dss_cons (ds_set (i := 3) nd (de_callM 2 F__law_one (Nat.le_of_ble_eq_true rfl) (da_cons (de_lst (da_cons de_int (da_cons de_int (da_cons de_int (da_cons de_int (da_cons de_int (da_cons de_int da_nil))))))) (da_cons (de_slot 1) (da_cons (de_slot 2) da_nil))) (len_cons (len_cons (len_cons len_nil)))))
    (dss_cons (ds_set (i := 4) nd (de_callM 3 F__law_word (Nat.le_of_ble_eq_true rfl) (da_cons (de_slot 3) (da_cons (de_callM 2 F__law_one (Nat.le_of_ble_eq_true rfl) (da_cons (de_lst (da_cons de_int (da_cons de_int (da_cons de_int da_nil)))) (da_cons (de_slot 1) (da_cons (de_slot 2) da_nil))) (len_cons (len_cons (len_cons len_nil)))) (da_cons (de_slot 1) (da_cons (de_slot 2) da_nil)))) (len_cons (len_cons (len_cons (len_cons len_nil))))))
    (dss_cons (ds_set (i := 5) nd (de_tupRg2 de_int (de_add (de_slot 3) de_int) T.z_range T.z_tuple))
    (dss_cons (ds_set (i := 6) nd (de_lst (da_cons (de_slot 5) da_nil)))
    (dss_cons (ds_set (i := 7) nd (de_lst da_nil))
    (dss_cons (ds_for (di_seq (de_slot 4)) (dg_slot 8 nd)
    (dss_cons (ds_set (i := 9) nd (de_abs (de_slot 8) T.z_abs))
    (dss_cons (ds_ex (de_append (de_slot 7) (de_tup (da_cons (de_item (de_slot 5) (de_sub (de_slot 9) de_int)) (da_cons (de_item (de_slot 5) (de_slot 9)) (da_cons (de_if (dt_gt (de_slot 8) de_int) de_int (de_neg de_int)) da_nil))))))
    (dss_cons (ds_set (i := 5) nd (de_add (de_add (de_sl (de_slot 5) do_none (do_some (de_sub (de_slot 9) de_int))) (de_tup (da_cons (de_item (de_slot 5) (de_slot 9)) (da_cons (de_item (de_slot 5) (de_sub (de_slot 9) de_int)) da_nil)))) (de_sl (de_slot 5) (do_some (de_add (de_slot 9) de_int)) do_none)))
    (dss_one (ds_ex (de_append (de_slot 6) (de_slot 5))))))))
    (dss_cons (ds_if (DW.t (dw_or (dt_ne (de_repr (de_call F_rows_of (Nat.le_of_ble_eq_true rfl) (da_cons (de_slot 3) (da_cons (de_slot 4) da_nil)) (len_cons (len_cons len_nil))) T.z_repr) (de_repr (de_tuple (de_slot 6) T.z_tuple) T.z_repr)) (dw_or1 (dt_ne (de_repr (de_call F_crossings (Nat.le_of_ble_eq_true rfl) (da_cons (de_slot 3) (da_cons (de_slot 4) da_nil)) (len_cons (len_cons len_nil))) T.z_repr) (de_repr (de_tuple (de_slot 7) T.z_tuple) T.z_repr)))))
    (dss_one (ds_ret de_bl))
    dss_nil)
    (dss_cons (ds_set (i := 10) nd (de_tuple (de_lc [("strand", 11)] nd (di_range2 de_int (de_add (de_slot 3) de_int) T.z_range) (by rfl) (dg_slot 11 nd) dts_nil (de_add (de_tindex (de_slot 5) (de_slot 11)) de_int)) T.z_tuple))
    (dss_cons (ds_if (DW.t (dw_or (dt_ne (de_repr (de_call F_ends (Nat.le_of_ble_eq_true rfl) (da_cons (de_slot 3) (da_cons (de_slot 4) da_nil)) (len_cons (len_cons len_nil))) T.z_repr) (de_repr (de_slot 10) T.z_repr)) (dw_or1 (dt_ne (de_repr (de_call F_is_pure (Nat.le_of_ble_eq_true rfl) (da_cons (de_slot 3) (da_cons (de_slot 4) da_nil)) (len_cons (len_cons len_nil))) T.z_repr) (de_repr (de_eq (de_slot 10) (de_item (de_slot 6) de_int)) T.z_repr)))))
    (dss_one (ds_ret de_bl))
    dss_nil)
    (dss_cons (ds_if (dt_ne (de_repr (de_call F_signs (Nat.le_of_ble_eq_true rfl) (da_cons (de_slot 3) (da_cons (de_slot 4) da_nil)) (len_cons (len_cons len_nil))) T.z_repr) (de_repr (de_tup (da_cons (de_len (de_lc [("one", 8)] nd (di_seq (de_slot 4)) (by rfl) (dg_slot 8 nd) (dts_one (dt_gt (de_slot 8) de_int)) (de_slot 8)) T.z_len) (da_cons (de_len (de_lc [("one", 8)] nd (di_seq (de_slot 4)) (by rfl) (dg_slot 8 nd) (dts_one (dt_lt (de_slot 8) de_int)) (de_slot 8)) T.z_len) da_nil))) T.z_repr))
    (dss_one (ds_ret de_bl))
    dss_nil)
    (dss_cons (ds_if (DW.t (dw_or (dt_ne (de_repr (de_call F_inverse (Nat.le_of_ble_eq_true rfl) (da_cons (de_slot 3) (da_cons (de_slot 4) da_nil)) (len_cons (len_cons len_nil))) T.z_repr) (de_repr (de_tuple (de_lc [("one", 8)] nd (di_seq (de_rev (de_slot 4))) (by rfl) (dg_slot 8 nd) dts_nil (de_sub de_int (de_slot 8))) T.z_tuple) T.z_repr)) (dw_or1 (dt_ne (de_repr (de_call F_mirrored (Nat.le_of_ble_eq_true rfl) (da_cons (de_slot 3) (da_cons (de_slot 4) da_nil)) (len_cons (len_cons len_nil))) T.z_repr) (de_repr (de_tuple (de_lc [("one", 8)] nd (di_seq (de_slot 4)) (by rfl) (dg_slot 8 nd) dts_nil (de_sub de_int (de_slot 8))) T.z_tuple) T.z_repr)))))
    (dss_one (ds_ret de_bl))
    dss_nil)
    (dss_cons (ds_set (i := 12) nd (de_tuple (de_lc [("one", 8)] nd (di_seq (de_slot 4)) (by rfl) (dg_slot 8 nd) dts_nil (de_if (dt_gt (de_slot 8) de_int) (de_sub (de_slot 3) (de_slot 8)) (de_sub (de_sub de_int (de_slot 3)) (de_slot 8)))) T.z_tuple))
    (dss_cons (ds_if (DW.t (dw_or (dt_ne (de_repr (de_call F_upside_down (Nat.le_of_ble_eq_true rfl) (da_cons (de_slot 3) (da_cons (de_slot 4) da_nil)) (len_cons (len_cons len_nil))) T.z_repr) (de_repr (de_rev (de_slot 4)) T.z_repr)) (dw_or1 (dt_ne (de_repr (de_call F_flip (Nat.le_of_ble_eq_true rfl) (da_cons (de_slot 3) (da_cons (de_slot 4) da_nil)) (len_cons (len_cons len_nil))) T.z_repr) (de_repr (de_slot 12) T.z_repr)))))
    (dss_one (ds_ret de_bl))
    dss_nil)
    (dss_one (ds_ret (de_eq (de_repr (de_call F_reduced (Nat.le_of_ble_eq_true rfl) (da_cons (de_slot 3) (da_cons (de_slot 4) da_nil)) (len_cons (len_cons len_nil))) T.z_repr) (de_repr (de_call F__law_reduced (Nat.le_of_ble_eq_true rfl) (da_cons (de_slot 4) da_nil) (len_cons len_nil)) T.z_repr)))))))))))))))))))
/-! the defs behind the top -/
def dd__law_draws : He.DefD := ⟨("_law_draws", none), "_law_draws", "_law_draws", defArgs (top 28), defBody (top 28), defScope (top 28), [], []⟩
def dd__law_more : He.DefD := ⟨("_law_more", none), "_law_more", "_law_more", defArgs (top 29), defBody (top 29), defScope (top 29), [], []⟩
def dd__law_take : He.DefD := ⟨("_law_take", none), "_law_take", "_law_take", defArgs (top 30), defBody (top 30), defScope (top 30), [], []⟩
def dd__law_one : He.DefD := ⟨("_law_one", none), "_law_one", "_law_one", defArgs (top 31), defBody (top 31), defScope (top 31), [], []⟩
def dd__law_word : He.DefD := ⟨("_law_word", none), "_law_word", "_law_word", defArgs (top 32), defBody (top 32), defScope (top 32), [], []⟩
def dd_is_integer : He.DefD := ⟨("is_integer", none), "is_integer", "is_integer", defArgs (top 1), defBody (top 1), defScope (top 1), [], []⟩
def dd_in_range : He.DefD := ⟨("in_range", none), "in_range", "in_range", defArgs (top 2), defBody (top 2), defScope (top 2), [], []⟩
def dd_demand_strands : He.DefD := ⟨("demand_strands", none), "demand_strands", "demand_strands", defArgs (top 10), defBody (top 10), defScope (top 10), [], []⟩
def dd_is_word : He.DefD := ⟨("is_word", none), "is_word", "is_word", defArgs (top 11), defBody (top 11), defScope (top 11), [], []⟩
def dd_demand_plait : He.DefD := ⟨("demand_plait", none), "demand_plait", "demand_plait", defArgs (top 12), defBody (top 12), defScope (top 12), [.str "word"], []⟩
def dd_rows_of : He.DefD := ⟨("rows_of", none), "rows_of", "rows_of", defArgs (top 26), defBody (top 26), defScope (top 26), [], []⟩
def dd_crossings : He.DefD := ⟨("crossings", none), "crossings", "crossings", defArgs (top 24), defBody (top 24), defScope (top 24), [], []⟩
def dd_ends_of : He.DefD := ⟨("ends_of", none), "ends_of", "ends_of", defArgs (top 13), defBody (top 13), defScope (top 13), [], []⟩
def dd_ends : He.DefD := ⟨("ends", none), "ends", "ends", defArgs (top 14), defBody (top 14), defScope (top 14), [], []⟩
def dd_is_pure : He.DefD := ⟨("is_pure", none), "is_pure", "is_pure", defArgs (top 25), defBody (top 25), defScope (top 25), [], []⟩
def dd_signs : He.DefD := ⟨("signs", none), "signs", "signs", defArgs (top 23), defBody (top 23), defScope (top 23), [], []⟩
def dd_turned_back : He.DefD := ⟨("turned_back", none), "turned_back", "turned_back", defArgs (top 15), defBody (top 15), defScope (top 15), [], []⟩
def dd_inverse : He.DefD := ⟨("inverse", none), "inverse", "inverse", defArgs (top 16), defBody (top 16), defScope (top 16), [], []⟩
def dd_mirrored : He.DefD := ⟨("mirrored", none), "mirrored", "mirrored", defArgs (top 19), defBody (top 19), defScope (top 19), [], []⟩
def dd_upside_down : He.DefD := ⟨("upside_down", none), "upside_down", "upside_down", defArgs (top 20), defBody (top 20), defScope (top 20), [], []⟩
def dd_flipped : He.DefD := ⟨("flipped", none), "flipped", "flipped", defArgs (top 17), defBody (top 17), defScope (top 17), [], []⟩
def dd_flip : He.DefD := ⟨("flip", none), "flip", "flip", defArgs (top 18), defBody (top 18), defScope (top 18), [], []⟩
def dd_plain : He.DefD := ⟨("plain", none), "plain", "plain", defArgs (top 21), defBody (top 21), defScope (top 21), [], []⟩
def dd_reduced : He.DefD := ⟨("reduced", none), "reduced", "reduced", defArgs (top 22), defBody (top 22), defScope (top 22), [], []⟩
def dd__law_reduced : He.DefD := ⟨("_law_reduced", none), "_law_reduced", "_law_reduced", defArgs (top 33), defBody (top 33), defScope (top 33), [], []⟩
def dd_law : He.DefD := ⟨("law", none), "law", "law", defArgs (top 34), defBody (top 34), defScope (top 34), [], []⟩
def fns : List He.DefD := [dd__law_draws, dd__law_more, dd__law_take, dd__law_one, dd__law_word, dd_is_integer, dd_in_range, dd_demand_strands, dd_is_word, dd_demand_plait, dd_rows_of, dd_crossings, dd_ends_of, dd_ends, dd_is_pure, dd_signs, dd_turned_back, dd_inverse, dd_mirrored, dd_upside_down, dd_flipped, dd_flip, dd_plain, dd_reduced, dd__law_reduced, dd_law]
def fas : List He.Fa := [.glo "_law_draws", .glo "_law_more", .glo "_law_take", .glo "_law_one", .glo "_law_word", .glo "is_integer", .glo "in_range", .glo "demand_strands", .glo "is_word", .glo "demand_plait", .glo "rows_of", .glo "crossings", .glo "ends_of", .glo "ends", .glo "is_pure", .glo "signs", .glo "turned_back", .glo "inverse", .glo "mirrored", .glo "upside_down", .glo "flipped", .glo "flip", .glo "plain", .glo "reduced", .glo "_law_reduced", .glo "law", .free "abs", .free "all", .free "bool", .free "enumerate", .free "int", .free "isinstance", .free "len", .free "list", .free "max", .free "min", .free "range", .free "repr", .free "tuple", .int "MAX_STRANDS" 7, .int "MAX_WORD" 60]
theorem facts {P : Program} {w : World} {K : PySem.W.Frag} {h : Heap} {mg : Str → Option Value} (X : K.In h) (Gn : h.Ns mainGlobals mg) (c : He.SaysD fas fns K) : Facts ⟨P, w, K, mg, fun _ => none⟩ := by
  exact ⟨He.free_ok X Gn (c.fact 26 rfl), He.free_ok X Gn (c.fact 27 rfl), He.free_ok X Gn (c.fact 28 rfl), He.free_ok X Gn (c.fact 29 rfl), He.free_ok X Gn (c.fact 30 rfl), He.free_ok X Gn (c.fact 31 rfl), He.free_ok X Gn (c.fact 32 rfl), He.free_ok X Gn (c.fact 33 rfl), He.free_ok X Gn (c.fact 34 rfl), He.free_ok X Gn (c.fact 35 rfl), He.free_ok X Gn (c.fact 36 rfl), He.free_ok X Gn (c.fact 37 rfl), He.free_ok X Gn (c.fact 38 rfl), He.int_ok X Gn (c.fact 39 rfl), He.int_ok X Gn (c.fact 40 rfl)⟩
theorem chain {P : Program} {w : World} {K : PySem.W.Frag} {h : Heap} {mg : Str → Option Value} (X : K.In h) (Gn : h.Ns mainGlobals mg) (c : He.SaysD fas fns K) (base : Heap) : Def ⟨P, w, K, mg, fun _ => none⟩ base "law" 1 6 s_law := by
  have T := facts (P := P) (w := w) X Gn c
  obtain ⟨fd__law_draws, G__law_draws⟩ := c.def_ 0 (d := dd__law_draws) rfl
  have g__law_draws := He.glo_ok X Gn (c.fact 0 (f := .glo "_law_draws") rfl)
  have b__law_draws : Binds K fd__law_draws ["script"] [] := FunD.bindsN G__law_draws fun _ _ _ _ _ _ us hl => match us, hl with | [_], _ => rfl
  have F__law_draws : Def ⟨P, w, K, mg, fun _ => none⟩ base "_law_draws" 1 1 s__law_draws := def_mk (G := ⟨P, w, K, mg, fun _ => none⟩) G__law_draws sc__law_draws g__law_draws b__law_draws (d__law_draws T)
  obtain ⟨fd__law_more, G__law_more⟩ := c.def_ 1 (d := dd__law_more) rfl
  have g__law_more := He.glo_ok X Gn (c.fact 1 (f := .glo "_law_more") rfl)
  have b__law_more : Binds K fd__law_more ["draws", "place"] [] := FunD.bindsN G__law_more fun _ _ _ _ _ _ us hl => match us, hl with | [_, _], _ => rfl
  have F__law_more : Def ⟨P, w, K, mg, fun _ => none⟩ base "_law_more" 2 1 s__law_more := def_mk (G := ⟨P, w, K, mg, fun _ => none⟩) G__law_more sc__law_more g__law_more b__law_more (d__law_more T)
  obtain ⟨fd__law_take, G__law_take⟩ := c.def_ 2 (d := dd__law_take) rfl
  have g__law_take := He.glo_ok X Gn (c.fact 2 (f := .glo "_law_take") rfl)
  have b__law_take : Binds K fd__law_take ["draws", "at", "many"] [] := FunD.bindsN G__law_take fun _ _ _ _ _ _ us hl => match us, hl with | [_, _, _], _ => rfl
  have F__law_take : Def ⟨P, w, K, mg, fun _ => none⟩ base "_law_take" 3 2 s__law_take := def_mk (G := ⟨P, w, K, mg, fun _ => none⟩) G__law_take sc__law_take g__law_take b__law_take (d__law_take T F__law_more)
  obtain ⟨fd__law_one, G__law_one⟩ := c.def_ 3 (d := dd__law_one) rfl
  have g__law_one := He.glo_ok X Gn (c.fact 3 (f := .glo "_law_one") rfl)
  have b__law_one : Binds K fd__law_one ["rows", "draws", "at"] [] := FunD.bindsN G__law_one fun _ _ _ _ _ _ us hl => match us, hl with | [_, _, _], _ => rfl
  have F__law_one : Def ⟨P, w, K, mg, fun _ => none⟩ base "_law_one" 3 3 s__law_one := def_mk (G := ⟨P, w, K, mg, fun _ => none⟩) G__law_one sc__law_one g__law_one b__law_one (d__law_one T F__law_take)
  obtain ⟨fd__law_word, G__law_word⟩ := c.def_ 4 (d := dd__law_word) rfl
  have g__law_word := He.glo_ok X Gn (c.fact 4 (f := .glo "_law_word") rfl)
  have b__law_word : Binds K fd__law_word ["strands", "most", "draws", "at"] [] := FunD.bindsN G__law_word fun _ _ _ _ _ _ us hl => match us, hl with | [_, _, _, _], _ => rfl
  have F__law_word : Def ⟨P, w, K, mg, fun _ => none⟩ base "_law_word" 4 4 s__law_word := def_mk (G := ⟨P, w, K, mg, fun _ => none⟩) G__law_word sc__law_word g__law_word b__law_word (d__law_word T F__law_one F__law_take)
  obtain ⟨fd_is_integer, G_is_integer⟩ := c.def_ 5 (d := dd_is_integer) rfl
  have g_is_integer := He.glo_ok X Gn (c.fact 5 (f := .glo "is_integer") rfl)
  have b_is_integer : Binds K fd_is_integer ["value"] [] := FunD.bindsN G_is_integer fun _ _ _ _ _ _ us hl => match us, hl with | [_], _ => rfl
  have F_is_integer : Def ⟨P, w, K, mg, fun _ => none⟩ base "is_integer" 1 1 s_is_integer := def_mk (G := ⟨P, w, K, mg, fun _ => none⟩) G_is_integer sc_is_integer g_is_integer b_is_integer (d_is_integer T)
  obtain ⟨fd_in_range, G_in_range⟩ := c.def_ 6 (d := dd_in_range) rfl
  have g_in_range := He.glo_ok X Gn (c.fact 6 (f := .glo "in_range") rfl)
  have b_in_range : Binds K fd_in_range ["value", "least", "most"] [] := FunD.bindsN G_in_range fun _ _ _ _ _ _ us hl => match us, hl with | [_, _, _], _ => rfl
  have F_in_range : Def ⟨P, w, K, mg, fun _ => none⟩ base "in_range" 3 2 s_in_range := def_mk (G := ⟨P, w, K, mg, fun _ => none⟩) G_in_range sc_in_range g_in_range b_in_range (d_in_range T F_is_integer)
  obtain ⟨fd_demand_strands, G_demand_strands⟩ := c.def_ 7 (d := dd_demand_strands) rfl
  have g_demand_strands := He.glo_ok X Gn (c.fact 7 (f := .glo "demand_strands") rfl)
  have b_demand_strands : Binds K fd_demand_strands ["strands"] [] := FunD.bindsN G_demand_strands fun _ _ _ _ _ _ us hl => match us, hl with | [_], _ => rfl
  have F_demand_strands : Def ⟨P, w, K, mg, fun _ => none⟩ base "demand_strands" 1 3 s_demand_strands := def_mk (G := ⟨P, w, K, mg, fun _ => none⟩) G_demand_strands sc_demand_strands g_demand_strands b_demand_strands (d_demand_strands T F_in_range)
  obtain ⟨fd_is_word, G_is_word⟩ := c.def_ 8 (d := dd_is_word) rfl
  have g_is_word := He.glo_ok X Gn (c.fact 8 (f := .glo "is_word") rfl)
  have b_is_word : Binds K fd_is_word ["strands", "value", "most"] [] := FunD.bindsN G_is_word fun _ _ _ _ _ _ us hl => match us, hl with | [_, _, _], _ => rfl
  have F_is_word : Def ⟨P, w, K, mg, fun _ => none⟩ base "is_word" 3 3 s_is_word := def_mk (G := ⟨P, w, K, mg, fun _ => none⟩) G_is_word sc_is_word g_is_word b_is_word (d_is_word T F_in_range)
  obtain ⟨fd_demand_plait, G_demand_plait⟩ := c.def_ 9 (d := dd_demand_plait) rfl
  have g_demand_plait := He.glo_ok X Gn (c.fact 9 (f := .glo "demand_plait") rfl)
  have b_demand_plait : Binds K fd_demand_plait ["strands", "word", "reason"] [] := def_bindAll (G := ⟨P, w, K, mg, fun _ => none⟩) (x := "demand_plait") (qual := "demand_plait") (st := top 12) G_demand_plait fun T _ _ _ _ _ _ us its hl hi => match us, its, hl, hi with | [_, _, _], [_], _, _ => ⟨_, rfl, rfl⟩
  have F_demand_plait : Def ⟨P, w, K, mg, fun _ => none⟩ base "demand_plait" 3 4 s_demand_plait := def_mk (G := ⟨P, w, K, mg, fun _ => none⟩) G_demand_plait sc_demand_plait g_demand_plait b_demand_plait (d_demand_plait T F_demand_strands F_is_word)
  have v_demand_plait := def_bindOne (G := ⟨P, w, K, mg, fun _ => none⟩) (x := "demand_plait") (qual := "demand_plait") (st := top 12) (ps := ["strands", "word", "reason"]) G_demand_plait 2 rfl fun T _ _ _ _ _ _ us its hl hi => match us, its, hl, hi with | [_, _], [_], _, _ => ⟨_, rfl, rfl⟩
  have V_demand_plait : DefV ⟨P, w, K, mg, fun _ => none⟩ base "demand_plait" 2 [.str "word"] 4 s_demand_plait := defV_mk (G := ⟨P, w, K, mg, fun _ => none⟩) G_demand_plait sc_demand_plait g_demand_plait rfl v_demand_plait (d_demand_plait T F_demand_strands F_is_word)
  obtain ⟨fd_rows_of, G_rows_of⟩ := c.def_ 10 (d := dd_rows_of) rfl
  have g_rows_of := He.glo_ok X Gn (c.fact 10 (f := .glo "rows_of") rfl)
  have b_rows_of : Binds K fd_rows_of ["strands", "word"] [] := FunD.bindsN G_rows_of fun _ _ _ _ _ _ us hl => match us, hl with | [_, _], _ => rfl
  have F_rows_of : Def ⟨P, w, K, mg, fun _ => none⟩ base "rows_of" 2 5 s_rows_of := def_mk (G := ⟨P, w, K, mg, fun _ => none⟩) G_rows_of sc_rows_of g_rows_of b_rows_of (d_rows_of T V_demand_plait)
  obtain ⟨fd_crossings, G_crossings⟩ := c.def_ 11 (d := dd_crossings) rfl
  have g_crossings := He.glo_ok X Gn (c.fact 11 (f := .glo "crossings") rfl)
  have b_crossings : Binds K fd_crossings ["strands", "word"] [] := FunD.bindsN G_crossings fun _ _ _ _ _ _ us hl => match us, hl with | [_, _], _ => rfl
  have F_crossings : Def ⟨P, w, K, mg, fun _ => none⟩ base "crossings" 2 5 s_crossings := def_mk (G := ⟨P, w, K, mg, fun _ => none⟩) G_crossings sc_crossings g_crossings b_crossings (d_crossings T V_demand_plait)
  obtain ⟨fd_ends_of, G_ends_of⟩ := c.def_ 12 (d := dd_ends_of) rfl
  have g_ends_of := He.glo_ok X Gn (c.fact 12 (f := .glo "ends_of") rfl)
  have b_ends_of : Binds K fd_ends_of ["strands", "word"] [] := FunD.bindsN G_ends_of fun _ _ _ _ _ _ us hl => match us, hl with | [_, _], _ => rfl
  have F_ends_of : Def ⟨P, w, K, mg, fun _ => none⟩ base "ends_of" 2 1 s_ends_of := def_mk (G := ⟨P, w, K, mg, fun _ => none⟩) G_ends_of sc_ends_of g_ends_of b_ends_of (d_ends_of T)
  obtain ⟨fd_ends, G_ends⟩ := c.def_ 13 (d := dd_ends) rfl
  have g_ends := He.glo_ok X Gn (c.fact 13 (f := .glo "ends") rfl)
  have b_ends : Binds K fd_ends ["strands", "word"] [] := FunD.bindsN G_ends fun _ _ _ _ _ _ us hl => match us, hl with | [_, _], _ => rfl
  have F_ends : Def ⟨P, w, K, mg, fun _ => none⟩ base "ends" 2 5 s_ends := def_mk (G := ⟨P, w, K, mg, fun _ => none⟩) G_ends sc_ends g_ends b_ends (d_ends T F_ends_of V_demand_plait)
  obtain ⟨fd_is_pure, G_is_pure⟩ := c.def_ 14 (d := dd_is_pure) rfl
  have g_is_pure := He.glo_ok X Gn (c.fact 14 (f := .glo "is_pure") rfl)
  have b_is_pure : Binds K fd_is_pure ["strands", "word"] [] := FunD.bindsN G_is_pure fun _ _ _ _ _ _ us hl => match us, hl with | [_, _], _ => rfl
  have F_is_pure : Def ⟨P, w, K, mg, fun _ => none⟩ base "is_pure" 2 5 s_is_pure := def_mk (G := ⟨P, w, K, mg, fun _ => none⟩) G_is_pure sc_is_pure g_is_pure b_is_pure (d_is_pure T F_ends_of V_demand_plait)
  obtain ⟨fd_signs, G_signs⟩ := c.def_ 15 (d := dd_signs) rfl
  have g_signs := He.glo_ok X Gn (c.fact 15 (f := .glo "signs") rfl)
  have b_signs : Binds K fd_signs ["strands", "word"] [] := FunD.bindsN G_signs fun _ _ _ _ _ _ us hl => match us, hl with | [_, _], _ => rfl
  have F_signs : Def ⟨P, w, K, mg, fun _ => none⟩ base "signs" 2 5 s_signs := def_mk (G := ⟨P, w, K, mg, fun _ => none⟩) G_signs sc_signs g_signs b_signs (d_signs T V_demand_plait)
  obtain ⟨fd_turned_back, G_turned_back⟩ := c.def_ 16 (d := dd_turned_back) rfl
  have g_turned_back := He.glo_ok X Gn (c.fact 16 (f := .glo "turned_back") rfl)
  have b_turned_back : Binds K fd_turned_back ["word"] [] := FunD.bindsN G_turned_back fun _ _ _ _ _ _ us hl => match us, hl with | [_], _ => rfl
  have F_turned_back : Def ⟨P, w, K, mg, fun _ => none⟩ base "turned_back" 1 1 s_turned_back := def_mk (G := ⟨P, w, K, mg, fun _ => none⟩) G_turned_back sc_turned_back g_turned_back b_turned_back (d_turned_back T)
  obtain ⟨fd_inverse, G_inverse⟩ := c.def_ 17 (d := dd_inverse) rfl
  have g_inverse := He.glo_ok X Gn (c.fact 17 (f := .glo "inverse") rfl)
  have b_inverse : Binds K fd_inverse ["strands", "word"] [] := FunD.bindsN G_inverse fun _ _ _ _ _ _ us hl => match us, hl with | [_, _], _ => rfl
  have F_inverse : Def ⟨P, w, K, mg, fun _ => none⟩ base "inverse" 2 5 s_inverse := def_mk (G := ⟨P, w, K, mg, fun _ => none⟩) G_inverse sc_inverse g_inverse b_inverse (d_inverse T F_turned_back V_demand_plait)
  obtain ⟨fd_mirrored, G_mirrored⟩ := c.def_ 18 (d := dd_mirrored) rfl
  have g_mirrored := He.glo_ok X Gn (c.fact 18 (f := .glo "mirrored") rfl)
  have b_mirrored : Binds K fd_mirrored ["strands", "word"] [] := FunD.bindsN G_mirrored fun _ _ _ _ _ _ us hl => match us, hl with | [_, _], _ => rfl
  have F_mirrored : Def ⟨P, w, K, mg, fun _ => none⟩ base "mirrored" 2 5 s_mirrored := def_mk (G := ⟨P, w, K, mg, fun _ => none⟩) G_mirrored sc_mirrored g_mirrored b_mirrored (d_mirrored T V_demand_plait)
  obtain ⟨fd_upside_down, G_upside_down⟩ := c.def_ 19 (d := dd_upside_down) rfl
  have g_upside_down := He.glo_ok X Gn (c.fact 19 (f := .glo "upside_down") rfl)
  have b_upside_down : Binds K fd_upside_down ["strands", "word"] [] := FunD.bindsN G_upside_down fun _ _ _ _ _ _ us hl => match us, hl with | [_, _], _ => rfl
  have F_upside_down : Def ⟨P, w, K, mg, fun _ => none⟩ base "upside_down" 2 5 s_upside_down := def_mk (G := ⟨P, w, K, mg, fun _ => none⟩) G_upside_down sc_upside_down g_upside_down b_upside_down (d_upside_down T V_demand_plait)
  obtain ⟨fd_flipped, G_flipped⟩ := c.def_ 20 (d := dd_flipped) rfl
  have g_flipped := He.glo_ok X Gn (c.fact 20 (f := .glo "flipped") rfl)
  have b_flipped : Binds K fd_flipped ["strands", "word"] [] := FunD.bindsN G_flipped fun _ _ _ _ _ _ us hl => match us, hl with | [_, _], _ => rfl
  have F_flipped : Def ⟨P, w, K, mg, fun _ => none⟩ base "flipped" 2 1 s_flipped := def_mk (G := ⟨P, w, K, mg, fun _ => none⟩) G_flipped sc_flipped g_flipped b_flipped (d_flipped T)
  obtain ⟨fd_flip, G_flip⟩ := c.def_ 21 (d := dd_flip) rfl
  have g_flip := He.glo_ok X Gn (c.fact 21 (f := .glo "flip") rfl)
  have b_flip : Binds K fd_flip ["strands", "word"] [] := FunD.bindsN G_flip fun _ _ _ _ _ _ us hl => match us, hl with | [_, _], _ => rfl
  have F_flip : Def ⟨P, w, K, mg, fun _ => none⟩ base "flip" 2 5 s_flip := def_mk (G := ⟨P, w, K, mg, fun _ => none⟩) G_flip sc_flip g_flip b_flip (d_flip T F_flipped V_demand_plait)
  obtain ⟨fd_plain, G_plain⟩ := c.def_ 22 (d := dd_plain) rfl
  have g_plain := He.glo_ok X Gn (c.fact 22 (f := .glo "plain") rfl)
  have b_plain : Binds K fd_plain ["word"] [] := FunD.bindsN G_plain fun _ _ _ _ _ _ us hl => match us, hl with | [_], _ => rfl
  have F_plain : Def ⟨P, w, K, mg, fun _ => none⟩ base "plain" 1 1 s_plain := def_mk (G := ⟨P, w, K, mg, fun _ => none⟩) G_plain sc_plain g_plain b_plain (d_plain T)
  obtain ⟨fd_reduced, G_reduced⟩ := c.def_ 23 (d := dd_reduced) rfl
  have g_reduced := He.glo_ok X Gn (c.fact 23 (f := .glo "reduced") rfl)
  have b_reduced : Binds K fd_reduced ["strands", "word"] [] := FunD.bindsN G_reduced fun _ _ _ _ _ _ us hl => match us, hl with | [_, _], _ => rfl
  have F_reduced : Def ⟨P, w, K, mg, fun _ => none⟩ base "reduced" 2 5 s_reduced := def_mk (G := ⟨P, w, K, mg, fun _ => none⟩) G_reduced sc_reduced g_reduced b_reduced (d_reduced T F_plain V_demand_plait)
  obtain ⟨fd__law_reduced, G__law_reduced⟩ := c.def_ 24 (d := dd__law_reduced) rfl
  have g__law_reduced := He.glo_ok X Gn (c.fact 24 (f := .glo "_law_reduced") rfl)
  have b__law_reduced : Binds K fd__law_reduced ["word"] [] := FunD.bindsN G__law_reduced fun _ _ _ _ _ _ us hl => match us, hl with | [_], _ => rfl
  have F__law_reduced : Def ⟨P, w, K, mg, fun _ => none⟩ base "_law_reduced" 1 1 s__law_reduced := def_mk (G := ⟨P, w, K, mg, fun _ => none⟩) G__law_reduced sc__law_reduced g__law_reduced b__law_reduced (d__law_reduced T)
  obtain ⟨fd_law, G_law⟩ := c.def_ 25 (d := dd_law) rfl
  have g_law := He.glo_ok X Gn (c.fact 25 (f := .glo "law") rfl)
  have b_law : Binds K fd_law ["script"] [] := FunD.bindsN G_law fun _ _ _ _ _ _ us hl => match us, hl with | [_], _ => rfl
  have F_law : Def ⟨P, w, K, mg, fun _ => none⟩ base "law" 1 6 s_law := def_mk (G := ⟨P, w, K, mg, fun _ => none⟩) G_law sc_law g_law b_law (d_law T F__law_draws F__law_one F__law_reduced F__law_word F_crossings F_ends F_flip F_inverse F_is_pure F_mirrored F_reduced F_rows_of F_signs F_upside_down)
  exact F_law
end K01

set_option maxHeartbeats 2000000
/-! k01: the plain law -/
namespace Com
open PySem PySem.Spec PV
/-! reduction from the left and from the right -/
def pushL (x : Int) (f : List Int) : List Int := if f.head? = some (0 - x) then f.tail else x :: f
theorem push_comm (x y : Int) (w : List Int) : pushR (pushL x w) y = pushL x (pushR w y) := by
  match w with
  | [] =>
    have e1 : pushL x [] = [x] := rfl
    have e2 : pushR [] y = [y] := rfl
    rw [e1, e2]
    unfold pushR pushL
    by_cases h : x = -y
    · rw [if_pos ⟨by simp, by simp [h]⟩, if_pos (by simp [h])]
      rfl
    · rw [if_neg (by simp [h]), if_neg (by simp; omega)]
      rfl
  | [a] =>
    have l1 : ∀ l : List Int, pushL x (a :: l) = if a = -x then l else x :: a :: l := fun l => by
      unfold pushL
      by_cases h : a = -x
      · rw [if_pos h, if_pos (by rw [List.head?_cons, h]; congr 1; omega)]
        rfl
      · rw [if_neg h, if_neg (by rw [List.head?_cons]; intro z; exact h (by have := Option.some.inj z; omega))]
    have r1 : pushR [a] y = if a = -y then [] else [a, y] := by
      unfold pushR
      by_cases h : a = -y
      · rw [if_pos h, if_pos ⟨by simp, by rw [h]; rfl⟩]
        rfl
      · rw [if_neg h, if_neg (fun z => h (Option.some.inj z.2))]
        rfl
    have r2 : pushR [x, a] y = if a = -y then [x] else [x, a, y] := by
      unfold pushR
      by_cases h : a = -y
      · rw [if_pos h, if_pos ⟨by simp, by rw [h]; rfl⟩]
        rfl
      · rw [if_neg h, if_neg (fun z => h (Option.some.inj z.2))]
        rfl
    rw [l1, r1]
    by_cases h1 : a = -x
    · rw [if_pos h1]
      by_cases h2 : a = -y
      · rw [if_pos h2]
        have : x = y := by omega
        subst this
        rfl
      · rw [if_neg h2, l1, if_pos h1]
        rfl
    · rw [if_neg h1, r2]
      by_cases h2 : a = -y
      · rw [if_pos h2, if_pos h2]
        rfl
      · rw [if_neg h2, if_neg h2, l1, if_neg h1]
  | a :: b :: w =>
    have g : ∀ (c : Int) (l : List Int), l ≠ [] → pushR (c :: l) y = c :: pushR l y := by
      intro c l hl
      unfold pushR
      have e : (c :: l).getLast? = l.getLast? := by
        cases l with
        | nil => exact absurd rfl hl
        | cons d l => rw [List.getLast?_cons_cons]
      rw [e]
      by_cases h : l.getLast? = some (-y)
      · rw [if_pos ⟨by simp, h⟩, if_pos ⟨hl, h⟩, List.dropLast_cons_of_ne_nil hl]
      · rw [if_neg (fun z => h z.2), if_neg (fun z => h z.2)]
        rfl
    rw [g a (b :: w) (by simp)]
    unfold pushL
    by_cases h : a = 0 - x
    · rw [if_pos (by simp [h]), if_pos (by simp [h])]
      rfl
    · rw [if_neg (by simp; omega), if_neg (by simp; omega), g x _ (by simp), g a _ (by simp)]
theorem reduce_same (ws : List Int) : ws.foldl pushR [] = ws.foldr pushL [] := by
  have step : ∀ (xs : List Int) (y : Int), (xs ++ [y]).foldr pushL [] = pushR (xs.foldr pushL []) y := by
    intro xs y
    induction xs with
    | nil => rfl
    | cons x xs ih => rw [List.cons_append, List.foldr_cons, ih, List.foldr_cons, push_comm]
  have : ∀ us : List Int, us.reverse.foldl pushR [] = us.reverse.foldr pushL [] := by
    intro us
    induction us with
    | nil => rfl
    | cons y us ih => rw [List.reverse_cons, List.foldl_append, step, ih]; rfl
  have e := this ws.reverse
  rw [List.reverse_reverse] at e
  exact e
end Com
namespace K01
open PySem PySem.Spec PV Com
theorem lred_step (w o2 : Option D) (S : Sto) (q : Nat) (f : List Int) (y : Int) (h : S[q]? = some (.lst (zs f))) (hl : f.length < 1000) : ∃ (q' : Nat) (S' : Sto), S'[q']? = some (.lst (zs (pushL y f))) ∧
    c__law_reduced_1 [w, some (.ref q), some (.int y)] S = .nx [w, some (.ref q'), some (.int y)] S' := by
  have h1 : (S ++ [Cell.lst []])[q]? = some (.lst (zs f)) := get_app h
  have ne := ne_ref (st := S ++ [.lst []]) (a := q) (b := S.length) (ns := f) (ms := []) h1 (at_last _ _)
  have h2 : (S ++ [Cell.lst []] ++ [Cell.lst [.int y]])[q]? = some (.lst (zs f)) := get_app h1
  have y2 : (S ++ [Cell.lst []] ++ [Cell.lst [.int y]])[(S ++ [Cell.lst []]).length]? = some (.lst (zs [y])) := at_last _ _
  have ad := add_at y2 h2 (by simp; unfold line; omega)
  have ez : zs [y] ++ zs f = zs (y :: f) := rfl
  rw [ez] at ad
  have E : sAsg (e2 dAdd (eA dLst (aCons (eSlot 2) aNil)) (eSlot 1)) (gSlot 1) [w, some (.ref q), some (.int y)] (S ++ [.lst []]) = .nx [w, some (.ref (S ++ [Cell.lst []] ++ [Cell.lst [D.int y]]).length), some (.int y)] (S ++ [.lst []] ++ [.lst [.int y]] ++ [.lst (zs (y :: f))]) := by
    simp -implicitDefEqProofs only [sasg_ev, e2_ev, ea_ev, acons_ev, slot_ev, List.getElem?_cons_zero, List.getElem?_cons_succ, ccat_ok, anil_ev, cons_ok, bind_ok, lst1, two_ok, ad, asg_ok, gslot_ev, List.set_cons_succ, List.set_cons_zero, nxt_some]
  have at_e : (S ++ [Cell.lst []] ++ [Cell.lst [D.int y]] ++ [Cell.lst (zs (y :: f))])[(S ++ [Cell.lst []] ++ [Cell.lst [D.int y]]).length]? = some (.lst (zs (y :: f))) := at_last _ _
  have t1 : (tE (e2 dNe (eSlot 1) (eA dLst aNil))) [w, some (.ref q), some (.int y)] S = .ok (!decide (f = [])) (S ++ [.lst []]) := by
    simp -implicitDefEqProofs only [te_ev, e2_ev, slot_ev, List.getElem?_cons_zero, List.getElem?_cons_succ, two_ok, ea_ev, anil_ev, bind_ok, lst0, ne, toB_ok]
  unfold c__law_reduced_1
  rw [sif_ev, tand_ev, t1]
  cases f with
  | nil =>
    refine ⟨_, _, at_e, ?_⟩
    show ((R.ok false (S ++ [Cell.lst []])).andT _ _).iff _ _ _ = _
    rw [andT_f, iff_f, E]
  | cons x g =>
    have i0 : dIx (.ref q) (.int 0) (S ++ [.lst []]) = .ok (.int x) (S ++ [.lst []]) := ix_at h1 (atI_zero _ _)
    have t2 : (tE (e2 dEq (e2 dIx (eSlot 1) (eC (.int 0))) (e2 dSub (eC (.int 0)) (eSlot 2)))) [w, some (.ref q), some (.int y)] (S ++ [.lst []]) = .ok (decide (x = 0 - y)) (S ++ [.lst []]) := by
      simp -implicitDefEqProofs only [te_ev, e2_ev, slot_ev, List.getElem?_cons_zero, List.getElem?_cons_succ, two_ok, c_ev, bind_ok, i0, sub_i, eq_i, toB_ok]
    have T : (R.ok (!decide (x :: g = [])) (S ++ [Cell.lst []])).andT (tE (e2 dEq (e2 dIx (eSlot 1) (eC (.int 0))) (e2 dSub (eC (.int 0)) (eSlot 2)))) [w, some (.ref q), some (.int y)] = .ok (decide (x = 0 - y)) (S ++ [.lst []]) := t2
    rw [T]
    by_cases hx : x = 0 - y
    · have e : pushL y (x :: g) = g := by
        unfold pushL
        rw [if_pos (by rw [hx]; rfl)]
        rfl
      have s1 := sl_at (lo := some 1) (hi := none) h1
      have c1 : cut (zs (x :: g)) (some 1) none = zs g := (cut_from (zs (x :: g)) 1).trans rfl
      rw [c1] at s1
      refine ⟨(S ++ [Cell.lst []]).length, S ++ [.lst []] ++ [.lst (zs g)], by rw [e]; exact at_last _ _, ?_⟩
      rw [decide_eq_true hx, iff_t]
      simp -implicitDefEqProofs only [sasg_ev, sl_ev, slot_ev, List.getElem?_cons_zero, List.getElem?_cons_succ, slc_ok, oso_ev, c_ev, toI_ok, slc2_ok, ono_ev, slc3_ok, s1, asg_ok, gslot_ev, List.set_cons_succ, List.set_cons_zero, nxt_some]
    · have e : pushL y (x :: g) = y :: x :: g := by
        unfold pushL
        rw [if_neg (fun z : (x :: g).head? = some (0 - y) => hx (Option.some.inj z))]
      refine ⟨_, _, by rw [e]; exact at_e, ?_⟩
      rw [decide_eq_false hx, iff_f, E]
theorem pushL_len (y : Int) (f : List Int) : (pushL y f).length ≤ f.length + 1 := by
  unfold pushL
  split <;> simp <;> omega
theorem lred1 (ws : List Int) (hl : ws.length ≤ 500) : s__law_reduced [.tup (zs ws)] [] = .ok (.tup (zs (ws.foldr pushL []))) [] := by
  have loop := forL_ok (g := gSlot 2) (b := c__law_reduced_1) (w := []) (P := fun xs ρ st => ∃ (us f : List Int) (o2 : Option D) (q : Nat), xs = zs us ∧ f.length + us.length ≤ 500 ∧ us.foldl (fun f y => pushL y f) f = ws.foldr pushL [] ∧ st[q]? = some (.lst (zs f)) ∧ ρ = [some (.tup (zs ws)), some (.ref q), o2])
    (fun _ _ _ _ => rfl) (by
      rintro x xs ρ st ⟨us, f, o2, q, hx, ha, he, hq, rfl⟩
      obtain ⟨z, vs, rfl, rfl, rfl⟩ := zs_cons hx
      rw [List.length_cons] at ha
      have := pushL_len z f
      obtain ⟨q', S', h1, e⟩ := lred_step (some (.tup (zs ws))) none st q f z hq (by omega)
      exact ⟨_, _, rfl, _, _, .inl e, vs, pushL z f, _, q', rfl, by omega, he, h1, rfl⟩)
  have rv : (zs ws).reverse = zs ws.reverse := by rw [zs, zs, List.map_reverse]
  obtain ⟨ρ', st', e, us, f, o2, q, hx, _, he, hq, rfl⟩ := loop (zs ws.reverse) [some (.tup (zs ws)), some (.ref 0), none] [.lst (zs [])] ⟨ws.reverse, [], none, 0, rfl, by simpa using hl, by rw [List.foldl_reverse], rfl, rfl⟩
  have := zs_nil hx
  subst this
  have he' : f = ws.foldr pushL [] := he
  subst he'
  refine sem_rt (b := b__law_reduced) (n := 3) (d := .tup (zs (ws.foldr pushL []))) (st' := st') ?_ (fin_zs _ _)
  have A : sAsg (eA dLst aNil) (gSlot 1) [some (.tup (zs ws)), none, none] [] = .nx [some (.tup (zs ws)), some (.ref 0), none] [.lst (zs [])] := rfl
  have B : sFor (iSeq (e1 dRev (eSlot 0))) (gSlot 2) c__law_reduced_1 [some (.tup (zs ws)), some (.ref 0), none] [.lst (zs [])] = _ := (show _ = forL (gSlot 2) c__law_reduced_1 [] (zs ws.reverse) _ _ by
    simp -implicitDefEqProofs only [sfor_ev, iseq_ev, e1_ev, slot_ev, List.getElem?_cons_zero, List.getElem?_cons_succ, bind_ok, rev_tup, rv, itseq_tup, forI_ok]).trans e
  show b__law_reduced [some (.tup (zs ws)), none, none] [] = _
  unfold b__law_reduced
  rw [sseq_ev, A, thn_nx, sseq_ev, B, thn_nx]
  exact ret_tuple (q := q) rfl hq
theorem lred_ok (ws : List Int) (hl : ws.length ≤ 500) (st : Sto) : callP s__law_reduced [.tup (zs ws)] st = .ok (.tup (zs (ws.foldr pushL []))) st := callP_of (by simp) (lred1 ws hl)
/-! row.index(strand) + 1 for every strand -/
theorem find_zs (x : Int) : ∀ r : List Int, x ∈ r → (zs r).findIdx? (fun z => z.eqF (.int x)) = some (r.idxOf x)
  | [], h => by cases h
  | y :: r, h => by
    rw [zs, List.map_cons, List.findIdx?_cons, List.idxOf_cons]
    show (if (y == x) = true then _ else _) = some (bif y == x then 0 else _)
    by_cases e : y = x
    · subst e
      simp
    · have n : (y == x) = false := by simp [e]
      rw [n, if_neg (by simp)]
      rcases List.mem_cons.mp h with z | m
      · exact absurd z.symm e
      · have := find_zs x r m
        rw [zs] at this
        rw [this]
        rfl
theorem index_zs (x : Int) (r : List Int) (h : x ∈ r) (st : Sto) : dTIndex (.tup (zs r)) (.int x) st = .ok (.int (r.idxOf x : Nat)) st := by
  have f : (zs r).all D.flat = true := by simp [zs]; intro z _; rfl
  have c : ((D.int x).flat && (zs r).all D.flat) = true := by rw [f]; rfl
  show (if ((D.int x).flat && (zs r).all D.flat) = true then (match (zs r).findIdx? (fun z => z.eqF (.int x)) with
    | some j => R.ok (D.int (j : Nat)) st
    | none => .bad) else .bad) = _
  rw [if_pos c, find_zs x r h]
/-- the ends by looking -/
def endsI (s : Nat) (r : List Int) : List Int := (idr s).map fun x => (r.idxOf x : Int) + 1
theorem rangeL_idr (s : Nat) : rangeL 1 ((s : Int) + 1) = zs (idr s) := rgD_idr s
theorem ends_eq {s : Nat} {r : List Int} (h : r.Perm (idr s)) : endsOf 0 (List.replicate s 0) r = endsI s r := by
  apply List.ext_getElem?
  intro k
  by_cases hk : k < s
  · have nd : r.Nodup := h.nodup_iff.mpr (idr_nodup s)
    have e : ((k : Int) + 1) ∈ r := h.mem_iff.mpr (mem_idr.mpr ⟨by omega, by omega⟩)
    rw [endsOf_get r 0 _ k nd (fun x m => by
      have := mem_idr.mp (h.mem_iff.mp m)
      rw [List.length_replicate]
      exact this) (by rw [List.length_replicate]; exact hk), if_pos e]
    unfold endsI idr
    rw [List.map_map, List.getElem?_map, List.getElem?_range hk]
    show some _ = some ((r.idxOf (1 + (k : Int)) : Int) + 1)
    rw [Int.add_comm 1 (k : Int)]
    congr 1
    omega
  · rw [List.getElem?_eq_none (by rw [endsOf_len, List.length_replicate]; omega), List.getElem?_eq_none (by simp [endsI]; omega)]
/-! the law's walk along the word -/
theorem law_step (s : Nat) (a0 a1_ a3 a4 a9 b1 b2 b3 : Option D) (c0 c1 c2 : Cell) (z : Int) (hz : Lt s z) (racc macc : List (List Int)) (r : List Int) (hr : r.length = s) (hs : s ≤ 100) (hl : racc.length < 1000) (hl2 : macc.length < 1000) : ∃ q9,
    c_law_1 [a0, a1_, some (.ref 0), a3, a4, some (.tup (zs r)), some (.ref 3), some (.ref 4), some (.int z), a9, b1, b2, b3] [c0, c1, c2, .lst (zss racc), .lst (zss macc)]
      = .nx [a0, a1_, some (.ref 0), a3, a4, some (.tup (zs (sw z.natAbs r))), some (.ref 3), some (.ref 4), some (.int z), q9, b1, b2, b3] [c0, c1, c2, .lst (zss (racc ++ [sw z.natAbs r])), .lst (zss (macc ++ [[r.getD (z.natAbs - 1) 0, r.getD z.natAbs 0, sgn z]]))] := by
  obtain ⟨p1, p2⟩ := hz.place
  have hz1 : ((z.natAbs : Int) - 1) = ((z.natAbs - 1 : Nat) : Int) := by omega
  have hz2 : ((z.natAbs : Int) + 1) = ((z.natAbs + 1 : Nat) : Int) := by omega
  have i1 : L2.atI (zs r) ((z.natAbs : Nat) : Int) = some (.int (r.getD z.natAbs 0)) := at_zs (by omega)
  have i2 : L2.atI (zs r) (((z.natAbs : Nat) : Int) - 1) = some (.int (r.getD (z.natAbs - 1) 0)) := by rw [hz1]; exact at_zs (by omega)
  have ap := app_ref (st := [c0, c1, c2, .lst (zss racc), .lst (zss macc)]) (n := 4) (v := .tup [.int (r.getD (z.natAbs - 1) 0), .int (r.getD z.natAbs 0), .int (sgn z)]) (xs := zss macc) rfl (by simp; unfold line; omega)
  have A : sAsg (eA (a1 dAbs) (aCons (eSlot 8) aNil)) (gSlot 9) [a0, a1_, some (.ref 0), a3, a4, some (.tup (zs r)), some (.ref 3), some (.ref 4), some (.int z), a9, b1, b2, b3] [c0, c1, c2, .lst (zss racc), .lst (zss macc)] = .nx [a0, a1_, some (.ref 0), a3, a4, some (.tup (zs r)), some (.ref 3), some (.ref 4), some (.int z), some (.int (z.natAbs : Nat)), b1, b2, b3] [c0, c1, c2, .lst (zss racc), .lst (zss macc)] := by
    simp -implicitDefEqProofs only [sasg_ev, ea_ev, acons_ev, slot_ev, List.getElem?_cons_zero, List.getElem?_cons_succ, ccat_ok, anil_ev, cons_ok, bind_ok, a1_ev, abs_nat, asg_ok, gslot_ev, List.set_cons_succ, List.set_cons_zero, nxt_some]
  generalize hρ : ([a0, a1_, some (.ref 0), a3, a4, some (.tup (zs r)), some (.ref 3), some (.ref 4), some (.int z), some (.int (z.natAbs : Nat)), b1, b2, b3] : En) = ρ at A
  have g5 : ρ[5]? = some (some (.tup (zs r))) := by rw [← hρ]; rfl
  have g6 : ρ[6]? = some (some (.ref 3)) := by rw [← hρ]; rfl
  have g7 : ρ[7]? = some (some (.ref 4)) := by rw [← hρ]; rfl
  have g8 : ρ[8]? = some (some (.int z)) := by rw [← hρ]; rfl
  have g9 : ρ[9]? = some (some (.int (z.natAbs : Nat))) := by rw [← hρ]; rfl
  have x1 : ∀ S : Sto, (e2 dIx (eSlot 5) (eSlot 9)) ρ S = .ok (.int (r.getD z.natAbs 0)) S := fun S => by
    rw [e2_ev, slot_ev, g5]
    show R.bind (eSlot 9 ρ S) _ = _
    rw [slot_ev, g9]
    show dIx (.tup (zs r)) (.int (z.natAbs : Nat)) S = _
    rw [ix_tup, i1]
  have x2 : ∀ S : Sto, (e2 dIx (eSlot 5) (e2 dSub (eSlot 9) (eC (.int 1)))) ρ S = .ok (.int (r.getD (z.natAbs - 1) 0)) S := fun S => by
    rw [e2_ev, slot_ev, g5]
    show R.bind (e2 dSub (eSlot 9) (eC (.int 1)) ρ S) _ = _
    rw [e2_ev, slot_ev, g9]
    show dIx (.tup (zs r)) (.int ((z.natAbs : Nat) - 1)) S = _
    rw [ix_tup, i2]
  have sg : ∀ S : Sto, eIf (tE (e2 dGt (eSlot 8) (eC (.int 0)))) (eC (.int 1)) (e1 dNeg (eC (.int 1))) ρ S = .ok (.int (sgn z)) S := fun S => sgn_if g8
  have B : sEx (eM (fun d _ => d.isRef) dAppend (eSlot 7) (eA dTup (aCons (e2 dIx (eSlot 5) (e2 dSub (eSlot 9) (eC (.int 1)))) (aCons (e2 dIx (eSlot 5) (eSlot 9)) (aCons (eIf (tE (e2 dGt (eSlot 8) (eC (.int 0)))) (eC (.int 1)) (e1 dNeg (eC (.int 1)))) aNil))))) ρ [c0, c1, c2, .lst (zss racc), .lst (zss macc)] = .nx ρ [c0, c1, c2, .lst (zss racc), .lst (zss macc ++ [.tup [.int (r.getD (z.natAbs - 1) 0), .int (r.getD z.natAbs 0), .int (sgn z)]])] := by
    rw [sex_ev, em_ev, slot_ev, g7]
    show (mth2 true _ _).drop ρ = _
    rw [mth2_t, ea_ev, acons_ev, x2, ccat_ok, acons_ev, x1, ccat_ok, acons_ev, sg, ccat_ok, anil_ev, cons_ok, cons_ok, cons_ok, bind_ok, tup3, bind_ok, ap, drop_ok]
    rfl
  have s1 : ∀ S : Sto, (eSl (eSlot 5) oNo (oSo (e2 dSub (eSlot 9) (eC (.int 1))))) ρ S = .ok (.tup (zs (r.take (z.natAbs - 1)))) S := fun S => by
    have c : cut (zs r) none (some ((z.natAbs : Int) - 1)) = zs (r.take (z.natAbs - 1)) := by rw [hz1, cut_to]; exact (List.map_take).symm
    have o : (oSo (e2 dSub (eSlot 9) (eC (.int 1)))) ρ S = .ok (some ((z.natAbs : Int) - 1)) S := by
      rw [oso_ev, e2_ev, slot_ev, g9]
      rfl
    rw [sl_ev, slot_ev, g5]
    show R.slc2 (oNo ρ S) _ _ _ = _
    rw [ono_ev, slc2_ok, o, slc3_ok, sl_tup, c]
  have s2 : ∀ S : Sto, (eSl (eSlot 5) (oSo (e2 dAdd (eSlot 9) (eC (.int 1)))) oNo) ρ S = .ok (.tup (zs (r.drop (z.natAbs + 1)))) S := fun S => by
    have c : cut (zs r) (some ((z.natAbs : Int) + 1)) none = zs (r.drop (z.natAbs + 1)) := by rw [hz2, cut_from]; exact (List.map_drop).symm
    have o : (oSo (e2 dAdd (eSlot 9) (eC (.int 1)))) ρ S = .ok (some ((z.natAbs : Int) + 1)) S := by
      rw [oso_ev, e2_ev, slot_ev, g9]
      rfl
    rw [sl_ev, slot_ev, g5]
    show R.slc2 (oSo (e2 dAdd (eSlot 9) (eC (.int 1))) ρ S) _ _ _ = _
    rw [o, slc2_ok, ono_ev, slc3_ok, sl_tup, c]
  have tp : ∀ S : Sto, (eA dTup (aCons (e2 dIx (eSlot 5) (eSlot 9)) (aCons (e2 dIx (eSlot 5) (e2 dSub (eSlot 9) (eC (.int 1)))) aNil))) ρ S = .ok (.tup (zs [r.getD z.natAbs 0, r.getD (z.natAbs - 1) 0])) S := fun S => by
    rw [ea_ev, acons_ev, x1, ccat_ok, acons_ev, x2, ccat_ok, anil_ev, cons_ok, cons_ok, bind_ok, tup2]
    rfl
  have tadd : ∀ (S : Sto) (xs ys : List Int), xs.length + ys.length ≤ 1000 → dAdd (.tup (zs xs)) (.tup (zs ys)) S = .ok (.tup (zs (xs ++ ys))) S := fun S xs ys h => by
    show (if (zs xs).length + (zs ys).length ≤ line then R.ok (D.tup (zs xs ++ zs ys)) S else .bad) = _
    rw [if_pos (by simp; unfold line; omega), zs, zs, zs, List.map_append]
  have C : sAsg (e2 dAdd (e2 dAdd (eSl (eSlot 5) oNo (oSo (e2 dSub (eSlot 9) (eC (.int 1))))) (eA dTup (aCons (e2 dIx (eSlot 5) (eSlot 9)) (aCons (e2 dIx (eSlot 5) (e2 dSub (eSlot 9) (eC (.int 1)))) aNil)))) (eSl (eSlot 5) (oSo (e2 dAdd (eSlot 9) (eC (.int 1)))) oNo)) (gSlot 5) ρ [c0, c1, c2, .lst (zss racc), .lst (zss macc ++ [.tup [.int (r.getD (z.natAbs - 1) 0), .int (r.getD z.natAbs 0), .int (sgn z)]])] = .nx (ρ.set 5 (some (.tup (zs (sw z.natAbs r))))) [c0, c1, c2, .lst (zss racc), .lst (zss macc ++ [.tup [.int (r.getD (z.natAbs - 1) 0), .int (r.getD z.natAbs 0), .int (sgn z)]])] := by
    rw [sasg_ev, e2_ev, e2_ev, s1, two_ok, tp, bind_ok, tadd _ _ _ (by simp; omega), two_ok, s2, bind_ok, tadd _ _ _ (by simp; omega), asg_ok, gslot_ev, nxt_some, sw_cut p1 (by omega)]
  have ap2 := app_ref (st := [c0, c1, c2, .lst (zss racc), .lst (zss macc ++ [.tup [.int (r.getD (z.natAbs - 1) 0), .int (r.getD z.natAbs 0), .int (sgn z)]])]) (n := 3) (v := .tup (zs (sw z.natAbs r))) (xs := zss racc) rfl (by simp; unfold line; omega)
  refine ⟨some (.int (z.natAbs : Nat)), ?_⟩
  have f1 : zss (macc ++ [[r.getD (z.natAbs - 1) 0, r.getD z.natAbs 0, sgn z]]) = zss macc ++ [.tup [.int (r.getD (z.natAbs - 1) 0), .int (r.getD z.natAbs 0), .int (sgn z)]] := by rw [zss, List.map_append]; rfl
  have f2 : zss (racc ++ [sw z.natAbs r]) = zss racc ++ [.tup (zs (sw z.natAbs r))] := by rw [zss, List.map_append]; rfl
  rw [f1, f2]
  unfold c_law_1
  rw [sseq_ev, A, thn_nx, sseq_ev, B, thn_nx, sseq_ev, C, thn_nx, ← hρ]
  simp -implicitDefEqProofs only [List.set_cons_succ, List.set_cons_zero, sex_ev, em_ev, slot_ev, List.getElem?_cons_zero, List.getElem?_cons_succ, mth_ok, isref_ref, mth2_t, bind_ok, ap2, drop_ok]
end K01

set_option maxHeartbeats 2000000
/-! k01: the plain law, whole -/
namespace Com
open PySem PySem.Spec PV
theorem rep_of {X : FE} {ρ : En} {S S' : Sto} {d : D} {t : Str} (h : X ρ S = .ok d S') (hr : dRepr d S' = .ok (.str t) S') : eA (a1 dRepr) (aCons X aNil) ρ S = .ok (.str t) S' := by
  rw [ea_ev, acons_ev, h, ccat_ok, anil_ev, cons_ok, bind_ok, a1_ev, hr]
theorem ne_same {A B : FE} {ρ : En} {S S1 S2 : Sto} {t : Str} (h1 : A ρ S = .ok (.str t) S1) (h2 : B ρ S1 = .ok (.str t) S2) : (tE (e2 dNe A B)) ρ S = .ok false S2 := by
  rw [te_ev, e2_ev, h1, two_ok, h2, bind_ok, ne_s, decide_eq_true rfl]
  rfl
theorem eq_same {A B : FE} {ρ : En} {S S1 S2 : Sto} {t : Str} (h1 : A ρ S = .ok (.str t) S1) (h2 : B ρ S1 = .ok (.str t) S2) : (e2 dEq A B) ρ S = .ok (.bl true) S2 := by
  rw [e2_ev, h1, two_ok, h2, bind_ok, eq_s, decide_eq_true rfl]
theorem or_ff {a b : FT} {ρ : En} {S S1 S2 : Sto} (h1 : a ρ S = .ok false S1) (h2 : b ρ S1 = .ok false S2) : tOr a b ρ S = .ok false S2 := by
  rw [tor_ev, h1, orT_f, h2]
theorem if_ff {c : FT} {a : FS} {ρ : En} {S S1 : Sto} (h : c ρ S = .ok false S1) : sIf c a sNext ρ S = .nx ρ S1 := by
  rw [sif_ev, h, iff_f, snext_ev]
theorem call2 {f : Fs} {ρ : En} {S : Sto} {i j : Nat} {x y d : D} (h1 : ρ[i]? = some (some x)) (h2 : ρ[j]? = some (some y)) (h : callP f [x, y] S = .ok d S) : eA (callP f) (aCons (eSlot i) (aCons (eSlot j) aNil)) ρ S = .ok d S := by
  rw [ea_ev, acons_ev, slot_ev, h1]
  show R.bind ((aCons (eSlot j) aNil ρ S).cons x) _ = _
  rw [acons_ev, slot_ev, h2]
  exact h
theorem call1 {f : Fs} {ρ : En} {S : Sto} {i : Nat} {x d : D} (h1 : ρ[i]? = some (some x)) (h : callP f [x] S = .ok d S) : eA (callP f) (aCons (eSlot i) aNil) ρ S = .ok d S := by
  rw [ea_ev, acons_ev, slot_ev, h1]
  exact h
theorem tuple_of {X : FE} {ρ : En} {S S' : Sto} {q : Nat} {xs : List D} (h : X ρ S = .ok (.ref q) S') (h2 : S'[q]? = some (.lst xs)) : eA (a1 dTuple) (aCons X aNil) ρ S = .ok (.tup xs) S' := by
  rw [ea_ev, acons_ev, h, ccat_ok, anil_ev, cons_ok, bind_ok, a1_ev, tuple_at h2]
theorem len_of {X : FE} {ρ : En} {S S' : Sto} {q : Nat} {xs : List D} (h : X ρ S = .ok (.ref q) S') (h2 : S'[q]? = some (.lst xs)) : eA (a1 dLen) (aCons X aNil) ρ S = .ok (.int (xs.length : Nat)) S' := by
  rw [ea_ev, acons_ev, h, ccat_ok, anil_ev, cons_ok, bind_ok, a1_ev, len_at h2]
theorem slot_of {ρ : En} {S : Sto} {i : Nat} {x : D} (h : ρ[i]? = some (some x)) : eSlot i ρ S = .ok x S := by
  rw [slot_ev, h]
/-! sizes -/
def Tiny (r : List Int) : Prop := ∀ x ∈ r, x.natAbs ≤ 100
theorem Tiny.small {r : List Int} (h : Tiny r) : smallI r := fun z m => Nat.lt_of_le_of_lt (h z m) (by decide)
theorem tiny_idr {s : Nat} (h : s ≤ 100) : Tiny (idr s) := fun x m => by
  have := mem_idr.mp m
  omega
theorem tiny_sw {s p : Nat} {r : List Int} (h1 : 1 ≤ p) (h2 : p < r.length) (h : Tiny r) : Tiny (sw p r) := fun x m => h x ((perm_sw h1 h2).mem_iff.mp m)
theorem tiny_getD {r : List Int} (h : Tiny r) (k : Nat) : (r.getD k 0).natAbs ≤ 100 := by
  rw [List.getD_eq_getElem?_getD]
  cases e : r[k]? with
  | none => simp
  | some x => exact h x (List.mem_of_getElem? e)
theorem tiny_rows {s : Nat} : ∀ (ws r : List Int), Wd s ws → r.length = s → Tiny r → ∀ row ∈ rowsL r ws, Tiny row ∧ row.length = s
  | [], r, _, hr, h => fun row m => by
    have : row = r := by simpa [rowsL] using m
    rw [this]
    exact ⟨h, hr⟩
  | z :: ws, r, hw, hr, h => fun row m => by
    obtain ⟨p1, p2⟩ := (hw z (by simp)).place
    rcases List.mem_cons.mp (show row ∈ r :: rowsL (sw z.natAbs r) ws from m) with rfl | m
    · exact ⟨h, hr⟩
    · exact tiny_rows ws (sw z.natAbs r) hw.tail (by simp [hr]) (tiny_sw (s := s) p1 (by omega) h) row m
theorem rowsL_len (ws : List Int) : ∀ r, (rowsL r ws).length = ws.length + 1 := by
  induction ws with
  | nil => intro r; rfl
  | cons z ws ih => intro r; rw [rowsL, List.length_cons, ih]; rfl
theorem crossL_len (ws : List Int) : ∀ r, (crossL r ws).length = ws.length := by
  induction ws with
  | nil => intro r; rfl
  | cons z ws ih => intro r; rw [crossL, List.length_cons, ih]; rfl
theorem tiny_cross {s : Nat} : ∀ (ws r : List Int), Wd s ws → r.length = s → Tiny r → ∀ row ∈ crossL r ws, Tiny row ∧ row.length = 3
  | [], r, _, hr, h => fun row m => by cases m
  | z :: ws, r, hw, hr, h => fun row m => by
    obtain ⟨p1, p2⟩ := (hw z (by simp)).place
    rcases List.mem_cons.mp (show row ∈ [r.getD (z.natAbs - 1) 0, r.getD z.natAbs 0, sgn z] :: crossL (sw z.natAbs r) ws from m) with rfl | m
    · refine ⟨fun x mx => ?_, rfl⟩
      have a := tiny_getD h (z.natAbs - 1)
      have b := tiny_getD h z.natAbs
      have c : (sgn z).natAbs ≤ 100 := by unfold sgn; split <;> decide
      simp only [List.mem_cons, List.not_mem_nil, or_false] at mx
      rcases mx with rfl | rfl | rfl <;> assumption
    · exact tiny_cross ws (sw z.natAbs r) hw.tail (by simp [hr]) (tiny_sw (s := s) p1 (by omega) h) row m
theorem Wd.tiny {s : Nat} {ws : List Int} (h : Wd s ws) (hs : s ≤ 100) : Tiny ws := fun z m => by
  obtain ⟨a, b, c⟩ := h z m
  omega
theorem Tiny.rev {r : List Int} (h : Tiny r) : Tiny r.reverse := fun x m => h x (List.mem_reverse.mp m)
theorem Tiny.neg {r : List Int} (h : Tiny r) : Tiny (r.map fun z => -z) := fun x m => by
  obtain ⟨z, hz, rfl⟩ := List.mem_map.mp m
  have := h z hz
  omega
theorem tiny_endsI {s : Nat} {r : List Int} (h : r.Perm (idr s)) (hs : s ≤ 50) : Tiny (K01.endsI s r) := fun x m => by
  obtain ⟨z, hz, rfl⟩ := List.mem_map.mp m
  have : r.idxOf z ≤ r.length := List.idxOf_le_length
  have : r.length = s := by rw [h.length_eq]; simp
  omega
theorem pushR_mem {w : List Int} {y x : Int} (h : x ∈ pushR w y) : x ∈ w ∨ x = y := by
  unfold pushR at h
  split at h
  · exact .inl (List.dropLast_subset _ h)
  · simpa using h
theorem tiny_fold (ws : List Int) : ∀ f : List Int, Tiny ws → Tiny f → Tiny (ws.foldl pushR f) := by
  induction ws with
  | nil => intro f _ h; exact h
  | cons z ws ih =>
    intro f h1 h2
    refine ih (pushR f z) (fun x m => h1 x (List.mem_cons_of_mem _ m)) fun x m => ?_
    rcases pushR_mem m with m | rfl
    · exact h2 x m
    · exact h1 _ (by simp)
theorem fold_len (ws : List Int) : ∀ f : List Int, (ws.foldl pushR f).length ≤ f.length + ws.length := by
  induction ws with
  | nil => intro f; simp
  | cons z ws ih =>
    intro f
    have h1 := ih (pushR f z)
    have h2 := pushR_len f z
    rw [List.foldl_cons, List.length_cons]
    omega
theorem ups_downs {s : Nat} {ws : List Int} (h : Wd s ws) : ((ws.filter fun z => decide (z < 0)).length : Int) = (ws.length : Int) - ups ws := by
  induction ws with
  | nil => rfl
  | cons z ws ih =>
    have i := ih h.tail
    obtain ⟨a, _, _⟩ := h z (by simp)
    unfold ups at i ⊢
    by_cases p : 0 < z
    · have n : ¬ z < 0 := by omega
      rw [List.filter_cons_of_neg (by simpa using n), List.filter_cons_of_pos (by simpa using p), List.length_cons, List.length_cons]
      omega
    · have n : z < 0 := by omega
      rw [List.filter_cons_of_pos (by simpa using n), List.filter_cons_of_neg (by simpa using p), List.length_cons]
      simp only [List.length_cons]
      omega
end Com
namespace K01
open PySem PySem.Spec PV Com
theorem law_loop (s : Nat) (a0 a1_ a3 : Option D) (c0 c1 c2 : Cell) (ws : List Int) (hw : Wd s ws) (hl : ws.length ≤ 60) (hs : s ≤ 7) : ∃ o8 o9,
    forL (gSlot 8) c_law_1 [] (zs ws) [a0, a1_, some (.ref 0), a3, some (.tup (zs ws)), some (.tup (zs (idr s))), some (.ref 3), some (.ref 4), none, none, none, none, none] [c0, c1, c2, .lst (zss [idr s]), .lst []]
      = .nx [a0, a1_, some (.ref 0), a3, some (.tup (zs ws)), some (.tup (zs (lastR (idr s) ws))), some (.ref 3), some (.ref 4), o8, o9, none, none, none] [c0, c1, c2, .lst (zss (rowsL (idr s) ws)), .lst (zss (crossL (idr s) ws))] := by
  have loop := forL_ok (g := gSlot 8) (b := c_law_1) (w := []) (P := fun xs ρ st => ∃ (us r : List Int) (acc macc : List (List Int)) (o8 o9 : Option D), xs = zs us ∧ Wd s us ∧ r.length = s ∧ acc.length + us.length ≤ 60 ∧ macc.length + us.length ≤ 60 ∧ acc ++ rowsL r us = rowsL (idr s) ws ∧ macc ++ crossL r us = crossL (idr s) ws ∧ lastR r us = lastR (idr s) ws ∧
      ρ = [a0, a1_, some (.ref 0), a3, some (.tup (zs ws)), some (.tup (zs r)), some (.ref 3), some (.ref 4), o8, o9, none, none, none] ∧ st = [c0, c1, c2, .lst (zss (acc ++ [r])), .lst (zss macc)])
    (fun _ _ _ _ => rfl) (by
      rintro x xs ρ st ⟨us, r, acc, macc, o8, o9, hx, hu, hr, ha, hm, he, hc, hf, rfl, rfl⟩
      obtain ⟨z, vs, rfl, rfl, rfl⟩ := zs_cons hx
      rw [List.length_cons] at ha hm
      obtain ⟨q9, e⟩ := law_step s a0 a1_ a3 (some (.tup (zs ws))) o9 none none none c0 c1 c2 z (hu z (by simp)) (acc ++ [r]) macc r hr (by omega) (by simp; omega) (by omega)
      refine ⟨_, _, rfl, _, _, .inl e, vs, sw z.natAbs r, acc ++ [r], _, _, q9, rfl, hu.tail, by simp [hr], by simp; omega, by simp; omega, ?_, ?_, hf, rfl, rfl⟩
      · rw [← he, List.append_assoc]
        rfl
      · rw [← hc, List.append_assoc]
        rfl)
  obtain ⟨ρ', st', e, us, r, acc, macc, o8, o9, hx, _, hr, _, _, he, hc, hf, rfl, rfl⟩ := loop (zs ws) _ _ ⟨ws, idr s, [], [], none, none, rfl, hw, by simp, by simpa using hl, by simpa using hl, rfl, rfl, rfl, rfl, rfl⟩
  have := zs_nil hx
  subst this
  have he' : acc ++ [r] = rowsL (idr s) ws := he
  have hc' : macc = crossL (idr s) ws := by rw [← hc]; simp [crossL]
  have hf' : r = lastR (idr s) ws := hf
  rw [he', hc', hf'] at e
  exact ⟨o8, o9, e⟩
end K01

set_option maxHeartbeats 2000000
/-! k01: the plain law, whole -/
namespace K01
open PySem PySem.Spec PV Com
section
variable (ns ds : List Int) (s : Nat) (hs : 2 ≤ s ∧ s ≤ 7) (ws : List Int) (hw : Wd s ws) (hl : ws.length ≤ 60) (rr : List Int) (o8 o9 f t : Option D) (S : Sto)
abbrev LE : En := [some (.wls (zs ns)), some (.rls true (zs ds)), some (.ref 0), some (.int s), some (.tup (zs ws)), some (.tup (zs rr)), some (.ref 3), some (.ref 4), o8, o9, f, none, t]
include hs hw hl in
theorem test1 (h3 : S[3]? = some (.lst (zss (rowsL (idr s) ws)))) (h4 : S[4]? = some (.lst (zss (crossL (idr s) ws)))) :
    (tOr (tE (e2 dNe (eA (a1 dRepr) (aCons (eA (callP s_rows_of) (aCons (eSlot 3) (aCons (eSlot 4) aNil))) aNil)) (eA (a1 dRepr) (aCons (eA (a1 dTuple) (aCons (eSlot 6) aNil)) aNil)))) (tE (e2 dNe (eA (a1 dRepr) (aCons (eA (callP s_crossings) (aCons (eSlot 3) (aCons (eSlot 4) aNil))) aNil)) (eA (a1 dRepr) (aCons (eA (a1 dTuple) (aCons (eSlot 7) aNil)) aNil))))) (LE ns ds s ws rr o8 o9 f t) S = .ok false S := by
  have tr := tiny_rows (s := s) ws (idr s) hw (by simp) (tiny_idr (by omega))
  have tc := tiny_cross (s := s) ws (idr s) hw (by simp) (tiny_idr (by omega))
  have r1 := repr_zss (rowsL (idr s) ws) S 7 (fun row m => (tr row m).1.small) (fun row m => by rw [(tr row m).2]; omega) (by rw [rowsL_len]; omega)
  have r2 := repr_zss (crossL (idr s) ws) S 3 (fun row m => (tc row m).1.small) (fun row m => by rw [(tc row m).2]; omega) (by rw [crossL_len]; omega)
  exact or_ff (ne_same (rep_of (call2 rfl rfl (rows_of_ok s hs ws hw hl S)) r1) (rep_of (tuple_of (slot_of rfl) h3) r1)) (ne_same (rep_of (call2 rfl rfl (crossings_ok s hs ws hw hl S)) r2) (rep_of (tuple_of (slot_of rfl) h4) r2))
theorem comp_ends (hs : s ≤ 7) (hp : rr.Perm (idr s)) : e_law_1 (LE ns ds s ws rr o8 o9 f t) S = .ok (.ref S.length) (S ++ [.lst (zs (endsI s rr))]) := by
  have r : itRange2 (.int 1) (.int ((s : Int) + 1)) S = .ok ⟨zs (idr s), []⟩ S := by
    rw [rg2_ev (by unfold lim; omega), rangeL_idr]
  have it : (iRange2 (eC (.int 1)) (e2 dAdd (eSlot 3) (eC (.int 1)))) (LE ns ds s ws rr o8 o9 f t) S = .ok ⟨zs (idr s), []⟩ S := by
    simp -implicitDefEqProofs only [LE, irg2_ev, c_ev, rg2_ok, e2_ev, slot_ev, List.getElem?_cons_zero, List.getElem?_cons_succ, two_ok, bind_ok, add_i, r]
  have lc := lc_all (ρ := wipeD (LE ns ds s ws rr o8 o9 f t) [11]) (g := gSlot 11) (e := e2 dAdd (eM (fun d _ => d.isTup) dTIndex (eSlot 5) (eSlot 11)) (eC (.int 1))) (w := []) (st0 := S) D.int (fun x => .int ((rr.idxOf x : Int) + 1)) rfl (idr s) (fun x m acc => by
    refine ⟨_, rfl, ?_⟩
    have ix := index_zs x rr (hp.mem_iff.mpr m) (S ++ [.lst acc])
    simp -implicitDefEqProofs only [LE, wipe_cons, wipe_nil, List.set_cons_succ, List.set_cons_zero, e2_ev, em_ev, slot_ev, List.getElem?_cons_zero, List.getElem?_cons_succ, mth_ok, istup_tup, mth2_t, bind_ok, ix, two_ok, c_ev, add_i]) (by simp; unfold line; omega)
  have z : (idr s).map (fun x => D.int ((rr.idxOf x : Int) + 1)) = zs (endsI s rr) := by
    unfold endsI
    rw [zs, List.map_map]
    rfl
  rw [z] at lc
  unfold e_law_1
  rw [elc_ev, it, lcI_ok]
  exact lc
include hs hw hl in
theorem test2 (hF : endsI s rr = endsW s ws) (hp : rr.Perm (idr s)) (h3 : S[3]? = some (.lst (zss (rowsL (idr s) ws)))) :
    (tOr (tE (e2 dNe (eA (a1 dRepr) (aCons (eA (callP s_ends) (aCons (eSlot 3) (aCons (eSlot 4) aNil))) aNil)) (eA (a1 dRepr) (aCons (eSlot 10) aNil)))) (tE (e2 dNe (eA (a1 dRepr) (aCons (eA (callP s_is_pure) (aCons (eSlot 3) (aCons (eSlot 4) aNil))) aNil)) (eA (a1 dRepr) (aCons (e2 dEq (eSlot 10) (e2 dIx (eSlot 6) (eC (.int 0)))) aNil))))) (LE ns ds s ws rr o8 o9 (some (.tup (zs (endsI s rr)))) t) S = .ok false S := by
  have e := ends_ok s hs ws hw hl S
  have p := is_pure_ok s hs ws hw hl S
  rw [← hF] at e p
  have r1 := repr_zs (endsI s rr) S (tiny_endsI hp (by omega)).small (by simp [endsI]; omega)
  have r2 := repr_bl (decide (endsI s rr = idr s)) S
  have hd : ∃ tl, rowsL (idr s) ws = idr s :: tl := by cases ws <;> exact ⟨_, rfl⟩
  obtain ⟨tl, htl⟩ := hd
  have i0 : dIx (.ref 3) (.int 0) S = .ok (.tup (zs (idr s))) S := ix_at h3 (by rw [htl]; exact atI_zero _ _)
  have q : (e2 dEq (eSlot 10) (e2 dIx (eSlot 6) (eC (.int 0)))) (LE ns ds s ws rr o8 o9 (some (.tup (zs (endsI s rr)))) t) S = .ok (.bl (decide (endsI s rr = idr s))) S := by
    rw [e2_ev, slot_ev]
    show R.bind (e2 dIx (eSlot 6) (eC (.int 0)) _ S) _ = _
    rw [e2_ev, slot_ev]
    show R.bind (dIx (.ref 3) (.int 0) S) _ = _
    rw [i0, bind_ok, eq_tup]
  exact or_ff (ne_same (rep_of (call2 rfl rfl e) r1) (rep_of (slot_of rfl) r1)) (ne_same (rep_of (call2 rfl rfl p) r2) (rep_of q r2))
include hs hw hl in
theorem test3 : ∃ L : Sto, (tE (e2 dNe (eA (a1 dRepr) (aCons (eA (callP s_signs) (aCons (eSlot 3) (aCons (eSlot 4) aNil))) aNil)) (eA (a1 dRepr) (aCons (eA dTup (aCons (eA (a1 dLen) (aCons e_law_2 aNil)) (aCons (eA (a1 dLen) (aCons e_law_3 aNil)) aNil))) aNil)))) (LE ns ds s ws rr o8 o9 f t) S = .ok false (S ++ L) := by
  have sg := signs_ok s hs ws hw hl S
  have c2 : e_law_2 (LE ns ds s ws rr o8 o9 f t) S = .ok (.ref S.length) (S ++ [.lst ((ws.filter fun z => decide (0 < z)).map D.int)]) := comp_if (f := fun z => .int z) (p := fun z => decide (0 < z)) rfl (fun z m S' => rfl) (fun z m S' => rfl) (by unfold line; omega)
  have c3 : e_law_3 (LE ns ds s ws rr o8 o9 f t) (S ++ [.lst ((ws.filter fun z => decide (0 < z)).map D.int)]) = .ok (.ref (S ++ [Cell.lst ((ws.filter fun z => decide (0 < z)).map D.int)]).length) (S ++ [.lst ((ws.filter fun z => decide (0 < z)).map D.int)] ++ [.lst ((ws.filter fun z => decide (z < 0)).map D.int)]) := comp_if (f := fun z => .int z) (p := fun z => decide (z < 0)) rfl (fun z m S' => rfl) (fun z m S' => rfl) (by unfold line; omega)
  have l2 := len_of c2 (at_last _ _)
  have l3 := len_of c3 (at_last _ _)
  have n2 : ((((ws.filter fun z => decide (0 < z)).map D.int).length : Nat) : Int) = ups ws := by rw [List.length_map]; rfl
  have n3 : ((((ws.filter fun z => decide (z < 0)).map D.int).length : Nat) : Int) = (ws.length : Int) - ups ws := by rw [List.length_map]; exact ups_downs hw
  rw [n2] at l2
  rw [n3] at l3
  refine ⟨[.lst ((ws.filter fun z => decide (0 < z)).map D.int)] ++ [.lst ((ws.filter fun z => decide (z < 0)).map D.int)], ?_⟩
  rw [← List.append_assoc]
  have bd : ups ws ≤ ws.length := List.length_filter_le _ _
  have sm : smallI [(ups ws : Int), (ws.length : Int) - ups ws] := fun z m => by
    have : z.natAbs ≤ 100 := by
      simp only [List.mem_cons, List.not_mem_nil, or_false] at m
      rcases m with rfl | rfl <;> omega
    exact Nat.lt_of_le_of_lt this (by decide)
  have r : ∀ S', dRepr (.tup (zs [(ups ws : Int), (ws.length : Int) - ups ws])) S' = .ok (.str _) S' := fun S' => repr_zs _ S' sm (by simp)
  refine ne_same (rep_of (call2 rfl rfl sg) (r S)) (rep_of ?_ (r _))
  rw [ea_ev, acons_ev, l2, ccat_ok, acons_ev, l3, ccat_ok, anil_ev, cons_ok, cons_ok, bind_ok, tup2]
  rfl
include hs hw hl in
theorem test4 : ∃ L : Sto, (tOr (tE (e2 dNe (eA (a1 dRepr) (aCons (eA (callP s_inverse) (aCons (eSlot 3) (aCons (eSlot 4) aNil))) aNil)) (eA (a1 dRepr) (aCons (eA (a1 dTuple) (aCons e_law_4 aNil)) aNil)))) (tE (e2 dNe (eA (a1 dRepr) (aCons (eA (callP s_mirrored) (aCons (eSlot 3) (aCons (eSlot 4) aNil))) aNil)) (eA (a1 dRepr) (aCons (eA (a1 dTuple) (aCons e_law_5 aNil)) aNil))))) (LE ns ds s ws rr o8 o9 f t) S = .ok false (S ++ L) := by
  have ti := hw.tiny (by omega)
  have c4 : e_law_4 (LE ns ds s ws rr o8 o9 f t) S = .ok (.ref S.length) (S ++ [.lst (ws.reverse.map fun z => D.int (0 - z))]) := comp_rev (f := fun z => .int (0 - z)) rfl (fun z m S' => rfl) (by unfold line; omega)
  have z4 : (ws.reverse.map fun z => D.int (0 - z)) = zs (ws.reverse.map fun z => -z) := by
    rw [zs, List.map_map]
    exact List.map_congr_left fun z _ => by show D.int (0 - z) = D.int (-z); rw [Int.zero_sub]
  rw [z4] at c4
  have c5 : e_law_5 (LE ns ds s ws rr o8 o9 f t) (S ++ [.lst (zs (ws.reverse.map fun z => -z))]) = .ok (.ref (S ++ [Cell.lst (zs (ws.reverse.map fun z => -z))]).length) (S ++ [.lst (zs (ws.reverse.map fun z => -z))] ++ [.lst (ws.map fun z => D.int (0 - z))]) := comp_seq (f := fun z => .int (0 - z)) rfl (fun z m S' => rfl) (by unfold line; omega)
  have z5 : (ws.map fun z => D.int (0 - z)) = zs (ws.map fun z => -z) := by
    rw [zs, List.map_map]
    exact List.map_congr_left fun z _ => by show D.int (0 - z) = D.int (-z); rw [Int.zero_sub]
  rw [z5] at c5
  have r4 : ∀ S', dRepr (.tup (zs (ws.reverse.map fun z => -z))) S' = .ok (.str _) S' := fun S' => repr_zs _ S' ti.rev.neg.small (by simp; omega)
  have r5 : ∀ S', dRepr (.tup (zs (ws.map fun z => -z))) S' = .ok (.str _) S' := fun S' => repr_zs _ S' ti.neg.small (by simp; omega)
  refine ⟨[.lst (zs (ws.reverse.map fun z => -z))] ++ [.lst (zs (ws.map fun z => -z))], ?_⟩
  rw [← List.append_assoc]
  exact or_ff (ne_same (rep_of (call2 rfl rfl (inverse_ok s hs ws hw hl S)) (r4 _)) (rep_of (tuple_of c4 (at_last _ _)) (r4 _))) (ne_same (rep_of (call2 rfl rfl (mirrored_ok s hs ws hw hl _)) (r5 _)) (rep_of (tuple_of c5 (at_last _ _)) (r5 _)))
theorem comp_turn (hl : ws.length ≤ 60) : e_law_6 (LE ns ds s ws rr o8 o9 f t) S = .ok (.ref S.length) (S ++ [.lst (zs (ws.map (flp s)))]) := by
  have c : e_law_6 (LE ns ds s ws rr o8 o9 f t) S = .ok (.ref S.length) (S ++ [.lst (ws.map fun z => D.int (flp s z))]) := comp_seq (f := fun z => .int (flp s z)) rfl (fun z m S' => by
    unfold flp
    by_cases h : 0 < z
    · simp -implicitDefEqProofs [h]
    · simp -implicitDefEqProofs [h]) (by unfold line; omega)
  have z : (ws.map fun z => D.int (flp s z)) = zs (ws.map (flp s)) := by rw [zs, List.map_map]; rfl
  rw [z] at c
  exact c
include hs hw hl in
theorem test5 : (tOr (tE (e2 dNe (eA (a1 dRepr) (aCons (eA (callP s_upside_down) (aCons (eSlot 3) (aCons (eSlot 4) aNil))) aNil)) (eA (a1 dRepr) (aCons (e1 dRev (eSlot 4)) aNil)))) (tE (e2 dNe (eA (a1 dRepr) (aCons (eA (callP s_flip) (aCons (eSlot 3) (aCons (eSlot 4) aNil))) aNil)) (eA (a1 dRepr) (aCons (eSlot 12) aNil))))) (LE ns ds s ws rr o8 o9 f (some (.tup (zs (ws.map (flp s)))))) S = .ok false S := by
  have ti := hw.tiny (by omega)
  have r1 := repr_zs ws.reverse S ti.rev.small (by simp; omega)
  have tf : Tiny (ws.map (flp s)) := fun x m => by
    obtain ⟨z, hz, rfl⟩ := List.mem_map.mp m
    obtain ⟨a, b, c⟩ := hw z hz
    unfold flp
    split <;> omega
  have r2 := repr_zs (ws.map (flp s)) S tf.small (by simp; omega)
  have rv : (e1 dRev (eSlot 4)) (LE ns ds s ws rr o8 o9 f (some (.tup (zs (ws.map (flp s)))))) S = .ok (.tup (zs ws.reverse)) S := by
    have r : (zs ws).reverse = zs ws.reverse := by rw [zs, zs, List.map_reverse]
    rw [e1_ev, slot_ev]
    show dRev (.tup (zs ws)) S = _
    rw [rev_tup, r]
  exact or_ff (ne_same (rep_of (call2 rfl rfl (upside_ok s hs ws hw hl S)) r1) (rep_of rv r1)) (ne_same (rep_of (call2 rfl rfl (flip_ok s hs ws hw hl S)) r2) (rep_of (slot_of rfl) r2))
include hs hw hl in
theorem last : (e2 dEq (eA (a1 dRepr) (aCons (eA (callP s_reduced) (aCons (eSlot 3) (aCons (eSlot 4) aNil))) aNil)) (eA (a1 dRepr) (aCons (eA (callP s__law_reduced) (aCons (eSlot 4) aNil)) aNil))) (LE ns ds s ws rr o8 o9 f t) S = .ok (.bl true) S := by
  have ti := hw.tiny (by omega)
  have b := reduced_ok s hs ws hw hl S
  have c := lred_ok ws (by omega) S
  rw [← reduce_same] at c
  have fl := fold_len ws []
  have r1 := repr_zs (ws.foldl pushR []) S (tiny_fold ws [] ti (fun x m => by cases m)).small (by simp at fl; omega)
  exact eq_same (rep_of (call2 rfl rfl b) r1) (rep_of (call1 rfl c) r1)
end
end K01

set_option maxHeartbeats 2000000
/-! k01: the plain law, put together -/
namespace K01
open PySem PySem.Spec PV Com
theorem law_run (ns : List Int) : ∃ st', b_law [some (.wls (zs ns)), none, none, none, none, none, none, none, none, none, none, none, none] [] = .rt (.bl true) st' := by
  obtain ⟨ds, _, eD⟩ := draws_ok ns
  have cD : callP s__law_draws [.wls (zs ns)] [] = .ok (.rls true (zs ds)) [] := callP_of (by simp) eD
  obtain ⟨d, hd, eO⟩ := one_ok [.int 2, .int 3, .int 3, .int 4, .int 5, .int 7] (by simp) (by simp) true ds 0 (by omega) 0 1 (by omega) [.lst [.int 0], .lst [.int 2, .int 3, .int 3, .int 4, .int 5, .int 7]] rfl rfl
  obtain ⟨s, hs, rfl⟩ : ∃ s : Nat, (2 ≤ s ∧ s ≤ 7) ∧ d = .int s := by
    simp only [List.mem_cons, List.not_mem_nil, or_false] at hd
    rcases hd with rfl | rfl | rfl | rfl | rfl | rfl
    · exact ⟨2, by omega, rfl⟩
    · exact ⟨3, by omega, rfl⟩
    · exact ⟨3, by omega, rfl⟩
    · exact ⟨4, by omega, rfl⟩
    · exact ⟨5, by omega, rfl⟩
    · exact ⟨7, by omega, rfl⟩
  obtain ⟨d2, hd2, eM⟩ := one_ok [.int 4, .int 12, .int 60] (by simp) (by simp) true ds 1 (by omega) 0 2 (by omega) [.lst [.int 1], .lst [.int 2, .int 3, .int 3, .int 4, .int 5, .int 7], .lst [.int 4, .int 12, .int 60]] rfl rfl
  obtain ⟨most, hm, rfl⟩ : ∃ m : Nat, m ≤ 60 ∧ d2 = .int m := by
    simp only [List.mem_cons, List.not_mem_nil, or_false] at hd2
    rcases hd2 with rfl | rfl | rfl
    · exact ⟨4, by omega, rfl⟩
    · exact ⟨12, by omega, rfl⟩
    · exact ⟨60, by omega, rfl⟩
  obtain ⟨n', ws, _, hw, hl, eW⟩ := word_ok true s (by omega) ds most (by omega) 2 (by omega) 0 [.lst [.int 2], .lst [.int 2, .int 3, .int 3, .int 4, .int 5, .int 7], .lst [.int 4, .int 12, .int 60]] rfl
  have hl60 : ws.length ≤ 60 := by omega
  generalize hC1 : Cell.lst [D.int 2, .int 3, .int 3, .int 4, .int 5, .int 7] = C1 at eO eM eW
  generalize hC2 : Cell.lst [D.int 4, .int 12, .int 60] = C2 at eM eW
  have S1 : sAsg (eA (callP s__law_draws) (aCons (eSlot 0) aNil)) (gSlot 1) [some (.wls (zs ns)), none, none, none, none, none, none, none, none, none, none, none, none] [] = .nx [some (.wls (zs ns)), some (.rls true (zs ds)), none, none, none, none, none, none, none, none, none, none, none] [] := by
    simp -implicitDefEqProofs only [sasg_ev, ea_ev, acons_ev, slot_ev, List.getElem?_cons_zero, List.getElem?_cons_succ, ccat_ok, anil_ev, cons_ok, bind_ok, cD, asg_ok, gslot_ev, List.set_cons_succ, List.set_cons_zero, nxt_some]
  have S2 : sAsg (eA dLst (aCons (eC (.int 0)) aNil)) (gSlot 2) [some (.wls (zs ns)), some (.rls true (zs ds)), none, none, none, none, none, none, none, none, none, none, none] [] = .nx [some (.wls (zs ns)), some (.rls true (zs ds)), some (.ref 0), none, none, none, none, none, none, none, none, none, none] [.lst [.int 0]] := rfl
  have eO' : callM 2 s__law_one [.ref 1, .rls true (zs ds), .ref 0] [.lst [.int 0], C1] = .ok (.int s) [.lst [.int 1], C1] := eO
  have S3 : sAsg (eA (callM 2 s__law_one) (aCons (eA dLst (aCons (eC (.int 2)) (aCons (eC (.int 3)) (aCons (eC (.int 3)) (aCons (eC (.int 4)) (aCons (eC (.int 5)) (aCons (eC (.int 7)) aNil))))))) (aCons (eSlot 1) (aCons (eSlot 2) aNil)))) (gSlot 3) [some (.wls (zs ns)), some (.rls true (zs ds)), some (.ref 0), none, none, none, none, none, none, none, none, none, none] [.lst [.int 0]] = .nx [some (.wls (zs ns)), some (.rls true (zs ds)), some (.ref 0), some (.int s), none, none, none, none, none, none, none, none, none] [.lst [.int 1], C1] := by
    simp -implicitDefEqProofs only [sasg_ev, ea_ev, acons_ev, c_ev, slot_ev, List.getElem?_cons_zero, List.getElem?_cons_succ, ccat_ok, anil_ev, cons_ok, bind_ok, lst6, hC1, List.length_cons, List.length_nil, Nat.reduceAdd, List.cons_append, List.nil_append, eO', asg_ok, gslot_ev, List.set_cons_succ, List.set_cons_zero, nxt_some]
  have eM' : callM 2 s__law_one [.ref 2, .rls true (zs ds), .ref 0] [.lst [.int 1], C1, C2] = .ok (.int most) [.lst [.int 2], C1, C2] := eM
  have eW' : callM 3 s__law_word [.int s, .int most, .rls true (zs ds), .ref 0] [.lst [.int 2], C1, C2] = .ok (.tup (zs ws)) [.lst [.int (n' : Nat)], C1, C2] := eW
  have S4 : sAsg (eA (callM 3 s__law_word) (aCons (eSlot 3) (aCons (eA (callM 2 s__law_one) (aCons (eA dLst (aCons (eC (.int 4)) (aCons (eC (.int 12)) (aCons (eC (.int 60)) aNil)))) (aCons (eSlot 1) (aCons (eSlot 2) aNil)))) (aCons (eSlot 1) (aCons (eSlot 2) aNil))))) (gSlot 4) [some (.wls (zs ns)), some (.rls true (zs ds)), some (.ref 0), some (.int s), none, none, none, none, none, none, none, none, none] [.lst [.int 1], C1] = .nx [some (.wls (zs ns)), some (.rls true (zs ds)), some (.ref 0), some (.int s), some (.tup (zs ws)), none, none, none, none, none, none, none, none] [.lst [.int (n' : Nat)], C1, C2] := by
    simp -implicitDefEqProofs only [sasg_ev, ea_ev, acons_ev, c_ev, slot_ev, List.getElem?_cons_zero, List.getElem?_cons_succ, ccat_ok, anil_ev, cons_ok, bind_ok, lst3, hC2, List.length_cons, List.length_nil, Nat.reduceAdd, List.cons_append, List.nil_append, eM', eW', asg_ok, gslot_ev, List.set_cons_succ, List.set_cons_zero, nxt_some]
  have S5 : sAsg (e2 dTR2 (eC (.int 1)) (e2 dAdd (eSlot 3) (eC (.int 1)))) (gSlot 5) [some (.wls (zs ns)), some (.rls true (zs ds)), some (.ref 0), some (.int s), some (.tup (zs ws)), none, none, none, none, none, none, none, none] [.lst [.int (n' : Nat)], C1, C2] = .nx [some (.wls (zs ns)), some (.rls true (zs ds)), some (.ref 0), some (.int s), some (.tup (zs ws)), some (.tup (zs (idr s))), none, none, none, none, none, none, none] [.lst [.int (n' : Nat)], C1, C2] := by
    simp -implicitDefEqProofs only [sasg_ev, e2_ev, c_ev, two_ok, slot_ev, List.getElem?_cons_zero, List.getElem?_cons_succ, bind_ok, add_i, tr2 s (by omega : s ≤ 1000), asg_ok, gslot_ev, List.set_cons_succ, List.set_cons_zero, nxt_some]
  have S6 : sAsg (eA dLst (aCons (eSlot 5) aNil)) (gSlot 6) [some (.wls (zs ns)), some (.rls true (zs ds)), some (.ref 0), some (.int s), some (.tup (zs ws)), some (.tup (zs (idr s))), none, none, none, none, none, none, none] [.lst [.int (n' : Nat)], C1, C2] = .nx [some (.wls (zs ns)), some (.rls true (zs ds)), some (.ref 0), some (.int s), some (.tup (zs ws)), some (.tup (zs (idr s))), some (.ref 3), none, none, none, none, none, none] [.lst [.int (n' : Nat)], C1, C2, .lst (zss [idr s])] := rfl
  have S7 : sAsg (eA dLst aNil) (gSlot 7) [some (.wls (zs ns)), some (.rls true (zs ds)), some (.ref 0), some (.int s), some (.tup (zs ws)), some (.tup (zs (idr s))), some (.ref 3), none, none, none, none, none, none] [.lst [.int (n' : Nat)], C1, C2, .lst (zss [idr s])] = .nx [some (.wls (zs ns)), some (.rls true (zs ds)), some (.ref 0), some (.int s), some (.tup (zs ws)), some (.tup (zs (idr s))), some (.ref 3), some (.ref 4), none, none, none, none, none] [.lst [.int (n' : Nat)], C1, C2, .lst (zss [idr s]), .lst []] := rfl
  obtain ⟨o8, o9, eL⟩ := law_loop s (some (.wls (zs ns))) (some (.rls true (zs ds))) (some (.int s)) (.lst [.int (n' : Nat)]) C1 C2 ws hw hl60 hs.2
  have S8 : sFor (iSeq (eSlot 4)) (gSlot 8) c_law_1 [some (.wls (zs ns)), some (.rls true (zs ds)), some (.ref 0), some (.int s), some (.tup (zs ws)), some (.tup (zs (idr s))), some (.ref 3), some (.ref 4), none, none, none, none, none] [.lst [.int (n' : Nat)], C1, C2, .lst (zss [idr s]), .lst []] = _ := (show _ = forL (gSlot 8) c_law_1 [] (zs ws) _ _ by
    simp -implicitDefEqProofs only [sfor_ev, iseq_ev, slot_ev, List.getElem?_cons_zero, List.getElem?_cons_succ, bind_ok, itseq_tup, forI_ok]).trans eL
  have pm : (lastR (idr s) ws).Perm (idr s) := lastR_perm ws (idr s) hw (by simp)
  generalize hrr : lastR (idr s) ws = rr at pm eL S8
  have hF : endsI s rr = endsW s ws := by
    unfold endsW
    rw [hrr]
    exact (ends_eq pm).symm
  generalize hS : ([.lst [.int (n' : Nat)], C1, C2, .lst (zss (rowsL (idr s) ws)), .lst (zss (crossL (idr s) ws))] : Sto) = S at S8 eL
  have g3 : S[3]? = some (.lst (zss (rowsL (idr s) ws))) := by rw [← hS]; rfl
  have g4 : S[4]? = some (.lst (zss (crossL (idr s) ws))) := by rw [← hS]; rfl
  have T1 := if_ff (a := sRet (eC (.bl false))) (test1 ns ds s hs ws hw hl60 rr o8 o9 none none S g3 g4)
  have F1 : sAsg (eA (a1 dTuple) (aCons e_law_1 aNil)) (gSlot 10) (LE ns ds s ws rr o8 o9 none none) S = .nx (LE ns ds s ws rr o8 o9 (some (.tup (zs (endsI s rr)))) none) (S ++ [Cell.lst (zs (endsI s rr))]) := by
    rw [sasg_ev, tuple_of (comp_ends ns ds s ws rr o8 o9 none none S hs.2 pm) (at_last _ _), asg_ok, gslot_ev, nxt_some]
    rfl
  have T2 := if_ff (a := sRet (eC (.bl false))) (test2 ns ds s hs ws hw hl60 rr o8 o9 none (S ++ [Cell.lst (zs (endsI s rr))]) hF pm (get_app g3))
  obtain ⟨L3, t3⟩ := test3 ns ds s hs ws hw hl60 rr o8 o9 (some (.tup (zs (endsI s rr)))) none (S ++ [Cell.lst (zs (endsI s rr))])
  have T3 := if_ff (a := sRet (eC (.bl false))) t3
  obtain ⟨L4, t4⟩ := test4 ns ds s hs ws hw hl60 rr o8 o9 (some (.tup (zs (endsI s rr)))) none (S ++ [Cell.lst (zs (endsI s rr))] ++ L3)
  have T4 := if_ff (a := sRet (eC (.bl false))) t4
  have F2 : sAsg (eA (a1 dTuple) (aCons e_law_6 aNil)) (gSlot 12) (LE ns ds s ws rr o8 o9 (some (.tup (zs (endsI s rr)))) none) (S ++ [Cell.lst (zs (endsI s rr))] ++ L3 ++ L4) = .nx (LE ns ds s ws rr o8 o9 (some (.tup (zs (endsI s rr)))) (some (.tup (zs (ws.map (flp s)))))) (S ++ [Cell.lst (zs (endsI s rr))] ++ L3 ++ L4 ++ [Cell.lst (zs (ws.map (flp s)))]) := by
    rw [sasg_ev, tuple_of (comp_turn ns ds s ws rr o8 o9 (some (.tup (zs (endsI s rr)))) none (S ++ [Cell.lst (zs (endsI s rr))] ++ L3 ++ L4) hl60) (at_last _ _), asg_ok, gslot_ev, nxt_some]
    rfl
  have T5 := if_ff (a := sRet (eC (.bl false))) (test5 ns ds s hs ws hw hl60 rr o8 o9 (some (.tup (zs (endsI s rr)))) (S ++ [Cell.lst (zs (endsI s rr))] ++ L3 ++ L4 ++ [Cell.lst (zs (ws.map (flp s)))]))
  have Z := last ns ds s hs ws hw hl60 rr o8 o9 (some (.tup (zs (endsI s rr)))) (some (.tup (zs (ws.map (flp s))))) (S ++ [Cell.lst (zs (endsI s rr))] ++ L3 ++ L4 ++ [Cell.lst (zs (ws.map (flp s)))])
  refine ⟨S ++ [Cell.lst (zs (endsI s rr))] ++ L3 ++ L4 ++ [Cell.lst (zs (ws.map (flp s)))], ?_⟩
  unfold b_law
  rw [sseq_ev, S1, thn_nx, sseq_ev, S2, thn_nx, sseq_ev, S3, thn_nx, sseq_ev, S4, thn_nx, sseq_ev, S5, thn_nx, sseq_ev, S6, thn_nx, sseq_ev, S7, thn_nx, sseq_ev, S8, thn_nx, sseq_ev, T1, thn_nx, sseq_ev, F1, thn_nx, sseq_ev, T2, thn_nx, sseq_ev, T3, thn_nx, sseq_ev, T4, thn_nx, sseq_ev, F2, thn_nx, sseq_ev, T5, thn_nx, sret_ev, Z, ret_ok]
theorem law_ok (ns : List Int) : ∃ st', s_law [.wls (ns.map D.int)] [] = .ok (.bl true) st' := by
  obtain ⟨st', e⟩ := law_run ns
  exact ⟨[], sem_rt (b := b_law) (n := 13) (d := .bl true) (st' := st') e (by simp)⟩
end K01

set_option maxHeartbeats 0
namespace K01
open PySem PySem.Spec PyProof.Rows L2 PV
abbrev R : PySem.W.OpenRow := PySem.W.OpenLaw.row PySem.Challenge.rw_plaited_k01_whole_words
abbrev hk : PySem.W.Hook := He.hookD 4 fas fns
def ob (s : PySem.W.SharedT) : He.AlD := He.obsDG 4 fas fns (HandSHeadRun.getT s)
theorem ob_eq (s : PySem.W.SharedT) : ob s = hk.obs s.abs := He.obsDG_eq (HandSHeadRun.getT_eq s)
def names : List Str := ["is_integer", "in_range", "PlaitError", "ReasonError", "ArgumentError", "MAX_STRANDS", "MAX_WORD", "demand_strands", "is_word", "demand_plait", "ends_of", "ends", "turned_back", "inverse", "flipped", "flip", "mirrored", "upside_down", "plain", "reduced", "signs", "crossings", "is_pure", "rows_of", "_law_draws", "_law_more", "_law_take", "_law_one", "_law_word", "_law_reduced"]
theorem run (w : World) : HandSHeadRun.RunEq R (PySem.W.view R.prog [34]) hk ob 4000 names w := by
  intro os
  kernel_rfl
end K01
open PySem PySem.W PySem.Calls PyProof.Rows
theorem PySem.Challenge.cw_plaited_k01_whole_words_holds : PySem.Challenge.rw_plaited_k01_whole_words.Holds := by
  w_on; o_law
  refine HandSHeadRun.head_any (r := OpenLaw.row PySem.Challenge.rw_plaited_k01_whole_words) (q := view (OpenLaw.row PySem.Challenge.rw_plaited_k01_whole_words).prog [34]) (H := K01.hk) (ob := K01.ob) (M := 4000) (loose := K01.names) (d := HandSHeadRun.topDef (OpenLaw.row PySem.Challenge.rw_plaited_k01_whole_words).prog 34) (kwd := []) K01.ob_eq
    (by kernel_rfl) (fun s => by kernel_rfl) K01.run (by kernel_rfl) (by kernel_rfl) (by kernel_rfl) (by rfl) (by first | assumption | decide +kernel) (by decide +kernel) ⟨rfl, rfl, rfl, rfl, rfl, by decide +kernel⟩ ?hw ?hc
  case hw => w_witness2
  case hc =>
    refine PV.walk_pv (l := PySem.Challenge.rw_plaited_k01_whole_words) (n := 63) (k := 6) K01.s_law rfl (by decide) (by kernel_rfl) ⟨rfl, by decide, by decide⟩ ?F (fun ns _ _ => K01.law_ok ns)
    intro w mg h Y G
    obtain ⟨K, KX, c⟩ := Y
    have e : (HandSHeadRun.topDef (OpenLaw.row PySem.Challenge.rw_plaited_k01_whole_words).prog 34).name = ("law" : PySem.Str) := by kernel_rfl
    rw [e]
    exact ⟨⟨(PySem.Challenge.rw_plaited_k01_whole_words).prog, w, K, mg, fun _ => none⟩, rfl, rfl, rfl, KX, fun base => K01.chain KX G c base⟩

