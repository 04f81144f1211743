import PyProof.Rows.All
import Wide.All
import OpenK.AllK
import Wide.FinOn
import HandS.ForMost
import HandS.ExcOwn
import HandS.Lambda
import HandS.IsInst
import HandS.TupAny
import HandS.TupLe
import HandS.Zip
import HandS.Deep
import HandS.Style
import HandS.Text
import HandS.SetFor
import HandS.Strs
import HandS.Walk
import KE.GoesEnum
import HandS.WordsExc
import PySem.Challenge.RW_whatfollows_k85_whole_rounds_of_bases
set_option Elab.async false
set_option linter.all false
set_option maxRecDepth 100000
/-! EvA: plain values, a small language of pure code over them, what it computes. -/
namespace EV
open PySem

inductive D where
  | non | bl (b : Bool) | int (i : Int) | str (x : List Nat) | tup (xs : List D) | lst (xs : List D) | cup
  deriving Inhabited

abbrev Cup := Int × Int
/-- what leaves: a value, an exception (class, limit), or no answer -/
inductive Res (α : Type) where
  | ok (a : α) | exc (c : Nat) (n : Int) (k : Cup) | bad

def Res.bind {α β : Type} (x : Res α) (f : α → Res β) : Res β := match x with
  | .ok a => f a
  | .exc c n k => .exc c n k
  | .bad => .bad
@[simp] theorem Res.bind_ok {α β : Type} (a : α) (f : α → Res β) : (Res.ok a).bind f = f a := rfl
@[simp] theorem Res.bind_bad {α β : Type} (f : α → Res β) : (Res.bad : Res α).bind f = .bad := rfl
@[simp] theorem Res.bind_exc {α β : Type} (c : Nat) (n : Int) (k : Cup) (f : α → Res β) : (Res.exc c n k : Res α).bind f = .exc c n k := rfl
def need {α : Type} (b : Bool) (x : Res α) : Res α := match b with
  | true => x
  | false => .bad
@[simp] theorem need_true {α : Type} (x : Res α) : need true x = x := rfl
@[simp] theorem need_false {α : Type} (x : Res α) : need false x = .bad := rfl
def ofO {α : Type} (x : Option α) : Res α := match x with
  | some a => .ok a
  | none => .bad
@[simp] theorem ofO_some {α : Type} (a : α) : ofO (some a) = .ok a := rfl
@[simp] theorem ofO_none {α : Type} : (ofO none : Res α) = .bad := rfl

inductive Slot where
  | no | fz (d : D) | own (ds : List D)
  deriving Inhabited
abbrev Lo := List Slot

inductive BinO where | add | sub | mul | fdiv | mod | pow
  deriving DecidableEq
inductive CmO where | lt | le | gt | ge | eq | ne | is | isn | inn | nin
  deriving DecidableEq
inductive Ty where | int | bool | str | tup | lst
  deriving DecidableEq
inductive Prm where | len | tuple | list | all | any | int | str | abs | sum
  deriving DecidableEq

inductive Tg where
  | nm (i : Nat) | tp (ts : List Tg)

mutual
inductive Ex where
  | var (i : Nat) | own (i : Nat) | lit (d : D)
  | bin (o : BinO) (a b : Ex) | neg (a : Ex)
  | cmp (c : CmO) (a b : Ex) | chn (c c' : CmO) (a b d : Ex)
  | and (a b : Ex) | or (a b : Ex) | not (a : Ex) | ite (c a b : Ex)
  | tup (es : Exs) | lst (es : Exs)
  | idx (a b : Ex) | slc (a : Ex) (lo hi : Ox)
  | isi (a : Ex) (t : Ty)
  | prm (p : Prm) (a : Ex)
  | sset (a : Ex)
  | call (f : Nat) (es : Exs)
  | lc (ow : List Nat) (t : Tg) (it : It) (cs : Exs) (e : Ex)
inductive Exs where
  | nil | cons (e : Ex) (r : Exs)
inductive Ox where
  | non | som (e : Ex)
inductive It where
  | seq (e : Ex) | rng1 (a : Ex) | rng2 (a b : Ex) | rng3 (a b c : Ex) | enm (e : Ex) | zip (a b : Ex)
end

mutual
inductive Sm where
  | set (i : Nat) (e : Ex) | setO (i : Nat) (e : Ex)
  | par (ts : List (Nat × Bool)) (es : Exs)
  | unp (t : Tg) (e : Ex)
  | aug (i : Nat) (o : BinO) (e : Ex)
  | ext (i : Nat) (e : Ex)
  | app (i : Nat) (e : Ex)
  | put (i : Nat) (k e : Ex)
  | cput (i : Nat) (k e : Ex)
  | pop (i j : Nat)
  | ret (e : Ex) | retN
  | iff (c : Ex) (a b : Sms)
  | for_ (t : Tg) (it : It) (b : Sms)
  | whl (c : Ex) (b : Sms)
  | pass | brk | cnt
  | frz (i : Nat)
  | drop (e : Ex) | nev
inductive Sms where
  | nil | cons (s : Sm) (r : Sms)
end

/-! ### values -/
mutual
def D.beq : D → D → Bool
  | .non, .non => true
  | .bl a, .bl b => a == b
  | .int a, .int b => a == b
  | .str a, .str b => a == b
  | .tup a, .tup b => D.beqs a b
  | .lst a, .lst b => D.beqs a b
  | .cup, .cup => true
  | _, _ => false
def D.beqs : List D → List D → Bool
  | [], [] => true
  | x :: xs, y :: ys => D.beq x y && D.beqs xs ys
  | _, _ => false
end
mutual
/-- == as the language has it -/
def D.eqv : D → D → Bool
  | .non, .non => true
  | .bl a, .bl b => a == b
  | .bl a, .int b => (if a then 1 else 0) == b
  | .int a, .bl b => a == (if b then 1 else 0)
  | .int a, .int b => a == b
  | .str a, .str b => a == b
  | .tup a, .tup b => D.eqvs a b
  | .lst a, .lst b => D.eqvs a b
  | _, _ => false
def D.eqvs : List D → List D → Bool
  | [], [] => true
  | x :: xs, y :: ys => D.eqv x y && D.eqvs xs ys
  | _, _ => false
end
def strOkL (x : List Nat) : Bool := x.all (fun c => decide (c < 128)) && decide (x.length ≤ 30000)
mutual
/-- may be compared: no cup within, at most n deep -/
def D.okd : Nat → D → Bool
  | _, .non => true
  | _, .bl _ => true
  | _, .int _ => true
  | _, .str x => strOkL x
  | 0, .tup _ => false
  | n + 1, .tup xs => D.okds n xs
  | 0, .lst _ => false
  | n + 1, .lst xs => D.okds n xs
  | _, .cup => false
def D.okds : Nat → List D → Bool
  | _, [] => true
  | n, x :: xs => D.okd n x && D.okds n xs
end
def items : D → Option (List D)
  | .tup xs => some xs
  | .lst xs => some xs
  | _ => none
def boolsD : List D → Option (List Bool)
  | [] => some []
  | .bl b :: r => (boolsD r).map (b :: ·)
  | _ => none
def intsD : List D → Option (List Int)
  | [] => some []
  | .int b :: r => (intsD r).map (b :: ·)
  | _ => none

def small64 (i : Int) : Bool := decide (-(2 ^ 64) < i) && decide (i < 2 ^ 64)
def smallL (n : Nat) : Bool := decide (n ≤ 16777216)
def binD : BinO → D → D → Res D
  | .add, .int a, .int b => .ok (.int (a + b))
  | .add, .str a, .str b => need (smallL (a.length + b.length)) (.ok (.str (a ++ b)))
  | .add, .tup a, .tup b => need (smallL (a.length + b.length)) (.ok (.tup (a ++ b)))
  | .add, .lst a, .lst b => need (smallL (a.length + b.length)) (.ok (.lst (a ++ b)))
  | .sub, .int a, .int b => .ok (.int (a - b))
  | .mul, .int a, .int b => need (small64 a || small64 b) (.ok (.int (a * b)))
  | .fdiv, .int a, .int b => need (decide (b ≠ 0) && decide (b.natAbs < 1073741824)) (.ok (.int (a.fdiv b)))
  | .mod, .int a, .int b => need (decide (b ≠ 0)) (.ok (.int (a.fmod b)))
  | .pow, .int a, .int b => need (decide (0 ≤ b) && decide (b ≤ 1000000) && decide (a.natAbs < 2 ^ 64)) (.ok (.int (a ^ b.toNat)))
  | _, _, _ => .bad
/-- a op= b at a name -/
def augD : BinO → D → D → Res D
  | .add, .int a, .int b => .ok (.int (a + b))
  | .add, .str a, .str b => need (smallL (a.length + b.length)) (.ok (.str (a ++ b)))
  | .sub, .int a, .int b => .ok (.int (a - b))
  | .mul, .int a, .int b => need (small64 a || small64 b) (.ok (.int (a * b)))
  | _, _, _ => .bad
def isSign : List Nat → Option Nat
  | [c] => some c
  | _ => none
def inD (x y : D) : Res Bool := match y with
  | .tup ys => need (x.okd 60 && (D.tup ys).okd 60) (.ok (ys.any fun z => z.eqv x))
  | .lst ys => need (x.okd 60 && (D.lst ys).okd 60) (.ok (ys.any fun z => z.eqv x))
  | .str ys => match x with
    | .str [c] => .ok (ys.contains c)
    | _ => .bad
  | _ => .bad
def isD (x y : D) : Res Bool := match y with
  | .non => match x with
    | .non => .ok true
    | _ => .ok false
  | .bl b => match x with
    | .bl a => .ok (a == b)
    | _ => .bad
  | _ => .bad
def cmpD : CmO → D → D → Res Bool
  | .lt, .int a, .int b => .ok (decide (a < b))
  | .le, .int a, .int b => .ok (decide (a ≤ b))
  | .gt, .int a, .int b => .ok (decide (b < a))
  | .ge, .int a, .int b => .ok (decide (b ≤ a))
  | .eq, x, y => need (x.okd 60 && y.okd 60) (.ok (x.eqv y))
  | .ne, x, y => need (x.okd 60 && y.okd 60) (.ok (!x.eqv y))
  | .is, x, y => isD x y
  | .isn, x, y => (isD x y).bind fun b => .ok (!b)
  | .inn, x, y => inD x y
  | .nin, x, y => (inD x y).bind fun b => .ok (!b)
  | _, _, _ => .bad
def ixL {α : Type} (xs : List α) (i : Int) : Option α := L2.atI xs i
def idxD (c : Cup) : D → D → Res D
  | .tup xs, .int i => ofO (ixL xs i)
  | .lst xs, .int i => ofO (ixL xs i)
  | .str xs, .int i => need (smallL xs.length) (ofO ((ixL xs i).map fun c => .str [c]))
  | .cup, .int i => match i with
    | .ofNat 0 => .ok (.int c.1)
    | .ofNat 1 => .ok (.int c.2)
    | _ => .bad
  | _, _ => .bad
def cutL {α : Type} (xs : List α) (lo hi : Option Int) : List α := (xs.drop (HT.sIx xs.length 0 lo)).take (HT.sIx xs.length xs.length hi - HT.sIx xs.length 0 lo)
def slcD (x : D) (lo hi : Option Int) : Res D := match x with
  | .tup xs => .ok (.tup (cutL xs lo hi))
  | .lst xs => .ok (.lst (cutL xs lo hi))
  | _ => .bad
def isiD (t : Ty) : D → Res Bool
  | .non => .ok false
  | .bl _ => .ok (t == .bool || t == .int)
  | .int _ => .ok (t == .int)
  | .str _ => .ok (t == .str)
  | .tup _ => .ok (t == .tup)
  | .lst _ => .ok (t == .lst)
  | .cup => .bad
def ofStr (x : Str) : List Nat := x.cps.toList
def prmD : Prm → D → Res D
  | .len, .tup xs => .ok (.int xs.length)
  | .len, .lst xs => .ok (.int xs.length)
  | .len, .str xs => need (smallL xs.length) (.ok (.int xs.length))
  | .tuple, .tup xs => .ok (.tup xs)
  | .tuple, .lst xs => .ok (.tup xs)
  | .list, .tup xs => .ok (.lst xs)
  | .list, .lst xs => .ok (.lst xs)
  | .all, .lst xs => (ofO (boolsD xs)).bind fun bs => .ok (.bl (bs.all id))
  | .any, .lst xs => (ofO (boolsD xs)).bind fun bs => .ok (.bl (bs.any id))
  | .sum, .lst xs => (ofO (intsD xs)).bind fun ns => .ok (.int ns.sum)
  | .int, .int i => .ok (.int i)
  | .int, .bl b => .ok (.int (if b then 1 else 0))
  | .str, .int i => need (decide (i.natAbs.log2 < 1920)) (.ok (.str (ofStr (Str.ofString (toString i)))))
  | .abs, .int i => .ok (.int (if i < 0 then -i else i))
  | _, _ => .bad
/-- an ascending list, without doubles, of what is in ns -/
def insI (n : Int) : List Int → List Int
  | [] => [n]
  | m :: r => if n < m then n :: m :: r else if n = m then m :: r else m :: insI n r
def sortI (ns : List Int) : List Int := ns.foldr insI []
def ssetD : D → Res D
  | .tup xs => (ofO (intsD xs)).bind fun ns => need (decide (ns.length ≤ 60)) (.ok (.lst ((sortI ns).map D.int)))
  | .lst xs => (ofO (intsD xs)).bind fun ns => need (decide (ns.length ≤ 60)) (.ok (.lst ((sortI ns).map D.int)))
  | _ => .bad

/-! ### targets -/
mutual
def tgSet : Tg → D → Lo → Option Lo
  | .nm i, d, lo => some (lo.set i (.fz d))
  | .tp ts, .tup ds, lo => tgSets ts ds lo
  | .tp _, _, _ => none
def tgSets : List Tg → List D → Lo → Option Lo
  | [], [], lo => some lo
  | t :: ts, d :: ds, lo => (tgSet t d lo).bind fun lo => tgSets ts ds lo
  | _, _, _ => none
end
def wipeL (lo : Lo) : List Nat → Lo
  | [] => lo
  | v :: vs => (wipeL lo vs).set v .no

/-! ### expressions -/
abbrev Fns := Nat → List D → Cup → Res (D × Cup)
def lcGo (f : D → Cup → Res (Option D × Cup)) : List D → Cup → Res (List D × Cup)
  | [], c => .ok ([], c)
  | x :: xs, c => (f x c).bind fun r => (lcGo f xs r.2).bind fun q => .ok ((match r.1 with | some y => y :: q.1 | none => q.1), q.2)
def asB {α : Type} (x : D) (f : Bool → Res α) : Res α := match x with
  | .bl b => f b
  | _ => .bad
@[simp] theorem asB_bl {α : Type} (b : Bool) (f : Bool → Res α) : asB (.bl b) f = f b := rfl
def rngL (lo : Int) (n : Nat) : List D := (List.range n).map fun i => .int (lo + (i : Nat))
def rngC (lo c : Int) (n : Nat) : List D := (List.range n).map fun i => .int (lo + (i : Nat) * c)
def asI {α : Type} (x : D) (f : Int → Res α) : Res α := match x with
  | .int i => f i
  | _ => .bad
@[simp] theorem asI_int {α : Type} (i : Int) (f : Int → Res α) : asI (.int i) f = f i := rfl
def seqD : D → Res (List D)
  | .tup xs => .ok xs
  | .lst xs => .ok xs
  | .str xs => need (smallL xs.length) (.ok (xs.map fun c => .str [c]))
  | _ => .bad
/-- an exception is no answer here -/
def noX {α : Type} : Res α → Res α
  | .exc _ _ _ => .bad
  | r => r
@[simp] theorem noX_ok {α : Type} (a : α) : noX (.ok a) = .ok a := rfl
@[simp] theorem noX_bad {α : Type} : (noX .bad : Res α) = .bad := rfl
def enmL (xs : List D) : List D := (List.range xs.length).zipWith (fun i x => .tup [.int (i : Nat), x]) xs
def zipD : D → D → Res (List D)
  | .tup xs, .tup ys => .ok (xs.zipWith (fun x y => .tup [x, y]) ys)
  | .lst xs, .lst ys => .ok (xs.zipWith (fun x y => .tup [x, y]) ys)
  | _, _ => .bad
section
variable (Φ : Fns)
mutual
def evE : Ex → Lo → Cup → Res (D × Cup)
  | .var i, lo, c => match lo[i]? with
    | some (.fz d) => .ok (d, c)
    | _ => .bad
  | .own i, lo, c => match lo[i]? with
    | some (.own ds) => .ok (.lst ds, c)
    | _ => .bad
  | .lit d, _, c => .ok (d, c)
  | .bin o a b, lo, c => (evE a lo c).bind fun x => (evE b lo x.2).bind fun y => (binD o x.1 y.1).bind fun z => .ok (z, y.2)
  | .neg a, lo, c => (evE a lo c).bind fun x => asI x.1 fun i => .ok (.int (-i), x.2)
  | .cmp o a b, lo, c => (evE a lo c).bind fun x => (evE b lo x.2).bind fun y => (cmpD o x.1 y.1).bind fun z => .ok (.bl z, y.2)
  | .chn o o' a b d, lo, c => (evE a lo c).bind fun x => (evE b lo x.2).bind fun y => (cmpD o x.1 y.1).bind fun z =>
      if z then (evE d lo y.2).bind fun u => (cmpD o' y.1 u.1).bind fun w => .ok (.bl w, u.2) else .ok (.bl false, y.2)
  | .and a b, lo, c => (evE a lo c).bind fun x => asB x.1 fun k => if k then evE b lo x.2 else .ok (.bl false, x.2)
  | .or a b, lo, c => (evE a lo c).bind fun x => asB x.1 fun k => if k then .ok (.bl true, x.2) else evE b lo x.2
  | .not a, lo, c => (evE a lo c).bind fun x => asB x.1 fun k => .ok (.bl (!k), x.2)
  | .ite t a b, lo, c => (evE t lo c).bind fun x => asB x.1 fun k => if k then evE a lo x.2 else evE b lo x.2
  | .tup es, lo, c => (evEs es lo c).bind fun x => .ok (.tup x.1, x.2)
  | .lst es, lo, c => (evEs es lo c).bind fun x => .ok (.lst x.1, x.2)
  | .idx a b, lo, c => (evE a lo c).bind fun x => (evE b lo x.2).bind fun y => (idxD y.2 x.1 y.1).bind fun z => .ok (z, y.2)
  | .slc a l h, lo, c => (evE a lo c).bind fun x => (evO l lo x.2).bind fun y => (evO h lo y.2).bind fun z => (slcD x.1 y.1 z.1).bind fun w => .ok (w, z.2)
  | .isi a t, lo, c => (evE a lo c).bind fun x => (isiD t x.1).bind fun b => .ok (.bl b, x.2)
  | .prm p a, lo, c => (evE a lo c).bind fun x => (prmD p x.1).bind fun y => .ok (y, x.2)
  | .sset a, lo, c => (evE a lo c).bind fun x => (ssetD x.1).bind fun y => .ok (y, x.2)
  | .call f es, lo, c => (evEs es lo c).bind fun x => Φ f x.1 x.2
  | .lc ow t it cs e, lo, c => (evI it lo c).bind fun x => (lcGo (fun d c => noX ((ofO (tgSet t d (wipeL lo ow))).bind fun lo' =>
      (evCs cs lo' c).bind fun k => if k.1 then (evE e lo' k.2).bind fun y => .ok (some y.1, y.2) else .ok (none, k.2))) x.1 x.2).bind fun q => .ok (.lst q.1, q.2)
def evEs : Exs → Lo → Cup → Res (List D × Cup)
  | .nil, _, c => .ok ([], c)
  | .cons e r, lo, c => (evE e lo c).bind fun x => (evEs r lo x.2).bind fun y => .ok (x.1 :: y.1, y.2)
/-- tests, all of them -/
def evCs : Exs → Lo → Cup → Res (Bool × Cup)
  | .nil, _, c => .ok (true, c)
  | .cons e r, lo, c => (evE e lo c).bind fun x => asB x.1 fun k => if k then evCs r lo x.2 else .ok (false, x.2)
def evO : Ox → Lo → Cup → Res (Option Int × Cup)
  | .non, _, c => .ok (none, c)
  | .som e, lo, c => (evE e lo c).bind fun x => asI x.1 fun i => .ok (some i, x.2)
def evI : It → Lo → Cup → Res (List D × Cup)
  | .seq e, lo, c => (evE e lo c).bind fun x => (seqD x.1).bind fun y => .ok (y, x.2)
  | .rng1 a, lo, c => (evE a lo c).bind fun x => asI x.1 fun j => need (decide (-16777216 ≤ j) && smallL j.toNat) (.ok (rngL 0 j.toNat, x.2))
  | .rng2 a b, lo, c => (evE a lo c).bind fun x => (evE b lo x.2).bind fun y => asI x.1 fun i => asI y.1 fun j =>
      need (decide (-16777216 ≤ i) && decide (i ≤ 16777216) && decide (-16777216 ≤ j) && decide (j ≤ 16777216) && smallL (j - i).toNat) (.ok (rngL i (j - i).toNat, y.2))
  | .rng3 a b d, lo, c => (evE a lo c).bind fun x => (evE b lo x.2).bind fun y => (evE d lo y.2).bind fun z => asI x.1 fun i => asI y.1 fun j => asI z.1 fun s =>
      need (decide (s = -1) && decide (-16777216 ≤ i) && decide (i ≤ 16777216) && decide (-16777216 ≤ j) && decide (j ≤ 16777216) && smallL (i - j).toNat) (.ok (rngC i s (i - j).toNat, z.2))
  | .enm e, lo, c => (evE e lo c).bind fun x => (ofO (items x.1)).bind fun y => .ok (enmL y, x.2)
  | .zip a b, lo, c => (evE a lo c).bind fun x => (evE b lo x.2).bind fun y => (zipD x.1 y.1).bind fun z => .ok (z, y.2)
end

/-! ### statements -/
inductive Flo where
  | nx (lo : Lo) (c : Cup) | rt (d : D) (c : Cup) | bk (lo : Lo) (c : Cup) | ct (lo : Lo) (c : Cup)
def forGo (t : Tg) (f : Lo → Cup → Res Flo) : List D → Lo → Cup → Res Flo
  | [], lo, c => .ok (.nx lo c)
  | x :: xs, lo, c => (ofO (tgSet t x lo)).bind fun lo => (f lo c).bind fun r => match r with
    | .nx lo c => forGo t f xs lo c
    | .ct lo c => forGo t f xs lo c
    | .bk lo c => .ok (.nx lo c)
    | .rt d c => .ok (.rt d c)
def whlGo (g : Lo → Cup → Res (Bool × Cup)) (f : Lo → Cup → Res Flo) : Nat → Lo → Cup → Res Flo
  | 0, _, _ => .bad
  | n + 1, lo, c => (g lo c).bind fun k => if k.1 then (f lo k.2).bind fun r => match r with
      | .nx lo c => whlGo g f n lo c
      | .ct lo c => whlGo g f n lo c
      | .bk lo c => .ok (.nx lo c)
      | .rt d c => .ok (.rt d c)
    else .ok (.nx lo k.2)
def parSet : List (Nat × Bool) → List D → Lo → Option Lo
  | [], [], lo => some lo
  | (i, false) :: is, d :: ds, lo => parSet is ds (lo.set i (.fz d))
  | (i, true) :: is, .lst l :: ds, lo => parSet is ds (lo.set i (.own l))
  | _, _, _ => none
def cupPut (c : Cup) : D → D → Res Cup
  | .int (.ofNat 0), .int v => .ok (v, c.2)
  | .int (.ofNat 1), .int v => .ok (c.1, v)
  | _, _ => .bad
mutual
def exS : Sm → Lo → Cup → Res Flo
  | .set i e, lo, c => (evE Φ e lo c).bind fun x => .ok (.nx (lo.set i (.fz x.1)) x.2)
  | .setO i e, lo, c => (evE Φ e lo c).bind fun x => match x.1 with
    | .lst ds => .ok (.nx (lo.set i (.own ds)) x.2)
    | _ => .bad
  | .par ts es, lo, c => (evEs Φ es lo c).bind fun x => (ofO (parSet ts x.1 lo)).bind fun lo => .ok (.nx lo x.2)
  | .unp t e, lo, c => (evE Φ e lo c).bind fun x => (ofO (tgSet t x.1 lo)).bind fun lo => .ok (.nx lo x.2)
  | .aug i o e, lo, c => match lo[i]? with
    | some (.fz d) => (evE Φ e lo c).bind fun x => (augD o d x.1).bind fun z => .ok (.nx (lo.set i (.fz z)) x.2)
    | _ => .bad
  | .ext i e, lo, c => match lo[i]? with
    | some (.own ds) => (evE Φ e lo c).bind fun x => match x.1 with
      | .lst es => need (smallL (ds.length + es.length)) (.ok (.nx (lo.set i (.own (ds ++ es))) x.2))
      | _ => .bad
    | _ => .bad
  | .app i e, lo, c => match lo[i]? with
    | some (.own ds) => (evE Φ e lo c).bind fun x => need (decide (ds.length < 16777216)) (.ok (.nx (lo.set i (.own (ds ++ [x.1]))) x.2))
    | _ => .bad
  | .put i k e, lo, c => (evE Φ e lo c).bind fun x => match lo[i]? with
    | some (.own ds) => (evE Φ k lo x.2).bind fun y => asI y.1 fun j => (ofO (L2.ixN ds.length j)).bind fun m => .ok (.nx (lo.set i (.own (ds.set m x.1))) y.2)
    | _ => .bad
  | .cput i k e, lo, c => (evE Φ e lo c).bind fun x => match lo[i]? with
    | some (.fz .cup) => (evE Φ k lo x.2).bind fun y => (cupPut y.2 y.1 x.1).bind fun z => .ok (.nx lo z)
    | _ => .bad
  | .pop i j, lo, c => match lo[i]? with
    | some (.own ds) => match ds.getLast? with
      | some d => .ok (.nx ((lo.set i (.own ds.dropLast)).set j (.fz d)) c)
      | none => .bad
    | _ => .bad
  | .ret e, lo, c => (evE Φ e lo c).bind fun x => .ok (.rt x.1 x.2)
  | .retN, _, c => .ok (.rt .non c)
  | .iff t a b, lo, c => (evE Φ t lo c).bind fun x => asB x.1 fun k => if k then exSs a lo x.2 else exSs b lo x.2
  | .for_ t it b, lo, c => (evI Φ it lo c).bind fun x => forGo t (fun lo c => exSs b lo c) x.1 lo x.2
  | .whl t b, lo, c => whlGo (fun lo c => (evE Φ t lo c).bind fun x => asB x.1 fun k => .ok (k, x.2)) (fun lo c => exSs b lo c) 10000 lo c
  | .pass, lo, c => .ok (.nx lo c)
  | .brk, lo, c => .ok (.bk lo c)
  | .cnt, lo, c => .ok (.ct lo c)
  | .frz i, lo, c => match lo[i]? with
    | some (.own ds) => .ok (.nx (lo.set i (.fz (.lst ds))) c)
    | _ => .bad
  | .drop e, lo, c => (evE Φ e lo c).bind fun x => .ok (.nx lo x.2)
  | .nev, _, _ => .bad
def exSs : Sms → Lo → Cup → Res Flo
  | .nil, lo, c => .ok (.nx lo c)
  | .cons s r, lo, c => (exS s lo c).bind fun f => match f with
    | .nx lo c => exSs r lo c
    | f => .ok f
end
end

/-! ### defs -/
structure Fn where
  np : Nat
  ns : Nat
  body : Sms
def runFn (Φ : Fns) (F : Fn) (ds : List D) (c : Cup) : Res (D × Cup) :=
  if ds.length = F.np then (exSs Φ F.body (ds.map Slot.fz ++ List.replicate (F.ns - F.np) .no) c).bind fun f => match f with
    | .rt d c => .ok (d, c)
    | .nx _ c => .ok (.non, c)
    | _ => .bad
  else .bad
def runs (T : Nat → Option Fn) : Nat → Fns
  | 0 => fun _ _ _ => .bad
  | n + 1 => fun f ds c => match T f with
    | some F => runFn (runs T n) F ds c
    | none => .bad
end EV

/-! EvB: how plain values lie in the abstract heap. -/
namespace EV
open PySem PySem.Spec PyProof.Rows L2

mutual
inductive Rep (γ : Option Addr) (H : Hp) : V → D → Prop
  | non : Rep γ H .non .non
  | bl (b : Bool) : Rep γ H (.bl b) (.bl b)
  | int (i : Int) : Rep γ H (.int i) (.int i)
  | str (x : Str) : Rep γ H (.str x) (.str x.cps.toList)
  | tup {a : Addr} {xs : List V} {ds : List D} : H a = some (.tup xs) → Reps γ H xs ds → Rep γ H (.ref a) (.tup ds)
  | lst {a : Addr} {o : Obj} {xs : List V} {ds : List D} : H a = some (.frz o (.lst xs)) → Reps γ H xs ds → Rep γ H (.ref a) (.lst ds)
  | cup {a : Addr} : γ = some a → Rep γ H (.ref a) .cup
inductive Reps (γ : Option Addr) (H : Hp) : List V → List D → Prop
  | nil : Reps γ H [] []
  | cons {v : V} {vs : List V} {d : D} {ds : List D} : Rep γ H v d → Reps γ H vs ds → Reps γ H (v :: vs) (d :: ds)
end

/-- what never changes stays -/
structure Sta (H H' : Hp) : Prop where
  tup : ∀ a xs, H a = some (.tup xs) → H' a = some (.tup xs)
  frz : ∀ a o u, H a = some (.frz o u) → H' a = some (.frz o u)
mutual
theorem Rep.sta {γ : Option Addr} {H H' : Hp} (s : Sta H H') : ∀ {v : V} {d : D}, Rep γ H v d → Rep γ H' v d
  | _, _, .non => .non
  | _, _, .bl b => .bl b
  | _, _, .int i => .int i
  | _, _, .str x => .str x
  | _, _, .tup e r => .tup (s.tup _ _ e) (Reps.sta s r)
  | _, _, .lst e r => .lst (s.frz _ _ _ e) (Reps.sta s r)
  | _, _, .cup e => .cup e
theorem Reps.sta {γ : Option Addr} {H H' : Hp} (s : Sta H H') : ∀ {vs : List V} {ds : List D}, Reps γ H vs ds → Reps γ H' vs ds
  | _, _, .nil => .nil
  | _, _, .cons r t => .cons (Rep.sta s r) (Reps.sta s t)
end
section
variable {γ : Option Addr} {H H' H1 H2 : Hp} {v : V} {d : D} {vs ws : List V} {ds es : List D}
theorem Reps.length : ∀ {vs : List V} {ds : List D}, Reps γ H vs ds → vs.length = ds.length
  | _, _, .nil => rfl
  | _, _, .cons _ t => by rw [List.length_cons, List.length_cons, Reps.length t]
theorem Reps.app : ∀ {vs ws : List V} {ds es : List D}, Reps γ H vs ds → Reps γ H ws es → Reps γ H (vs ++ ws) (ds ++ es)
  | _, _, _, _, .nil, q => q
  | _, _, _, _, .cons r t, q => .cons r (Reps.app t q)
theorem Reps.get : ∀ {vs : List V} {ds : List D} {i : Nat} {d : D}, Reps γ H vs ds → ds[i]? = some d → ∃ v, vs[i]? = some v ∧ Rep γ H v d
  | _, _, _, _, .nil, e => by simp at e
  | _, _, 0, _, .cons r _, e => by simp at e; subst e; exact ⟨_, rfl, r⟩
  | _, _, i + 1, d, .cons _ t, e => by
    obtain ⟨v, h1, h2⟩ := Reps.get (i := i) (d := d) t (by simpa using e)
    exact ⟨v, by simpa using h1, h2⟩
theorem Reps.getV : ∀ {vs : List V} {ds : List D} {i : Nat} {v : V}, Reps γ H vs ds → vs[i]? = some v → ∃ d, ds[i]? = some d ∧ Rep γ H v d
  | _, _, _, _, .nil, e => by simp at e
  | _, _, 0, _, .cons r _, e => by simp at e; subst e; exact ⟨_, rfl, r⟩
  | _, _, i + 1, v, .cons _ t, e => by
    obtain ⟨d, h1, h2⟩ := Reps.getV (i := i) (v := v) t (by simpa using e)
    exact ⟨d, by simpa using h1, h2⟩
theorem Reps.take : ∀ {vs : List V} {ds : List D} (n : Nat), Reps γ H vs ds → Reps γ H (vs.take n) (ds.take n)
  | _, _, 0, _ => .nil
  | _, _, _ + 1, .nil => .nil
  | _, _, n + 1, .cons r t => .cons r (Reps.take n t)
theorem Reps.drop : ∀ {vs : List V} {ds : List D} (n : Nat), Reps γ H vs ds → Reps γ H (vs.drop n) (ds.drop n)
  | _, _, 0, r => r
  | _, _, _ + 1, .nil => .nil
  | _, _, n + 1, .cons _ t => Reps.drop n t
theorem Reps.set (r : Rep γ H v d) : ∀ {vs : List V} {ds : List D} (i : Nat), Reps γ H vs ds → Reps γ H (vs.set i v) (ds.set i d)
  | _, _, _, .nil => .nil
  | _, _, 0, .cons _ t => .cons r t
  | _, _, i + 1, .cons q t => .cons q (Reps.set r i t)
theorem Reps.dropLast {vs : List V} {ds : List D} (r : Reps γ H vs ds) : Reps γ H vs.dropLast ds.dropLast := by
  rw [List.dropLast_eq_take, List.dropLast_eq_take, r.length]
  exact r.take _
theorem ixN_len {n m : Nat} (h : n = m) (i : Int) : ixN n i = ixN m i := by rw [h]
theorem Reps.at {i : Int} (r : Reps γ H vs ds) (e : atI ds i = some d) : ∃ v, atI vs i = some v ∧ Rep γ H v d := by
  unfold atI at e ⊢
  rw [r.length]
  cases q : ixN ds.length i with
  | none => rw [q] at e; cases e
  | some j =>
    rw [q] at e
    exact r.get e
theorem Reps.cut (r : Reps γ H vs ds) (lo hi : Option Int) : Reps γ H (cutV vs lo hi) (cutL ds lo hi) := by
  unfold cutV cutL
  rw [r.length]
  exact (r.drop _).take _
theorem Reps.refl_of {f : α → V} {g : α → D} (h : ∀ x, Rep γ H (f x) (g x)) : ∀ xs : List α, Reps γ H (xs.map f) (xs.map g)
  | [] => .nil
  | x :: xs => .cons (h x) (Reps.refl_of h xs)
theorem Reps.bools : ∀ {vs : List V} {ds : List D} {bs : List Bool}, Reps γ H vs ds → boolsD ds = some bs → vs = bs.map V.bl
  | _, _, _, .nil, e => by cases e; rfl
  | _, _, bs, .cons (d := d) (ds := ds) r t, e => by
    cases d with
    | bl b =>
      unfold boolsD at e
      cases q : boolsD ds with
      | none => rw [q] at e; cases e
      | some cs =>
        rw [q] at e
        cases e
        cases r
        rw [Reps.bools t q]; rfl
    | _ => cases e
theorem Reps.ints : ∀ {vs : List V} {ds : List D} {ns : List Int}, Reps γ H vs ds → intsD ds = some ns → vs = ns.map V.int
  | _, _, _, .nil, e => by cases e; rfl
  | _, _, ns, .cons (d := d) (ds := ds) r t, e => by
    cases d with
    | int b =>
      unfold intsD at e
      cases q : intsD ds with
      | none => rw [q] at e; cases e
      | some cs =>
        rw [q] at e
        cases e
        cases r
        rw [Reps.ints t q]; rfl
    | _ => cases e

/-- all is as it was, but the cup -/
def SameC (γ : Option Addr) (H H' : Hp) : Prop := ∀ b o, H b = some o → γ ≠ some b → H' b = some o
def CupAt (γ : Option Addr) (c : Cup) (H : Hp) : Prop := ∀ a, γ = some a → H a = some (.lst [.int c.1, .int c.2])
theorem SameC.refl : SameC γ H H := fun _ _ h _ => h
theorem SameC.trans (a : SameC γ H H1) (b : SameC γ H1 H2) : SameC γ H H2 := fun c o h n => b c o (a c o h n) n
theorem SameC.sta {c : Cup} (s : SameC γ H H') (k : CupAt γ c H) : Sta H H' := by
  refine ⟨fun a xs e => s a _ e fun z => ?_, fun a o u e => s a _ e fun z => ?_⟩
  · have := k a z; rw [e] at this; cases this
  · have := k a z; rw [e] at this; cases this
theorem SameC.new {p : Addr} {o : HO} (n : H p = none) : SameC γ H (upd H p o) := fun b u e _ => by
  rw [upd_ne (ne_of_none e n)]; exact e
theorem CupAt.new {c : Cup} {p : Addr} {o : HO} (k : CupAt γ c H) (n : H p = none) : CupAt γ c (upd H p o) := fun a z => by
  have q := k a z
  rw [upd_ne (ne_of_none q n)]; exact q
theorem Sta.new {p : Addr} {o : HO} (n : H p = none) : Sta H (upd H p o) :=
  ⟨fun a xs e => by rw [upd_ne (ne_of_none e n)]; exact e, fun a ob u e => by rw [upd_ne (ne_of_none e n)]; exact e⟩
theorem Sta.lst {p : Addr} {xs : List V} {o : HO} (n : H p = some (.lst xs)) : Sta H (upd H p o) :=
  ⟨fun a ys e => by rw [upd_ne (ne_of e n (by intro z; cases z))]; exact e, fun a ob u e => by rw [upd_ne (ne_of e n (by intro z; cases z))]; exact e⟩
theorem Sta.refl : Sta H H := ⟨fun _ _ h => h, fun _ _ _ h => h⟩
theorem Sta.trans (a : Sta H H1) (b : Sta H1 H2) : Sta H H2 := ⟨fun c xs h => b.tup _ _ (a.tup _ _ h), fun c o u h => b.frz _ _ _ (a.frz _ _ _ h)⟩

/-- a value that may be an own list of the frame: to be looked at, not kept -/
def RepW (γ : Option Addr) (H : Hp) (v : V) (d : D) : Prop := Rep γ H v d ∨ ∃ a xs ds, v = .ref a ∧ d = .lst ds ∧ H a = some (.lst xs) ∧ Reps γ H xs ds ∧ γ ≠ some a
theorem RepW.same {c : Cup} (r : RepW γ H v d) (s : SameC γ H H') (k : CupAt γ c H) : RepW γ H' v d := by
  rcases r with r | ⟨a, xs, ds, rfl, rfl, e, q, n⟩
  · exact .inl (r.sta (s.sta k))
  · exact .inr ⟨a, xs, ds, rfl, rfl, s _ _ e n, q.sta (s.sta k), n⟩
/-- a list, to be read -/
theorem RepW.list {K : PySem.W.Frag} (r : RepW γ H v (.lst ds)) : ∃ a xs, v = .ref a ∧ Rd H a (.lst xs) ∧ SqL K H a xs ∧ Reps γ H xs ds := by
  rcases r with r | ⟨a, xs, ds, rfl, e, e2, q, n⟩
  · cases r with
    | lst e q => exact ⟨_, _, rfl, .inr ⟨_, e⟩, .inl (.inr ⟨_, e⟩), q⟩
  · cases e
    exact ⟨a, xs, rfl, .inl e2, .inl (.inl e2), q⟩
theorem RepW.tup {K : PySem.W.Frag} (r : RepW γ H v (.tup ds)) : ∃ a xs, v = .ref a ∧ H a = some (.tup xs) ∧ SqT K H a xs ∧ Reps γ H xs ds := by
  rcases r with r | ⟨a, xs, ds, rfl, e, e2, q, n⟩
  · cases r with
    | tup e q => exact ⟨_, _, rfl, e, .inl (.inl e), q⟩
  · cases e
theorem RepW.int {i : Int} (r : RepW γ H v (.int i)) : v = .int i := by
  rcases r with r | ⟨a, xs, ds, rfl, e, e2, q, n⟩
  · cases r; rfl
  · cases e
theorem RepW.bl {i : Bool} (r : RepW γ H v (.bl i)) : v = .bl i := by
  rcases r with r | ⟨a, xs, ds, rfl, e, e2, q, n⟩
  · cases r; rfl
  · cases e
theorem RepW.str {i : List Nat} (r : RepW γ H v (.str i)) : v = .str ⟨i.toArray⟩ := by
  rcases r with r | ⟨a, xs, ds, rfl, e, e2, q, n⟩
  · cases r; simp
  · cases e
theorem RepW.non (r : RepW γ H v .non) : v = .non := by
  rcases r with r | ⟨a, xs, ds, rfl, e, e2, q, n⟩
  · cases r; rfl
  · cases e
theorem RepW.cup (r : RepW γ H v .cup) : ∃ a, v = .ref a ∧ γ = some a := by
  rcases r with r | ⟨a, xs, ds, rfl, e, e2, q, n⟩
  · cases r with
    | cup e => exact ⟨_, rfl, e⟩
  · cases e
theorem Rep.strL (x : List Nat) : Rep γ H (.str ⟨x.toArray⟩) (.str x) := by
  have := Rep.str (γ := γ) (H := H) ⟨x.toArray⟩
  simpa using this

/-- the frame's slots -/
structure RS (γ : Option Addr) (lo : Lo) (c : Cup) (σ : L2.St) (H : Hp) : Prop where
  fz : ∀ (i : Nat) (d : D), lo[i]? = some (.fz d) → ∃ v : V, σ[i]? = some (some v) ∧ Rep γ H v d
  ow : ∀ (i : Nat) (ds : List D), lo[i]? = some (.own ds) → ∃ (a : Addr) (xs : List V), σ[i]? = some (some (.ref a)) ∧ H a = some (.lst xs) ∧ Reps γ H xs ds ∧ γ ≠ some a
  un : ∀ (i j : Nat) (ds es : List D) (a : Addr), lo[i]? = some (.own ds) → lo[j]? = some (.own es) → σ[i]? = some (some (.ref a)) → σ[j]? = some (some (.ref a)) → i = j
  cu : CupAt γ c H
  ln : lo.length = σ.length
theorem RS.same {lo : Lo} {c c' : Cup} {σ : L2.St} (R : RS γ lo c σ H) (s : SameC γ H H') (k : CupAt γ c' H') : RS γ lo c' σ H' := by
  have st := s.sta R.cu
  refine ⟨fun i d e => ?_, fun i ds e => ?_, R.un, k, R.ln⟩
  · obtain ⟨v, h1, h2⟩ := R.fz i d e
    exact ⟨v, h1, h2.sta st⟩
  · obtain ⟨a, xs, h1, h2, h3, h4⟩ := R.ow i ds e
    exact ⟨a, xs, h1, s _ _ h2 h4, h3.sta st, h4⟩
end

/-! ### what is wanted behind an answer -/
def Aft {α : Type} (E : Nat → Int → Cup → Prop) (r : Res α) (k : α → Prop) : Prop := match r with
  | .ok a => k a
  | .exc c n u => E c n u
  | .bad => False
theorem Aft.bind {α β : Type} {E : Nat → Int → Cup → Prop} {r : Res α} {f : α → Res β} {k : β → Prop} (h : Aft E (r.bind f) k) : Aft E r fun a => Aft E (f a) k := by
  cases r with
  | ok a => exact h
  | exc c n u => exact h
  | bad => exact h
theorem Aft.mono {α : Type} {E E' : Nat → Int → Cup → Prop} {r : Res α} {k k' : α → Prop} (h : Aft E r k) (hE : ∀ c n u, E c n u → E' c n u) (hk : ∀ a, k a → k' a) : Aft E' r k' := by
  cases r with
  | ok a => exact hk a h
  | exc c n u => exact hE c n u h
  | bad => exact h
theorem Aft.need {α : Type} {E : Nat → Int → Cup → Prop} {b : Bool} {r : Res α} {k : α → Prop} (h : Aft E (need b r) k) : b = true ∧ Aft E r k := by
  cases b with
  | true => exact ⟨rfl, h⟩
  | false => exact h.elim
theorem Aft.ofO {α : Type} {E : Nat → Int → Cup → Prop} {r : Option α} {k : α → Prop} (h : Aft E (ofO r) k) : ∃ a, r = some a ∧ k a := by
  cases r with
  | some a => exact ⟨a, rfl, h⟩
  | none => exact h.elim
theorem Aft.asB {α : Type} {E : Nat → Int → Cup → Prop} {x : D} {f : Bool → Res α} {k : α → Prop} (h : Aft E (asB x f) k) : ∃ b, x = .bl b ∧ Aft E (f b) k := by
  cases x with
  | bl b => exact ⟨b, rfl, h⟩
  | _ => exact h.elim
theorem Aft.asI {α : Type} {E : Nat → Int → Cup → Prop} {x : D} {f : Int → Res α} {k : α → Prop} (h : Aft E (asI x f) k) : ∃ b, x = .int b ∧ Aft E (f b) k := by
  cases x with
  | int b => exact ⟨b, rfl, h⟩
  | _ => exact h.elim
end EV

/-! EvC: which code of the text a plain code stands for; what its answers promise. -/
namespace EV
open PySem PySem.Spec PyProof.Rows L2

/-- what is known of the names where code stands -/
structure SC where
  N : List Str
  sc : Scope
  ow : Scope
  fns : List (Str × Nat)
  gls : List (Str × D)
  bts : List Str

def okName (x : Str) : Bool := !(x == ("__debug__" : Str)) && !(x == ("__classdict__" : Str)) && !(x == ("__name__" : Str))
def SC.vis (S : SC) (x : Str) : Bool := match S.sc.names.lookup x with
  | some .local => true
  | some .cell => true
  | some .free => true
  | _ => false
def SC.sto (S : SC) (x : Str) : Bool := match S.ow.names.lookup x with
  | some .local => true
  | some .cell => true
  | _ => false
def SC.gl (S : SC) (x : Str) : Bool := S.sc.names.lookup x == some .globalImplicit
/-- x is the built-in thing of that name -/
def SC.blt (S : SC) (x n : Str) : Bool := x == n && S.gl x && S.bts.contains x
def isOwn : Ex → Bool
  | .own _ => true
  | _ => false
def litOk (d : D) (k : Const) : Bool := match d, k with
  | .non, .none => true
  | .bl a, .bool b => a == b
  | .int a, .int b => a == b
  | .str a, .str b => a == b.cps.toList
  | _, _ => false
def binOk : BinO → Operator → Bool
  | .add, .Add => true
  | .sub, .Sub => true
  | .mul, .Mult => true
  | .fdiv, .FloorDiv => true
  | .mod, .Mod => true
  | .pow, .Pow => true
  | _, _ => false
def cmpOk : CmO → CmpOp → Bool
  | .lt, .Lt => true
  | .le, .LtE => true
  | .gt, .Gt => true
  | .ge, .GtE => true
  | .eq, .Eq => true
  | .ne, .NotEq => true
  | .is, .Is => true
  | .isn, .IsNot => true
  | .inn, .In => true
  | .nin, .NotIn => true
  | _, _ => false
def tyNm : Ty → String
  | .int => "int"
  | .bool => "bool"
  | .str => "str"
  | .tup => "tuple"
  | .lst => "list"
def prmNm : Prm → String
  | .len => "len"
  | .tuple => "tuple"
  | .list => "list"
  | .all => "all"
  | .any => "any"
  | .int => "int"
  | .str => "str"
  | .abs => "abs"
  | .sum => "sum"
/-- no star, no slice, no set display -/
def plainE : Expr → Bool
  | .Name _ _ => true
  | .Constant _ _ _ => true
  | .BinOp _ _ _ _ => true
  | .UnaryOp _ _ _ => true
  | .Compare _ _ _ _ => true
  | .BoolOp _ _ _ => true
  | .IfExp _ _ _ _ => true
  | .Tuple _ _ _ => true
  | .List _ _ => true
  | .Subscript _ _ _ => true
  | .Call _ _ _ _ => true
  | .ListComp _ _ _ _ => true
  | _ => false
def tstE : Expr → Bool
  | .IfExp _ _ _ _ => false
  | e => plainE e
mutual
def tgSlots : Tg → List Nat
  | .nm i => [i]
  | .tp ts => tgSlotss ts
def tgSlotss : List Tg → List Nat
  | [] => []
  | t :: ts => tgSlots t ++ tgSlotss ts
end
def ownPairs (N : List Str) : List Nat → Option (List (Str × Nat))
  | [] => some []
  | i :: r => match N[i]?, ownPairs N r with
    | some x, some l => some ((x, i) :: l)
    | _, _ => none
mutual
def chkT (S : SC) : Tg → Expr → Bool
  | .nm i, .Name x _ => S.N[i]? == some x && S.sto x && okName x
  | .tp ts, .Tuple es _ _ => chkTs S ts es
  | _, _ => false
def chkTs (S : SC) : List Tg → List Expr → Bool
  | [], [] => true
  | t :: ts, e :: es => chkT S t e && chkTs S ts es
  | _, _ => false
end
def isTup : Expr → Bool
  | .Tuple _ _ _ => true
  | _ => false
mutual
def chkE : SC → Ex → Expr → Bool
  | S, .var i, .Name x _ => S.N[i]? == some x && S.vis x && okName x
  | S, .own i, .Name x _ => S.N[i]? == some x && S.vis x && okName x
  | S, .lit d, .Constant k _ _ => litOk d k
  | S, .lit d, .Name x _ => S.gl x && okName x && (match S.gls.lookup x with
    | some d' => d.beq d'
    | none => false)
  | S, .bin o a b, .BinOp ea op eb _ => binOk o op && chkE S a ea && chkE S b eb
  | S, .neg a, .UnaryOp op e _ => (match op with
    | .USub => true
    | _ => false) && chkE S a e
  | S, .cmp o a b, .Compare ea ops es _ => (match ops, es with
    | [op], [eb] => cmpOk o op && chkE S a ea && chkE S b eb && plainE eb
    | _, _ => false)
  | S, .chn o o' a b d, .Compare ea ops es _ => (match ops, es with
    | [op, op'], [eb, ed] => cmpOk o op && cmpOk o' op' && chkE S a ea && chkE S b eb && chkE S d ed && plainE eb && plainE ed
    | _, _ => false)
  | S, .and a b, .BoolOp op es pos => (match op, es with
    | .And, ea :: eb :: r => chkE S a ea && tstE ea && (match r with
      | [] => chkE S b eb && tstE eb && !isOwn b
      | _ :: _ => chkE S b (.BoolOp .And (eb :: r) pos) && !isOwn b)
    | _, _ => false)
  | S, .or a b, .BoolOp op es pos => (match op, es with
    | .Or, ea :: eb :: r => chkE S a ea && tstE ea && (match r with
      | [] => chkE S b eb && tstE eb && !isOwn b
      | _ :: _ => chkE S b (.BoolOp .Or (eb :: r) pos) && !isOwn b)
    | _, _ => false)
  | S, .not a, .UnaryOp op e _ => (match op with
    | .Not => true
    | _ => false) && chkE S a e && tstE e
  | S, .ite t a b, .IfExp et ea eb _ => chkE S t et && chkE S a ea && chkE S b eb && tstE et && !isOwn a && !isOwn b
  | S, .tup es, .Tuple l _ _ => chkEs S es l && decide (l.length ≤ 1000)
  | S, .lst es, .List l _ => chkEs S es l && decide (l.length ≤ 1000)
  | S, .idx a b, .Subscript ea eb _ => chkE S a ea && chkE S b eb && plainE eb
  | S, .slc a l h, .Subscript ea es _ => chkE S a ea && (match es with
    | .Slice el eh st _ => chkO S l el && chkO S h eh && st.isNone
    | _ => false)
  | S, .isi a t, .Call f es ks _ => (match f, es, ks with
    | .Name x _, [e, .Name y _], [] => S.blt x "isinstance" && S.blt y (Str.ofString (tyNm t)) && chkE S a e && plainE e
    | _, _, _ => false)
  | S, .prm p a, .Call f es ks _ => (match f, es, ks with
    | .Name x _, [e], [] => S.blt x (Str.ofString (prmNm p)) && chkE S a e && plainE e
    | _, _, _ => false)
  | S, .sset a, .Call f es ks _ => (match f, es, ks with
    | .Name x _, [.Call g es' ks' _], [] => (match g, es', ks' with
      | .Name y _, [e], [] => S.blt x "sorted" && S.blt y "set" && chkE S a e && plainE e
      | _, _, _ => false)
    | _, _, _ => false)
  | S, .call f es, .Call g l ks _ => (match g, ks with
    | .Name x _, [] => S.gl x && okName x && S.fns.lookup x == some f && chkEs S es l
    | _, _ => false)
  | S, .lc ow t it cs e, .ListComp ee gs scope _ => (match gs with
    | [⟨tg, iter, ifs, as⟩] => as == 0 && (tgSlots t).all (fun i => ow.contains i) && chkI S t it tg iter && (match ownPairs S.N ow with
      | some op => blkC S.N S.sc scope op && (chkT { S with sc := relS scope S.sc, ow := scope } t tg
          && chkCs { S with sc := relS scope S.sc, ow := scope } cs ifs && chkE { S with sc := relS scope S.sc, ow := scope } e ee && plainE ee && !isOwn e)
      | none => false)
    | _ => false)
  | _, _, _ => false
def chkEs : SC → Exs → List Expr → Bool
  | _, .nil, [] => true
  | S, .cons x r, e :: es => chkE S x e && plainE e && !isOwn x && chkEs S r es
  | _, _, _ => false
def chkCs : SC → Exs → List Expr → Bool
  | _, .nil, [] => true
  | S, .cons x .nil, [e] => chkE S x e && tstE e
  | _, _, _ => false
def chkO : SC → Ox → Option Expr → Bool
  | _, .non, none => true
  | S, .som x, some e => chkE S x e
  | _, _, _ => false
def chkI : SC → Tg → It → Expr → Expr → Bool
  | S, _, .seq x, _, e => chkE S x e && plainE e
  | S, _, .rng1 a, _, .Call f es ks _ => (match f, es, ks with
    | .Name x _, [e], [] => S.blt x "range" && chkE S a e && plainE e
    | _, _, _ => false)
  | S, _, .rng2 a b, _, .Call f es ks _ => (match f, es, ks with
    | .Name x _, [e, e2], [] => S.blt x "range" && chkE S a e && plainE e && chkE S b e2 && plainE e2
    | _, _, _ => false)
  | S, _, .rng3 a b c, _, .Call f es ks _ => (match f, es, ks with
    | .Name x _, [e, e2, e3], [] => S.blt x "range" && chkE S a e && plainE e && chkE S b e2 && plainE e2 && chkE S c e3 && plainE e3
    | _, _, _ => false)
  | S, t, .enm a, tg, .Call f es ks _ => isTup tg && (match f, es, ks with
    | .Name x _, [e], [] => S.blt x "enumerate" && chkE S a e && plainE e
    | _, _, _ => false)
  | S, t, .zip a b, tg, .Call f es ks _ => isTup tg && (match f, es, ks with
    | .Name x _, [e, e2], [] => S.blt x "zip" && chkE S a e && plainE e && chkE S b e2 && plainE e2
    | _, _, _ => false)
  | _, _, _, _, _ => false
end
end EV

/-! EvD: what an answer promises, and the first rules. -/
namespace EV
open PySem PySem.Spec PyProof.Rows L2

/-- how an exception lies: its number, its limit, class, own dict, heap -/
abbrev XIs := Nat → Int → Value → Option Addr → Hp → Prop
def XW (XI : XIs) (γ : Option Addr) (W : WX) (σ : L2.St) (H : Hp) : Nat → Int → Cup → Prop := fun c n u => ∀ cls d H', CupAt γ u H' → SameC γ H H' → XI c n cls d H' → W cls d σ H'
def RepX (b : Bool) (γ : Option Addr) (H : Hp) (v : V) (d : D) : Prop := match b with
  | true => RepW γ H v d
  | false => Rep γ H v d
theorem RepX.w {b : Bool} {γ : Option Addr} {H : Hp} {v : V} {d : D} (r : RepX b γ H v d) : RepW γ H v d := by
  cases b with
  | true => exact r
  | false => exact .inl r
section
variable (Φ : Fns) (XI : XIs) (W : WX)
def tE (x : Ex) : TE := fun σ H Q => ∃ γ lo c, RS γ lo c σ H ∧ Aft (XW XI γ W σ H) (evE Φ x lo c) fun r => ∀ v H', CupAt γ r.2 H' → SameC γ H H' → RepX (isOwn x) γ H' v r.1 → Q v H'
def tT (x : Ex) : TT := fun σ H Q => ∃ γ lo c, RS γ lo c σ H ∧ Aft (XW XI γ W σ H) ((evE Φ x lo c).bind fun r => asB r.1 fun k => .ok (k, r.2)) fun r => ∀ H', CupAt γ r.2 H' → SameC γ H H' → Q r.1 H'
def tA (es : Exs) : TA := fun σ H Q => ∃ γ lo c, RS γ lo c σ H ∧ Aft (XW XI γ W σ H) (evEs Φ es lo c) fun r => ∀ vs H', CupAt γ r.2 H' → SameC γ H H' → Reps γ H' vs r.1 → Q vs H'
def tOx (o : Ox) : TO := fun σ H Q => ∃ γ lo c, RS γ lo c σ H ∧ Aft (XW XI γ W σ H) (evO Φ o lo c) fun r => ∀ H', CupAt γ r.2 H' → SameC γ H H' → Q r.1 H'
def tCs (es : Exs) : TT := fun σ H Q => ∃ γ lo c, RS γ lo c σ H ∧ Aft (XW XI γ W σ H) (evCs Φ es lo c) fun r => ∀ H', CupAt γ r.2 H' → SameC γ H H' → Q r.1 H'
end
section
variable {Φ : Fns} {XI : XIs} {W : WX} {γ : Option Addr} {lo : Lo} {c : Cup} {σ : L2.St} {H H1 : Hp} {β : Type} {x : Ex} {k : β → Prop}
theorem XW.mono (s : SameC γ H H1) {n : Nat} {m : Int} {u : Cup} (h : XW XI γ W σ H n m u) : XW XI γ W σ H1 n m u := fun cls d H' k t q => h cls d H' k (s.trans t) q
theorem Aft.same {r : Res β} (s : SameC γ H H1) (h : Aft (XW XI γ W σ H) r k) : Aft (XW XI γ W σ H1) r k := h.mono (fun _ _ _ q => q.mono s) fun _ q => q
theorem useE {f : D × Cup → Res β} {Q : VK} (R : RS γ lo c σ H) (h : Aft (XW XI γ W σ H) ((evE Φ x lo c).bind f) k)
    (hQ : ∀ v H1 d c1, RS γ lo c1 σ H1 → SameC γ H H1 → RepX (isOwn x) γ H1 v d → Aft (XW XI γ W σ H1) (f (d, c1)) k → Q v H1) : tE Φ XI W x σ H Q :=
  ⟨γ, lo, c, R, h.bind.mono (fun _ _ _ q => q) fun r hr v H' kc sc rp => hQ v H' r.1 r.2 (R.same sc kc) sc rp (hr.same sc)⟩
theorem useT {f : Bool → Cup → Res β} {Q : Bool → Hp → Prop} (R : RS γ lo c σ H) (h : Aft (XW XI γ W σ H) ((evE Φ x lo c).bind fun r => asB r.1 fun b => f b r.2) k)
    (hQ : ∀ b H1 c1, RS γ lo c1 σ H1 → SameC γ H H1 → Aft (XW XI γ W σ H1) (f b c1) k → Q b H1) : tT Φ XI W x σ H Q := by
  refine ⟨γ, lo, c, R, ?_⟩
  cases q : evE Φ x lo c with
  | bad => rw [q] at h; exact h
  | exc a b u => rw [q] at h; exact h
  | ok r =>
    rw [q] at h
    obtain ⟨b, e, h⟩ := Aft.asB (show Aft _ (asB r.1 fun b => f b r.2) k from h)
    show Aft _ (asB r.1 _) _
    rw [e]
    exact fun H' kc sc => hQ b H' r.2 (R.same sc kc) sc (h.same sc)
theorem useA {es : Exs} {f : List D × Cup → Res β} {Q : List V → Hp → Prop} (R : RS γ lo c σ H) (h : Aft (XW XI γ W σ H) ((evEs Φ es lo c).bind f) k)
    (hQ : ∀ vs H1 ds c1, RS γ lo c1 σ H1 → SameC γ H H1 → Reps γ H1 vs ds → Aft (XW XI γ W σ H1) (f (ds, c1)) k → Q vs H1) : tA Φ XI W es σ H Q :=
  ⟨γ, lo, c, R, h.bind.mono (fun _ _ _ q => q) fun r hr v H' kc sc rp => hQ v H' r.1 r.2 (R.same sc kc) sc rp (hr.same sc)⟩
theorem useO {o : Ox} {f : Option Int × Cup → Res β} {Q : Option Int → Hp → Prop} (R : RS γ lo c σ H) (h : Aft (XW XI γ W σ H) ((evO Φ o lo c).bind f) k)
    (hQ : ∀ i H1 c1, RS γ lo c1 σ H1 → SameC γ H H1 → Aft (XW XI γ W σ H1) (f (i, c1)) k → Q i H1) : tOx Φ XI W o σ H Q :=
  ⟨γ, lo, c, R, h.bind.mono (fun _ _ _ q => q) fun r hr H' kc sc => hQ r.1 H' r.2 (R.same sc kc) sc (hr.same sc)⟩
end

/-! ### a weaker wish -/
section
variable {X : Cx} {e : Expr}
theorem _root_.L2.PE.weak {t t' : TE} (h : PE X e t) (w : ∀ σ H Q, t' σ H Q → t σ H Q) : PE X e t' := ⟨fun pins s σ H Q I q => h.run pins s σ H Q I (w σ H Q q)⟩
theorem _root_.L2.PT.weak {t t' : TT} (h : PT X e t) (w : ∀ σ H Q, t' σ H Q → t σ H Q) : PT X e t' := ⟨fun pins s σ H Q I q => h.run pins s σ H Q I (w σ H Q q)⟩
theorem _root_.L2.PW.weak {t t' : TT} (h : PW X e t) (w : ∀ σ H Q, t' σ H Q → t σ H Q) : PW X e t' := ⟨fun wh pins s σ H Q I q => h.run wh pins s σ H Q I (w σ H Q q)⟩
/-- a new list, never to be changed -/
theorem ep_frz {pins : List (Addr × Obj)} {σ : L2.St} {Q : VK} {u : Value} {s : Shared} (h : EP X pins σ (fun v H' => ∃ p xs, v = .ref p ∧ H' p = some (.lst xs) ∧ ∀ o, Q v (upd H' p (.frz o (.lst xs)))) u s) : EP X pins σ Q u s := by
  obtain ⟨v, H', I, r, p, xs, rfl, e, q⟩ := h
  obtain ⟨od, I2⟩ := I.lock e trivial
  exact ⟨_, _, I2, r, q od⟩
def tFz (t : TE) : TE := fun σ H Q => t σ H fun v H' => ∃ p xs, v = .ref p ∧ H' p = some (.lst xs) ∧ ∀ o, Q v (upd H' p (.frz o (.lst xs)))
theorem pe_frz {t : TE} (h : PE X e t) : PE X e (tFz t) := ⟨fun pins s σ H Q I q => thn (h.run pins s σ H _ I q) fun u s' z => ep_frz z⟩
theorem upd2 {H : Hp} {p : Addr} {o u : HO} : upd (upd H p o) p u = upd H p u := upd_upd
end
end EV

set_option maxHeartbeats 1000000
/-! EvE: operators on values. -/
namespace EV
open PySem PySem.Spec PyProof.Rows L2

mutual
def D.py : D → PyData
  | .non => .none
  | .bl b => .bool b
  | .int i => .int i
  | .str x => .str ⟨x.toArray⟩
  | .tup xs => .tuple (D.pys xs)
  | .lst xs => .list (D.pys xs)
  | .cup => .none
def D.pys : List D → List PyData
  | [] => []
  | x :: xs => D.py x :: D.pys xs
end
mutual
theorem eqv_py : ∀ (n m : Nat) (d e : D), d.okd n = true → e.okd m = true → d.eqv e = PyData.eqv d.py e.py
  | n, m, .non, e, _, h => by cases e <;> first | rfl | (cases m <;> cases h)
  | n, m, .bl b, e, _, h => by cases e <;> first | rfl | (cases m <;> cases h)
  | n, m, .int b, e, _, h => by cases e <;> first | rfl | (cases m <;> cases h)
  | n, m, .str b, e, _, h => by
    cases e <;> first
      | rfl
      | (cases m <;> cases h)
      | (simp only [D.eqv, D.py, PyData.eqv]; rw [Bool.eq_iff_iff]; simp)
  | 0, m, .tup xs, e, h, _ => by cases h
  | n + 1, m, .tup xs, e, g, h => by
    cases e with
    | tup ys =>
      cases m with
      | zero => cases h
      | succ m => simp only [D.eqv, D.py, PyData.eqv]; exact eqvs_py n m xs ys (by simpa [D.okd] using g) (by simpa [D.okd] using h)
    | _ => first | rfl | (cases m <;> cases h)
  | 0, m, .lst xs, e, h, _ => by cases h
  | n + 1, m, .lst xs, e, g, h => by
    cases e with
    | lst ys =>
      cases m with
      | zero => cases h
      | succ m => simp only [D.eqv, D.py, PyData.eqv]; exact eqvs_py n m xs ys (by simpa [D.okd] using g) (by simpa [D.okd] using h)
    | _ => first | rfl | (cases m <;> cases h)
  | n, m, .cup, e, g, h => by cases n <;> cases g
theorem eqvs_py : ∀ (n m : Nat) (d e : List D), D.okds n d = true → D.okds m e = true → D.eqvs d e = PyData.eqvAll (D.pys d) (D.pys e)
  | _, _, [], [], _, _ => rfl
  | _, _, [], _ :: _, _, _ => rfl
  | _, _, _ :: _, [], _, _ => rfl
  | n, m, x :: xs, y :: ys, g, h => by
    simp only [D.okds, Bool.and_eq_true] at g h
    simp only [D.eqvs, D.pys, PyData.eqvAll]
    rw [eqv_py n m x y g.1 h.1, eqvs_py n m xs ys g.2 h.2]
end
mutual
theorem okd_lay : ∀ (n : Nat) (d : D), d.okd n = true → d.py.canLay0 = true ∧ d.py.depth ≤ n
  | _, .non, _ => ⟨rfl, Nat.zero_le _⟩
  | _, .bl _, _ => ⟨rfl, Nat.zero_le _⟩
  | _, .int _, _ => ⟨rfl, Nat.zero_le _⟩
  | n, .str x, h => by
    refine ⟨?_, Nat.zero_le _⟩
    have h : strOkL x = true := by cases n <;> exact h
    unfold strOkL at h
    simp only [Bool.and_eq_true, List.all_eq_true, decide_eq_true_eq] at h
    show PyData.strOk ⟨x.toArray⟩ = true
    unfold PyData.strOk
    simp only [List.all_toArray, List.all_eq_true, decide_eq_true_eq]
    intro c hc
    have := h.1 c hc
    omega
  | 0, .tup xs, h => by cases h
  | n + 1, .tup xs, h => by
    obtain ⟨h1, h2⟩ := okds_lay n xs (by simpa [D.okd] using h)
    exact ⟨by simpa [D.py, PyData.canLay0] using h1, by simpa [D.py, PyData.depth] using h2⟩
  | 0, .lst xs, h => by cases h
  | n + 1, .lst xs, h => by
    obtain ⟨h1, h2⟩ := okds_lay n xs (by simpa [D.okd] using h)
    exact ⟨by simpa [D.py, PyData.canLay0] using h1, by simpa [D.py, PyData.depth] using h2⟩
  | n, .cup, h => by cases n <;> cases h
theorem okds_lay : ∀ (n : Nat) (d : List D), D.okds n d = true → PyData.canLayAll0 (D.pys d) = true ∧ PyData.depthAll (D.pys d) ≤ n
  | _, [], _ => ⟨rfl, Nat.zero_le _⟩
  | n, x :: xs, h => by
    simp only [D.okds, Bool.and_eq_true] at h
    obtain ⟨h1, h2⟩ := okd_lay n x h.1
    obtain ⟨h3, h4⟩ := okds_lay n xs h.2
    refine ⟨by simp [D.pys, PyData.canLayAll0, h1, h3], ?_⟩
    simp only [D.pys, PyData.depthAll]
    omega
end
theorem okd_shaped {d : D} (h : d.okd 60 = true) : SeqAt.shaped d.py = true := by
  obtain ⟨h1, h2⟩ := okd_lay 60 d h
  unfold SeqAt.shaped
  rw [h1, Bool.true_and]
  exact decide_eq_true (by omega)
mutual
theorem Rep.dp {K : PySem.W.Frag} {γ : Option Addr} {H : Hp} : ∀ {n : Nat} {v : V} {d : D}, Rep γ H v d → d.okd n = true → Dp K H v d.py
  | _, _, _, .non, _ => .non
  | _, _, _, .bl b, _ => .bl b
  | _, _, _, .int i, _ => .int i
  | _, _, _, .str x, _ => by have := Dp.str (K := K) (H := H) x; simpa [D.py] using this
  | 0, _, _, .tup _ _, h => by cases h
  | n + 1, _, _, .tup e r, h => .tup (.inl (.inl e)) (Reps.dp r (n := n) (by simpa [D.okd] using h))
  | 0, _, _, .lst _ _, h => by cases h
  | n + 1, _, _, .lst e r, h => .lst (.inl (.inr ⟨_, e⟩)) (Reps.dp r (n := n) (by simpa [D.okd] using h))
  | n, _, _, .cup e, h => by cases n <;> cases h
theorem Reps.dp {K : PySem.W.Frag} {γ : Option Addr} {H : Hp} : ∀ {n : Nat} {vs : List V} {ds : List D}, Reps γ H vs ds → D.okds n ds = true → DpAll K H vs (D.pys ds)
  | _, _, _, .nil, _ => .nil
  | n, _, _, .cons r t, h => by
    simp only [D.okds, Bool.and_eq_true] at h
    exact .cons (Rep.dp r h.1) (Reps.dp t h.2)
end
theorem RepW.dp {K : PySem.W.Frag} {γ : Option Addr} {H : Hp} {v : V} {d : D} {n : Nat} (r : RepW γ H v d) (h : d.okd n = true) : Dp K H v d.py := by
  rcases r with r | ⟨a, xs, ds, rfl, rfl, e, q, _⟩
  · exact r.dp h
  · cases n with
    | zero => cases h
    | succ n => exact .lst (.inl (.inl e)) (Reps.dp q (n := n) (by simpa [D.okd] using h))
theorem pys_eq : ∀ ds : List D, D.pys ds = ds.map D.py
  | [] => rfl
  | d :: ds => by simp [D.pys, pys_eq ds]
theorem okds_mem {n : Nat} : ∀ {ds : List D} {d : D}, D.okds n ds = true → d ∈ ds → d.okd n = true
  | [], _, _, h => by cases h
  | x :: xs, d, h, hm => by
    simp only [D.okds, Bool.and_eq_true] at h
    rcases List.mem_cons.mp hm with rfl | hm
    · exact h.1
    · exact okds_mem h.2 hm
theorem any_cong {α : Type} {p q : α → Bool} : ∀ {l : List α}, (∀ x ∈ l, p x = q x) → l.any p = l.any q
  | [], _ => rfl
  | x :: l, h => by
    rw [List.any_cons, List.any_cons, h x List.mem_cons_self, any_cong fun y hy => h y (List.mem_cons_of_mem _ hy)]
theorem any_py {ys : List D} {x : D} (hy : D.okds 59 ys = true) (hx : x.okd 60 = true) : (ys.any fun z => z.eqv x) = ((D.pys ys).any fun z => PyData.eqv z x.py) := by
  rw [pys_eq, List.any_map]
  exact any_cong fun z hz => eqv_py 59 60 z x (okds_mem hy hz) hx

section
variable {X : Cx}
/-! ### == and in -/
def rCm (o : CmO) : R2 := fun x y H Q => ∃ γ d e b, RepW γ H x d ∧ RepW γ H y e ∧ cmpD o d e = .ok b ∧ Q (.bl b) H
theorem need_ok {α : Type} {b : Bool} {x : Res α} {a : α} (h : need b x = .ok a) : b = true ∧ x = .ok a := by
  cases b with
  | true => exact ⟨rfl, h⟩
  | false => cases h
theorem bind_ok {α β : Type} {x : Res α} {f : α → Res β} {b : β} (h : x.bind f = .ok b) : ∃ a, x = .ok a ∧ f a = .ok b := by
  cases x with
  | ok a => exact ⟨a, rfl, h⟩
  | exc c n u => cases h
  | bad => cases h
theorem ok_inj {α : Type} {a b : α} (h : (Res.ok a : Res α) = .ok b) : a = b := by cases h; rfl
theorem op_lt' : OpR X (compareOp .Lt) (rCm .lt) := by
  intro pins s σ H x y v u Q I rx ry ⟨γ, d, e, b, hx, hy, hz, q⟩
  cases d with
  | int i =>
    cases e with
    | int j => cases ok_inj hz; exact op_lt pins s σ H x y v u Q I rx ry ⟨i, j, hx.int, hy.int, q⟩
    | _ => cases hz
  | _ => cases hz
theorem op_le' : OpR X (compareOp .LtE) (rCm .le) := by
  intro pins s σ H x y v u Q I rx ry ⟨γ, d, e, b, hx, hy, hz, q⟩
  cases d with
  | int i =>
    cases e with
    | int j => cases ok_inj hz; exact op_le pins s σ H x y v u Q I rx ry ⟨i, j, hx.int, hy.int, q⟩
    | _ => cases hz
  | _ => cases hz
theorem op_gt' : OpR X (compareOp .Gt) (rCm .gt) := by
  intro pins s σ H x y v u Q I rx ry ⟨γ, d, e, b, hx, hy, hz, q⟩
  cases d with
  | int i =>
    cases e with
    | int j => cases ok_inj hz; exact op_gt pins s σ H x y v u Q I rx ry ⟨i, j, hx.int, hy.int, q⟩
    | _ => cases hz
  | _ => cases hz
theorem op_ge' : OpR X (compareOp .GtE) (rCm .ge) := by
  intro pins s σ H x y v u Q I rx ry ⟨γ, d, e, b, hx, hy, hz, q⟩
  cases d with
  | int i =>
    cases e with
    | int j => cases ok_inj hz; exact op_ge pins s σ H x y v u Q I rx ry ⟨i, j, hx.int, hy.int, q⟩
    | _ => cases hz
  | _ => cases hz
theorem op_eq' (hu : X.A.units + 65 < cLine) : OpR X (compareOp .Eq) (rCm .eq) := by
  intro pins s σ H x y v u Q I rx ry ⟨γ, d, e, b, hx, hy, hz, q⟩
  have hz : need (d.okd 60 && e.okd 60) (.ok (d.eqv e)) = .ok b := hz
  obtain ⟨h1, h2⟩ := need_ok hz
  rw [Bool.and_eq_true] at h1
  cases ok_inj h2
  rw [eqv_py 60 60 d e h1.1 h1.2] at q
  exact op_eqD (by omega) pins s σ H x y v u Q I rx ry ⟨_, _, hx.dp h1.1, hy.dp h1.2, okd_shaped h1.1, okd_shaped h1.2, q⟩
theorem op_ne' (hu : X.A.units + 65 < cLine) : OpR X (compareOp .NotEq) (rCm .ne) := by
  intro pins s σ H x y v u Q I rx ry ⟨γ, d, e, b, hx, hy, hz, q⟩
  have hz : need (d.okd 60 && e.okd 60) (.ok (!d.eqv e)) = .ok b := hz
  obtain ⟨h1, h2⟩ := need_ok hz
  rw [Bool.and_eq_true] at h1
  cases ok_inj h2
  rw [eqv_py 60 60 d e h1.1 h1.2] at q
  exact op_neD (by omega) pins s σ H x y v u Q I rx ry ⟨_, _, hx.dp h1.1, hy.dp h1.2, okd_shaped h1.1, okd_shaped h1.2, q⟩
theorem room_in {A : Around} {xs : List PyData} {d : PyData} (hd : d.depth ≤ 60) (hu : A.units + 65 < cLine) : A.units + 1 + min (PyData.depthAll xs) d.depth < cLine := by
  have h2 : min (PyData.depthAll xs) d.depth ≤ d.depth := Nat.min_le_right _ _
  omega
theorem sign_arr (l : List Nat) : (⟨l.toArray⟩ : Str).cps.toList = l := by simp
theorem in_core {x y : V} {v u : Value} {H : Hp} {γ : Option Addr} {d e : D} {b : Bool} {pins : List (Addr × Obj)} {s : Shared} {σ : L2.St} {R : Value → Shared → Prop} (hu : X.A.units + 65 < cLine) (I : Inv X pins σ H s) (rx : RelV x v) (ry : RelV y u)
    (hx : RepW γ H x d) (hy : RepW γ H y e) (hz : inD d e = .ok b) :
    (R (.bool b) s → wpAny (model X.prog X.w) X.A (compareOp .In v u) R X.xe s) ∧ (R (.bool (!b)) s → wpAny (model X.prog X.w) X.A (compareOp .NotIn v u) R X.xe s) := by
  cases e with
  | tup ys =>
    have hz : need (d.okd 60 && (D.tup ys).okd 60) (.ok (ys.any fun z => z.eqv d)) = .ok b := hz
    obtain ⟨h1, h2⟩ := need_ok hz
    rw [Bool.and_eq_true] at h1
    have h3 : D.okds 59 ys = true := by simpa [D.okd] using h1.2
    cases ok_inj h2
    obtain ⟨as, r1⟩ := Dp.reads I d.py x v (hx.dp h1.1) rx
    obtain ⟨bs, r2⟩ := Dp.reads I (D.tup ys).py y u (hy.dp h1.2) ry
    rw [any_py h3 h1.1]
    obtain ⟨l1, l2⟩ := okd_lay 60 d h1.1
    obtain ⟨l3, _⟩ := okds_lay 59 ys h3
    exact ⟨fun q => SeqAt.in_tuple_reads r2 r1 l3 l1 (room_in l2 hu) q, fun q => SeqAt.notIn_tuple_reads r2 r1 l3 l1 (room_in l2 hu) q⟩
  | lst ys =>
    have hz : need (d.okd 60 && (D.lst ys).okd 60) (.ok (ys.any fun z => z.eqv d)) = .ok b := hz
    obtain ⟨h1, h2⟩ := need_ok hz
    rw [Bool.and_eq_true] at h1
    have h3 : D.okds 59 ys = true := by simpa [D.okd] using h1.2
    cases ok_inj h2
    obtain ⟨as, r1⟩ := Dp.reads I d.py x v (hx.dp h1.1) rx
    obtain ⟨bs, r2⟩ := Dp.reads I (D.lst ys).py y u (hy.dp h1.2) ry
    rw [any_py h3 h1.1]
    obtain ⟨l1, l2⟩ := okd_lay 60 d h1.1
    obtain ⟨l3, _⟩ := okds_lay 59 ys h3
    exact ⟨fun q => SeqAt.in_list_reads r2 r1 l3 l1 (room_in l2 hu) q, fun q => SeqAt.notIn_list_reads r2 r1 l3 l1 (room_in l2 hu) q⟩
  | str ys =>
    cases d with
    | str l =>
      match l, hx, hz with
      | [c], hx, hz =>
        cases ok_inj hz
        have e1 := hx.str
        have e2 := hy.str
        subst e1 e2
        obtain ⟨t, rfl⟩ := rx
        obtain ⟨t', rfl⟩ := ry
        have e3 : ys.contains c = decide (c ∈ (⟨ys.toArray⟩ : Str).cps.toList) := by rw [Bool.eq_iff_iff]; simp
        rw [e3, ← PySem.StrLaws.found_one ⟨ys.toArray⟩ c]
        exact ⟨fun q => PyProof.Rows.in_str q, fun q => PyProof.Rows.notIn_str q⟩
      | [], _, hz => cases hz
      | _ :: _ :: _, _, hz => cases hz
    | _ => cases hz
  | _ => cases hz
theorem op_in' (hu : X.A.units + 65 < cLine) : OpR X (compareOp .In) (rCm .inn) := by
  intro pins s σ H x y v u Q I rx ry ⟨γ, d, e, b, hx, hy, hz, q⟩
  exact (in_core hu I rx ry hx hy (show inD d e = .ok b from hz)).1 (show EP X pins σ Q (.bool b) s from ⟨.bl b, H, I, rfl, q⟩)
theorem op_nin' (hu : X.A.units + 65 < cLine) : OpR X (compareOp .NotIn) (rCm .nin) := by
  intro pins s σ H x y v u Q I rx ry ⟨γ, d, e, b, hx, hy, hz, q⟩
  obtain ⟨b', hz2, hb⟩ := bind_ok (show (inD d e).bind (fun b => .ok (!b)) = .ok b from hz)
  cases ok_inj hb
  exact (in_core hu I rx ry hx hy hz2).2 (show EP X pins σ Q (.bool (!b')) s from ⟨.bl (!b'), H, I, rfl, q⟩)
theorem is_core {x y : V} {H : Hp} {γ : Option Addr} {d e : D} {b : Bool} (hx : RepW γ H x d) (hy : RepW γ H y e) (hz : isD d e = .ok b) :
    (y = .non ∧ decide (x = .non) = b) ∨ (∃ i j, x = .bl i ∧ y = .bl j ∧ decide (i = j) = b) := by
  cases e with
  | non =>
    refine .inl ⟨hy.non, ?_⟩
    cases d with
    | non => cases ok_inj hz; rw [hx.non]; rfl
    | cup => cases ok_inj hz; obtain ⟨a, rfl, _⟩ := hx.cup; rfl
    | bl i => cases ok_inj hz; rw [hx.bl]; rfl
    | int i => cases ok_inj hz; rw [hx.int]; rfl
    | str i => cases ok_inj hz; rw [hx.str]; rfl
    | tup i => cases ok_inj hz; obtain ⟨a, xs, rfl, _⟩ := hx.tup (K := []); rfl
    | lst i => cases ok_inj hz; obtain ⟨a, xs, rfl, _⟩ := hx.list (K := []); rfl
  | bl j =>
    cases d with
    | bl i =>
      cases ok_inj hz
      refine .inr ⟨i, j, hx.bl, hy.bl, ?_⟩
      cases i <;> cases j <;> rfl
    | _ => cases hz
  | _ => cases hz
theorem op_is' : OpR X (compareOp .Is) (rCm .is) := by
  intro pins s σ H x y v u Q I rx ry ⟨γ, d, e, b, hx, hy, hz, q⟩
  rcases is_core hx hy hz with ⟨h1, h2⟩ | ⟨i, j, h1, h2, h3⟩
  · exact op_isN pins s σ H x y v u Q I rx ry ⟨h1, by rw [h2]; exact q⟩
  · exact op_is_bl pins s σ H x y v u Q I rx ry ⟨i, j, h1, h2, by rw [h3]; exact q⟩
theorem op_isn' : OpR X (compareOp .IsNot) (rCm .isn) := by
  intro pins s σ H x y v u Q I rx ry ⟨γ, d, e, b, hx, hy, hz, q⟩
  obtain ⟨b', hz2, hb⟩ := bind_ok (show (isD d e).bind (fun b => .ok (!b)) = .ok b from hz)
  cases ok_inj hb
  rcases is_core hx hy hz2 with ⟨h1, h2⟩ | ⟨i, j, h1, h2, h3⟩
  · exact op_notN pins s σ H x y v u Q I rx ry ⟨h1, by rw [h2]; exact q⟩
  · exact op_isnot_bl pins s σ H x y v u Q I rx ry ⟨i, j, h1, h2, by rw [h3]; exact q⟩
theorem op_cmp (hu : X.A.units + 65 < cLine) : ∀ {o : CmO} {op : CmpOp}, cmpOk o op = true → OpR X (compareOp op) (rCm o)
  | .lt, .Lt, _ => op_lt'
  | .le, .LtE, _ => op_le'
  | .gt, .Gt, _ => op_gt'
  | .ge, .GtE, _ => op_ge'
  | .eq, .Eq, _ => op_eq' hu
  | .ne, .NotEq, _ => op_ne' hu
  | .is, .Is, _ => op_is'
  | .isn, .IsNot, _ => op_isn'
  | .inn, .In, _ => op_in' hu
  | .nin, .NotIn, _ => op_nin' hu
end
end EV

set_option maxHeartbeats 1000000
/-! EvF: arithmetic, items, slices, built-ins. -/
namespace EV
open PySem PySem.Spec PyProof.Rows L2

theorem line_eq {n : Nat} (h : smallL n = true) : n ≤ sizeLine := by
  rw [sizeLine_eq]; exact of_decide_eq_true h
section
variable {X : Cx}
def rBn (o : BinO) : R2 := fun x y H Q => ∃ γ c d e z, CupAt γ c H ∧ RepW γ H x d ∧ RepW γ H y e ∧ binD o d e = .ok z ∧ ∀ v H', CupAt γ c H' → SameC γ H H' → Rep γ H' v z → Q v H'
/-- a new list, laid and never to be changed -/
theorem lay_frz {pins : List (Addr × Obj)} {σ : L2.St} {H : Hp} {s : Shared} {its : List Value} {ys : List V} (I : Inv X pins σ H s) (hv : Vals ys its) (hz : ys.length ≤ sizeLine) :
    ∃ o, Inv X pins σ (upd H s.heap.objs.size (.frz o (.lst ys))) { s with heap := s.heap.push { cls := .type "list", data := .seq its.toArray } } := by
  obtain ⟨o, J⟩ := (I.lnew (t' := s.toks) hv hz).lock upd_same trivial
  rw [upd_upd] at J
  exact ⟨o, J⟩
theorem RepW.frzL {γ : Option Addr} {H : Hp} {p : Addr} {o : Obj} {xs : List V} {ds : List D} (n : H p = none) (r : Reps γ H xs ds) : Rep γ (upd H p (.frz o (.lst xs))) (.ref p) (.lst ds) :=
  .lst upd_same (r.sta (Sta.new n))
theorem RepW.newT {γ : Option Addr} {H : Hp} {p : Addr} {xs : List V} {ds : List D} (n : H p = none) (r : Reps γ H xs ds) : Rep γ (upd H p (.tup xs)) (.ref p) (.tup ds) :=
  .tup upd_same (r.sta (Sta.new n))
theorem ld_len {γ : Option Addr} {H : Hp} {a : Addr} {xs : List V} {pins : List (Addr × Obj)} {σ : L2.St} {s : Shared} (I : Inv X pins σ H s) (r : Rd H a (.lst xs)) : xs.length ≤ sizeLine ∧ ∃ (its : List Value) (n : Nat), Vals xs its ∧ s.heap.get? a = some { cls := .type "list", data := .seq its.toArray n } :=
  r.ok I.hok
theorem op_addL {pins : List (Addr × Obj)} {σ : L2.St} {H : Hp} {s : Shared} {x y : V} {v u : Value} {Q : VK} {γ : Option Addr} {c : Cup} {ds es : List D} (I : Inv X pins σ H s) (rx : RelV x v) (ry : RelV y u) (k : CupAt γ c H) (hx : RepW γ H x (.lst ds)) (hy : RepW γ H y (.lst es))
    (hz : smallL (ds.length + es.length) = true) (q : ∀ v H', CupAt γ c H' → SameC γ H H' → Rep γ H' v (.lst (ds ++ es)) → Q v H') : wpAny (model X.prog X.w) X.A (binaryOp .Add v u) (EP X pins σ Q) X.xe s := by
  obtain ⟨l, xs, rfl, hl, _, r1⟩ := hx.list (K := X.K)
  obtain ⟨b, ys, rfl, hb, _, r2⟩ := hy.list (K := X.K)
  cases rx
  cases ry
  obtain ⟨z1, its, n, v1, e1⟩ := ld_len (γ := γ) I hl
  obtain ⟨z2, its2, n2, v2, e2⟩ := ld_len (γ := γ) I hb
  have hn := line_eq hz
  have l1 := v1.length
  have l2 := v2.length
  have l3 := r1.length
  have l4 := r2.length
  refine PySem.P.add_list e1 e2 ?_ (by rw [List.size_toArray, List.size_toArray]; omega)
  have ea : its.toArray ++ its2.toArray = (its ++ its2).toArray := by simp
  rw [ea]
  obtain ⟨o, J⟩ := lay_frz I (v1.append v2) (by rw [List.length_append]; omega)
  have hf := I.fresh
  exact ⟨.ref s.heap.objs.size, _, J, rfl, q _ _ (k.new hf) (SameC.new hf) (RepW.frzL hf (r1.app r2))⟩
theorem op_add' : OpR X (binaryOp .Add) (rBn .add) := by
  intro pins s σ H x y v u Q I rx ry ⟨γ, c, d, e, z, k, hx, hy, hz, q⟩
  cases d with
  | int i =>
    cases e with
    | int j => cases ok_inj hz; exact op_add pins s σ H x y v u Q I rx ry ⟨i, j, hx.int, hy.int, q _ _ k SameC.refl (.int _)⟩
    | _ => cases hz
  | str i =>
    cases e with
    | str j =>
      obtain ⟨h1, h2⟩ := need_ok hz
      cases ok_inj h2
      refine op_add_str pins s σ H x y v u Q I rx ry ⟨_, _, hx.str, hy.str, ?_, q _ _ k SameC.refl ?_⟩
      · have := line_eq h1
        simpa [Str.length] using this
      · have e1 : (⟨i.toArray⟩ ++ ⟨j.toArray⟩ : Str) = ⟨(i ++ j).toArray⟩ := by
          show Str.mk (i.toArray ++ j.toArray) = _
          simp
        rw [e1]; exact Rep.strL _
    | _ => cases hz
  | tup ds =>
    cases e with
    | tup es =>
      obtain ⟨h1, h2⟩ := need_ok hz
      cases ok_inj h2
      obtain ⟨a, xs, rfl, _, ha, r1⟩ := hx.tup (K := X.K)
      obtain ⟨b, ys, rfl, _, hb, r2⟩ := hy.tup (K := X.K)
      have l1 := r1.length
      have l2 := r2.length
      refine op_catA pins s σ H _ _ v u Q I rx ry ⟨a, b, xs, ys, rfl, rfl, ha, hb, by have := line_eq h1; omega, fun e => ?_, fun e e' => ?_, fun e e' p hp => ?_⟩
      · subst e
        cases r1
        rcases hy with hy | ⟨_, _, _, _, z, _⟩
        · exact q _ _ k SameC.refl hy
        · cases z
      · subst e'
        cases r2
        rw [List.append_nil] at q
        rcases hx with hx | ⟨_, _, _, _, z, _⟩
        · exact q _ _ k SameC.refl hx
        · cases z
      · exact q _ _ (k.new hp) (SameC.new hp) (RepW.newT hp (r1.app r2))
    | _ => cases hz
  | lst ds =>
    cases e with
    | lst es =>
      obtain ⟨h1, h2⟩ := need_ok hz
      cases ok_inj h2
      exact op_addL I rx ry k hx hy h1 q
    | _ => cases hz
  | _ => cases e <;> cases hz
theorem small64_ok {i : Int} (h : small64 i = true) : -(2 ^ 64) < i ∧ i < 2 ^ 64 := by
  unfold small64 at h
  simpa using h
theorem op_bin : ∀ {o : BinO} {op : Operator}, binOk o op = true → OpR X (binaryOp op) (rBn o)
  | .add, .Add, _ => op_add'
  | .sub, .Sub, _ => by
    intro pins s σ H x y v u Q I rx ry ⟨γ, c, d, e, z, k, hx, hy, hz, q⟩
    cases d with
    | int i =>
      cases e with
      | int j => cases ok_inj hz; exact op_sub pins s σ H x y v u Q I rx ry ⟨i, j, hx.int, hy.int, q _ _ k SameC.refl (.int _)⟩
      | _ => cases hz
    | _ => cases hz
  | .mul, .Mult, _ => by
    intro pins s σ H x y v u Q I rx ry ⟨γ, c, d, e, z, k, hx, hy, hz, q⟩
    cases d with
    | int i =>
      cases e with
      | int j =>
        obtain ⟨h1, h2⟩ := need_ok hz
        cases ok_inj h2
        refine op_mul pins s σ H x y v u Q I rx ry ⟨i, j, hx.int, hy.int, ?_, q _ _ k SameC.refl (.int _)⟩
        rcases (Bool.or_eq_true _ _).mp h1 with h | h
        · exact .inl (small64_ok h)
        · exact .inr (small64_ok h)
      | _ => cases hz
    | _ => cases hz
  | .fdiv, .FloorDiv, _ => by
    intro pins s σ H x y v u Q I rx ry ⟨γ, c, d, e, z, k, hx, hy, hz, q⟩
    cases d with
    | int i =>
      cases e with
      | int j =>
        obtain ⟨h1, h2⟩ := need_ok hz
        cases ok_inj h2
        rw [Bool.and_eq_true] at h1
        exact op_fdivN pins s σ H x y v u Q I rx ry ⟨i, j, hx.int, hy.int, ⟨of_decide_eq_true h1.1, of_decide_eq_true h1.2⟩, q _ _ k SameC.refl (.int _)⟩
      | _ => cases hz
    | _ => cases hz
  | .mod, .Mod, _ => by
    intro pins s σ H x y v u Q I rx ry ⟨γ, c, d, e, z, k, hx, hy, hz, q⟩
    cases d with
    | int i =>
      cases e with
      | int j =>
        obtain ⟨h1, h2⟩ := need_ok hz
        cases ok_inj h2
        exact op_modN pins s σ H x y v u Q I rx ry ⟨i, j, hx.int, hy.int, of_decide_eq_true h1, q _ _ k SameC.refl (.int _)⟩
      | _ => cases hz
    | _ => cases hz
  | .pow, .Pow, _ => by
    intro pins s σ H x y v u Q I rx ry ⟨γ, c, d, e, z, k, hx, hy, hz, q⟩
    cases d with
    | int i =>
      cases e with
      | int j =>
        obtain ⟨h1, h2⟩ := need_ok hz
        cases ok_inj h2
        rw [Bool.and_eq_true, Bool.and_eq_true] at h1
        exact op_pow pins s σ H x y v u Q I rx ry ⟨i, j, hx.int, hy.int, ⟨of_decide_eq_true h1.1.1, of_decide_eq_true h1.1.2, of_decide_eq_true h1.2⟩, q _ _ k SameC.refl (.int _)⟩
      | _ => cases hz
    | _ => cases hz

/-! ### items and slices -/
def rId : R2 := fun x y H Q => ∃ γ c d e z, CupAt γ c H ∧ RepW γ H x d ∧ RepW γ H y e ∧ idxD c d e = .ok z ∧ ∀ v, Rep γ H v z → Q v H
theorem ofO_ok {α : Type} {x : Option α} {a : α} (h : ofO x = .ok a) : x = some a := by
  cases x with
  | some b => cases h; rfl
  | none => cases h
theorem ix_any : IxR X rId := by
  intro va sl pins s σ H x y v u Q I rx ry ⟨γ, c, d, e, z, k, hx, hy, hz, q⟩ hs
  cases d with
  | tup ds =>
    cases e with
    | int i =>
      have hz := ofO_ok (show ofO (ixL ds i) = .ok z from hz)
      obtain ⟨a, xs, rfl, _, ha, r⟩ := hx.tup (K := X.K)
      obtain ⟨w, h1, h2⟩ := r.at hz
      exact ix_tup va sl pins s σ H _ _ v u Q I rx ry ⟨a, xs, i, w, rfl, hy.int, ha, h1, q w h2⟩ hs
    | _ => cases hz
  | lst ds =>
    cases e with
    | int i =>
      have hz := ofO_ok (show ofO (ixL ds i) = .ok z from hz)
      obtain ⟨a, xs, rfl, _, ha, r⟩ := hx.list (K := X.K)
      obtain ⟨w, h1, h2⟩ := r.at hz
      exact ix_list va sl pins s σ H _ _ v u Q I rx ry ⟨a, xs, i, w, rfl, hy.int, ha, h1, q w h2⟩ hs
    | _ => cases hz
  | str xs =>
    cases e with
    | int i =>
      obtain ⟨h1, h2⟩ := need_ok (show need (smallL xs.length) (ofO ((ixL xs i).map fun c => .str [c])) = .ok z from hz)
      have h3 := ofO_ok h2
      cases g : ixL xs i with
      | none => rw [g] at h3; cases h3
      | some a =>
        rw [g] at h3
        cases h3
        have := line_eq h1
        refine ix_str va sl pins s σ H _ _ v u Q I rx ry ⟨⟨xs.toArray⟩, i, a, hx.str, hy.int, by simpa [Str.length] using this, by rw [sign_arr]; exact g, q _ ?_⟩ hs
        exact Rep.strL [a]
    | _ => cases hz
  | cup =>
    cases e with
    | int i =>
      obtain ⟨a, rfl, ha⟩ := hx.cup
      have hl := k a ha
      match i, hy, hz with
      | .ofNat 0, hy, hz =>
        cases ok_inj hz
        exact ix_list va sl pins s σ H _ _ v u Q I rx ry ⟨a, _, 0, _, rfl, hy.int, .inl (.inl hl), rfl, q _ (.int _)⟩ hs
      | .ofNat 1, hy, hz =>
        cases ok_inj hz
        exact ix_list va sl pins s σ H _ _ v u Q I rx ry ⟨a, _, 1, _, rfl, hy.int, .inl (.inl hl), rfl, q _ (.int _)⟩ hs
      | .ofNat (n + 2), _, hz => cases hz
      | .negSucc n, _, hz => cases hz
    | _ => cases hz
  | _ => cases e <;> cases hz
theorem RepW.str_tup {γ : Option Addr} {H : Hp} {v : V} {ds : List D} (r : RepW γ H v (.tup ds)) : Rep γ H v (.tup ds) := by
  rcases r with r | ⟨_, _, _, _, z, _⟩
  · exact r
  · cases z
theorem cut_whole {α : Type} {xs : List α} {lo hi : Option Int} (h : HT.sIx xs.length 0 lo = 0 ∧ HT.sIx xs.length xs.length hi = xs.length) : cutL xs lo hi = xs := by
  unfold cutL
  rw [h.1, h.2]
  simp
def rSl : V → Option Int → Option Int → Hp → VK → Prop := fun x lo hi H Q => ∃ γ c d z, CupAt γ c H ∧ RepW γ H x d ∧ slcD d lo hi = .ok z ∧ ∀ v H', CupAt γ c H' → SameC γ H H' → Rep γ H' v z → Q v H'
theorem sl_any : SlR X rSl := by
  intro pins s σ H x v vl vu lo hi sl Q I rx hs pl pu ⟨γ, c, d, z, k, hx, hz, q⟩
  cases d with
  | tup ds =>
    cases ok_inj hz
    obtain ⟨p, xs, rfl, hp, ha, r⟩ := hx.tup (K := X.K)
    have hl := r.length
    refine sl_tupA pins s σ H _ v vl vu lo hi sl Q I rx hs pl pu ⟨p, xs, rfl, ha, fun e => ?_, fun e a hn => ?_⟩
    · rw [hl] at e
      refine q _ _ k SameC.refl ?_
      rw [cut_whole e]; exact hx.str_tup
    · exact q _ _ (k.new hn) (SameC.new hn) (RepW.newT hn (r.cut lo hi))
  | lst ds =>
    cases ok_inj hz
    obtain ⟨p, xs, rfl, hp, ha, r⟩ := hx.list (K := X.K)
    obtain ⟨T, id, h1, h2, h3⟩ := sl_list pins s σ H _ v vl vu lo hi sl (fun v H' => ∃ p xs, v = .ref p ∧ H' p = some (.lst xs) ∧ ∀ o, Q v (upd H' p (.frz o (.lst xs)))) I rx hs pl pu ⟨p, xs, rfl, ha, fun a hn => ⟨a, _, rfl, upd_same, fun o => by
      rw [upd_upd]
      exact q _ _ (k.new hn) (SameC.new hn) (RepW.frzL hn (r.cut lo hi))⟩⟩
    exact ⟨T, id, h1, h2, thn h3 fun u s' z => ep_frz z⟩
  | _ => cases hz

/-! ### isinstance -/
def rIs (t : Ty) : List V → Hp → VK → Prop := fun xs H Q => ∃ γ x d b, xs = [x, .ty (tyNm t)] ∧ RepW γ H x d ∧ isiD t d = .ok b ∧ Q (.bl b) H
theorem isi_any (t : Ty) : CallR X (.builtin "isinstance") (rIs t) := by
  intro pins s σ H xs us Q I r ⟨γ, x, d, b, e, hx, hz, q⟩
  have go : ∀ (a : String), TyX X.K H x (.type a) → kitB a (tyNm t) = some b → wpAny (model X.prog X.w) X.A (call (.builtin "isinstance") us) (EP X pins σ Q) X.xe s := fun a ty kb =>
    call_isi pins s σ H xs us Q I r ⟨x, _, _, _, b, e, .ty _, ty, kit_ty kb, q⟩
  cases d with
  | non =>
    cases ok_inj hz
    rw [hx.non] at go
    exact go "NoneType" (.base .non) (by cases t <;> decide +kernel)
  | bl i =>
    cases ok_inj hz
    rw [hx.bl] at go
    exact go "bool" (.base (.bl i)) (by cases t <;> decide +kernel)
  | int i =>
    cases ok_inj hz
    rw [hx.int] at go
    exact go "int" (.base (.int i)) (by cases t <;> decide +kernel)
  | str i =>
    cases ok_inj hz
    rw [hx.str] at go
    exact go "str" (.base (.str _)) (by cases t <;> decide +kernel)
  | tup ds =>
    cases ok_inj hz
    obtain ⟨p, ys, rfl, hp, _, _⟩ := hx.tup (K := X.K)
    exact go "tuple" (.base (.tup hp)) (by cases t <;> decide +kernel)
  | lst ds =>
    cases ok_inj hz
    obtain ⟨p, ys, rfl, hp, _, _⟩ := hx.list (K := X.K)
    rcases hp with hp | ⟨o, hp⟩
    · exact go "list" (.base (.lst hp)) (by cases t <;> decide +kernel)
    · exact go "list" (.base (.frz hp)) (by cases t <;> decide +kernel)
  | cup => cases hz

/-! ### built-ins of one argument -/
def rPr (p : Prm) : List V → Hp → VK → Prop := fun xs H Q => ∃ γ c x d z, xs = [x] ∧ CupAt γ c H ∧ RepW γ H x d ∧ prmD p d = .ok z ∧ ∀ v H', CupAt γ c H' → SameC γ H H' → Rep γ H' v z → Q v H'
def prmV : Prm → Value
  | .len => .builtin "len"
  | .tuple => .type "tuple"
  | .list => .type "list"
  | .all => .builtin "all"
  | .any => .builtin "any"
  | .int => .type "int"
  | .str => .type "str"
  | .abs => .builtin "abs"
  | .sum => .builtin "sum"
theorem prm_len : CallR X (.builtin "len") (rPr .len) := by
  intro pins s σ H xs us Q I r ⟨γ, c, x, d, z, e, k, hx, hz, q⟩
  cases d with
  | tup ds =>
    cases ok_inj hz
    obtain ⟨p, ys, rfl, _, hp, r'⟩ := hx.tup (K := X.K)
    exact call_len pins s σ H xs us Q I r ⟨_, ds.length, e, .inr ⟨ys, hp, r'.length.symm⟩, q _ _ k SameC.refl (.int _)⟩
  | lst ds =>
    cases ok_inj hz
    obtain ⟨p, ys, rfl, _, hp, r'⟩ := hx.list (K := X.K)
    exact call_len pins s σ H xs us Q I r ⟨_, ds.length, e, .inl ⟨ys, hp, r'.length.symm⟩, q _ _ k SameC.refl (.int _)⟩
  | str l =>
    obtain ⟨h1, h2⟩ := need_ok hz
    cases ok_inj h2
    have := line_eq h1
    refine call_len pins s σ H xs us Q I r ⟨_, l.length, e, ?_, q _ _ k SameC.refl (.int _)⟩
    rw [hx.str]
    exact ⟨by simpa [Str.length] using this, by simp [Str.length]⟩
  | _ => cases hz
theorem prm_tuple : CallR X (.type "tuple") (rPr .tuple) := by
  intro pins s σ H xs us Q I r ⟨γ, c, x, d, z, e, k, hx, hz, q⟩
  cases d with
  | tup ds =>
    cases ok_inj hz
    obtain ⟨p, ys, rfl, _, hp, r'⟩ := hx.tup (K := X.K)
    exact call_tuple_of pins s σ H xs us Q I r ⟨p, ys, e, .inr ⟨hp, q _ _ k SameC.refl hx.str_tup⟩⟩
  | lst ds =>
    cases ok_inj hz
    obtain ⟨p, ys, rfl, _, hp, r'⟩ := hx.list (K := X.K)
    exact call_tuple_of pins s σ H xs us Q I r ⟨p, ys, e, .inl ⟨hp, fun l hl => q _ _ (k.new hl) (SameC.new hl) (RepW.newT hl r')⟩⟩
  | _ => cases hz
theorem prm_list : CallR X (.type "list") (rPr .list) := by
  intro pins s σ H xs us Q I r ⟨γ, c, x, d, z, e, k, hx, hz, q⟩
  have go : ∀ p ys ds, x = .ref p → (SqL X.K H p ys ∨ SqT X.K H p ys) → Reps γ H ys ds → z = .lst ds → wpAny (model X.prog X.w) X.A (call (.type "list") us) (EP X pins σ Q) X.xe s := fun p ys ds ex hp r' ez => by
    subst ex ez
    refine thn (call_list_of pins s σ H xs us (fun v H' => ∃ p xs, v = .ref p ∧ H' p = some (.lst xs) ∧ ∀ o, Q v (upd H' p (.frz o (.lst xs)))) I r ⟨p, ys, e, hp, fun l hl => ⟨l, _, rfl, upd_same, fun o => ?_⟩⟩) fun u s' z => ep_frz z
    rw [upd_upd]
    exact q _ _ (k.new hl) (SameC.new hl) (RepW.frzL hl r')
  cases d with
  | tup ds =>
    cases ok_inj hz
    obtain ⟨p, ys, rfl, _, hp, r'⟩ := hx.tup (K := X.K)
    exact go p ys ds rfl (.inr hp) r' rfl
  | lst ds =>
    cases ok_inj hz
    obtain ⟨p, ys, rfl, _, hp, r'⟩ := hx.list (K := X.K)
    exact go p ys ds rfl (.inl hp) r' rfl
  | _ => cases hz
theorem prm_all (hc : X.calm = true) : CallR X (.builtin "all") (rPr .all) := by
  intro pins s σ H xs us Q I r ⟨γ, c, x, d, z, e, k, hx, hz, q⟩
  cases d with
  | lst ds =>
    obtain ⟨bs, h1, h2⟩ := bind_ok (show (ofO (boolsD ds)).bind _ = _ from hz)
    cases ok_inj h2
    obtain ⟨p, ys, rfl, _, hp, r'⟩ := hx.list (K := X.K)
    rw [r'.bools (ofO_ok h1)] at hp
    exact cr_all hc pins s σ H xs us Q I r ⟨p, bs, e, hp, q _ _ k SameC.refl (.bl _)⟩
  | _ => cases hz
theorem prm_any (hc : X.calm = true) : CallR X (.builtin "any") (rPr .any) := by
  intro pins s σ H xs us Q I r ⟨γ, c, x, d, z, e, k, hx, hz, q⟩
  cases d with
  | lst ds =>
    obtain ⟨bs, h1, h2⟩ := bind_ok (show (ofO (boolsD ds)).bind _ = _ from hz)
    cases ok_inj h2
    obtain ⟨p, ys, rfl, _, hp, r'⟩ := hx.list (K := X.K)
    rw [r'.bools (ofO_ok h1)] at hp
    exact cr_any hc pins s σ H xs us Q I r ⟨p, bs, e, hp, q _ _ k SameC.refl (.bl _)⟩
  | _ => cases hz
theorem prm_sum (hc : X.calm = true) : CallR X (.builtin "sum") (rPr .sum) := by
  intro pins s σ H xs us Q I r ⟨γ, c, x, d, z, e, k, hx, hz, q⟩
  cases d with
  | lst ds =>
    obtain ⟨bs, h1, h2⟩ := bind_ok (show (ofO (intsD ds)).bind _ = _ from hz)
    cases ok_inj h2
    obtain ⟨p, ys, rfl, _, hp, r'⟩ := hx.list (K := X.K)
    rw [r'.ints (ofO_ok h1)] at hp
    exact cr_sum hc pins s σ H xs us Q I r ⟨p, bs, e, hp, q _ _ k SameC.refl (.int _)⟩
  | _ => cases hz
theorem prm_int : CallR X (.type "int") (rPr .int) := by
  intro pins s σ H xs us Q I r ⟨γ, c, x, d, z, e, k, hx, hz, q⟩
  cases d with
  | int i => cases ok_inj hz; exact call_int1 pins s σ H xs us Q I r (.inl ⟨i, by rw [e, hx.int], q _ _ k SameC.refl (.int _)⟩)
  | bl i => cases ok_inj hz; exact call_int1 pins s σ H xs us Q I r (.inr ⟨i, by rw [e, hx.bl], q _ _ k SameC.refl (.int _)⟩)
  | _ => cases hz
theorem prm_str : CallR X (.type "str") (rPr .str) := by
  intro pins s σ H xs us Q I r ⟨γ, c, x, d, z, e, k, hx, hz, q⟩
  cases d with
  | int i =>
    obtain ⟨h1, h2⟩ := need_ok hz
    cases ok_inj h2
    exact call_str_int pins s σ H xs us Q I r ⟨i, by rw [e, hx.int], of_decide_eq_true h1, q _ _ k SameC.refl (.str _)⟩
  | _ => cases hz
theorem prm_abs : CallR X (.builtin "abs") (rPr .abs) := by
  intro pins s σ H xs us Q I r ⟨γ, c, x, d, z, e, k, hx, hz, q⟩
  cases d with
  | int i => cases ok_inj hz; exact call_abs pins s σ H xs us Q I r ⟨i, by rw [e, hx.int], q _ _ k SameC.refl (.int _)⟩
  | _ => cases hz
theorem prm_any' (hc : X.calm = true) : ∀ p : Prm, CallR X (prmV p) (rPr p)
  | .len => prm_len
  | .tuple => prm_tuple
  | .list => prm_list
  | .all => prm_all hc
  | .any => prm_any hc
  | .int => prm_int
  | .str => prm_str
  | .abs => prm_abs
  | .sum => prm_sum hc
end
end EV

set_option maxHeartbeats 4000000
/-! EvG: sorted(set(..)) of ints. -/
namespace EV
open PySem PySem.Spec PyProof.Rows L2

/-- a set that was just made -/
abbrev set0 (w : World) : Obj := { cls := .type "set", dict := none, data := .set #[] 0 (.fresh 0 0 (!w.params.followText "set-order")) }
section
variable {P : Program} {w : World} {A : Around} {E : Value → Shared → Prop} {s : Shared}
theorem set_of_list {l : Addr} {items : Array Value} (ns : List Int) {Q : Value → Shared → Prop} (hh : A.handled = none) (hl : s.heap.IsList l items) (hit : IntsAre items.toList ns) (hb : ns.length + 1 < scanBound)
    (h : ∀ (h' : Heap) (tk c : Nat), SetR w h' s.heap.objs.size (fun j => decide (j ∈ ns)) c → c ≤ ns.length → (∀ b o, s.heap.get? b = some o → h'.get? b = some o) → Q (.ref s.heap.objs.size) { s with heap := h', toks := tk }) :
    wpAny (model P w) A (call (.type "set") [.ref l]) Q E s := by
  have hn : items.size = ns.length := (Array.length_toList ..).symm.trans (IntsAre.length hit)
  obtain ⟨c, tl, hmro⟩ := PySem.F.called_set.mro
  have m1 := PySem.F.called_set.made
  have m2 := PySem.F.called_set.sub
  refine wpAny_call (codeAny_of_tree ?_)
  show wpAny _ _ (callAny (.type "set") _) _ _ _
  refine wpAny_pure ⟨Code.quiet_builtin _ (by decide +kernel), codeAny_builtin PySem.F.entry_type_call ?_⟩
  rw [Around.under_plain (weight_type_call_type "set" [.ref l] []) rfl]
  have m3 := PySem.F.called_set.notType
  have m4 := PySem.F.called_set.canCreate
  have m5 := PySem.F.typeCall_set_1 (.ref l)
  repeat (any_goals (first | assumption | wp_step))
  refine codeAny_mono (code_set_led1 (.ref l) (E := E) (Q₁ := fun obj s₁ => obj = .ref s.heap.objs.size ∧ s₁ = { s with heap := s.heap.push (set0 w) }) ⟨rfl, rfl⟩) fun r s₁ hr => ?_
  match r, hr with
  | .error e, hr => exact hr
  | .ok (.ret obj), hr =>
    obtain ⟨rfl, rfl⟩ := hr
    have hS : (s.heap.push (set0 w)).get? s.heap.objs.size = some (set0 w) := Heap.get?_push_size _ rfl
    have hT : Shared.TypeIs { s with heap := s.heap.push (set0 w) } (.ref s.heap.objs.size) "set" := ⟨_, hS, rfl⟩
    have i1 := PySem.F.called_set.init.lookup
    have i2 := PySem.F.called_set.init.bind (.ref s.heap.objs.size)
    repeat (any_goals (first | assumption | wp_step))
    refine codeAny_mono (codeAny_call_builtin (R := wants (fun r s₂ => r = .none ∧ ∃ h' tk c, s₂ = { s with heap := h', toks := tk } ∧ SetR w h' s.heap.objs.size (fun j => decide (j ∈ ns)) c ∧ c ≤ ns.length ∧
        (∀ b o, s.heap.get? b = some o → h'.get? b = some o)) E) PySem.F.called_set.init.plain PySem.F.entry_set_init (check_set_init_1 hT ?_)) fun r₂ s₂ hr₂ => ?_
    · obtain ⟨⟨ocls, odict, odata, oslots⟩, hol, hcl, nl, hdl⟩ := hl
      have hcl : ocls = .type "list" := hcl
      have hdl : odata = .seq items nl := hdl
      subst hcl hdl
      have hol' : (s.heap.push (set0 w)).get? l = some { cls := .type "list", dict := odict, data := .seq items nl, slots := oslots } := Heap.get?_push_of_some _ hol
      have s1 := PySem.F.sub_list_set
      have s2 := PySem.F.sub_list_frozenset
      have s3 : (Value.type "list" == Value.type "dict") = false := by decide
      have hl1 : (s.heap.push (set0 w)).IsList l items := ⟨_, hol', rfl, nl, rfl⟩
      unfold Builtin.«set.__init__» noKeywords Builtin.Frozenset.updateFrom
      generalize hPI : pyIter = PI
      wp_walk
      subst hPI
      refine wpAny_pyIter_list hl1 (wpAny_bind (wpAny_runValue ?_))
      have lS : l < s.heap.objs.size := Heap.lt_size hol
      have h3 : A.in1.in1.in1.handled = none := by simp [hh]
      have lI : l ≠ (s.heap.push (set0 w)).objs.size := by
        rw [Heap.size_push]
        exact Nat.ne_of_lt (Nat.lt_succ_of_lt lS)
      have sf : s.heap.objs.size ∉ [(s.heap.push (set0 w)).objs.size, l] := by
        rw [Heap.size_push]
        simp only [List.mem_cons, List.mem_singleton, List.not_mem_nil, or_false, not_or]
        exact ⟨Nat.ne_of_lt (Nat.lt_succ_self _), Nat.ne_of_gt lS⟩
      have hval : ∀ (i : Nat) (v : Value), items[i]? = some v → ∃ k t, ns[i]? = some k ∧ v = .int k t := fun i v hv => by
        have hi : i < ns.length := by rw [← hn]; exact (Array.getElem?_eq_some_iff.mp hv).1
        obtain ⟨t, e⟩ := PyProof.Rows.IntsAre.int_at hit i v (by rw [Array.getElem?_toList]; exact hv)
        refine ⟨ns[i], t, List.getElem?_eq_getElem hi, ?_⟩
        rw [e, List.getD_eq_getElem?_getD, List.getElem?_eq_getElem hi] <;> rfl
      refine set_update_ints ((Walks.list h3 _ l lI items).toS) s.heap.objs.size sf ns hn hb hval (items.size - 0) 0 _ (by omega) (Nat.zero_le _) ⟨⟨_, Heap.get?_push_size _ rfl, rfl, rfl⟩, (hl1.push _)⟩ ?ssA ?ssB
      case ssA => exact ⟨0, Nat.le_refl 0, setR_new_at (Heap.get?_push_of_some _ hS)⟩
      case ssB =>
        rintro ⟨h', g2, d', tk', os'⟩ c' hm hc' hS'
        have e1 : g2 = s.gens := hm.gens
        have e2 : d' = s.drawn := hm.drawn
        have e3 : os' = s.os := hm.os
        subst e1 e2 e3
        show wpAny _ _ _ _ _ _
        refine wpAny_pure ?_
        show wpAny _ _ (ret Value.none) _ _ _
        refine wpAny_pure ⟨rfl, h', tk', c', rfl, hS', hn ▸ hc', fun b o e => ?_⟩
        have b0 : b < s.heap.objs.size := Heap.lt_size e
        refine hm.heap b o ?_ (Heap.get?_push_of_some _ (Heap.get?_push_of_some _ e))
        rw [Heap.size_push]
        simp only [List.mem_cons, List.mem_singleton, List.not_mem_nil, or_false, not_or]
        exact ⟨Nat.ne_of_lt b0, Nat.ne_of_lt (Nat.lt_succ_of_lt b0)⟩
    · match r₂, hr₂ with
      | .error e, hr₂ => exact hr₂
      | .ok (.ret r), hr₂ =>
        obtain ⟨rfl, h', tk, c', rfl, hS', hc', hk'⟩ := hr₂
        repeat (any_goals (first | assumption | wp_step))
        exact h _ _ _ hS' hc' hk'
      | .ok .next, hr₂ => exact hr₂.elim
      | .ok .brk, hr₂ => exact hr₂.elim
      | .ok .cont, hr₂ => exact hr₂.elim
  | .ok .next, hr => exact hr.elim
  | .ok .brk, hr => exact hr.elim
  | .ok .cont, hr => exact hr.elim
end

/-! ### ascending lists -/
theorem insI_mem (n k : Int) : ∀ l : List Int, k ∈ insI n l ↔ k = n ∨ k ∈ l
  | [] => by simp [insI]
  | m :: r => by
    unfold insI
    by_cases h1 : n < m
    · simp [h1]
    · by_cases h2 : n = m
      · subst h2; simp [h1]
      · simp only [if_neg h1, if_neg h2, List.mem_cons, insI_mem n k r]
        constructor
        · rintro (h | h | h)
          · exact .inr (.inl h)
          · exact .inl h
          · exact .inr (.inr h)
        · rintro (h | h | h)
          · exact .inr (.inl h)
          · exact .inl h
          · exact .inr (.inr h)
theorem insI_asc (n : Int) : ∀ l : List Int, l.Pairwise (· < ·) → (insI n l).Pairwise (· < ·)
  | [], _ => by simp [insI]
  | m :: r, h => by
    rw [List.pairwise_cons] at h
    unfold insI
    by_cases h1 : n < m
    · rw [if_pos h1, List.pairwise_cons]
      refine ⟨fun a ha => ?_, List.pairwise_cons.mpr h⟩
      rcases List.mem_cons.mp ha with rfl | ha
      · exact h1
      · have := h.1 a ha; omega
    · by_cases h2 : n = m
      · rw [if_neg h1, if_pos h2]; exact List.pairwise_cons.mpr h
      · rw [if_neg h1, if_neg h2, List.pairwise_cons]
        refine ⟨fun a ha => ?_, insI_asc n r h.2⟩
        rcases (insI_mem n a r).mp ha with rfl | ha
        · omega
        · exact h.1 a ha
theorem sortI_mem (k : Int) : ∀ l : List Int, k ∈ sortI l ↔ k ∈ l
  | [] => by simp [sortI]
  | n :: l => by
    show k ∈ insI n (sortI l) ↔ _
    rw [insI_mem, sortI_mem k l, List.mem_cons]
theorem sortI_asc : ∀ l : List Int, (sortI l).Pairwise (· < ·)
  | [] => .nil
  | n :: l => insI_asc n _ (sortI_asc l)
theorem asc_ext : ∀ {l m : List Int}, l.Pairwise (· < ·) → m.Pairwise (· < ·) → (∀ k, k ∈ l ↔ k ∈ m) → l = m
  | [], [], _, _, _ => rfl
  | [], b :: m, _, _, h => absurd ((h b).mpr List.mem_cons_self) (by simp)
  | a :: l, [], _, _, h => absurd ((h a).mp List.mem_cons_self) (by simp)
  | a :: l, b :: m, h1, h2, h => by
    rw [List.pairwise_cons] at h1 h2
    have e : a = b := by
      have ha := (h a).mp List.mem_cons_self
      have hb := (h b).mpr List.mem_cons_self
      rcases List.mem_cons.mp ha with q | q
      · exact q
      · rcases List.mem_cons.mp hb with q' | q'
        · exact q'.symm
        · have := h2.1 a q; have := h1.1 b q'; omega
    subst e
    refine congrArg _ (asc_ext h1.2 h2.2 fun k => ?_)
    constructor
    · intro hk
      rcases List.mem_cons.mp ((h k).mp (List.mem_cons_of_mem _ hk)) with q | q
      · have := h1.1 k hk; omega
      · exact q
    · intro hk
      rcases List.mem_cons.mp ((h k).mpr (List.mem_cons_of_mem _ hk)) with q | q
      · have := h2.1 k hk; omega
      · exact q

section
variable {X : Cx}
/-- set(x) of a tuple or a list of ints -/
def rSetI (w : World) : List V → Hp → VK → Prop := fun xs H Q => ∃ γ x d ns, xs = [x] ∧ RepW γ H x d ∧ (items d).bind intsD = some ns ∧ ns.length ≤ 60 ∧
  ∀ p n, H p = none → n ≤ ns.length → Q (.ref p) (upd H p (SetO w p (fun j => decide (j ∈ ns)) n))
theorem cr_setI (hc : X.calm = true) : CallR X (.type "set") (rSetI X.w) := by
  intro pins s σ H xs us Q I r ⟨γ, x, d, ns, e, hx, hd, hl, q⟩
  subst e
  obtain ⟨u, rfl, rx⟩ := vals1 r
  have fin : ∀ (h' : Heap) (tk c : Nat), SetR X.w h' s.heap.objs.size (fun j => decide (j ∈ ns)) c → c ≤ ns.length → (∀ b o, s.heap.get? b = some o → h'.get? b = some o) → EP X pins σ Q (.ref s.heap.objs.size) { s with heap := h', toks := tk } := fun h' tk c R hc k =>
    ⟨.ref s.heap.objs.size, _, I.laid (t' := tk) k (Nat.le_refl _) (setO_new R), rfl, q _ _ I.fresh hc⟩
  have hb : ns.length + 1 < scanBound := by unfold scanBound; omega
  cases d with
  | tup ds =>
    obtain ⟨p, ys, rfl, hp, ha, r'⟩ := hx.tup (K := X.K)
    cases rx
    rw [r'.ints hd] at ha
    obtain ⟨its, r2, ht, hz⟩ := I.tuple ha
    exact call_set_tupI ns (I.ok.hd hc) ht (by simpa using r2.ints) hb fin
  | lst ds =>
    obtain ⟨p, ys, rfl, hp, ha, r'⟩ := hx.list (K := X.K)
    cases rx
    rw [r'.ints hd] at ha
    obtain ⟨its, r2, ht, hz⟩ := I.list ha
    exact set_of_list ns (I.ok.hd hc) ht.isList (by simpa using r2.ints) hb fin
  | _ => cases hd
theorem rSort_of {w : World} {γ : Option Addr} {c : Cup} {H : Hp} {p : Addr} {n : Nat} {ns : List Int} {Q : VK} (k : CupAt γ c H) (h1 : H p = none) (h2 : n ≤ ns.length) (hl : ns.length ≤ 60)
    (q : ∀ v H', CupAt γ c H' → SameC γ H H' → Rep γ H' v (.lst ((sortI ns).map D.int)) → Q v H') :
    rSortedSet w [.ref p] (upd H p (SetO w p (fun j => decide (j ∈ ns)) n)) (fun v H' => ∃ p xs, v = .ref p ∧ H' p = some (.lst xs) ∧ ∀ o, Q v (upd H' p (.frz o (.lst xs)))) := by
  refine ⟨p, _, n, rfl, upd_same, by omega, fun ms a asc mem len ha => ⟨a, _, rfl, upd_same, fun o => ?_⟩⟩
  have e : ms = sortI ns := asc_ext asc (sortI_asc ns) fun j => by rw [mem j, sortI_mem]; simp
  subst e
  rw [upd_upd]
  have k2 : CupAt γ c (upd H p (SetO w p (fun j => decide (j ∈ ns)) n)) := k.new h1
  refine q _ _ (k2.new ha) ((SameC.new h1).trans (SameC.new ha)) ?_
  exact RepW.frzL ha (Reps.refl_of (fun i => .int i) _)
end
end EV

set_option maxHeartbeats 2000000
/-! EvH: enumerate over a tuple. -/
namespace EV
open PySem PySem.Spec PyProof.Rows L2
open Sem (wp)
open AutoSeq1 (wpAny_loadPart')

/-- what enumerate(v) leaves: iter(v) at the heap's end, the enumeration behind it -/
theorem enum1_new {v : Value} {o : Obj} {H : Heap → Prop} (B : Begins v o H) :
    Meets (Builtin.«enumerate.__new__» ⟨[.type "enumerate", v], []⟩) (fun _ R s => H s.heap ∧
      R (.ok (.ret (.ref (s.heap.push o).objs.size))) { s with heap := (s.heap.push o).push { cls := .type "enumerate", data := .fields #[.none, .bool false, .ref s.heap.objs.size, rawInt 0, .none, .none] } }) :=
  .of_wp fun prog w A R s h => by
    obtain ⟨hp, g, d, tk, os⟩ := s
    obtain ⟨h1, h⟩ := h
    have sb := sub_enumerate
    have go : ∀ {A' : Around} {E : Value → Shared → Prop} {Q : Value → Shared → Prop}, Q (.ref hp.objs.size) ⟨hp.push o, g, d, tk, os⟩ → wpAny (model prog w) A' (pyIter v) Q E ⟨hp, g, d, tk, os⟩ :=
      fun q => B.iter prog w _ _ ⟨hp, g, d, tk, os⟩ _ h1 q
    wp_walk using go
    refine wpAny_stack_any fun st => wpAny_pure ?_
    split
    · rename_i c _ _ _ _ _
      cases (c == Value.type "enumerate") <;> (wp_walk using go; exact ⟨_, rfl, h⟩)
    · wp_walk using go
      exact ⟨_, rfl, h⟩
section
variable {prog : Program} {w : World} {A : Around} {E : Value → Shared → Prop} {s : Shared}
theorem enum1_begins {v : Value} {o : Obj} {H : Heap → Prop} {Q : Value → Shared → Prop} (B : Begins v o H) (h1 : H s.heap)
    (h : ∀ h', IsEnum h' (s.heap.objs.size + 1) s.heap.objs.size 0 .none → h'.get? s.heap.objs.size = some o →
      (∀ b o, s.heap.get? b = some o → h'.get? b = some o) → Q (.ref (s.heap.objs.size + 1)) { s with heap := h' }) :
    wpAny (model prog w) A (call (.type "enumerate") [v]) Q E s := by
  refine callType_new PySem.F.called_enumerate (by decide) (PySem.F.typeCall_enumerate_1 _) (PySem.F.newCall_enumerate_1 _) (fun obj => PySem.F.args_object_init_2 obj _) PySem.F.entry_enumerate_new (enum1_new B) ⟨h1, ?_⟩
  have z : (s.heap.push o).objs.size = s.heap.objs.size + 1 := Heap.size_push ..
  have k : ∀ (u : Obj), u.isFreed = false → ((s.heap.push o).push u).get? (s.heap.objs.size + 1) = some u := fun u f => by
    have q := Heap.get?_push_size (s.heap.push o) (o := u) f
    rwa [z] at q
  show _ ∧ _
  rw [z]
  exact ⟨⟨_, k _ rfl, rfl⟩, h _ (k _ rfl) (Heap.get?_push_of_some _ (Heap.get?_push_size _ B.free)) fun b o x => Heap.get?_push_of_some _ (Heap.get?_push_of_some _ x)⟩
end

/-- the tuple at a, each item in a new pair -/
def IteT (K : PySem.W.Frag) (a : Addr) : L2.It :=
  ⟨fun i H => ∃ (xs : List V) (x : V), SqT K H a xs ∧ xs[i]? = some x, fun i H v H' => ∃ T x, v = .ref T ∧ H T = none ∧ H' = upd H T (.tup [.int (i : Nat), x]) ∧ ∀ xs, SqT K H a xs → xs[i]? = some x, fun i H => ∃ xs : List V, SqT K H a xs ∧ xs.length = i⟩
theorem turn_enumT {P : Program} {w : World} {K : PySem.W.Frag} {elts : List Expr} {kk : Nat} {tpos : Pos} (a e it : Addr) :
    Turn P w K (.Tuple elts kk tpos) (IteT K a) [e, it] e (fun i h => (∃ old, IsEnum h e it ((i : Nat) : Int) old) ∧ h.IsTupleIter it a i ∧ e ≠ it) where
  mem := List.mem_cons_self
  obj := by
    rintro i h ⟨⟨old, he⟩, ⟨o, ho, hc, hd⟩, _⟩ b hb
    rcases List.mem_cons.mp hb with z | z
    · subst z; exact ⟨_, he, fun v q => nomatch q⟩
    · rw [List.mem_singleton.mp z]; exact ⟨o, ho, fun v q => by rw [hd] at q; cases q⟩
  keep := by
    rintro i h h' ⟨⟨old, he⟩, hi, hne⟩ k
    exact ⟨⟨old, k e List.mem_cons_self _ he⟩, hi.at fun o q => k it (List.mem_cons_of_mem _ List.mem_cons_self) o q, hne⟩
  item := by
    intro X hP hw hK hc i pins s σ H E I hf st hg
    subst hP hw hK
    obtain ⟨⟨old, he⟩, hit, hne⟩ := st
    obtain ⟨xs, x, hq, hx⟩ := hg
    obtain ⟨its, rv, p, hz⟩ := I.tuple hq
    obtain ⟨u, hu, ru⟩ := rv.get hx
    have hil : i < its.toArray.size := by rw [List.size_toArray]; exact (List.getElem?_eq_some_iff.mp hu).1
    have bI : a ≠ it := by
      rintro rfl
      obtain ⟨o1, q1, c1, _⟩ := hit
      obtain ⟨o2, q2, c2, _⟩ := p
      rw [q1] at q2; cases q2
      rw [c1] at c2
      exact absurd c2 (by decide +kernel)
    have bE : a ≠ e := by
      rintro rfl
      obtain ⟨o2, q2, c2, _⟩ := p
      have := he.symm.trans q2
      cases this
      exact absurd (show Value.type "enumerate" = Value.type "tuple" from c2) (by decide +kernel)
    have eL : e < s.heap.objs.size := Heap.lt_size he
    have iL : it < s.heap.objs.size := by obtain ⟨_, q, _⟩ := hit; exact Heap.lt_size q
    refine wpAny_pyNext_enum_itemD (Draws.tuple (A := X.A.in1) (I.ok.hd hc) it a bI its.toArray) he ⟨hit, p⟩ hil hne (fun z => ?_) fun y h' tk hy ho hst hT hsz hk => ?_
    · rcases List.mem_cons.mp z with z | z
      · exact hne z
      · exact bE (List.mem_singleton.mp z).symm
    · have ey : y = u := by
        have hu' : its.toArray[i]? = some u := by simpa using hu
        exact Option.some.inj (hy.symm.trans hu')
      subst ey
      refine ⟨_, rfl, wpAny_letOwnedTupleGo_enum (s := { s with heap := h', toks := tk + 1 }) ho fun h'' he' sb => ?_⟩
      have T2 : h''.get? s.heap.objs.size = some { cls := .type "tuple", data := .seq #[.int i tk, y] } := (sb.2 _ (Nat.ne_of_gt eL)).trans hT
      have new : ObjOk X.prog X.w (upd H s.heap.objs.size (.tup [.int (i : Nat), x])) h'' s.heap.objs.size (.tup [.int (i : Nat), x]) :=
        ⟨by show 2 ≤ sizeLine; decide, [.int i tk, y], .cons ⟨_, rfl⟩ (.cons ru .nil), ⟨_, T2, rfl, _, rfl⟩⟩
      have J : Inv X pins σ (upd H s.heap.objs.size (.tup [.int (i : Nat), x])) { s with heap := h'', toks := tk + 1 } :=
        I.turnedNew (ch := [e, it]) (fun b ob hb q => (sb.2 b (fun z => hb (by simp [z]))).trans (hk b ob (fun z => hb (by simp [z])) (fun z => hb (by simp [z])) q)) hf (Nat.le_refl _) new
      refine ⟨.ref s.heap.objs.size, _, J, rfl, ⟨_, x, rfl, I.hok.fresh (Nat.le_refl _), rfl, fun ys hys => by rw [I.tuple_inj hys hq]; exact hx⟩, ⟨⟨y, ?_⟩, hst.1.at fun o q => (sb.2 it (Ne.symm hne)).trans q, hne⟩, fun b hb => ?_⟩
      · have e1 : ((i + 1 : Nat) : Int) = (i : Int) + 1 := by omega
        rw [e1]; exact he'
      · have hb' : b < s.heap.objs.size := by
          rcases List.mem_cons.mp hb with z | z
          · rw [z]; exact eL
          · rw [List.mem_singleton.mp z]; exact iL
        rw [upd_ne (Nat.ne_of_lt hb')]
        exact (hf b hb).1
  done := by
    intro X hP hw hK hc i pins s σ H E I hf st hg
    subst hP hw hK
    obtain ⟨⟨old, he⟩, hit, hne⟩ := st
    obtain ⟨xs, hq, hx⟩ := hg
    obtain ⟨its, rv, p, hz⟩ := I.tuple hq
    obtain ⟨f0, f1, f2, f3, f4, f5⟩ := hf it (List.mem_cons_of_mem _ List.mem_cons_self)
    have bI : a ≠ it := by
      rintro rfl
      obtain ⟨o1, q1, c1, _⟩ := hit
      obtain ⟨o2, q2, c2, _⟩ := p
      rw [q1] at q2; cases q2
      rw [c1] at c2
      exact absurd c2 (by decide +kernel)
    have hn : its.toArray.size = i := by rw [List.size_toArray, ← rv.length]; exact hx
    refine wpAny_pyNext_enum_endD (Draws.tuple (A := X.A.in1) (I.ok.hd hc) it a bI its.toArray) he (by rw [hn]; exact ⟨hit, p⟩) fun h' eb => ⟨rfl, I.turned (t' := s.toks) (fun b o hb q => eb b o hb q) f0 f1 f3 f4 f5⟩
  self := by
    rintro A i s Q E ⟨⟨_, he⟩, _⟩ h
    exact wpAny_pyIter_enum he h
theorem walk_enumT {K : PySem.W.Frag} {a : Addr} {xs : List V} : Walk (IteT K a) xs.length (fun H => SqT K H a xs) (YPair (fun i => some (.int (i : Nat))) (fun i => xs[i]?)) := by
  refine ⟨fun i _ hi q => ⟨xs, xs[i], q, by simp [hi]⟩, fun _ q => ⟨xs, q, rfl⟩, fun i H v H' _ q y => ?_⟩
  obtain ⟨T, x, h1, h2, h3, h4⟩ := y
  exact ⟨T, .int (i : Nat), x, h1, h2, h3, rfl, h4 xs q⟩
/-- a list or a tuple, told by number -/
def iEnm (K : PySem.W.Frag) (ta : TA) : TI := fun σ H R => ta σ H fun vs H1 => ∃ a xs, vs = [.ref a] ∧ (SqL K H1 a xs ∧ (xs.length ≤ sizeLine → R (Ite K a) H1) ∨ SqT K H1 a xs ∧ (xs.length ≤ sizeLine → R (IteT K a) H1))
theorem pi_enm {X : Cx} {e : Expr} {ta : TA} {p pos tpos : Pos} {elts : List Expr} {kk : Nat} (hg : Gl X "enumerate") (hm : X.mg "enumerate" = none) (ha : PA X [e] ta) (hs : starEach [e] X.env = [(false, eval e X.env)]) :
    PI X (.Tuple elts kk tpos) (.Call (.Name "enumerate" p) [e] [] pos) (iEnm X.K ta) := by
  refine ⟨fun pins s σ H R I h => ?_⟩
  refine Call_ (ld_blt I hg hm boot_enumerate (PyProof.Rows.callWith_type1 (thn (ha.run pos pins s σ H _ I h) fun us s1 ⟨vs, H1, I1, r1, q1⟩ => ?_) hs rfl))
  obtain ⟨a, xs, rfl, q⟩ := q1
  cases r1 with
  | cons r rr =>
    cases rr
    cases r
    have two : ∀ b, b ∈ [s1.heap.objs.size + 1, s1.heap.objs.size] → s1.heap.objs.size ≤ b := fun b hb => by
      rcases List.mem_cons.mp hb with z | z
      · rw [z]; exact Nat.le_succ _
      · rw [List.mem_singleton.mp z]; exact Nat.le_refl _
    rcases q with ⟨hq, q⟩ | ⟨hq, q⟩
    · obtain ⟨its, rv, p', hz⟩ := I1.list hq
      refine call_enumerate_list p'.isList fun h' he hit hsz hk => wpAny_pyIter_enum he ?_
      have I2 : Inv X pins σ H1 { s1 with heap := h' } := I1.kept (t' := s1.toks) hk
      exact ⟨s1.heap.objs.size + 1, [s1.heap.objs.size + 1, s1.heap.objs.size], _, _, H1, rfl, I2, turn_enum a (s1.heap.objs.size + 1) s1.heap.objs.size, ⟨⟨.none, he⟩, hit, Nat.succ_ne_self _⟩,
        fun b hb => I1.fpOk (two b hb) (I1.hok.fresh (two b hb)), q hz⟩
    · obtain ⟨its, rv, p', hz⟩ := I1.tuple hq
      refine enum1_begins (begins_tuple a its.toArray) p' fun h' he hit hk => wpAny_pyIter_enum he ?_
      have I2 : Inv X pins σ H1 { s1 with heap := h' } := I1.kept (t' := s1.toks) hk
      exact ⟨s1.heap.objs.size + 1, [s1.heap.objs.size + 1, s1.heap.objs.size], _, _, H1, rfl, I2, turn_enumT a (s1.heap.objs.size + 1) s1.heap.objs.size, ⟨⟨.none, he⟩, ⟨_, hit, rfl, rfl⟩, Nat.succ_ne_self _⟩,
        fun b hb => I1.fpOk (two b hb) (I1.hok.fresh (two b hb)), q hz⟩
end EV

set_option maxHeartbeats 2000000
/-! EvI: expressions, construct by construct. -/
namespace EV
open PySem PySem.Spec PyProof.Rows L2

/-! ### no exception of its own -/
def Res.Nx {α : Type} (r : Res α) : Prop := ∀ c n u, r ≠ .exc c n u
theorem nx_ok {α : Type} {a : α} : (Res.ok a : Res α).Nx := fun _ _ _ h => nomatch h
theorem nx_bad {α : Type} : (Res.bad : Res α).Nx := fun _ _ _ h => nomatch h
theorem nx_need {α : Type} {b : Bool} {r : Res α} (h : r.Nx) : (need b r).Nx := by
  cases b with
  | true => exact h
  | false => exact nx_bad
theorem nx_ofO {α : Type} {r : Option α} : (ofO r).Nx := by
  cases r with
  | some a => exact nx_ok
  | none => exact nx_bad
theorem nx_bind {α β : Type} {r : Res α} {f : α → Res β} (h : r.Nx) (hf : ∀ a, (f a).Nx) : (r.bind f).Nx := by
  cases r with
  | ok a => exact hf a
  | exc c n u => exact absurd rfl (h c n u)
  | bad => exact nx_bad
theorem binD_nx {o : BinO} {d e : D} : (binD o d e).Nx := by
  unfold binD; split <;> first | exact nx_ok | exact nx_need nx_ok | exact nx_bad
theorem inD_nx {d e : D} : (inD d e).Nx := by
  unfold inD; split <;> first | exact nx_need nx_ok | exact nx_bad | (split <;> first | exact nx_ok | exact nx_bad)
theorem isD_nx {d e : D} : (isD d e).Nx := by
  unfold isD; split <;> first | exact nx_bad | (split <;> first | exact nx_ok | exact nx_bad)
theorem cmpD_nx {o : CmO} {d e : D} : (cmpD o d e).Nx := by
  unfold cmpD; split <;> first | exact nx_ok | exact nx_need nx_ok | exact isD_nx | exact inD_nx | exact nx_bind isD_nx fun _ => nx_ok | exact nx_bind inD_nx fun _ => nx_ok | exact nx_bad
theorem idxD_nx {c : Cup} {d e : D} : (idxD c d e).Nx := by
  unfold idxD; split <;> first | exact nx_ofO | exact nx_need nx_ofO | exact nx_bad | (split <;> first | exact nx_ok | exact nx_bad)
theorem slcD_nx {d : D} {a b : Option Int} : (slcD d a b).Nx := by
  unfold slcD; split <;> first | exact nx_ok | exact nx_bad
theorem isiD_nx {t : Ty} {d : D} : (isiD t d).Nx := by
  unfold isiD; split <;> first | exact nx_ok | exact nx_bad
theorem prmD_nx {p : Prm} {d : D} : (prmD p d).Nx := by
  unfold prmD; split <;> first | exact nx_ok | exact nx_need nx_ok | exact nx_bind nx_ofO (fun _ => nx_ok) | exact nx_bad
theorem ssetD_nx {d : D} : (ssetD d).Nx := by
  unfold ssetD; split <;> first | exact nx_bind nx_ofO (fun _ => nx_need nx_ok) | exact nx_bad
theorem seqD_nx {d : D} : (seqD d).Nx := by
  unfold seqD; split <;> first | exact nx_ok | exact nx_need nx_ok | exact nx_bad
theorem zipD_nx {d e : D} : (zipD d e).Nx := by
  unfold zipD; split <;> first | exact nx_ok | exact nx_bad
theorem Aft.pure {α β : Type} {E : Nat → Int → Cup → Prop} {r : Res α} {f : α → Res β} {k : β → Prop} (h : Aft E (r.bind f) k) (n : r.Nx) : ∃ a, r = .ok a ∧ Aft E (f a) k := by
  cases r with
  | ok a => exact ⟨a, rfl, h⟩
  | exc c m u => exact absurd rfl (n c m u)
  | bad => exact h.elim

/-! ### what stands around -/
/-- what a def promises -/
def spF (Φ : Fns) (XI : XIs) (f : Nat) : Sp := fun vs H Q E => ∃ γ ds c, Reps γ H vs ds ∧ CupAt γ c H ∧ Aft (fun n m u => ∀ cls d H', CupAt γ u H' → SameC γ H H' → XI n m cls d H' → E cls d H') (Φ f ds c) fun r =>
  ∀ v H', CupAt γ r.2 H' → SameC γ H H' → Rep γ H' v r.1 → Q v H'
structure Cok (S : SC) (Φ : Fns) (XI : XIs) (n : Nat) (W : WX) (X : Cx) : Prop where
  hN : X.N = S.N
  hsc : X.env.scope = S.sc
  nd : S.N.Nodup
  calm : X.calm = true
  st : ∀ x, S.sto x = true → Loc X.env.scope x ∧ (X.fn x = true ∨ X.env.scope.names.lookup x = some .local)
  tk : Takes X W
  po : PassesOwn (model X.prog X.w) X.A X.env X.xe
  fn : ∀ x f, S.fns.lookup x = some f → ∃ a fd ps, X.mg x = some (.ref a) ∧ PySem.W.keepIn X.K (.ref a) = true ∧ Binds X.K fd ps [] ∧ FnOk X.prog X.w X.K X.mg X.base (L2.CX X.prog X.w) n a fd ps (spF Φ XI f)
  rm : Room n X.A
  gl : ∀ x d, S.gls.lookup x = some d → ∃ u v, X.mg x = some u ∧ RelV v u ∧ ∀ γ H, Rep γ H v d
  bt : ∀ x, S.bts.contains x = true → X.mg x = none
section
variable {S : SC} {Φ : Fns} {XI : XIs} {n : Nat} {W : WX} {X : Cx}
theorem Cok.hu (C : Cok S Φ XI n W X) : X.A.units + 65 < cLine := by have := C.rm.un; omega
theorem okName_1 {x : Str} (h : okName x = true) : (x == ("__debug__" : Str)) = false ∧ (x == ("__classdict__" : Str)) = false ∧ x ≠ "__name__" := by
  unfold okName at h
  simp only [Bool.and_eq_true, Bool.not_eq_true'] at h
  exact ⟨h.1.1, h.1.2, fun e => by have := h.2; rw [e] at this; simp at this⟩
theorem Cok.vis (C : Cok S Φ XI n W X) {x : Str} (h : S.vis x = true) : Vis X.env.scope x := by
  unfold SC.vis at h
  unfold Vis
  rw [C.hsc]
  revert h
  split <;> intro h
  · exact .inl (by assumption)
  · exact .inr (.inl (by assumption))
  · exact .inr (.inr (by assumption))
  · cases h
theorem Cok.glob (C : Cok S Φ XI n W X) {x : Str} (h : S.gl x = true) : Gl X x := by
  unfold SC.gl at h
  show X.env.scope.names.lookup x = _
  rw [C.hsc]
  exact beq_iff_eq.mp h
theorem Cok.blt (C : Cok S Φ XI n W X) {x m : Str} (h : S.blt x m = true) : x = m ∧ Gl X x ∧ X.mg x = none := by
  unfold SC.blt at h
  simp only [Bool.and_eq_true] at h
  exact ⟨beq_iff_eq.mp h.1.1, C.glob h.1.2, C.bt _ h.2⟩

theorem starE {e : Expr} {es : List Expr} {env : Env} (h : plainE e = true) : starEach (e :: es) env = (false, eval e env) :: starEach es env := by
  cases e <;> first | rfl | cases h
theorem plainIx_of {e : Expr} (h : plainE e = true) : PlainIx e := by
  cases e <;> first | (intro o i; rfl) | cases h
theorem nomark_of {e : Expr} {op : CmpOp} (h : plainE e = true) : behindInMarks op e = false := by
  cases e <;> first | rfl | cases h
theorem base_of {e : Expr} {f : Str} {env : Env} {w : Sem Value} (h : plainE e = true) (hc : ∀ g a k p, e ≠ .Call g a k p) : attributeBase e f env w = w := by
  cases e <;> first | rfl | exact absurd rfl (hc _ _ _ _) | cases h

/-! ### names and constants -/
theorem c_var {i : Nat} {x : Str} {pos : Pos} (C : Cok S Φ XI n W X) (h : (S.N[i]? == some x && S.vis x && okName x) = true) : PE X (.Name x pos) (tE Φ XI W (.var i)) := by
  simp only [Bool.and_eq_true] at h
  obtain ⟨h1, h2, _⟩ := okName_1 h.2
  refine (pe_var (i := i) (by rw [C.hN]; exact beq_iff_eq.mp h.1.1) (C.vis h.1.2) h1 h2).weak fun σ H Q ⟨γ, lo, c, R, q⟩ => ?_
  have q : Aft _ (match lo[i]? with
    | some (.fz d) => .ok (d, c)
    | _ => .bad) _ := q
  split at q
  · rename_i d e
    obtain ⟨v, e1, r⟩ := R.fz i d e
    exact ⟨v, e1, q v H R.cu SameC.refl r⟩
  · exact q.elim
theorem c_own {i : Nat} {x : Str} {pos : Pos} (C : Cok S Φ XI n W X) (h : (S.N[i]? == some x && S.vis x && okName x) = true) : PE X (.Name x pos) (tE Φ XI W (.own i)) := by
  simp only [Bool.and_eq_true] at h
  obtain ⟨h1, h2, _⟩ := okName_1 h.2
  refine (pe_var (i := i) (by rw [C.hN]; exact beq_iff_eq.mp h.1.1) (C.vis h.1.2) h1 h2).weak fun σ H Q ⟨γ, lo, c, R, q⟩ => ?_
  have q : Aft _ (match lo[i]? with
    | some (.own ds) => .ok (D.lst ds, c)
    | _ => .bad) _ := q
  split at q
  · rename_i d e
    obtain ⟨a, xs, e1, e2, r, ne⟩ := R.ow i d e
    exact ⟨.ref a, e1, q _ H R.cu SameC.refl (.inr ⟨a, xs, d, rfl, rfl, e2, r, ne⟩)⟩
  · exact q.elim
theorem c_const {d : D} {k : Const} {j : Nat} {pos : Pos} (h : litOk d k = true) : PE X (.Constant k j pos) (tE Φ XI W (.lit d)) := by
  cases d with
  | non => cases k <;> first | exact pe_non.weak fun σ H Q ⟨γ, lo, c, R, q⟩ => q _ H R.cu SameC.refl .non | cases h
  | bl b =>
    cases k with
    | bool b' => cases eq_of_beq h; exact pe_bl.weak fun σ H Q ⟨γ, lo, c, R, q⟩ => q _ H R.cu SameC.refl (.bl b)
    | _ => cases h
  | int b =>
    cases k with
    | int b' => cases eq_of_beq h; exact pe_int.weak fun σ H Q ⟨γ, lo, c, R, q⟩ => q _ H R.cu SameC.refl (.int b)
    | _ => cases h
  | str b =>
    cases k with
    | str b' => cases eq_of_beq h; exact pe_str.weak fun σ H Q ⟨γ, lo, c, R, q⟩ => q _ H R.cu SameC.refl (.str b')
    | _ => cases h
  | _ => cases k <;> cases h
mutual
theorem beq_eq : ∀ {d e : D}, D.beq d e = true → d = e
  | .non, e, h => by cases e <;> first | rfl | cases h
  | .cup, e, h => by cases e <;> first | rfl | cases h
  | .bl a, e, h => by cases e <;> first | (cases eq_of_beq h; rfl) | cases h
  | .int a, e, h => by cases e <;> first | (cases eq_of_beq h; rfl) | cases h
  | .str a, e, h => by cases e <;> first | (cases eq_of_beq h; rfl) | cases h
  | .tup a, e, h => by
    cases e with
    | tup b => rw [beqs_eq (d := a) (e := b) (by simpa [D.beq] using h)]
    | _ => cases h
  | .lst a, e, h => by
    cases e with
    | lst b => rw [beqs_eq (d := a) (e := b) (by simpa [D.beq] using h)]
    | _ => cases h
theorem beqs_eq : ∀ {d e : List D}, D.beqs d e = true → d = e
  | [], [], _ => rfl
  | [], _ :: _, h => by cases h
  | _ :: _, [], h => by cases h
  | x :: xs, y :: ys, h => by
    simp only [D.beqs, Bool.and_eq_true] at h
    rw [beq_eq h.1, beqs_eq h.2]
end
theorem c_glob {d : D} {x : Str} {pos : Pos} (C : Cok S Φ XI n W X) (h : (S.gl x && okName x && (match S.gls.lookup x with
    | some d' => d.beq d'
    | none => false)) = true) : PE X (.Name x pos) (tE Φ XI W (.lit d)) := by
  simp only [Bool.and_eq_true] at h
  obtain ⟨⟨h1, h2⟩, h3⟩ := h
  obtain ⟨g1, _, _⟩ := okName_1 h2
  split at h3
  · rename_i d' e
    rw [beq_eq h3]
    obtain ⟨u, v, e1, r, rp⟩ := C.gl x d' e
    exact (pe_glob (C.glob h1) e1 r g1).weak fun σ H Q ⟨γ, lo, c, R, q⟩ => q v H R.cu SameC.refl (rp γ H)
  · cases h3

/-! ### operators -/
variable {a b : Ex} {ea eb : Expr} {pos : Pos}
theorem c_bin {o : BinO} {op : Operator} (ok : binOk o op = true) (ha : PE X ea (tE Φ XI W a)) (hb : PE X eb (tE Φ XI W b)) : PE X (.BinOp ea op eb pos) (tE Φ XI W (.bin o a b)) := by
  refine (pe_op (op_bin ok) ha hb).weak fun σ H Q ⟨γ, lo, c, R, h⟩ => ?_
  refine useE R h fun v H1 d c1 R1 s1 r1 h1 => useE R1 h1 fun u H2 e c2 R2 s2 r2 h2 => ?_
  obtain ⟨z, hz, q⟩ := h2.pure binD_nx
  exact ⟨γ, c2, d, e, z, R2.cu, r1.w.same s2 R1.cu, r2.w, hz, fun w H' kc sc rp => q w H' kc ((s1.trans s2).trans sc) rp⟩
theorem c_neg (ha : PE X ea (tE Φ XI W a)) : PE X (.UnaryOp .USub ea pos) (tE Φ XI W (.neg a)) := by
  refine (pe_un un_neg ha).weak fun σ H Q ⟨γ, lo, c, R, h⟩ => ?_
  refine useE R h fun v H1 d c1 R1 s1 r1 h1 => ?_
  obtain ⟨i, rfl, q⟩ := h1.asI
  exact ⟨i, r1.w.int, q _ H1 R1.cu s1 (.int _)⟩
theorem c_cmp {o : CmO} {op : CmpOp} (C : Cok S Φ XI n W X) (ok : cmpOk o op = true) (hp : plainE eb = true) (ha : PE X ea (tE Φ XI W a)) (hb : PE X eb (tE Φ XI W b)) : PE X (.Compare ea [op] [eb] pos) (tE Φ XI W (.cmp o a b)) := by
  refine (pe_cmpR (op_cmp C.hu ok) ha hb (nomark_of hp)).weak fun σ H Q ⟨γ, lo, c, R, h⟩ => ?_
  refine useE R h fun v H1 d c1 R1 s1 r1 h1 => useE R1 h1 fun u H2 e c2 R2 s2 r2 h2 => ?_
  obtain ⟨z, hz, q⟩ := h2.pure cmpD_nx
  exact ⟨γ, d, e, z, r1.w.same s2 R1.cu, r2.w, hz, q _ H2 R2.cu (s1.trans s2) (.bl _)⟩
theorem c_cmpT {o : CmO} {op : CmpOp} (C : Cok S Φ XI n W X) (ok : cmpOk o op = true) (hp : plainE eb = true) (ha : PE X ea (tE Φ XI W a)) (hb : PE X eb (tE Φ XI W b)) : PT X (.Compare ea [op] [eb] pos) (tT Φ XI W (.cmp o a b)) := by
  refine (pt_cmpR (op_cmp C.hu ok) ha hb (nomark_of hp)).weak fun σ H Q ⟨γ, lo, c, R, h⟩ => ?_
  have h := h.bind
  refine useE R h fun v H1 d c1 R1 s1 r1 h1 => useE R1 h1 fun u H2 e c2 R2 s2 r2 h2 => ?_
  obtain ⟨z, hz, q⟩ := h2.pure cmpD_nx
  exact ⟨γ, d, e, z, r1.w.same s2 R1.cu, r2.w, hz, z, rfl, q H2 R2.cu (s1.trans s2)⟩
theorem c_chn {o o' : CmO} {op op' : CmpOp} {d : Ex} {ed : Expr} (C : Cok S Φ XI n W X) (ok : cmpOk o op = true) (ok' : cmpOk o' op' = true) (hp : plainE eb = true) (hp' : plainE ed = true) (ha : PE X ea (tE Φ XI W a)) (hb : PE X eb (tE Φ XI W b)) (hd : PE X ed (tE Φ XI W d)) :
    PE X (.Compare ea [op, op'] [eb, ed] pos) (tE Φ XI W (.chn o o' a b d)) := by
  refine (pe_chain (op_cmp C.hu ok) (op_cmp C.hu ok') ha hb hd (by unfold lastMarks; exact nomark_of hp')).weak fun σ H Q ⟨γ, lo, c, R, h⟩ => ?_
  refine useE R h fun v H1 d c1 R1 s1 r1 h1 => useE R1 h1 fun u H2 e c2 R2 s2 r2 h2 => ?_
  obtain ⟨z, hz, q⟩ := h2.pure cmpD_nx
  refine ⟨γ, d, e, z, r1.w.same s2 R1.cu, r2.w, hz, z, rfl, ?_⟩
  cases z with
  | false =>
    rw [if_neg Bool.false_ne_true]
    exact q _ H2 R2.cu (s1.trans s2) (.bl _)
  | true =>
    rw [if_pos rfl]
    refine useE R2 q fun w H3 f c3 R3 s3 r3 h3 => ?_
    obtain ⟨y, hy, q3⟩ := h3.pure cmpD_nx
    exact ⟨γ, e, f, y, r2.w.same s3 R2.cu, r3.w, hy, q3 _ H3 R3.cu ((s1.trans s2).trans s3) (.bl _)⟩
theorem c_chnT {o o' : CmO} {op op' : CmpOp} {d : Ex} {ed : Expr} (C : Cok S Φ XI n W X) (ok : cmpOk o op = true) (ok' : cmpOk o' op' = true) (hp : plainE eb = true) (hp' : plainE ed = true) (ha : PE X ea (tE Φ XI W a)) (hb : PE X eb (tE Φ XI W b)) (hd : PE X ed (tE Φ XI W d)) :
    PT X (.Compare ea [op, op'] [eb, ed] pos) (tT Φ XI W (.chn o o' a b d)) := by
  refine (pt_chain (op_cmp C.hu ok) (op_cmp C.hu ok') ha hb hd (by unfold lastMarks; exact nomark_of hp')).weak fun σ H Q ⟨γ, lo, c, R, h⟩ => ?_
  have h := h.bind
  refine useE R h fun v H1 d c1 R1 s1 r1 h1 => useE R1 h1 fun u H2 e c2 R2 s2 r2 h2 => ?_
  obtain ⟨z, hz, q⟩ := h2.pure cmpD_nx
  refine ⟨γ, d, e, z, r1.w.same s2 R1.cu, r2.w, hz, z, rfl, ?_⟩
  cases z with
  | false =>
    rw [if_neg Bool.false_ne_true]
    exact ⟨_, rfl, q H2 R2.cu (s1.trans s2)⟩
  | true =>
    rw [if_pos rfl]
    refine useE R2 q fun w H3 f c3 R3 s3 r3 h3 => ?_
    obtain ⟨y, hy, q3⟩ := h3.pure cmpD_nx
    exact ⟨γ, e, f, y, r2.w.same s3 R2.cu, r3.w, hy, y, rfl, q3 H3 R3.cu ((s1.trans s2).trans s3)⟩
theorem c_not (ha : PE X ea (tE Φ XI W a)) : PE X (.UnaryOp .Not ea pos) (tE Φ XI W (.not a)) := by
  refine (pe_not ha).weak fun σ H Q ⟨γ, lo, c, R, h⟩ => ?_
  refine useE R h fun v H1 d c1 R1 s1 r1 h1 => ?_
  obtain ⟨i, rfl, q⟩ := h1.asB
  exact ⟨i, r1.w.bl, q _ H1 R1.cu s1 (.bl _)⟩
theorem c_notT (ha : PT X ea (tT Φ XI W a)) : PT X (.UnaryOp .Not ea pos) (tT Φ XI W (.not a)) := by
  refine (pt_not ha).weak fun σ H Q ⟨γ, lo, c, R, h⟩ => ?_
  have e : (evE Φ (.not a) lo c).bind (fun r => asB r.1 fun k => .ok (k, r.2)) = (evE Φ a lo c).bind fun r => asB r.1 fun b => .ok (!b, r.2) := by
    show ((evE Φ a lo c).bind fun x => asB x.1 fun k => .ok (D.bl (!k), x.2)).bind _ = _
    cases evE Φ a lo c with
    | ok r => obtain ⟨x, u⟩ := r; cases x <;> rfl
    | _ => rfl
  rw [e] at h
  exact useT (f := fun b u => .ok (!b, u)) R h fun b H1 c1 R1 s1 h1 => h1 H1 R1.cu s1
theorem c_and {r : List Expr} (oB : isOwn b = false) (ha : PE X ea (tE Φ XI W a)) (hb : PE X (.BoolOp .And (eb :: r) pos) (tE Φ XI W b)) : PE X (.BoolOp .And (ea :: eb :: r) pos) (tE Φ XI W (.and a b)) := by
  refine (pe_and ha hb).weak fun σ H Q ⟨γ, lo, c, R, h⟩ => ?_
  refine useE R h fun v H1 d c1 R1 s1 r1 h1 => ?_
  obtain ⟨i, rfl, q⟩ := h1.asB
  refine ⟨i, r1.w.bl, ?_⟩
  cases i with
  | true =>
    rw [if_pos rfl]
    exact ⟨γ, lo, c1, R1, q.mono (fun _ _ _ z => z) fun r hr v H' kc sc rp => hr v H' kc (s1.trans sc) (by rw [oB] at rp; exact rp)⟩
  | false =>
    rw [if_neg Bool.false_ne_true]
    exact q _ H1 R1.cu s1 (.bl _)
theorem c_or {r : List Expr} (oB : isOwn b = false) (ha : PE X ea (tE Φ XI W a)) (hb : PE X (.BoolOp .Or (eb :: r) pos) (tE Φ XI W b)) : PE X (.BoolOp .Or (ea :: eb :: r) pos) (tE Φ XI W (.or a b)) := by
  refine (pe_or ha hb).weak fun σ H Q ⟨γ, lo, c, R, h⟩ => ?_
  refine useE R h fun v H1 d c1 R1 s1 r1 h1 => ?_
  obtain ⟨i, rfl, q⟩ := h1.asB
  refine ⟨i, r1.w.bl, ?_⟩
  cases i with
  | false =>
    rw [if_neg Bool.false_ne_true]
    exact ⟨γ, lo, c1, R1, q.mono (fun _ _ _ z => z) fun r hr v H' kc sc rp => hr v H' kc (s1.trans sc) (by rw [oB] at rp; exact rp)⟩
  | true =>
    rw [if_pos rfl]
    exact q _ H1 R1.cu s1 (.bl _)
/-- a test behind a test -/
theorem bindT {f : Bool → Cup → Res (D × Cup)} {x : Ex} {lo : Lo} {c : Cup} {g : D × Cup → Res (Bool × Cup)} : ((evE Φ x lo c).bind fun r => asB r.1 fun b => f b r.2).bind g = (evE Φ x lo c).bind fun r => asB r.1 fun b => (f b r.2).bind g := by
  cases evE Φ x lo c with
  | ok r => obtain ⟨y, u⟩ := r; cases y <;> rfl
  | _ => rfl
theorem c_andT {r : List Expr} (ha : PT X ea (tT Φ XI W a)) (hb : PW X (.BoolOp .And (eb :: r) pos) (tT Φ XI W b)) : PW X (.BoolOp .And (ea :: eb :: r) pos) (tT Φ XI W (.and a b)) := by
  refine (pw_and ha hb).weak fun σ H Q ⟨γ, lo, c, R, h⟩ => ?_
  have h : Aft _ (((evE Φ a lo c).bind fun x => asB x.1 fun k => (fun k u => if k then evE Φ b lo u else .ok (D.bl false, u)) k x.2).bind _) _ := h
  rw [bindT (f := fun k u => if k then evE Φ b lo u else .ok (D.bl false, u))] at h
  refine useT (f := fun k u => (if k then evE Φ b lo u else .ok (.bl false, u)).bind fun r => asB r.1 fun k => .ok (k, r.2)) R h fun i H1 c1 R1 s1 h1 => ?_
  cases i with
  | true =>
    rw [if_pos rfl]
    exact ⟨γ, lo, c1, R1, Aft.mono (show Aft _ ((evE Φ b lo c1).bind _) _ from h1) (fun _ _ _ z => z) fun r hr H' kc sc => hr H' kc (s1.trans sc)⟩
  | false =>
    rw [if_neg Bool.false_ne_true]
    exact h1 H1 R1.cu s1
theorem c_orT {r : List Expr} (ha : PT X ea (tT Φ XI W a)) (hb : PW X (.BoolOp .Or (eb :: r) pos) (tT Φ XI W b)) : PW X (.BoolOp .Or (ea :: eb :: r) pos) (tT Φ XI W (.or a b)) := by
  refine (pw_or ha hb).weak fun σ H Q ⟨γ, lo, c, R, h⟩ => ?_
  have h : Aft _ (((evE Φ a lo c).bind fun x => asB x.1 fun k => (fun k u => if k then .ok (D.bl true, u) else evE Φ b lo u) k x.2).bind _) _ := h
  rw [bindT (f := fun k u => if k then .ok (D.bl true, u) else evE Φ b lo u)] at h
  refine useT (f := fun k u => (if k then .ok (.bl true, u) else evE Φ b lo u).bind fun r => asB r.1 fun k => .ok (k, r.2)) R h fun i H1 c1 R1 s1 h1 => ?_
  cases i with
  | false =>
    rw [if_neg Bool.false_ne_true]
    exact ⟨γ, lo, c1, R1, Aft.mono (show Aft _ ((evE Φ b lo c1).bind _) _ from h1) (fun _ _ _ z => z) fun r hr H' kc sc => hr H' kc (s1.trans sc)⟩
  | true =>
    rw [if_pos rfl]
    exact h1 H1 R1.cu s1
theorem c_ite {t : Ex} {et : Expr} (oA : isOwn a = false) (oB : isOwn b = false) (ht : PT X et (tT Φ XI W t)) (ha : PE X ea (tE Φ XI W a)) (hb : PE X eb (tE Φ XI W b)) : PE X (.IfExp et ea eb pos) (tE Φ XI W (.ite t a b)) := by
  refine (pe_ifExp ht ha hb).weak fun σ H Q ⟨γ, lo, c, R, h⟩ => ?_
  refine useT (f := fun k u => if k then evE Φ a lo u else evE Φ b lo u) R h fun i H1 c1 R1 s1 h1 => ?_
  cases i with
  | true =>
    rw [if_pos rfl]
    exact ⟨γ, lo, c1, R1, h1.mono (fun _ _ _ z => z) fun r hr v H' kc sc rp => hr v H' kc (s1.trans sc) (by rw [oA] at rp; exact rp)⟩
  | false =>
    rw [if_neg Bool.false_ne_true]
    exact ⟨γ, lo, c1, R1, h1.mono (fun _ _ _ z => z) fun r hr v H' kc sc rp => hr v H' kc (s1.trans sc) (by rw [oB] at rp; exact rp)⟩
/-- a value that is told, as a test -/
theorem c_val {x : Ex} {e : Expr} (h : PE X e (tE Φ XI W x)) (he : ∀ whole, isTrue e X.env whole = (do let v ← whole; standAt e.pos; holding [v] (truthy v))) : PT X e (tT Φ XI W x) := by
  refine (pt_val h he).weak fun σ H Q ⟨γ, lo, c, R, q⟩ => ?_
  refine useE R q fun v H1 d c1 R1 s1 r1 h1 => ?_
  obtain ⟨i, rfl, q⟩ := h1.asB
  exact ⟨i, r1.w.bl, q H1 R1.cu s1⟩
end
end EV

set_option maxHeartbeats 2000000
/-! EvJ: displays, items, calls, targets. -/
namespace EV
open PySem PySem.Spec PyProof.Rows L2
variable {S : SC} {Φ : Fns} {XI : XIs} {n : Nat} {W : WX} {X : Cx}

/-! ### argument lists -/
theorem c_nil : PA X [] (tA Φ XI W .nil) := ⟨fun pos pins s σ H Q I ⟨γ, lo, c, R, q⟩ => pa_nil.run pos pins s σ H Q I (q [] H R.cu SameC.refl .nil)⟩
theorem _root_.L2.PA.weak {es : List Expr} {t t' : TA} (h : PA X es t) (w : ∀ σ H Q, t' σ H Q → t σ H Q) : PA X es t' := ⟨fun pos pins s σ H Q I q => h.run pos pins s σ H Q I (w σ H Q q)⟩
theorem c_cons {x : Ex} {r : Exs} {e : Expr} {es : List Expr} (hp : plainE e = true) (ho : isOwn x = false) (he : PE X e (tE Φ XI W x)) (hr : PA X es (tA Φ XI W r)) : PA X (e :: es) (tA Φ XI W (.cons x r)) := by
  refine (pa_cons he hr (starE hp)).weak fun σ H Q ⟨γ, lo, c, R, h⟩ => ?_
  refine useE R h fun v H1 d c1 R1 s1 r1 h1 => ?_
  rw [ho] at r1
  refine useA R1 h1 fun vs H2 ds c2 R2 s2 r2 h2 => ?_
  exact h2 _ H2 R2.cu (s1.trans s2) (.cons (Rep.sta (s2.sta R1.cu) r1) r2)
def Exs.len : Exs → Nat
  | .nil => 0
  | .cons _ r => r.len + 1
theorem evEs_len : ∀ (es : Exs) {lo : Lo} {c : Cup} {r : List D × Cup}, evEs Φ es lo c = .ok r → r.1.length = es.len
  | .nil, lo, c, r, h => by
    have h : Res.ok (([] : List D), c) = Res.ok r := h
    cases h; rfl
  | .cons e es, lo, c, r, h => by
    have h : (evE Φ e lo c).bind (fun x => (evEs Φ es lo x.2).bind fun y => .ok (x.1 :: y.1, y.2)) = .ok r := h
    obtain ⟨x, _, h⟩ := bind_ok h
    obtain ⟨y, h2, h⟩ := bind_ok h
    cases h
    show y.1.length + 1 = _
    rw [evEs_len es h2]; rfl
theorem chkEs_len : ∀ (es : Exs) (l : List Expr), chkEs S es l = true → es.len = l.length
  | .nil, [], _ => rfl
  | .nil, _ :: _, h => by cases h
  | .cons _ _, [], h => by cases h
  | .cons x r, e :: es, h => by
    have h : (chkE S x e && plainE e && !isOwn x && chkEs S r es) = true := h
    rw [Bool.and_eq_true] at h
    show r.len + 1 = es.length + 1
    rw [chkEs_len r es h.2]
theorem small_len {l : List Expr} (h : l.length ≤ 1000) : l.length ≤ sizeLine := by rw [sizeLine_eq]; omega
theorem c_tup {es : Exs} {l : List Expr} {k : Nat} {pos : Pos} (hl : es.len = l.length) (h1 : l.length ≤ 1000) (ha : PA X l (tA Φ XI W es)) : PE X (.Tuple l k pos) (tE Φ XI W (.tup es)) := by
  refine (pe_tup ha).weak fun σ H Q ⟨γ, lo, c, R, h⟩ => ?_
  have h : Aft (XW XI γ W σ H) ((evEs Φ es lo c).bind fun x => .ok (D.tup x.1, x.2)) _ := h
  cases q : evEs Φ es lo c with
  | bad => rw [q] at h; exact h.elim
  | exc a b u => rw [q] at h; exact ⟨γ, lo, c, R, by rw [q]; exact h⟩
  | ok r =>
    have hn := evEs_len es q
    rw [q] at h
    refine ⟨γ, lo, c, R, ?_⟩
    rw [q]
    refine fun vs H' kc sc rp => ⟨?_, fun p hp => ?_⟩
    · rw [rp.length, hn, hl]; exact small_len h1
    · exact h _ _ (kc.new hp) (sc.trans (SameC.new hp)) (RepW.newT hp rp)
theorem c_lst {es : Exs} {l : List Expr} {pos : Pos} (hl : es.len = l.length) (h1 : l.length ≤ 1000) (ha : PA X l (tA Φ XI W es)) : PE X (.List l pos) (tE Φ XI W (.lst es)) := by
  refine (pe_frz (pe_lst ha)).weak fun σ H Q ⟨γ, lo, c, R, h⟩ => ?_
  have h : Aft (XW XI γ W σ H) ((evEs Φ es lo c).bind fun x => .ok (D.lst x.1, x.2)) _ := h
  cases q : evEs Φ es lo c with
  | bad => rw [q] at h; exact h.elim
  | exc a b u => rw [q] at h; exact ⟨γ, lo, c, R, by rw [q]; exact h⟩
  | ok r =>
    have hn := evEs_len es q
    rw [q] at h
    refine ⟨γ, lo, c, R, ?_⟩
    rw [q]
    refine fun vs H' kc sc rp => ⟨?_, fun p hp => ⟨p, _, rfl, upd_same, fun o => ?_⟩⟩
    · rw [rp.length, hn, hl]; exact small_len h1
    · rw [upd_upd]
      exact h _ _ (kc.new hp) (sc.trans (SameC.new hp)) (RepW.frzL hp rp)

/-! ### items, slices, built-ins -/
variable {a b : Ex} {ea eb : Expr} {pos : Pos}
theorem c_idx (hp : plainE eb = true) (ha : PE X ea (tE Φ XI W a)) (hb : PE X eb (tE Φ XI W b)) : PE X (.Subscript ea eb pos) (tE Φ XI W (.idx a b)) := by
  refine (pe_ix ix_any ha hb (plainIx_of hp)).weak fun σ H Q ⟨γ, lo, c, R, h⟩ => ?_
  refine useE R h fun v H1 d c1 R1 s1 r1 h1 => useE R1 h1 fun u H2 e c2 R2 s2 r2 h2 => ?_
  obtain ⟨z, hz, q⟩ := h2.pure idxD_nx
  exact ⟨γ, c2, d, e, z, R2.cu, r1.w.same s2 R1.cu, r2.w, hz, fun w rp => q w H2 R2.cu (s1.trans s2) rp⟩
theorem _root_.L2.PO.weak {o : Option Expr} {t t' : TO} (h : PO X o t) (w : ∀ σ H Q, t' σ H Q → t σ H Q) : PO X o t' := ⟨fun pins s σ H Q I q => h.run pins s σ H Q I (w σ H Q q)⟩
theorem c_part {x : Ex} {e : Expr} (h : PE X e (tE Φ XI W x)) : PO X (some e) (tOx Φ XI W (.som x)) := by
  refine (po_some h).weak fun σ H Q ⟨γ, lo, c, R, q⟩ => ?_
  refine useE R q fun v H1 d c1 R1 s1 r1 h1 => ?_
  obtain ⟨i, rfl, q⟩ := h1.asI
  exact ⟨i, r1.w.int, q H1 R1.cu s1⟩
theorem c_nopart : PO X none (tOx Φ XI W .non) := po_none.weak fun σ H Q ⟨γ, lo, c, R, q⟩ => q H R.cu SameC.refl
theorem c_slc {l h : Ox} {el eh : Option Expr} {p2 : Pos} (ha : PE X ea (tE Φ XI W a)) (hl : PO X el (tOx Φ XI W l)) (hh : PO X eh (tOx Φ XI W h)) : PE X (.Subscript ea (.Slice el eh none p2) pos) (tE Φ XI W (.slc a l h)) := by
  refine (pe_slice sl_any ha hl hh).weak fun σ H Q ⟨γ, lo, c, R, q⟩ => ?_
  refine useE R q fun v H1 d c1 R1 s1 r1 h1 => useO R1 h1 fun i H2 c2 R2 s2 h2 => useO R2 h2 fun j H3 c3 R3 s3 h3 => ?_
  obtain ⟨z, hz, q⟩ := h3.pure slcD_nx
  exact ⟨γ, c3, d, z, R3.cu, r1.w.same (s2.trans s3) R1.cu, hz, fun w H' kc sc rp => q w H' kc (((s1.trans s2).trans s3).trans sc) rp⟩
theorem boot_ty (t : Ty) : bootBuiltins (Str.ofString (tyNm t)) = some (.type (tyNm t)) := by cases t <;> decide +kernel
theorem boot_prm (p : Prm) : bootBuiltins (Str.ofString (prmNm p)) = some (prmV p) := by cases p <;> decide +kernel
theorem nm_ty (t : Ty) : Str.ofString (tyNm t) ≠ ("__name__" : Str) ∧ (Str.ofString (tyNm t) == ("__debug__" : Str)) = false := by cases t <;> decide +kernel
theorem nm_prm (t : Prm) : Str.ofString (prmNm t) ≠ ("__name__" : Str) ∧ (Str.ofString (prmNm t) == ("__debug__" : Str)) = false := by cases t <;> decide +kernel
theorem c_isi {t : Ty} {e : Expr} {x y : Str} {p p2 : Pos} (C : Cok S Φ XI n W X) (h1 : S.blt x "isinstance" = true) (h2 : S.blt y (Str.ofString (tyNm t)) = true) (hp : plainE e = true) (ha : PE X e (tE Φ XI W a)) :
    PE X (.Call (.Name x p) [e, .Name y p2] [] pos) (tE Φ XI W (.isi a t)) := by
  obtain ⟨rfl, g1, m1⟩ := C.blt h1
  obtain ⟨rfl, g2, m2⟩ := C.blt h2
  have ht : PE X (.Name (Str.ofString (tyNm t)) p2) (tC (.ty (tyNm t))) := pe_bltn g2 m2 (boot_ty t) rfl (nm_ty t).1 (nm_ty t).2
  refine (pe_callB (isi_any t) g1 m1 (by decide +kernel) (pa_cons ha (pa_cons ht pa_nil) (starE hp)) (by decide) (by decide) (starE hp) rfl).weak fun σ H Q ⟨γ, lo, c, R, h⟩ => ?_
  refine useE R h fun v H1 d c1 R1 s1 r1 h1 => ?_
  obtain ⟨z, hz, q⟩ := h1.pure isiD_nx
  exact ⟨γ, v, d, z, rfl, r1.w, hz, q _ H1 R1.cu s1 (.bl _)⟩
theorem c_prm {pr : Prm} {e : Expr} {x : Str} {p : Pos} (C : Cok S Φ XI n W X) (h1 : S.blt x (Str.ofString (prmNm pr)) = true) (hp : plainE e = true) (ha : PE X e (tE Φ XI W a)) :
    PE X (.Call (.Name x p) [e] [] pos) (tE Φ XI W (.prm pr a)) := by
  obtain ⟨rfl, g1, m1⟩ := C.blt h1
  have key : PE X (.Call (.Name (Str.ofString (prmNm pr)) p) [e] [] pos) (tCB (rPr pr) (tCons (tE Φ XI W a) tNil)) := by
    have hb := boot_prm pr
    have hc := prm_any' C.calm pr
    obtain ⟨n1, n2⟩ := nm_prm pr
    cases pr <;> first
      | exact pe_callB hc g1 m1 hb (pa_cons ha pa_nil (starE hp)) n1 n2 (starE hp) rfl
      | exact pe_callTy hc g1 m1 hb (pa_cons ha pa_nil (starE hp)) n1 n2 (starE hp) rfl
  refine key.weak fun σ H Q ⟨γ, lo, c, R, h⟩ => ?_
  refine useE R h fun v H1 d c1 R1 s1 r1 h1 => ?_
  obtain ⟨z, hz, q⟩ := h1.pure prmD_nx
  exact ⟨γ, c1, v, d, z, rfl, R1.cu, r1.w, hz, fun w H' kc sc rp => q w H' kc (s1.trans sc) rp⟩
theorem c_sset {e : Expr} {x y : Str} {p p2 pos2 : Pos} (C : Cok S Φ XI n W X) (h1 : S.blt x "sorted" = true) (h2 : S.blt y "set" = true) (hp : plainE e = true) (ha : PE X e (tE Φ XI W a)) :
    PE X (.Call (.Name x p) [.Call (.Name y p2) [e] [] pos2] [] pos) (tE Φ XI W (.sset a)) := by
  obtain ⟨rfl, g1, m1⟩ := C.blt h1
  obtain ⟨rfl, g2, m2⟩ := C.blt h2
  refine (pe_frz (pe_callB (cr_sortedSet C.calm) g1 m1 (by decide +kernel) (pa_cons (pe_callTy (cr_setI C.calm) g2 m2 (by decide +kernel) (pa_cons ha pa_nil (starE hp)) (by decide) (by decide) (starE hp) rfl) pa_nil rfl) (by decide) (by decide) rfl rfl)).weak fun σ H Q ⟨γ, lo, c, R, h⟩ => ?_
  refine useE R h fun v H1 d c1 R1 s1 r1 h1 => ?_
  obtain ⟨z, hz, q⟩ := h1.pure ssetD_nx
  obtain ⟨ns, h3, h4, rfl⟩ : ∃ ns, (items d).bind intsD = some ns ∧ ns.length ≤ 60 ∧ z = .lst ((sortI ns).map D.int) := by
    cases d with
    | tup ds =>
      obtain ⟨ns, g3, g4⟩ := bind_ok (show (ofO (intsD ds)).bind _ = _ from hz)
      obtain ⟨g5, g6⟩ := need_ok g4
      cases g6
      exact ⟨ns, ofO_ok g3, of_decide_eq_true g5, rfl⟩
    | lst ds =>
      obtain ⟨ns, g3, g4⟩ := bind_ok (show (ofO (intsD ds)).bind _ = _ from hz)
      obtain ⟨g5, g6⟩ := need_ok g4
      cases g6
      exact ⟨ns, ofO_ok g3, of_decide_eq_true g5, rfl⟩
    | _ => cases hz
  exact ⟨γ, v, d, ns, rfl, r1.w, h3, h4, fun p m hp hm => rSort_of R1.cu hp hm h4 fun w H' kc sc rp => q w H' kc (s1.trans sc) rp⟩

/-! ### calls -/
theorem pe_callS0 {CX : CXT} {k : Nat} {f : Addr} {fd : FuncData} {ps : List Str} {sp : Sp} {E : L2.St → XK} {x : Str} {p : Pos} (F : FnOk X.prog X.w X.K X.mg X.base CX k f fd ps sp) (hr : Room k X.A) (hg : Gl X x) (hm : X.mg x = some (.ref f)) (hk : PySem.W.keepIn X.K (.ref f) = true) (hb : Binds X.K fd ps [])
    (hx : ∀ σ, PassesAt CX X σ (E σ)) (hdb : (x == ("__debug__" : Str)) = false) : PE X (.Call (.Name x p) [] [] pos) (tCallS sp E tNil) := by
  refine ⟨fun pins s σ H Q I h => ?_⟩
  refine wpAny_Call_Name_kw (ld_glob I hg hm ?_ hdb)
  exact PySem.W.callWith_K0 I.kIn hk (run_fnS (us := []) F hr hb (hx σ) I .nil h)
theorem c_call0 {f : Nat} {x : Str} {p : Pos} (C : Cok S Φ XI n W X) (hg : S.gl x = true) (hn : okName x = true) (hf : S.fns.lookup x = some f) : PE X (.Call (.Name x p) [] [] pos) (tE Φ XI W (.call f .nil)) := by
  obtain ⟨ad, fd, ps, m1, k1, b1, F⟩ := C.fn x f hf
  obtain ⟨n1, _, _⟩ := okName_1 hn
  exact (pe_callS0 F C.rm (C.glob hg) m1 k1 b1 (fun σ => passAt C.tk σ) n1).weak fun σ H Q ⟨γ, lo, c, R, h⟩ => ⟨γ, [], c, .nil, R.cu, h⟩
theorem c_call {f : Nat} {es : Exs} {e : Expr} {l : List Expr} {x : Str} {p : Pos} (C : Cok S Φ XI n W X) (hg : S.gl x = true) (hn : okName x = true) (hf : S.fns.lookup x = some f) (hl : plainE e = true) (hpl : (backTo pos (starEach l X.env)).any (·.1) = false) (ha : PA X (e :: l) (tA Φ XI W es)) :
    PE X (.Call (.Name x p) (e :: l) [] pos) (tE Φ XI W (.call f es)) := by
  obtain ⟨ad, fd, ps, m1, k1, b1, F⟩ := C.fn x f hf
  obtain ⟨n1, _, _⟩ := okName_1 hn
  exact (pe_callS F C.rm (C.glob hg) m1 k1 b1 (fun σ => passAt C.tk σ) ha n1 (starE hl) hpl).weak fun σ H Q ⟨γ, lo, c, R, h⟩ =>
    useA R h fun vs H1 ds c1 R1 s1 r1 h1 => ⟨γ, ds, c1, r1, R1.cu, Aft.mono h1 (fun _ _ _ z => z) fun r hr v H' kc sc rp => hr v H' kc (s1.trans sc) rp⟩
theorem star_any : ∀ (es : Exs) (l : List Expr) (env : Env), chkEs S es l = true → (backTo pos (starEach l env)).any (·.1) = false
  | .nil, [], _, _ => rfl
  | .nil, _ :: _, _, h => by cases h
  | .cons _ _, [], _, h => by cases h
  | .cons x r, e :: es, env, h => by
    have h : (chkE S x e && plainE e && !isOwn x && chkEs S r es) = true := h
    simp only [Bool.and_eq_true] at h
    rw [starE h.1.1.2]
    show (false || (backTo pos (starEach es env)).any (·.1)) = false
    rw [star_any r es env h.2]; rfl

/-! ### targets -/
theorem wipe_len (σ : L2.St) : ∀ vs : List Nat, (wipe σ vs).length = σ.length := wipe_length σ
theorem wipe_get (σ : L2.St) (j : Nat) : ∀ vs : List Nat, (wipe σ vs)[j]? = if j ∈ vs then (if j < σ.length then some none else none) else σ[j]?
  | [] => by simp [wipe]
  | v :: vs => by
    show ((wipe σ vs).set v none)[j]? = _
    rw [List.getElem?_set, wipe_length, wipe_get σ j vs]
    by_cases h : v = j
    · subst h
      simp
    · have h' : ¬ j = v := fun e => h e.symm
      simp [h, h']
theorem wipe_set {σ : L2.St} {i : Nat} {v : Option V} {vs : List Nat} (h : i ∈ vs) : wipe (σ.set i v) vs = wipe σ vs := by
  apply List.ext_getElem?
  intro j
  rw [wipe_get, wipe_get, List.length_set]
  by_cases hj : j ∈ vs
  · rw [if_pos hj, if_pos hj]
  · rw [if_neg hj, if_neg hj, List.getElem?_set_ne (fun e => hj (by rw [← e]; exact h))]
def Wp (l : List Nat) (σ σ' : L2.St) : Prop := ∀ vs, (∀ i ∈ l, i ∈ vs) → wipe σ' vs = wipe σ vs
theorem RS.put {γ : Option Addr} {lo : Lo} {c : Cup} {σ : L2.St} {H : Hp} {v : V} {d : D} (R : RS γ lo c σ H) (r : Rep γ H v d) (i : Nat) : RS γ (lo.set i (.fz d)) c (σ.set i (some v)) H := by
  refine ⟨fun j e h => ?_, fun j ds h => ?_, fun j k ds es a h1 h2 h3 h4 => ?_, R.cu, by rw [List.length_set, List.length_set, R.ln]⟩
  · rw [List.getElem?_set] at h
    by_cases hj : i = j
    · subst hj
      by_cases hl : i < lo.length
      · rw [if_pos rfl, if_pos hl] at h
        cases h
        exact ⟨v, by rw [List.getElem?_set_self (by rw [← R.ln]; exact hl)], r⟩
      · rw [if_pos rfl, if_neg hl] at h; cases h
    · rw [if_neg hj] at h
      rw [List.getElem?_set_ne hj]
      exact R.fz j e h
  · have hj : i ≠ j := by
      rintro rfl
      rw [List.getElem?_set] at h
      by_cases hl : i < lo.length
      · rw [if_pos rfl, if_pos hl] at h; cases h
      · rw [if_pos rfl, if_neg hl] at h; cases h
    rw [List.getElem?_set_ne hj] at h
    rw [List.getElem?_set_ne hj]
    exact R.ow j ds h
  · have ne : ∀ m ds, (lo.set i (.fz d))[m]? = some (.own ds) → i ≠ m := fun m ds h => by
      rintro rfl
      rw [List.getElem?_set] at h
      by_cases hl : i < lo.length
      · rw [if_pos rfl, if_pos hl] at h; cases h
      · rw [if_pos rfl, if_neg hl] at h; cases h
    have n1 := ne j ds h1
    have n2 := ne k es h2
    rw [List.getElem?_set_ne n1] at h1 h3
    rw [List.getElem?_set_ne n2] at h2 h4
    exact R.un j k ds es a h1 h2 h3 h4
/-- the own lists are as they were -/
def Ow (lo : Lo) (σ : L2.St) (lo' : Lo) (σ' : L2.St) : Prop := ∀ (j : Nat) (ds : List D), lo'[j]? = some (.own ds) → lo[j]? = some (.own ds) ∧ σ'[j]? = σ[j]?
theorem ow_fz {lo : Lo} {σ : L2.St} {i : Nat} {d : D} {v : V} : Ow lo σ (lo.set i (.fz d)) (σ.set i (some v)) := fun j ds h => by
  have ne : i ≠ j := by
    rintro rfl
    rw [List.getElem?_set] at h
    by_cases hl : i < lo.length
    · rw [if_pos rfl, if_pos hl] at h; cases h
    · rw [if_pos rfl, if_neg hl] at h; cases h
  rw [List.getElem?_set_ne ne] at h ⊢
  exact ⟨h, rfl⟩
theorem Ow.trans {lo lo1 lo2 : Lo} {σ σ1 σ2 : L2.St} (a : Ow lo σ lo1 σ1) (b : Ow lo1 σ1 lo2 σ2) : Ow lo σ lo2 σ2 := fun j ds h => by
  obtain ⟨h1, h2⟩ := b j ds h
  obtain ⟨h3, h4⟩ := a j ds h1
  exact ⟨h3, h2.trans h4⟩
def tG (t : Tg) : TG := fun v σ H Q => ∃ γ lo c d lo', RS γ lo c σ H ∧ Rep γ H v d ∧ tgSet t d lo = some lo' ∧ ∀ σ', RS γ lo' c σ' H → Wp (tgSlots t) σ σ' → Ow lo σ lo' σ' → Q σ' H
def tGs (ts : List Tg) : TGs := fun vs σ H Q => ∃ γ lo c ds lo', RS γ lo c σ H ∧ Reps γ H vs ds ∧ tgSets ts ds lo = some lo' ∧ ∀ σ', RS γ lo' c σ' H → Wp (tgSlotss ts) σ σ' → Ow lo σ lo' σ' → Q σ' H
theorem _root_.L2.PG.weak {e : Expr} {t t' : TG} (h : PG X e t) (w : ∀ v σ H Q, t' v σ H Q → t v σ H Q) : PG X e t' := ⟨fun pins s σ H v u Q I r q => h.run pins s σ H v u Q I r (w v σ H Q q)⟩
theorem _root_.L2.PGs.weak {e : List Expr} {t t' : TGs} (h : PGs X e t) (w : ∀ v σ H Q, t' v σ H Q → t v σ H Q) : PGs X e t' := ⟨fun pins s σ H v u Q I r q => h.run pins s σ H v u Q I r (w v σ H Q q)⟩
def tgOk : Expr → Bool
  | .Name _ _ => true
  | .Tuple _ _ _ => true
  | _ => false
theorem chkT_ok : ∀ {t : Tg} {e : Expr}, chkT S t e = true → tgOk e = true
  | .nm _, .Name _ _, _ => rfl
  | .tp _, .Tuple _ _ _, _ => rfl
  | .nm _, .Tuple _ _ _, h => by cases h
  | .tp _, .Name _ _, h => by cases h
  | .nm _, .BoolOp .., h => by cases h
  | .nm _, .NamedExpr .., h => by cases h
  | .nm _, .BinOp .., h => by cases h
  | .nm _, .UnaryOp .., h => by cases h
  | .nm _, .Lambda .., h => by cases h
  | .nm _, .IfExp .., h => by cases h
  | .nm _, .Dict .., h => by cases h
  | .nm _, .Set .., h => by cases h
  | .nm _, .ListComp .., h => by cases h
  | .nm _, .SetComp .., h => by cases h
  | .nm _, .DictComp .., h => by cases h
  | .nm _, .GeneratorExp .., h => by cases h
  | .nm _, .Await .., h => by cases h
  | .nm _, .Yield .., h => by cases h
  | .nm _, .YieldFrom .., h => by cases h
  | .nm _, .Compare .., h => by cases h
  | .nm _, .Call .., h => by cases h
  | .nm _, .FormattedValue .., h => by cases h
  | .nm _, .JoinedStr .., h => by cases h
  | .nm _, .Constant .., h => by cases h
  | .nm _, .Attribute .., h => by cases h
  | .nm _, .Subscript .., h => by cases h
  | .nm _, .Starred .., h => by cases h
  | .nm _, .List .., h => by cases h
  | .nm _, .Slice .., h => by cases h
  | .tp _, .BoolOp .., h => by cases h
  | .tp _, .NamedExpr .., h => by cases h
  | .tp _, .BinOp .., h => by cases h
  | .tp _, .UnaryOp .., h => by cases h
  | .tp _, .Lambda .., h => by cases h
  | .tp _, .IfExp .., h => by cases h
  | .tp _, .Dict .., h => by cases h
  | .tp _, .Set .., h => by cases h
  | .tp _, .ListComp .., h => by cases h
  | .tp _, .SetComp .., h => by cases h
  | .tp _, .DictComp .., h => by cases h
  | .tp _, .GeneratorExp .., h => by cases h
  | .tp _, .Await .., h => by cases h
  | .tp _, .Yield .., h => by cases h
  | .tp _, .YieldFrom .., h => by cases h
  | .tp _, .Compare .., h => by cases h
  | .tp _, .Call .., h => by cases h
  | .tp _, .FormattedValue .., h => by cases h
  | .tp _, .JoinedStr .., h => by cases h
  | .tp _, .Constant .., h => by cases h
  | .tp _, .Attribute .., h => by cases h
  | .tp _, .Subscript .., h => by cases h
  | .tp _, .Starred .., h => by cases h
  | .tp _, .List .., h => by cases h
  | .tp _, .Slice .., h => by cases h
theorem assignE {e : Expr} {es : List Expr} {env : Env} (h : tgOk e = true) : assignEach (e :: es) env = (false, assign e env) :: assignEach es env := by
  cases e <;> first | rfl | cases h
theorem assignEs : ∀ {ts : List Tg} {es : List Expr} {env : Env}, chkTs S ts es = true → (assignEach es env).length = es.length ∧ (assignEach es env).findIdx? (·.1) = none ∧ ts.length = es.length
  | [], [], _, _ => ⟨rfl, rfl, rfl⟩
  | [], _ :: _, _, h => by cases h
  | _ :: _, [], _, h => by cases h
  | t :: ts, e :: es, env, h => by
    have h : (chkT S t e && chkTs S ts es) = true := h
    rw [Bool.and_eq_true] at h
    rw [assignE (chkT_ok h.1)]
    obtain ⟨h1, h2, h3⟩ := assignEs (env := env) h.2
    refine ⟨by rw [List.length_cons, h1, List.length_cons], ?_, by rw [List.length_cons, h3, List.length_cons]⟩
    rw [List.findIdx?_cons]
    simp [h2]
theorem tgSets_len : ∀ {ts : List Tg} {ds : List D} {lo lo' : Lo}, tgSets ts ds lo = some lo' → ts.length = ds.length
  | [], [], _, _, _ => rfl
  | [], _ :: _, _, _, h => by cases h
  | _ :: _, [], _, _, h => by cases h
  | t :: ts, d :: ds, lo, lo', h => by
    have h : (tgSet t d lo).bind (fun lo => tgSets ts ds lo) = some lo' := h
    cases q : tgSet t d lo with
    | none => rw [q] at h; cases h
    | some l1 =>
      rw [q] at h
      rw [List.length_cons, List.length_cons, tgSets_len h]
mutual
theorem c_tg (C : Cok S Φ XI n W X) : ∀ (t : Tg) (e : Expr), chkT S t e = true → PG X e (tG t)
  | .nm i, e, h => by
    cases e with
    | Name x p =>
      have h : (S.N[i]? == some x && S.sto x && okName x) = true := h
      simp only [Bool.and_eq_true] at h
      obtain ⟨hx, hf⟩ := C.st x h.1.2
      refine (pg_name (i := i) (by rw [C.hN]; exact C.nd) (by rw [C.hN]; exact beq_iff_eq.mp h.1.1) hx hf).weak fun v σ H Q ⟨γ, lo, c, d, lo', R, r, e, q⟩ => ?_
      cases e
      exact q _ (R.put r i) (fun vs hv => wipe_set (hv i List.mem_cons_self)) ow_fz
    | _ => cases h
  | .tp ts, e, h => by
    cases e with
    | Tuple es k p =>
      have h : chkTs S ts es = true := h
      obtain ⟨h1, h2, h3⟩ := assignEs (env := X.env) h
      refine (pg_tup C.calm (c_tgs C ts es h) h1 h2).weak fun v σ H Q ⟨γ, lo, c, d, lo', R, r, e, q⟩ => ?_
      cases d with
      | tup ds =>
        cases r with
        | tup ha rs =>
          have e : tgSets ts ds lo = some lo' := e
          exact ⟨_, _, rfl, .inl (.inl ha), by rw [rs.length, ← tgSets_len e, h3], γ, lo, c, ds, lo', R, rs, e, q⟩
      | _ => cases e
    | _ => cases h
theorem c_tgs (C : Cok S Φ XI n W X) : ∀ (ts : List Tg) (es : List Expr), chkTs S ts es = true → PGs X es (tGs ts)
  | [], es, h => by
    cases es with
    | nil =>
      refine pgs_nil.weak fun v σ H Q ⟨γ, lo, c, ds, lo', R, r, e, q⟩ => ?_
      cases ds with
      | nil =>
        cases r
        cases e
        exact ⟨rfl, q σ R (fun _ _ => rfl) fun _ _ h => ⟨h, rfl⟩⟩
      | cons _ _ => cases e
    | cons _ _ => cases h
  | t :: ts, es, h => by
    cases es with
    | nil => cases h
    | cons e es =>
      have h : (chkT S t e && chkTs S ts es) = true := h
      rw [Bool.and_eq_true] at h
      refine (pgs_cons (c_tg C t e h.1) (c_tgs C ts es h.2) (by rw [assignE (chkT_ok h.1)]; rfl)).weak fun v σ H Q ⟨γ, lo, c, ds, lo', R, r, e, q⟩ => ?_
      cases r with
      | nil => cases e
      | @cons v vs d ds r rs =>
        have e : (tgSet t d lo).bind (fun lo => tgSets ts ds lo) = some lo' := e
        cases g : tgSet t d lo with
        | none => rw [g] at e; cases e
        | some l1 =>
          rw [g] at e
          refine ⟨v, vs, rfl, γ, lo, c, d, l1, R, r, g, fun σ1 R1 w1 o1 => ⟨γ, l1, c, ds, lo', R1, rs, e, fun σ2 R2 w2 o2 => q σ2 R2 (fun us hu => ?_) (o1.trans o2)⟩⟩
          rw [w2 us fun i hi => hu i (List.mem_append_right _ hi), w1 us fun i hi => hu i (List.mem_append_left _ hi)]
end
end EV

set_option maxHeartbeats 2000000
/-! EvK: what is walked. -/
namespace EV
open PySem PySem.Spec PyProof.Rows L2
variable {S : SC} {Φ : Fns} {XI : XIs} {n : Nat} {W : WX} {X : Cx}

def isOwnI : It → Bool
  | .seq e => isOwn e
  | .enm e => isOwn e
  | .zip a b => isOwn a || isOwn b
  | _ => false
/-- what comes at a turn: the thing's i-th, perhaps in a new tuple -/
def YD (γ : Option Addr) (ds : List D) : Nat → Hp → V → Hp → Prop := fun i H v H' => (H' = H ∨ ∃ T xs, H T = none ∧ H' = upd H T (.tup xs)) ∧ ∃ d, ds[i]? = some d ∧ Rep γ H' v d
structure WD (b : Bool) (γ : Option Addr) (J : L2.It) (ds : List D) (G : Hp → Prop) : Prop where
  walk : Walk J ds.length G (YD γ ds)
  keep : ∀ H1 H2, Sta H1 H2 → (b = true → SameC γ H1 H2) → G H1 → G H2
  len : ds.length ≤ sizeLine
def tI (Φ : Fns) (XI : XIs) (W : WX) (it : It) : TI := fun σ H R => ∃ γ lo c, RS γ lo c σ H ∧ Aft (XW XI γ W σ H) (evI Φ it lo c) fun r => ∀ J G H', CupAt γ r.2 H' → SameC γ H H' → WD (isOwnI it) γ J r.1 G → G H' → R J H'
theorem YD.same {γ : Option Addr} {ds : List D} {i : Nat} {H H' : Hp} {v : V} (y : YD γ ds i H v H') : SameC γ H H' := by
  rcases y.1 with rfl | ⟨T, xs, h, rfl⟩
  · exact SameC.refl
  · exact SameC.new h
theorem YD.cup {γ : Option Addr} {ds : List D} {i : Nat} {H H' : Hp} {v : V} {c : Cup} (y : YD γ ds i H v H') (k : CupAt γ c H) : CupAt γ c H' := by
  rcases y.1 with rfl | ⟨T, xs, h, rfl⟩
  · exact k
  · exact k.new h
theorem YD.sta {γ : Option Addr} {ds : List D} {i : Nat} {H H' : Hp} {v : V} (y : YD γ ds i H v H') : Sta H H' := by
  rcases y.1 with rfl | ⟨T, xs, h, rfl⟩
  · exact Sta.refl
  · exact Sta.new h

theorem _root_.L2.PI.weak {tg e : Expr} {t t' : TI} (h : PI X tg e t) (w : ∀ σ H Q, t' σ H Q → t σ H Q) : PI X tg e t' := ⟨fun pins s σ H Q I q => h.run pins s σ H Q I (w σ H Q q)⟩
/-- what stands in the heap has a size -/
def tSz (K : PySem.W.Frag) (wi : TI) : TI := fun σ H R => wi σ H fun J H' => (∀ a xs, SqL K H' a xs → xs.length ≤ sizeLine) → (∀ a xs, SqT K H' a xs → xs.length ≤ sizeLine) → R J H'
theorem pi_sz {tg e : Expr} {t : TI} (h : PI X tg e t) : PI X tg e (tSz X.K t) := by
  refine ⟨fun pins s σ H R I q => thn (h.run pins s σ H _ I q) fun v s1 h1 => thn h1 fun w s2 z => ?_⟩
  obtain ⟨it, fp, tn, J, H', e, I', T, t0, f, r⟩ := z
  exact ⟨it, fp, tn, J, H', e, I', T, t0, f, r (fun a xs hq => let ⟨_, _, _, z⟩ := I'.list hq; z) (fun a xs hq => let ⟨_, _, _, z⟩ := I'.tuple hq; z)⟩
/-- a list, a tuple, a text -/
def iSq (K : PySem.W.Frag) (te : TE) : TI := fun σ H R => te σ H fun v H1 => (∃ a xs, v = .ref a ∧ SqL K H1 a xs ∧ R (Itl K a) H1) ∨ (∃ a xs, v = .ref a ∧ SqT K H1 a xs ∧ R (Itt K a) H1) ∨ ∃ x, v = .str x ∧ R (Its x) H1
theorem pi_sq {tg l : Expr} {tl : TE} (hl : PE X l tl) : PI X tg l (iSq X.K tl) := by
  refine ⟨fun pins s σ H R I h => ?_⟩
  refine thn (hl.run pins s σ H _ I h) fun v s1 ⟨x, H1, I1, r1, q1⟩ => ?_
  rcases q1 with ⟨a, xs, rfl, hq, q⟩ | ⟨a, xs, rfl, hq, q⟩ | ⟨x, rfl, q⟩
  · cases r1
    obtain ⟨its, rv, p, hz⟩ := I1.list hq
    refine wpAny_pyIter_list p.isList ?_
    refine ⟨s1.heap.objs.size, [s1.heap.objs.size], _, _, H1, rfl, I1.kept (t' := s1.toks) fun b o e => Heap.get?_push_of_some _ e, turn_list a _, ⟨_, Heap.get?_push_size _ rfl, rfl, rfl⟩, fun b hb => ?_, q⟩
    rw [List.mem_singleton.mp hb]
    exact I1.fpOk (Nat.le_refl _) (I1.hok.fresh (Nat.le_refl _))
  · cases r1
    obtain ⟨its, rv, p, hz⟩ := I1.tuple hq
    refine wpAny_pyIter_tuple (show s1.heap.IsTuple a its.toArray from p) ?_
    refine ⟨s1.heap.objs.size, [s1.heap.objs.size], _, _, H1, rfl, I1.kept (t' := s1.toks) fun b o e => Heap.get?_push_of_some _ e, turn_tuple a _, ⟨_, Heap.get?_push_size _ rfl, rfl, rfl⟩, fun b hb => ?_, q⟩
    rw [List.mem_singleton.mp hb]
    exact I1.fpOk (Nat.le_refl _) (I1.hok.fresh (Nat.le_refl _))
  · obtain ⟨t, rfl⟩ := r1
    cases ha : x.cps.all (· < 128)
    · exact wpAny_pyIter_wide ha (pi_one (tk := s1.toks) I1 _ (turn_str _ x t "str_iterator" (.inr rfl)) ⟨_, Heap.get?_push_size _ rfl, rfl, rfl⟩ q)
    · exact wpAny_pyIter_ascii ha (pi_one (tk := s1.toks) I1 _ (turn_str _ x t "str_ascii_iterator" (.inl rfl)) ⟨_, Heap.get?_push_size _ rfl, rfl, rfl⟩ q)

/-! ### guards -/
def GL (b : Bool) (γ : Option Addr) (a : Addr) (xs : List V) (ds : List D) : Hp → Prop := fun H => ((∃ o, H a = some (.frz o (.lst xs))) ∨ (b = true ∧ H a = some (.lst xs) ∧ γ ≠ some a)) ∧ Reps γ H xs ds
def GT (γ : Option Addr) (a : Addr) (xs : List V) (ds : List D) : Hp → Prop := fun H => H a = some (.tup xs) ∧ Reps γ H xs ds
theorem GL.keep {b : Bool} {γ : Option Addr} {a : Addr} {xs : List V} {ds : List D} (H1 H2 : Hp) (s : Sta H1 H2) (q : b = true → SameC γ H1 H2) (g : GL b γ a xs ds H1) : GL b γ a xs ds H2 := by
  refine ⟨?_, g.2.sta s⟩
  rcases g.1 with ⟨o, e⟩ | ⟨hb, e, n⟩
  · exact .inl ⟨o, s.frz _ _ _ e⟩
  · exact .inr ⟨hb, q hb _ _ e n, n⟩
theorem GT.keep {γ : Option Addr} {a : Addr} {xs : List V} {ds : List D} (H1 H2 : Hp) (s : Sta H1 H2) (g : GT γ a xs ds H1) : GT γ a xs ds H2 := ⟨s.tup _ _ g.1, g.2.sta s⟩
theorem GL.sq {K : PySem.W.Frag} {b : Bool} {γ : Option Addr} {a : Addr} {xs : List V} {ds : List D} {H : Hp} (g : GL b γ a xs ds H) : SqL K H a xs := by
  rcases g.1 with ⟨o, e⟩ | ⟨hb, e, n⟩
  · exact .inl (.inr ⟨_, e⟩)
  · exact .inl (.inl e)
theorem GT.sq {K : PySem.W.Frag} {γ : Option Addr} {a : Addr} {xs : List V} {ds : List D} {H : Hp} (g : GT γ a xs ds H) : SqT K H a xs := .inl (.inl g.1)
theorem RepX.gl {b : Bool} {γ : Option Addr} {H : Hp} {v : V} {ds : List D} (r : RepX b γ H v (.lst ds)) : ∃ a xs, v = .ref a ∧ GL b γ a xs ds H := by
  cases b with
  | false =>
    cases r with
    | lst e q => exact ⟨_, _, rfl, .inl ⟨_, e⟩, q⟩
  | true =>
    rcases r with r | ⟨a, xs, es, rfl, e, e2, q, n⟩
    · cases r with
      | lst e q => exact ⟨_, _, rfl, .inl ⟨_, e⟩, q⟩
    · cases e
      exact ⟨a, xs, rfl, .inr ⟨rfl, e2, n⟩, q⟩
theorem RepX.gt {b : Bool} {γ : Option Addr} {H : Hp} {v : V} {ds : List D} (r : RepX b γ H v (.tup ds)) : ∃ a xs, v = .ref a ∧ GT γ a xs ds H := by
  rcases r.w with r | ⟨a, xs, es, rfl, e, e2, q, n⟩
  · cases r with
    | tup e q => exact ⟨_, _, rfl, e, q⟩
  · cases e
theorem RepX.or {b b' : Bool} {γ : Option Addr} {a : Addr} {xs : List V} {ds : List D} {H : Hp} (h : b = true → b' = true) (g : GL b γ a xs ds H) : GL b' γ a xs ds H := by
  refine ⟨?_, g.2⟩
  rcases g.1 with e | ⟨hb, e⟩
  · exact .inl e
  · exact .inr ⟨h hb, e⟩

/-! ### walks -/
section
variable {K : PySem.W.Frag} {b : Bool} {γ : Option Addr} {a a2 : Addr} {xs ys : List V} {ds es : List D}
theorem wd_list (h : ds.length ≤ sizeLine) (hl : xs.length = ds.length) : WD b γ (Itl K a) ds (GL b γ a xs ds) := by
  refine ⟨?_, GL.keep, h⟩
  rw [← hl]
  refine walk_list.mono (fun H g => g.sq) fun i H x H' hi g y => ?_
  obtain ⟨e, y⟩ := y
  subst e
  exact ⟨.inl rfl, g.2.getV y⟩
theorem wd_tup (h : ds.length ≤ sizeLine) (hl : xs.length = ds.length) : WD b γ (Itt K a) ds (GT γ a xs ds) := by
  refine ⟨?_, fun H1 H2 s _ g => g.keep _ _ s, h⟩
  rw [← hl]
  refine walk_tup.mono (fun H g => g.sq) fun i H x H' hi g y => ?_
  obtain ⟨e, y⟩ := y
  subst e
  exact ⟨.inl rfl, g.2.getV y⟩
theorem wd_str {z : Str} (h : z.cps.toList.length ≤ sizeLine) : WD b γ (Its z) (z.cps.toList.map fun c => .str [c]) (fun _ => True) := by
  refine ⟨?_, fun _ _ _ _ _ => trivial, by rw [List.length_map]; exact h⟩
  rw [List.length_map, Array.length_toList]
  refine walk_str.mono (fun H g => g) fun i H x H' hi g y => ?_
  obtain ⟨e, c, hc, rfl⟩ := y
  subst e
  refine ⟨.inl rfl, .str [c], ?_, Rep.strL [c]⟩
  rw [List.getElem?_map, Array.getElem?_toList, hc]; rfl
theorem wd_range {lo : Int} {m : Nat} (h : m ≤ sizeLine) : WD b γ (Itr lo m) (rngL lo m) (fun _ => True) := by
  have hl : (rngL lo m).length = m := by unfold rngL; rw [List.length_map, List.length_range]
  refine ⟨?_, fun _ _ _ _ _ => trivial, by rw [hl]; exact h⟩
  rw [hl]
  refine walk_range.mono (fun H g => g) fun i H x H' hi g y => ?_
  obtain ⟨e, rfl⟩ := y
  subst e
  refine ⟨.inl rfl, .int (lo + i), ?_, .int _⟩
  unfold rngL
  rw [List.getElem?_map, List.getElem?_range hi]; rfl
theorem wd_rangeC {lo c : Int} {m : Nat} (h : m ≤ sizeLine) : WD b γ (Itc lo c m) (rngC lo c m) (fun _ => True) := by
  have hl : (rngC lo c m).length = m := by unfold rngC; rw [List.length_map, List.length_range]
  refine ⟨?_, fun _ _ _ _ _ => trivial, by rw [hl]; exact h⟩
  rw [hl]
  refine walk_rangeC.mono (fun H g => g) fun i H x H' hi g y => ?_
  obtain ⟨e, rfl⟩ := y
  subst e
  refine ⟨.inl rfl, .int (lo + (i : Nat) * c), ?_, .int _⟩
  unfold rngC
  rw [List.getElem?_map, List.getElem?_range hi]; rfl
theorem enmL_len : (enmL ds).length = ds.length := by
  unfold enmL
  rw [List.length_zipWith, List.length_range, Nat.min_self]
theorem enmL_get {i : Nat} {d : D} (h : ds[i]? = some d) : (enmL ds)[i]? = some (.tup [.int (i : Nat), d]) := by
  have hi := (List.getElem?_eq_some_iff.mp h).1
  unfold enmL
  rw [List.getElem?_zipWith, List.getElem?_range hi, h]
theorem yd_pair {i : Nat} {H H' : Hp} {v : V} {l : List D} {T : Addr} {x y : V} {dx dy : D} (h1 : v = .ref T) (h2 : H T = none) (h3 : H' = upd H T (.tup [x, y])) (rx : Rep γ H x dx) (ry : Rep γ H y dy) (hl : l[i]? = some (.tup [dx, dy])) : YD γ l i H v H' := by
  subst h1 h3
  exact ⟨.inr ⟨T, _, h2, rfl⟩, _, hl, .tup upd_same (.cons (rx.sta (Sta.new h2)) (.cons (ry.sta (Sta.new h2)) .nil))⟩
theorem wd_enmL (h : ds.length ≤ sizeLine) (hl : xs.length = ds.length) : WD b γ (Ite K a) (enmL ds) (GL b γ a xs ds) := by
  refine ⟨?_, GL.keep, by rw [enmL_len]; exact h⟩
  rw [enmL_len, ← hl]
  refine walk_enum.mono (fun H g => g.sq) fun i H x H' hi g y => ?_
  obtain ⟨T, x, y, h1, h2, h3, h4, h5⟩ := y
  cases h4
  obtain ⟨d, hd, rd⟩ := g.2.getV h5
  exact yd_pair h1 h2 h3 (.int _) rd (enmL_get hd)
theorem wd_enmT (h : ds.length ≤ sizeLine) (hl : xs.length = ds.length) : WD b γ (IteT K a) (enmL ds) (GT γ a xs ds) := by
  refine ⟨?_, fun H1 H2 s _ g => g.keep _ _ s, by rw [enmL_len]; exact h⟩
  rw [enmL_len, ← hl]
  refine walk_enumT.mono (fun H g => g.sq) fun i H x H' hi g y => ?_
  obtain ⟨T, x, y, h1, h2, h3, h4, h5⟩ := y
  cases h4
  obtain ⟨d, hd, rd⟩ := g.2.getV h5
  exact yd_pair h1 h2 h3 (.int _) rd (enmL_get hd)
theorem zip_get {i : Nat} {d e : D} (h : ds[i]? = some d) (h2 : es[i]? = some e) : (ds.zipWith (fun x y => D.tup [x, y]) es)[i]? = some (.tup [d, e]) := by
  rw [List.getElem?_zipWith, h, h2]
theorem zip_len : (ds.zipWith (fun x y => D.tup [x, y]) es).length = min ds.length es.length := by rw [List.length_zipWith]
theorem wd_zipL (h : ds.length ≤ sizeLine) (hl : xs.length = ds.length) (hl2 : ys.length = es.length) : WD b γ (Itz K a a2) (ds.zipWith (fun x y => D.tup [x, y]) es) (fun H => GL b γ a xs ds H ∧ GL b γ a2 ys es H) := by
  refine ⟨?_, fun H1 H2 s k g => ⟨g.1.keep _ _ s k, g.2.keep _ _ s k⟩, by rw [zip_len]; omega⟩
  refine (walk_zip (by rw [zip_len, hl, hl2])).mono (fun H g => ⟨g.1.sq, g.2.sq⟩) fun i H x H' hi g y => ?_
  obtain ⟨T, x, y, h1, h2, h3, h4, h5⟩ := y
  obtain ⟨d, hd, rd⟩ := g.1.2.getV h4
  obtain ⟨e, he, re⟩ := g.2.2.getV h5
  exact yd_pair h1 h2 h3 rd re (zip_get hd he)
theorem walk_zipT {m : Nat} (hn : m = min xs.length ys.length) : Walk (RZ.ItzT K a a2) m (fun H => SqT K H a xs ∧ SqT K H a2 ys) (YPair (fun i => xs[i]?) (fun i => ys[i]?)) := by
  subst hn
  refine ⟨fun i _ hi q => ?_, fun _ q => ⟨xs, ys, q.1, q.2, by omega⟩, fun i H v H' _ q y => ?_⟩
  · have h1 : i < xs.length := by omega
    have h2 : i < ys.length := by omega
    exact ⟨xs, ys, xs[i], ys[i], q.1, q.2, by simp [h1], by simp [h2]⟩
  · obtain ⟨T, x, z, h1, h2, h3, h4, h5⟩ := y
    exact ⟨T, x, z, h1, h2, h3, h4 xs q.1, h5 ys q.2⟩
theorem wd_zipT (h : ds.length ≤ sizeLine) (hl : xs.length = ds.length) (hl2 : ys.length = es.length) : WD b γ (RZ.ItzT K a a2) (ds.zipWith (fun x y => D.tup [x, y]) es) (fun H => GT γ a xs ds H ∧ GT γ a2 ys es H) := by
  refine ⟨?_, fun H1 H2 s k g => ⟨g.1.keep _ _ s, g.2.keep _ _ s⟩, by rw [zip_len]; omega⟩
  refine (walk_zipT (by rw [zip_len, hl, hl2])).mono (fun H g => ⟨g.1.sq, g.2.sq⟩) fun i H x H' hi g y => ?_
  obtain ⟨T, x, y, h1, h2, h3, h4, h5⟩ := y
  obtain ⟨d, hd, rd⟩ := g.1.2.getV h4
  obtain ⟨e, he, re⟩ := g.2.2.getV h5
  exact yd_pair h1 h2 h3 rd re (zip_get hd he)
end

/-! ### what the words say -/
variable {a b d : Ex} {ea eb ed tg : Expr} {pos p : Pos}
theorem i_seq (ha : PE X ea (tE Φ XI W a)) : PI X tg ea (tI Φ XI W (.seq a)) := by
  refine (pi_sz (pi_sq ha)).weak fun σ H R ⟨γ, lo, c, R0, h⟩ => ?_
  refine useE R0 h fun v H1 d c1 R1 s1 r1 h1 => ?_
  obtain ⟨l, hl, q⟩ := h1.pure seqD_nx
  cases d with
  | tup ds =>
    cases hl
    obtain ⟨a, xs, rfl, g⟩ := r1.gt
    exact .inr (.inl ⟨a, xs, rfl, g.sq, fun _ z => q _ _ H1 R1.cu s1 (wd_tup (by rw [← g.2.length]; exact z _ _ g.sq) g.2.length) g⟩)
  | lst ds =>
    cases hl
    obtain ⟨a, xs, rfl, g⟩ := r1.gl
    exact .inl ⟨a, xs, rfl, g.sq, fun z _ => q _ _ H1 R1.cu s1 (wd_list (by rw [← g.2.length]; exact z _ _ g.sq) g.2.length) g⟩
  | str x =>
    obtain ⟨z, e⟩ := need_ok (show need (smallL x.length) _ = _ from hl)
    cases e
    have z : x.length ≤ 16777216 := of_decide_eq_true z
    cases r1.w.str
    refine .inr (.inr ⟨_, rfl, fun _ _ => q _ (fun _ => True) H1 R1.cu s1 ?_ trivial⟩)
    exact wd_str (z := ⟨x.toArray⟩) (by rw [sizeLine_eq]; simpa using z)
  | _ => cases hl
theorem smallL_le {n : Nat} (h : smallL n = true) : n ≤ sizeLine := by rw [sizeLine_eq]; exact of_decide_eq_true h
theorem i_rng1 (C : Cok S Φ XI n W X) (hb : S.blt x "range" = true) (hp : plainE ea = true) (ha : PE X ea (tE Φ XI W a)) : PI X tg (.Call (.Name x p) [ea] [] pos) (tI Φ XI W (.rng1 a)) := by
  obtain ⟨rfl, g1, m1⟩ := C.blt hb
  refine (pi_range1 g1 m1 (pa_cons ha pa_nil (starE hp)) (starE hp)).weak fun σ H R ⟨γ, lo, c, R0, h⟩ => ?_
  refine useE R0 h fun v H1 d c1 R1 s1 r1 h1 => ?_
  obtain ⟨j, rfl, h1'⟩ := h1.asI
  obtain ⟨z, h1⟩ := h1'.need
  rw [Bool.and_eq_true] at z
  have z1 : -16777216 ≤ j := of_decide_eq_true z.1
  have z2 : j.toNat ≤ 16777216 := of_decide_eq_true z.2
  exact ⟨j, by rw [r1.w.int], by omega, by omega, h1 _ _ H1 R1.cu s1 (wd_range (smallL_le z.2)) trivial⟩
theorem i_rng2 (C : Cok S Φ XI n W X) (hb : S.blt x "range" = true) (hp : plainE ea = true) (hp2 : plainE eb = true) (ha : PE X ea (tE Φ XI W a)) (hbb : PE X eb (tE Φ XI W b)) : PI X tg (.Call (.Name x p) [ea, eb] [] pos) (tI Φ XI W (.rng2 a b)) := by
  obtain ⟨rfl, g1, m1⟩ := C.blt hb
  refine (pi_range2 g1 m1 (pa_cons ha (pa_cons hbb pa_nil (starE hp2)) (starE hp)) (by rw [starE hp, starE hp2]; rfl) (starE hp2)).weak fun σ H R ⟨γ, lo, c, R0, h⟩ => ?_
  refine useE R0 h fun v H1 d c1 R1 s1 r1 h1 => useE R1 h1 fun u H2 e c2 R2 s2 r2 h2 => ?_
  obtain ⟨i, rfl, g2⟩ := h2.asI
  obtain ⟨j, rfl, g3⟩ := g2.asI
  obtain ⟨z, h2⟩ := g3.need
  simp only [Bool.and_eq_true, decide_eq_true_eq] at z
  obtain ⟨⟨⟨⟨z1, z2⟩, z3⟩, z4⟩, z5⟩ := z
  exact ⟨i, j, by rw [r1.w.int, r2.w.int], by omega, h2 _ _ H2 R2.cu (s1.trans s2) (wd_range (smallL_le z5)) trivial⟩
theorem i_rng3 (C : Cok S Φ XI n W X) (hb : S.blt x "range" = true) (hp : plainE ea = true) (hp2 : plainE eb = true) (hp3 : plainE ed = true) (ha : PE X ea (tE Φ XI W a)) (hbb : PE X eb (tE Φ XI W b)) (hd : PE X ed (tE Φ XI W d)) : PI X tg (.Call (.Name x p) [ea, eb, ed] [] pos) (tI Φ XI W (.rng3 a b d)) := by
  obtain ⟨rfl, g1, m1⟩ := C.blt hb
  refine (pi_range3 g1 m1 (pa_cons ha (pa_cons hbb (pa_cons hd pa_nil (starE hp3)) (starE hp2)) (starE hp)) (starE hp) (by rw [starE hp2, starE hp3]; rfl)).weak fun σ H R ⟨γ, lo, c, R0, h⟩ => ?_
  refine useE R0 h fun v H1 d c1 R1 s1 r1 h1 => useE R1 h1 fun u H2 e c2 R2 s2 r2 h2 => useE R2 h2 fun w H3 f c3 R3 s3 r3 h3 => ?_
  obtain ⟨i, rfl, g2⟩ := h3.asI
  obtain ⟨j, rfl, g3⟩ := g2.asI
  obtain ⟨k, rfl, g4⟩ := g3.asI
  obtain ⟨z, h3⟩ := g4.need
  simp only [Bool.and_eq_true, decide_eq_true_eq] at z
  obtain ⟨⟨⟨⟨⟨z0, z1⟩, z2⟩, z3⟩, z4⟩, z5⟩ := z
  subst z0
  exact ⟨i, j, -1, (i - j).toNat, by rw [r1.w.int, r2.w.int, r3.w.int], RgC.neg (by omega) (by omega) (by omega) (by omega), h3 _ _ H3 R3.cu ((s1.trans s2).trans s3) (wd_rangeC (smallL_le z5)) trivial⟩
theorem isTup_eq {e : Expr} (h : isTup e = true) : ∃ l k q, e = .Tuple l k q := by
  cases e <;> first | exact ⟨_, _, _, rfl⟩ | cases h
theorem i_enm (C : Cok S Φ XI n W X) (hb : S.blt x "enumerate" = true) (ht : isTup tg = true) (hp : plainE ea = true) (ha : PE X ea (tE Φ XI W a)) : PI X tg (.Call (.Name x p) [ea] [] pos) (tI Φ XI W (.enm a)) := by
  obtain ⟨rfl, g1, m1⟩ := C.blt hb
  obtain ⟨l, k, q, rfl⟩ := isTup_eq ht
  refine (pi_enm g1 m1 (pa_cons ha pa_nil (starE hp)) (starE hp)).weak fun σ H R ⟨γ, lo, c, R0, h⟩ => ?_
  refine useE R0 h fun v H1 d c1 R1 s1 r1 h1 => ?_
  obtain ⟨l, hl, q⟩ := h1.bind.ofO
  cases d with
  | tup ds =>
    cases hl
    obtain ⟨a, xs, rfl, g⟩ := r1.gt
    exact ⟨a, xs, rfl, .inr ⟨g.sq, fun z => q _ _ H1 R1.cu s1 (wd_enmT (by rw [← g.2.length]; exact z) g.2.length) g⟩⟩
  | lst ds =>
    cases hl
    obtain ⟨a, xs, rfl, g⟩ := r1.gl
    exact ⟨a, xs, rfl, .inl ⟨g.sq, fun z => q _ _ H1 R1.cu s1 (wd_enmL (by rw [← g.2.length]; exact z) g.2.length) g⟩⟩
  | _ => cases hl
theorem i_zip (C : Cok S Φ XI n W X) (hb : S.blt x "zip" = true) (ht : isTup tg = true) (hp : plainE ea = true) (hp2 : plainE eb = true) (ha : PE X ea (tE Φ XI W a)) (hbb : PE X eb (tE Φ XI W b)) : PI X tg (.Call (.Name x p) [ea, eb] [] pos) (tI Φ XI W (.zip a b)) := by
  obtain ⟨rfl, g1, m1⟩ := C.blt hb
  obtain ⟨l, k, q, rfl⟩ := isTup_eq ht
  refine (pi_sz (RZ.pi_zipA g1 m1 (pa_cons ha (pa_cons hbb pa_nil (starE hp2)) (starE hp)) (starE hp) (by rw [starE hp2]; rfl))).weak fun σ H R ⟨γ, lo, c, R0, h⟩ => ?_
  refine useE R0 h fun v H1 d c1 R1 s1 r1 h1 => useE R1 h1 fun u H2 e c2 R2 s2 r2 h2 => ?_
  obtain ⟨l, hl, q⟩ := h2.pure zipD_nx
  cases d with
  | tup ds =>
    cases e with
    | tup es =>
      cases hl
      obtain ⟨a, xs, rfl, g⟩ := r1.gt
      obtain ⟨a2, ys, rfl, g2⟩ := r2.gt
      have g := g.keep _ _ (s2.sta R1.cu)
      exact ⟨a, a2, xs, ys, rfl, .inr ⟨g.sq, g2.sq, fun _ z => q _ _ H2 R2.cu (s1.trans s2) (wd_zipT (by rw [← g.2.length]; exact z _ _ g.sq) g.2.length g2.2.length) ⟨g, g2⟩⟩⟩
    | _ => cases hl
  | lst ds =>
    cases e with
    | lst es =>
      cases hl
      obtain ⟨a', xs, rfl, g⟩ := r1.gl
      obtain ⟨a2, ys, rfl, g2⟩ := r2.gl
      have g := g.keep _ _ (s2.sta R1.cu) fun _ => s2
      have g : GL (isOwn a || isOwn b) γ a' xs ds H2 := RepX.or (fun e => by rw [e]; rfl) g
      have g2 : GL (isOwn a || isOwn b) γ a2 ys es H2 := RepX.or (fun e => by rw [e, Bool.or_true]) g2
      exact ⟨a', a2, xs, ys, rfl, .inl ⟨g.sq, g2.sq, fun z _ => q _ _ H2 R2.cu (s1.trans s2) (wd_zipL (by rw [← g.2.length]; exact z _ _ g.sq) g.2.length g2.2.length) ⟨g, g2⟩⟩⟩
    | _ => cases hl
  | _ => cases hl
end EV

set_option maxHeartbeats 4000000
/-! EvL: comprehensions; every expression. -/
namespace EV
open PySem PySem.Spec PyProof.Rows L2
variable {S : SC} {Φ : Fns} {XI : XIs} {n : Nat} {W : WX} {X : Cx}

/-! ### the block of a comprehension -/
def SC.blk (S : SC) (scope : Scope) : SC := { S with sc := relS scope S.sc, ow := scope }
theorem Cok.blk (C : Cok S Φ XI n W X) (s : Shared) (H : Hp) (scope : Scope) (Ca : Addr) (cl : List (Str × Addr)) (fp : List Addr) : Cok (S.blk scope) Φ XI n (fun _ _ _ _ => False) (X.blk s H scope (compEnvC scope cl Ca X.env) fp) := by
  have hs : (compEnvC scope cl Ca X.env).scope = relS scope S.sc := by rw [← C.hsc]; rfl
  refine ⟨C.hN, hs, C.nd, C.calm, fun x hx => ?_, LamX.takes0, PassesOwn.never, C.fn, C.rm, C.gl, C.bt⟩
  have hx : (match scope.names.lookup x with
    | some .local => true
    | some .cell => true
    | _ => false) = true := hx
  show Loc (compEnvC scope cl Ca X.env).scope x ∧ ((scope.names.lookup x == some .cell) = true ∨ (compEnvC scope cl Ca X.env).scope.names.lookup x = some .local)
  rw [hs]
  split at hx
  · rename_i e
    have q : (relS scope S.sc).names.lookup x = some .local := lookup_relS_keep (by decide) e
    exact ⟨.inl q, .inr q⟩
  · rename_i e
    have q : (relS scope S.sc).names.lookup x = some .cell := lookup_relS_keep (by decide) e
    exact ⟨.inr q, .inl (by rw [e]; rfl)⟩
  · cases hx
theorem ownPairs_snd : ∀ {N : List Str} {ow : List Nat} {op : List (Str × Nat)}, ownPairs N ow = some op → op.map (·.2) = ow
  | N, [], op, h => by cases h; rfl
  | N, i :: r, op, h => by
    unfold ownPairs at h
    split at h
    · rename_i x l e1 e2
      cases h
      show i :: l.map (·.2) = _
      rw [ownPairs_snd e2]
    · cases h
theorem RS.none {γ : Option Addr} {lo : Lo} {c : Cup} {σ : L2.St} {H : Hp} (R : RS γ lo c σ H) (i : Nat) : RS γ (lo.set i .no) c (σ.set i none) H := by
  have ne : ∀ m s, (lo.set i .no)[m]? = some s → s ≠ .no → i ≠ m := fun m s h hn => by
    rintro rfl
    rw [List.getElem?_set] at h
    by_cases hl : i < lo.length
    · rw [if_pos rfl, if_pos hl] at h; cases h; exact hn rfl
    · rw [if_pos rfl, if_neg hl] at h; cases h
  refine ⟨fun j d h => ?_, fun j ds h => ?_, fun j k ds es a h1 h2 h3 h4 => ?_, R.cu, by rw [List.length_set, List.length_set, R.ln]⟩
  · have q := ne j _ h (fun z => nomatch z)
    rw [List.getElem?_set_ne q] at h ⊢
    exact R.fz j d h
  · have q := ne j _ h (fun z => nomatch z)
    rw [List.getElem?_set_ne q] at h ⊢
    exact R.ow j ds h
  · have n1 := ne j _ h1 (fun z => nomatch z)
    have n2 := ne k _ h2 (fun z => nomatch z)
    rw [List.getElem?_set_ne n1] at h1 h3
    rw [List.getElem?_set_ne n2] at h2 h4
    exact R.un j k ds es a h1 h2 h3 h4
theorem RS.wipe {γ : Option Addr} {lo : Lo} {c : Cup} {σ : L2.St} {H : Hp} (R : RS γ lo c σ H) : ∀ vs : List Nat, RS γ (wipeL lo vs) c (L2.wipe σ vs) H
  | [] => R
  | v :: vs => (R.wipe vs).none v
theorem wipe_wipe (σ : L2.St) (vs : List Nat) : wipe (wipe σ vs) vs = wipe σ vs := by
  apply List.ext_getElem?
  intro j
  rw [wipe_get, wipe_len]
  by_cases hj : j ∈ vs
  · rw [if_pos hj, wipe_get, if_pos hj]
  · rw [if_neg hj]
theorem Aft.nox {α β : Type} {E : Nat → Int → Cup → Prop} {z : Res α} {F : α → Res β} {K : β → Prop} (h : Aft E ((noX z).bind F) K) : ∃ o, z = .ok o ∧ Aft E (F o) K := by
  cases z with
  | ok o => exact ⟨o, rfl, h⟩
  | exc a b c => exact h.elim
  | bad => exact h.elim
theorem SameC.updN {γ : Option Addr} {H H' : Hp} {p : Addr} {o : HO} (s : SameC γ H H') (n : H p = none) : SameC γ H (upd H' p o) := fun b u e g => by
  rw [upd_ne (ne_of_none e n)]; exact s b u e g
theorem CupAt.ne {γ : Option Addr} {c : Cup} {H : Hp} {p : Addr} {o : HO} (k : CupAt γ c H) (g : γ ≠ some p) : CupAt γ c (upd H p o) := fun a z => by
  rw [upd_ne (fun e => g (by rw [z, e]))]; exact k a z
/-- a new list, still to be changed -/
def tO (Φ : Fns) (XI : XIs) (W : WX) (x : Ex) : TE := fun σ H Q => ∃ γ lo c, RS γ lo c σ H ∧ Aft (XW XI γ W σ H) (evE Φ x lo c) fun r => ∃ ds, r.1 = .lst ds ∧ ∀ p xs H', H p = none → γ ≠ some p → H' p = some (.lst xs) → Reps γ H' xs ds → CupAt γ r.2 H' → SameC γ H H' → Q (.ref p) H'
/-- .. never to be changed again -/
theorem tO_frz {x : Ex} (ho : isOwn x = false) {σ : L2.St} {H : Hp} {Q : VK} (hl : ∀ lo c r, evE Φ x lo c = .ok r → ∃ ds, r.1 = .lst ds) (h : tE Φ XI W x σ H Q) : tFz (tO Φ XI W x) σ H Q := by
  obtain ⟨γ, lo, c, R, h⟩ := h
  refine ⟨γ, lo, c, R, ?_⟩
  cases q : evE Φ x lo c with
  | bad => rw [q] at h; exact h
  | exc a b u => rw [q] at h; exact h
  | ok r =>
    rw [q] at h
    obtain ⟨ds, e⟩ := hl lo c r q
    refine ⟨ds, e, fun p xs H' hp gp hx rs kc sc => ⟨p, xs, rfl, hx, fun o => ?_⟩⟩
    refine h _ _ (kc.ne gp) (sc.updN hp) ?_
    rw [ho, e]
    exact Rep.lst upd_same (rs.sta (Sta.lst hx))
theorem lc_lst {ow : List Nat} {t : Tg} {it : It} {cs : Exs} {x : Ex} {lo : Lo} {c : Cup} {r : D × Cup} (h : evE Φ (.lc ow t it cs x) lo c = .ok r) : ∃ ds, r.1 = .lst ds := by
  obtain ⟨a, _, h⟩ := bind_ok (show (evI Φ it lo c).bind _ = _ from h)
  obtain ⟨b, _, h⟩ := bind_ok h
  cases h
  exact ⟨_, rfl⟩
theorem lc_wish {ow : List Nat} {t : Tg} {it : It} {cs : Exs} {x : Ex} (hsub : (tgSlots t).all (fun i => ow.contains i) = true) (ho : isOwn x = false) {σ : L2.St} {H : Hp} {Q : VK} (h : tO Φ XI W (.lc ow t it cs x) σ H Q) :
    tLc (tI Φ XI W it) (tG t) (tCs Φ XI (fun _ _ _ _ => False) cs) (tE Φ XI (fun _ _ _ _ => False) x) ow σ H Q := by
  obtain ⟨γ, lo, c, R, h⟩ := h
  refine ⟨γ, lo, c, R, (Aft.bind h).mono (fun _ _ _ z => z) fun r hr J G H1 kc sc wd g Da hD => ?_⟩
  have R0 := (R.same sc kc).wipe ow
  have gD : γ ≠ some Da := fun e => by
    have := kc Da e
    rw [hD] at this; cases this
  have hr := Aft.bind hr
  generalize hf : (fun d c => noX ((ofO (tgSet t d (wipeL lo ow))).bind fun lo' =>
      (evCs Φ cs lo' c).bind fun k => if k.1 then (evE Φ x lo' k.2).bind fun y => Res.ok (some y.1, y.2) else .ok (Option.none, k.2))) = f at hr
  generalize hKF : (fun q : List D × Cup => ∀ p xs H', H p = Option.none → γ ≠ some p → H' p = some (.lst xs) → Reps γ H' xs q.1 → CupAt γ q.2 H' → SameC γ H H' → Q (.ref p) H') = KF
  have hr : Aft (XW XI γ W σ H) (lcGo f r.1 r.2) KF := by
    rw [← hKF]
    refine hr.mono (fun _ _ _ z => z) fun q hq => ?_
    obtain ⟨ds, e, hq⟩ := hq
    cases e
    exact hq
  refine lc_it wd.walk (fun i Hc => ∃ acc accD c', Hc Da = some (.lst acc) ∧ Reps γ Hc acc accD ∧ acc.length ≤ i ∧ SameC γ H1 Hc ∧ CupAt γ c' Hc ∧ Aft (XW XI γ W σ H) (lcGo f (r.1.drop i) c') (fun q => KF (accD ++ q.1, q.2)))
    ⟨[], [], r.2, upd_same, .nil, Nat.le_refl _, SameC.new hD, kc.new hD, hr⟩ (fun i Hc _ ⟨acc, accD, c', _, _, _, s1, _, _⟩ => wd.keep _ _ (s1.sta kc) (fun _ => s1) g) ?_ ?_
  · rintro i v Hc H' hi ⟨acc, accD, c', e1, ra, le, s1, k1, ha⟩ y
    obtain ⟨d, hd, rd⟩ := y.2
    have hdr : r.1.drop i = d :: r.1.drop (i + 1) := by
      obtain ⟨hl, e⟩ := List.getElem?_eq_some_iff.mp hd
      rw [List.drop_eq_getElem_cons hl, e]
    rw [hdr] at ha
    have ha : Aft _ ((f d c').bind fun r' => (lcGo f (r.1.drop (i + 1)) r'.2).bind fun q => .ok ((match r'.1 with | some y => y :: q.1 | none => q.1), q.2)) _ := ha
    rw [← hf] at ha
    obtain ⟨o, ho1, ha⟩ := Aft.nox ha
    rw [hf] at ha
    obtain ⟨lo', hlo, ho2⟩ := bind_ok ho1
    obtain ⟨k, hk, ho3⟩ := bind_ok ho2
    have s2 : SameC γ H1 H' := s1.trans y.same
    refine ⟨γ, wipeL lo ow, c', d, lo', R0.same s2 (y.cup k1), rd, ofO_ok hlo, fun σ2 R2 w2 _ => ⟨?_, γ, lo', c', R2, ?_⟩⟩
    · rw [w2 ow (fun j hj => by
        have q := List.all_eq_true.mp hsub j hj
        exact List.contains_iff_mem.mp q), wipe_wipe]
    · rw [hk]
      refine fun H3 k3 s3 => ?_
      obtain ⟨kb, kcup⟩ := k
      cases kb with
      | false =>
        cases ho3
        rw [if_neg Bool.false_ne_true]
        have sx : SameC γ Hc H3 := y.same.trans s3
        exact ⟨acc, accD, kcup, sx _ _ e1 gD, ra.sta (sx.sta k1), Nat.le_succ_of_le le, s1.trans sx, k3, Aft.bind ha⟩
      | true =>
        rw [if_pos rfl]
        have ho3 : (evE Φ x lo' kcup).bind (fun y => Res.ok (some y.1, y.2)) = .ok o := ho3
        obtain ⟨yv, hy, ho4⟩ := bind_ok ho3
        cases ho4
        refine ⟨γ, lo', kcup, R2.same s3 k3, ?_⟩
        rw [hy]
        refine fun u H4 k4 s4 ru => ?_
        rw [ho] at ru
        have sx : SameC γ Hc H4 := (y.same.trans s3).trans s4
        have e4 := sx _ _ e1 gD
        refine ⟨acc, e4, Nat.lt_of_le_of_lt le (Nat.lt_of_lt_of_le hi wd.len), acc ++ [u], accD ++ [yv.1], yv.2, upd_same, ?_, ?_, (s1.trans sx).updN hD, k4.ne gD, ?_⟩
        · exact (ra.sta ((sx.sta k1).trans (Sta.lst e4))).app (.cons (Rep.sta (Sta.lst e4) ru) .nil)
        · rw [List.length_append]; exact Nat.succ_le_succ le
        · have hb := Aft.bind ha
          refine hb.mono (fun _ _ _ z => z) fun q hq => ?_
          rw [List.append_assoc]; exact hq
  · rintro Hc ⟨acc, accD, c', e1, ra, le, s1, k1, ha⟩
    rw [List.drop_length] at ha
    have ha : KF (accD ++ [], c') := ha
    rw [List.append_nil, ← hKF] at ha
    have hD0 : H Da = Option.none := by
      cases q : H Da with
      | none => rfl
      | some o =>
        have := sc Da o q gD
        rw [hD] at this; cases this
    exact ha _ _ _ hD0 gD e1 ra k1 (sc.trans s1)
section
variable {ow : List Nat} {t : Tg} {it : It} {cs : Exs} {x : Ex} {ee tg iter : Expr} {ifs : List Expr} {scope : Scope} {op : List (Str × Nat)} {pos : Pos}
theorem c_lcO (C : Cok S Φ XI n W X) (hop : ownPairs S.N ow = some op) (hb : blkC S.N S.sc scope op = true)
    (hsub : (tgSlots t).all (fun i => ow.contains i) = true) (ho : isOwn x = false) (hi : PI X tg iter (tI Φ XI W it))
    (hg : ∀ X', Cok (S.blk scope) Φ XI n (fun _ _ _ _ => False) X' → PG X' tg (tG t)) (ht : ∀ X', Cok (S.blk scope) Φ XI n (fun _ _ _ _ => False) X' → PTs X' ifs (tCs Φ XI (fun _ _ _ _ => False) cs))
    (he : ∀ X', Cok (S.blk scope) Φ XI n (fun _ _ _ _ => False) X' → PE X' ee (tE Φ XI (fun _ _ _ _ => False) x)) (hs : ∀ v, foldedSetIterable iter X.env v = pure v) :
    PE X (.ListComp ee [⟨tg, iter, ifs, 0⟩] scope pos) (tO Φ XI W (.lc ow t it cs x)) := by
  have ok : BlkOk X.N X.env.scope scope op := by
    rw [C.hN, C.hsc]; exact blkOk_by hb
  refine (pe_lc C.calm (by rw [C.hN]; exact C.nd) hi ok (fun s H Ca cl fp => hg _ (C.blk s H scope Ca cl fp)) (fun s H Ca cl fp => ht _ (C.blk s H scope Ca cl fp)) (fun s H Ca cl fp => he _ (C.blk s H scope Ca cl fp)) hs).weak fun σ H Q h => ?_
  rw [ownPairs_snd hop]
  exact lc_wish hsub ho h
theorem c_lc (C : Cok S Φ XI n W X) (hop : ownPairs S.N ow = some op) (hb : blkC S.N S.sc scope op = true)
    (hsub : (tgSlots t).all (fun i => ow.contains i) = true) (ho : isOwn x = false) (hi : PI X tg iter (tI Φ XI W it))
    (hg : ∀ X', Cok (S.blk scope) Φ XI n (fun _ _ _ _ => False) X' → PG X' tg (tG t)) (ht : ∀ X', Cok (S.blk scope) Φ XI n (fun _ _ _ _ => False) X' → PTs X' ifs (tCs Φ XI (fun _ _ _ _ => False) cs))
    (he : ∀ X', Cok (S.blk scope) Φ XI n (fun _ _ _ _ => False) X' → PE X' ee (tE Φ XI (fun _ _ _ _ => False) x)) (hs : ∀ v, foldedSetIterable iter X.env v = pure v) :
    PE X (.ListComp ee [⟨tg, iter, ifs, 0⟩] scope pos) (tE Φ XI W (.lc ow t it cs x)) :=
  (pe_frz (c_lcO C hop hb hsub ho hi hg ht he hs)).weak fun σ H Q h => tO_frz rfl (fun lo c r => lc_lst) h
end
theorem folded_of {e : Expr} (h : plainE e = true) (env : Env) (v : Value) : foldedSetIterable e env v = pure v := by
  cases e <;> first | rfl | cases h
theorem plain_tst {e : Expr} (h : tstE e = true) : plainE e = true := by
  cases e <;> first | rfl | cases h
theorem t_nil : PTs X [] (tCs Φ XI W .nil) := ⟨fun pins s σ H Q I ⟨γ, lo, c, R, q⟩ => pts_nil.run pins s σ H Q I (q H R.cu SameC.refl)⟩
theorem _root_.L2.PTs.weak {es : List Expr} {t t' : TT} (h : PTs X es t) (w : ∀ σ H Q, t' σ H Q → t σ H Q) : PTs X es t' := ⟨fun pins s σ H Q I q => h.run pins s σ H Q I (w σ H Q q)⟩
theorem t_one {x : Ex} {e : Expr} (h : PT X e (tT Φ XI W x)) : PTs X [e] (tCs Φ XI W (.cons x .nil)) := by
  refine (pts_one h).weak fun σ H Q ⟨γ, lo, c, R, q⟩ => ⟨γ, lo, c, R, ?_⟩
  have e : evCs Φ (.cons x .nil) lo c = (evE Φ x lo c).bind fun r => asB r.1 fun k => .ok (k, r.2) := by
    show ((evE Φ x lo c).bind fun r => asB r.1 fun k => if k then .ok (true, r.2) else .ok (false, r.2)) = _
    cases evE Φ x lo c with
    | ok r => obtain ⟨d, u⟩ := r; cases d <;> first | rfl | (rename_i b; cases b <;> rfl)
    | _ => rfl
  rw [← e]; exact q
end EV

set_option maxHeartbeats 4000000
/-! EvM: every expression that is checked. -/
namespace EV
open PySem PySem.Spec PyProof.Rows L2
variable {Φ : Fns} {XI : XIs}

def isBO : Expr → Bool
  | .BoolOp _ _ _ => true
  | _ => false
structure Snd (Φ : Fns) (XI : XIs) (W : WX) (X : Cx) (x : Ex) (e : Expr) : Prop where
  v : PE X e (tE Φ XI W x)
  t : tstE e = true → PT X e (tT Φ XI W x)
  w : isBO e = true → PW X e (tT Φ XI W x)
theorem Snd.val {W : WX} {X : Cx} {x : Ex} {e : Expr} (h : PE X e (tE Φ XI W x)) (he : ∀ whole, isTrue e X.env whole = (do let v ← whole; standAt e.pos; holding [v] (truthy v))) (hb : isBO e = false) : Snd Φ XI W X x e :=
  ⟨h, fun _ => c_val h he, fun z => by rw [hb] at z; cases z⟩
theorem Snd.tst {W : WX} {X : Cx} {x : Ex} {e : Expr} (h : PE X e (tE Φ XI W x)) (ht : PT X e (tT Φ XI W x)) (hb : isBO e = false) : Snd Φ XI W X x e :=
  ⟨h, fun _ => ht, fun z => by rw [hb] at z; cases z⟩
theorem chkI_plain {S : SC} {t : Tg} {it : It} {tg e : Expr} (h : chkI S t it tg e = true) : plainE e = true := by
  cases it with
  | seq x => exact (Bool.and_eq_true _ _ ▸ (show (chkE S x e && plainE e) = true from h)).2
  | _ => cases e <;> first | rfl | cases h
abbrev GoE (Φ : Fns) (XI : XIs) (x : Ex) : Prop := ∀ (S : SC) (n : Nat) (W : WX) (X : Cx), Cok S Φ XI n W X → ∀ e, chkE S x e = true → Snd Φ XI W X x e
mutual
theorem sndE : ∀ x : Ex, GoE Φ XI x
  | .var i, S, n, W, X, C, e, h => by
    cases e with
    | Name x p => exact .val (c_var C h) (fun _ => rfl) rfl
    | _ => cases h
  | .own i, S, n, W, X, C, e, h => by
    cases e with
    | Name x p => exact .val (c_own C h) (fun _ => rfl) rfl
    | _ => cases h
  | .lit d, S, n, W, X, C, e, h => by
    cases e with
    | Name x p => exact .val (c_glob C h) (fun _ => rfl) rfl
    | Constant k j p => exact .val (c_const h) (fun _ => rfl) rfl
    | _ => cases h
  | .bin o a b, S, n, W, X, C, e, h => by
    cases e with
    | BinOp ea op eb p =>
      have h : (binOk o op && chkE S a ea && chkE S b eb) = true := h
      simp only [Bool.and_eq_true] at h
      exact .val (c_bin h.1.1 (sndE a S n W X C ea h.1.2).v (sndE b S n W X C eb h.2).v) (fun _ => rfl) rfl
    | _ => cases h
  | .neg a, S, n, W, X, C, e, h => by
    cases e with
    | UnaryOp op e p =>
      have h : ((match (generalizing := false) op with
        | .USub => true
        | _ => false) && chkE S a e) = true := h
      rw [Bool.and_eq_true] at h
      cases op with
      | USub => exact .val (c_neg (sndE a S n W X C e h.2).v) (fun _ => rfl) rfl
      | _ => exact nomatch h.1
    | _ => cases h
  | .cmp o a b, S, n, W, X, C, e, h => by
    cases e with
    | Compare ea ops es p =>
      have h : (match (generalizing := false) ops, es with
        | [op], [eb] => cmpOk o op && chkE S a ea && chkE S b eb && plainE eb
        | _, _ => false) = true := h
      split at h
      · rename_i op eb _
        simp only [Bool.and_eq_true] at h
        obtain ⟨⟨⟨h1, h2⟩, h3⟩, h4⟩ := h
        exact .tst (c_cmp C h1 h4 (sndE a S n W X C ea h2).v (sndE b S n W X C eb h3).v) (c_cmpT C h1 h4 (sndE a S n W X C ea h2).v (sndE b S n W X C eb h3).v) rfl
      · cases h
    | _ => cases h
  | .chn o o' a b d, S, n, W, X, C, e, h => by
    cases e with
    | Compare ea ops es p =>
      have h : (match (generalizing := false) ops, es with
        | [op, op'], [eb, ed] => cmpOk o op && cmpOk o' op' && chkE S a ea && chkE S b eb && chkE S d ed && plainE eb && plainE ed
        | _, _ => false) = true := h
      split at h
      · rename_i op op' eb ed _
        simp only [Bool.and_eq_true] at h
        obtain ⟨⟨⟨⟨⟨⟨h1, h2⟩, h3⟩, h4⟩, h5⟩, h6⟩, h7⟩ := h
        exact .tst (c_chn C h1 h2 h6 h7 (sndE a S n W X C ea h3).v (sndE b S n W X C eb h4).v (sndE d S n W X C ed h5).v) (c_chnT C h1 h2 h6 h7 (sndE a S n W X C ea h3).v (sndE b S n W X C eb h4).v (sndE d S n W X C ed h5).v) rfl
      · cases h
    | _ => cases h
  | .and a b, S, n, W, X, C, e, h => by
    cases e with
    | BoolOp op es pos =>
      have h : (match (generalizing := false) op, es with
        | .And, ea :: eb :: r => chkE S a ea && tstE ea && (match (generalizing := false) r with
          | [] => chkE S b eb && tstE eb && !isOwn b
          | _ :: _ => chkE S b (.BoolOp .And (eb :: r) pos) && !isOwn b)
        | _, _ => false) = true := h
      split at h
      · rename_i ea eb r _
        simp only [Bool.and_eq_true] at h
        obtain ⟨⟨h1, h2⟩, h3⟩ := h
        have qa := sndE a S n W X C ea h1
        split at h3
        · simp only [Bool.and_eq_true, Bool.not_eq_true'] at h3
          have qb := sndE b S n W X C eb h3.1.1
          have w := c_andT (pos := pos) (qa.t h2) (pw_and1 (qb.t h3.1.2))
          exact ⟨c_and h3.2 qa.v (pe_one qb.v), fun _ => w.pt, fun _ => w⟩
        · simp only [Bool.and_eq_true, Bool.not_eq_true'] at h3
          have qb := sndE b S n W X C _ h3.1
          have w := c_andT (pos := pos) (qa.t h2) (qb.w rfl)
          exact ⟨c_and h3.2 qa.v qb.v, fun _ => w.pt, fun _ => w⟩
      · cases h
    | _ => cases h
  | .or a b, S, n, W, X, C, e, h => by
    cases e with
    | BoolOp op es pos =>
      have h : (match (generalizing := false) op, es with
        | .Or, ea :: eb :: r => chkE S a ea && tstE ea && (match (generalizing := false) r with
          | [] => chkE S b eb && tstE eb && !isOwn b
          | _ :: _ => chkE S b (.BoolOp .Or (eb :: r) pos) && !isOwn b)
        | _, _ => false) = true := h
      split at h
      · rename_i ea eb r _
        simp only [Bool.and_eq_true] at h
        obtain ⟨⟨h1, h2⟩, h3⟩ := h
        have qa := sndE a S n W X C ea h1
        split at h3
        · simp only [Bool.and_eq_true, Bool.not_eq_true'] at h3
          have qb := sndE b S n W X C eb h3.1.1
          have w := c_orT (pos := pos) (qa.t h2) (pw_or1 (qb.t h3.1.2))
          exact ⟨c_or h3.2 qa.v (pe_one qb.v), fun _ => w.pt, fun _ => w⟩
        · simp only [Bool.and_eq_true, Bool.not_eq_true'] at h3
          have qb := sndE b S n W X C _ h3.1
          have w := c_orT (pos := pos) (qa.t h2) (qb.w rfl)
          exact ⟨c_or h3.2 qa.v qb.v, fun _ => w.pt, fun _ => w⟩
      · cases h
    | _ => cases h
  | .not a, S, n, W, X, C, e, h => by
    cases e with
    | UnaryOp op e p =>
      have h : ((match (generalizing := false) op with
        | .Not => true
        | _ => false) && chkE S a e && tstE e) = true := h
      simp only [Bool.and_eq_true] at h
      cases op with
      | Not =>
        have q := sndE a S n W X C e h.1.2
        exact .tst (c_not q.v) (c_notT (q.t h.2)) rfl
      | _ => exact nomatch h.1.1
    | _ => cases h
  | .ite t a b, S, n, W, X, C, e, h => by
    cases e with
    | IfExp et ea eb p =>
      have h : (chkE S t et && chkE S a ea && chkE S b eb && tstE et && !isOwn a && !isOwn b) = true := h
      simp only [Bool.and_eq_true, Bool.not_eq_true'] at h
      obtain ⟨⟨⟨⟨⟨h1, h2⟩, h3⟩, h4⟩, h5⟩, h6⟩ := h
      exact ⟨c_ite h5 h6 ((sndE t S n W X C et h1).t h4) (sndE a S n W X C ea h2).v (sndE b S n W X C eb h3).v, fun z => (nomatch z), fun z => (nomatch z)⟩
    | _ => cases h
  | .tup es, S, n, W, X, C, e, h => by
    cases e with
    | Tuple l k p =>
      have h : (chkEs S es l && decide (l.length ≤ 1000)) = true := h
      rw [Bool.and_eq_true] at h
      exact .val (c_tup (chkEs_len es l h.1) (of_decide_eq_true h.2) (sndEs es S n W X C l h.1)) (fun _ => rfl) rfl
    | _ => cases h
  | .lst es, S, n, W, X, C, e, h => by
    cases e with
    | List l p =>
      have h : (chkEs S es l && decide (l.length ≤ 1000)) = true := h
      rw [Bool.and_eq_true] at h
      exact .val (c_lst (chkEs_len es l h.1) (of_decide_eq_true h.2) (sndEs es S n W X C l h.1)) (fun _ => rfl) rfl
    | _ => cases h
  | .idx a b, S, n, W, X, C, e, h => by
    cases e with
    | Subscript ea eb p =>
      have h : (chkE S a ea && chkE S b eb && plainE eb) = true := h
      simp only [Bool.and_eq_true] at h
      exact .val (c_idx h.2 (sndE a S n W X C ea h.1.1).v (sndE b S n W X C eb h.1.2).v) (fun _ => rfl) rfl
    | _ => cases h
  | .slc a l hh, S, n, W, X, C, e, h => by
    cases e with
    | Subscript ea es p =>
      have h : (chkE S a ea && (match (generalizing := false) es with
        | .Slice el eh st _ => chkO S l el && chkO S hh eh && st.isNone
        | _ => false)) = true := h
      rw [Bool.and_eq_true] at h
      cases es with
      | Slice el eh st p2 =>
        have h2 : (chkO S l el && chkO S hh eh && st.isNone) = true := h.2
        simp only [Bool.and_eq_true] at h2
        cases st with
        | none => exact .val (c_slc (sndE a S n W X C ea h.1).v (sndO l S n W X C el h2.1.1) (sndO hh S n W X C eh h2.1.2)) (fun _ => rfl) rfl
        | some _ => exact nomatch h2.2
      | _ => exact nomatch h.2
    | _ => cases h
  | .isi a t, S, n, W, X, C, e, h => by
    cases e with
    | Call f es ks p =>
      have h : (match (generalizing := false) f, es, ks with
        | .Name x _, [e, .Name y _], [] => S.blt x "isinstance" && S.blt y (Str.ofString (tyNm t)) && chkE S a e && plainE e
        | _, _, _ => false) = true := h
      split at h
      · simp only [Bool.and_eq_true] at h
        exact .val (c_isi C h.1.1.1 h.1.1.2 h.2 (sndE a S n W X C _ h.1.2).v) (fun _ => rfl) rfl
      · cases h
    | _ => cases h
  | .prm q a, S, n, W, X, C, e, h => by
    cases e with
    | Call f es ks p =>
      have h : (match (generalizing := false) f, es, ks with
        | .Name x _, [e], [] => S.blt x (Str.ofString (prmNm q)) && chkE S a e && plainE e
        | _, _, _ => false) = true := h
      split at h
      · simp only [Bool.and_eq_true] at h
        exact .val (c_prm C h.1.1 h.2 (sndE a S n W X C _ h.1.2).v) (fun _ => rfl) rfl
      · cases h
    | _ => cases h
  | .sset a, S, n, W, X, C, e, h => by
    cases e with
    | Call f es ks p =>
      have h : (match (generalizing := false) f, es, ks with
        | .Name x _, [.Call g es' ks' _], [] => (match (generalizing := false) g, es', ks' with
          | .Name y _, [e], [] => S.blt x "sorted" && S.blt y "set" && chkE S a e && plainE e
          | _, _, _ => false)
        | _, _, _ => false) = true := h
      split at h
      · split at h
        · simp only [Bool.and_eq_true] at h
          exact .val (c_sset C h.1.1.1 h.1.1.2 h.2 (sndE a S n W X C _ h.1.2).v) (fun _ => rfl) rfl
        · cases h
      · cases h
    | _ => cases h
  | .call f es, S, n, W, X, C, e, h => by
    cases e with
    | Call g l ks p =>
      have h : (match (generalizing := false) g, ks with
        | .Name x _, [] => S.gl x && okName x && S.fns.lookup x == some f && chkEs S es l
        | _, _ => false) = true := h
      split at h
      · simp only [Bool.and_eq_true] at h
        obtain ⟨⟨⟨h1, h2⟩, h3⟩, h4⟩ := h
        have hf := beq_iff_eq.mp h3
        cases l with
        | nil =>
          cases es with
          | nil => exact .val (c_call0 C h1 h2 hf) (fun _ => rfl) rfl
          | cons _ _ => cases h4
        | cons e l =>
          cases es with
          | nil => cases h4
          | cons x r =>
            have h5 : (chkE S x e && plainE e && !isOwn x && chkEs S r l) = true := h4
            simp only [Bool.and_eq_true] at h5
            exact .val (c_call C h1 h2 hf h5.1.1.2 (star_any r l X.env h5.2) (sndEs (.cons x r) S n W X C (e :: l) h4)) (fun _ => rfl) rfl
      · cases h
    | _ => cases h
  | .lc ow t it cs x, S, n, W, X, C, e, h => by
    cases e with
    | ListComp ee gs scope p =>
      have h : (match (generalizing := false) gs with
        | [⟨tg, iter, ifs, as⟩] => as == 0 && (tgSlots t).all (fun i => ow.contains i) && chkI S t it tg iter && (match (generalizing := false) ownPairs S.N ow with
          | some op => blkC S.N S.sc scope op && (chkT (S.blk scope) t tg && chkCs (S.blk scope) cs ifs && chkE (S.blk scope) x ee && plainE ee && !isOwn x)
          | none => false)
        | _ => false) = true := h
      split at h
      · rename_i tg iter ifs as _
        simp only [Bool.and_eq_true] at h
        obtain ⟨⟨⟨h1, h2⟩, h3⟩, h4⟩ := h
        cases eq_of_beq h1
        split at h4
        · rename_i op hop
          simp only [Bool.and_eq_true, Bool.not_eq_true'] at h4
          obtain ⟨g1, ⟨⟨⟨g2, g3⟩, g4⟩, g5⟩, g6⟩ := h4
          exact .val (c_lc C hop g1 h2 g6 (sndI it S n W X C t tg iter h3) (fun X' C' => c_tg C' t tg g2) (fun X' C' => sndCs cs _ n _ X' C' ifs g3) (fun X' C' => (sndE x _ n _ X' C' ee g4).v) (folded_of (chkI_plain h3) _)) (fun _ => rfl) rfl
        · cases h4
      · cases h
    | _ => cases h
theorem sndEs : ∀ (es : Exs) (S : SC) (n : Nat) (W : WX) (X : Cx), Cok S Φ XI n W X → ∀ l, chkEs S es l = true → PA X l (tA Φ XI W es)
  | .nil, S, n, W, X, C, l, h => by
    cases l with
    | nil => exact c_nil
    | cons _ _ => cases h
  | .cons x r, S, n, W, X, C, l, h => by
    cases l with
    | nil => cases h
    | cons e l =>
      have h : (chkE S x e && plainE e && !isOwn x && chkEs S r l) = true := h
      simp only [Bool.and_eq_true, Bool.not_eq_true'] at h
      exact c_cons h.1.1.2 h.1.2 (sndE x S n W X C e h.1.1.1).v (sndEs r S n W X C l h.2)
theorem sndCs : ∀ (es : Exs) (S : SC) (n : Nat) (W : WX) (X : Cx), Cok S Φ XI n W X → ∀ l, chkCs S es l = true → PTs X l (tCs Φ XI W es)
  | .nil, S, n, W, X, C, l, h => by
    cases l with
    | nil => exact t_nil
    | cons _ _ => cases h
  | .cons x r, S, n, W, X, C, l, h => by
    cases r with
    | nil =>
      cases l with
      | nil => cases h
      | cons e l =>
        cases l with
        | nil =>
          have h : (chkE S x e && tstE e) = true := h
          rw [Bool.and_eq_true] at h
          exact t_one ((sndE x S n W X C e h.1).t h.2)
        | cons _ _ => cases h
    | cons _ _ => cases l <;> cases h
theorem sndO : ∀ (o : Ox) (S : SC) (n : Nat) (W : WX) (X : Cx), Cok S Φ XI n W X → ∀ l, chkO S o l = true → PO X l (tOx Φ XI W o)
  | .non, S, n, W, X, C, l, h => by
    cases l with
    | none => exact c_nopart
    | some _ => cases h
  | .som x, S, n, W, X, C, l, h => by
    cases l with
    | none => cases h
    | some e => exact c_part (sndE x S n W X C e h).v
theorem sndI : ∀ (it : It) (S : SC) (n : Nat) (W : WX) (X : Cx), Cok S Φ XI n W X → ∀ t tg e, chkI S t it tg e = true → PI X tg e (tI Φ XI W it)
  | .seq x, S, n, W, X, C, t, tg, e, h => by
    have h : (chkE S x e && plainE e) = true := h
    rw [Bool.and_eq_true] at h
    exact i_seq (sndE x S n W X C e h.1).v
  | .rng1 a, S, n, W, X, C, t, tg, e, h => by
    cases e with
    | Call f es ks p =>
      have h : (match (generalizing := false) f, es, ks with
        | .Name x _, [e], [] => S.blt x "range" && chkE S a e && plainE e
        | _, _, _ => false) = true := h
      split at h
      · simp only [Bool.and_eq_true] at h
        exact i_rng1 C h.1.1 h.2 (sndE a S n W X C _ h.1.2).v
      · cases h
    | _ => cases h
  | .rng2 a b, S, n, W, X, C, t, tg, e, h => by
    cases e with
    | Call f es ks p =>
      have h : (match (generalizing := false) f, es, ks with
        | .Name x _, [e, e2], [] => S.blt x "range" && chkE S a e && plainE e && chkE S b e2 && plainE e2
        | _, _, _ => false) = true := h
      split at h
      · simp only [Bool.and_eq_true] at h
        obtain ⟨⟨⟨⟨h1, h2⟩, h3⟩, h4⟩, h5⟩ := h
        exact i_rng2 C h1 h3 h5 (sndE a S n W X C _ h2).v (sndE b S n W X C _ h4).v
      · cases h
    | _ => cases h
  | .rng3 a b c, S, n, W, X, C, t, tg, e, h => by
    cases e with
    | Call f es ks p =>
      have h : (match (generalizing := false) f, es, ks with
        | .Name x _, [e, e2, e3], [] => S.blt x "range" && chkE S a e && plainE e && chkE S b e2 && plainE e2 && chkE S c e3 && plainE e3
        | _, _, _ => false) = true := h
      split at h
      · simp only [Bool.and_eq_true] at h
        obtain ⟨⟨⟨⟨⟨⟨h1, h2⟩, h3⟩, h4⟩, h5⟩, h6⟩, h7⟩ := h
        exact i_rng3 C h1 h3 h5 h7 (sndE a S n W X C _ h2).v (sndE b S n W X C _ h4).v (sndE c S n W X C _ h6).v
      · cases h
    | _ => cases h
  | .enm a, S, n, W, X, C, t, tg, e, h => by
    cases e with
    | Call f es ks p =>
      have h : (isTup tg && (match (generalizing := false) f, es, ks with
        | .Name x _, [e], [] => S.blt x "enumerate" && chkE S a e && plainE e
        | _, _, _ => false)) = true := h
      rw [Bool.and_eq_true] at h
      obtain ⟨h0, h⟩ := h
      split at h
      · simp only [Bool.and_eq_true] at h
        exact i_enm C h.1.1 h0 h.2 (sndE a S n W X C _ h.1.2).v
      · cases h
    | _ => cases h
  | .zip a b, S, n, W, X, C, t, tg, e, h => by
    cases e with
    | Call f es ks p =>
      have h : (isTup tg && (match (generalizing := false) f, es, ks with
        | .Name x _, [e, e2], [] => S.blt x "zip" && chkE S a e && plainE e && chkE S b e2 && plainE e2
        | _, _, _ => false)) = true := h
      rw [Bool.and_eq_true] at h
      obtain ⟨h0, h⟩ := h
      split at h
      · simp only [Bool.and_eq_true] at h
        obtain ⟨⟨⟨⟨h1, h2⟩, h3⟩, h4⟩, h5⟩ := h
        exact i_zip C h1 h0 h3 h5 (sndE a S n W X C _ h2).v (sndE b S n W X C _ h4).v
      · cases h
    | _ => cases h
end
end EV

set_option maxHeartbeats 2000000
namespace EV
open PySem PySem.Spec PyProof.Rows L2
/-- which names are stored from the right: none, if the rule does not tell -/
def swOf (sc : Scope) (ts vs : List Expr) : Option (Option (List Str)) :=
  let names := ts.filterMap fun
    | .Name id pos => if sc.names.lookup id == some .local && pos.line == (ts.head?.map (·.pos.line)).getD 0 then some id else none
    | _ => none
  if (!(ts.length == 2 || ts.length == 3) || vs.length != ts.length) = true then some none
  else if (vs.any fun | .Starred .. => true | _ => false) = true then some none
  else if (names.length != ts.length || names.eraseDups.length != names.length) = true then some none
  else if vs.all (foldedForSure 8) = true then some none
  else if vs.all (constantsAlone 8) = true then none
  else some (some names)
theorem sw_of {sc : Scope} {env : Env} {ts vs : List Expr} {k k2 : Nat} {p p2 : Pos} {r : Option (List Str)} (hs : env.scope = sc) (hk : sc.kind = .function) (h : swOf sc ts vs = some r) :
    swappedStores [.Tuple ts k p] (.Tuple vs k2 p2) env = pure r := by
  subst hs
  have hb : (env.blockKind != .function) = false := by unfold Env.blockKind; rw [hk]; rfl
  unfold swOf at h
  unfold swappedStores
  simp only [hb, Bool.or_false, Env.kindOf] at h ⊢
  split at h
  · rename_i c; cases h; exact if_pos c
  · rename_i c
    refine (if_neg c).trans ?_
    split at h
    · rename_i c; cases h; exact if_pos c
    · rename_i c
      refine (if_neg c).trans ?_
      split at h
      · rename_i c; cases h; exact if_pos c
      · rename_i c
        refine (if_neg c).trans ?_
        split at h
        · rename_i c; cases h; exact if_pos c
        · rename_i c
          refine (if_neg c).trans ?_
          split at h
          · cases h
          · rename_i c
            cases h
            exact if_neg c
/-- whether a comprehension and its name change places -/
def swB (sc : Scope) (y : Str) (py vp : Pos) (scope : Scope) : Bool := sc.names.lookup y == some .local && py.line == vp.line && !(scope.names.any fun (n, k) => n == y && (k == .local || k == .cell))
theorem sw_lc {elt : Expr} {gs : List Comprehension} {sc scope : Scope} {pos py : Pos} {y : Str} {l : Nat} {env : Env} (hs : env.scope = sc) (hk : sc.kind = .function) : swapsWith (.ListComp elt gs scope pos) (some (.Name y py)) l env = pure (swB sc y py pos scope) := by
  subst hs
  have hb : (env.blockKind == .function) = true := by unfold Env.blockKind; rw [hk]; rfl
  unfold swapsWith swB
  simp only [hb, Env.kindOf, Bool.true_and, Expr.pos]
def isLC : Expr → Bool
  | .ListComp _ _ _ _ => true
  | _ => false
theorem sw_no {e : Expr} {t : Option Expr} {l : Nat} {env : Env} (h : plainE e = true) (h2 : isLC e = false) : swapsWith e t l env = pure false := by
  cases e <;> first | rfl | (simp [plainE] at h; done) | (simp [isLC] at h2; done)
theorem sw_sub {e o i : Expr} {l : Nat} {p : Pos} {env : Env} : swapsWithSole [.Subscript o i p] e l env = pure false := by
  cases e <;> rfl
theorem sw_tup {e : Expr} {es : List Expr} {l k : Nat} {p : Pos} {env : Env} : swapsWithSole [.Tuple es k p] e l env = pure false := by
  cases e <;> rfl
def isTupE : Expr → Bool
  | .Tuple _ _ _ => true
  | _ => false
theorem ss_no {e t : Expr} {env : Env} (h : isTupE e = false) : swappedStores [t] e env = pure none := by
  cases e <;> first | (cases t <;> rfl) | exact (nomatch h)
theorem ss_sub {e o i : Expr} {p : Pos} {env : Env} : swappedStores [.Subscript o i p] e env = pure none := by
  cases e <;> rfl
end EV

set_option maxHeartbeats 4000000
/-! EvN: slots through statements; the simple statements. -/
namespace EV
open PySem PySem.Spec PyProof.Rows L2
variable {S : SC} {Φ : Fns} {XI : XIs} {n : Nat} {W : WX} {X : Cx}

theorem no_own {lo : Lo} {i j : Nat} {d : D} {ds : List D} (h : (lo.set i (.fz d))[j]? = some (.own ds)) : i ≠ j := by
  rintro rfl
  rw [List.getElem?_set] at h
  by_cases hl : i < lo.length
  · rw [if_pos rfl, if_pos hl] at h; cases h
  · rw [if_pos rfl, if_neg hl] at h; cases h
theorem set_same {α : Type} {l : List α} {i : Nat} {x y : α} (h : l[i]? = some x) : (l.set i y)[i]? = some y := by
  rw [List.getElem?_set_self (List.getElem?_eq_some_iff.mp h).1]

/-- the frame's slots, its own lists new since H0 -/
structure SS (γ : Option Addr) (H0 : Hp) (lo : Lo) (c : Cup) (σ : L2.St) (H : Hp) : Prop where
  r : RS γ lo c σ H
  same : SameC γ H0 H
  fr : ∀ (i : Nat) (ds : List D) (a : Addr), lo[i]? = some (.own ds) → σ[i]? = some (some (.ref a)) → H0 a = none
section
variable {γ : Option Addr} {H0 H H' : Hp} {lo lo' : Lo} {c c' : Cup} {σ σ' : L2.St}
theorem SS.go (s : SS γ H0 lo c σ H) (q : SameC γ H H') (k : CupAt γ c' H') : SS γ H0 lo c' σ H' := ⟨s.r.same q k, s.same.trans q, s.fr⟩
theorem SS.ow (s : SS γ H0 lo c σ H) (R : RS γ lo' c σ' H) (o : Ow lo σ lo' σ') : SS γ H0 lo' c σ' H := ⟨R, s.same, fun i ds a h1 h2 => by
  obtain ⟨h3, h4⟩ := o i ds h1
  exact s.fr i ds a h3 (h4 ▸ h2)⟩
theorem SS.put (s : SS γ H0 lo c σ H) {v : V} {d : D} (r : Rep γ H v d) (i : Nat) : SS γ H0 (lo.set i (.fz d)) c (σ.set i (some v)) H := s.ow (s.r.put r i) ow_fz
/-- an own list, just made -/
theorem RS.putO {p : Addr} {xs : List V} {ds : List D} (R : RS γ lo c σ H) (g : γ ≠ some p) (e : H p = some (.lst xs)) (rs : Reps γ H xs ds) (i : Nat) (hf : ∀ (j : Nat) (es : List D), lo[j]? = some (.own es) → σ[j]? ≠ some (some (.ref p))) :
    RS γ (lo.set i (.own ds)) c (σ.set i (some (.ref p))) H := by
  refine ⟨fun j d h => ?_, fun j es h => ?_, fun j k es fs a h1 h2 h3 h4 => ?_, R.cu, by rw [List.length_set, List.length_set, R.ln]⟩
  · have ne : i ≠ j := by
      rintro rfl
      rw [List.getElem?_set] at h
      by_cases hl : i < lo.length
      · rw [if_pos rfl, if_pos hl] at h; cases h
      · rw [if_pos rfl, if_neg hl] at h; cases h
    rw [List.getElem?_set_ne ne] at h ⊢
    exact R.fz j d h
  · by_cases ne : i = j
    · subst ne
      rw [List.getElem?_set] at h
      by_cases hl : i < lo.length
      · rw [if_pos rfl, if_pos hl] at h
        cases h
        exact ⟨p, xs, by rw [List.getElem?_set_self (by rw [← R.ln]; exact hl)], e, rs, g⟩
      · rw [if_pos rfl, if_neg hl] at h; cases h
    · rw [List.getElem?_set_ne ne] at h ⊢
      exact R.ow j es h
  · by_cases n1 : i = j
    · by_cases n2 : i = k
      · rw [← n1, ← n2]
      · subst n1
        rw [List.getElem?_set_ne n2] at h2 h4
        rw [List.getElem?_set] at h3
        by_cases hl : i < σ.length
        · rw [if_pos rfl, if_pos hl] at h3
          cases h3
          exact absurd h4 (hf k fs h2)
        · rw [if_pos rfl, if_neg hl] at h3; cases h3
    · by_cases n2 : i = k
      · subst n2
        rw [List.getElem?_set_ne n1] at h1 h3
        rw [List.getElem?_set] at h4
        by_cases hl : i < σ.length
        · rw [if_pos rfl, if_pos hl] at h4
          cases h4
          exact absurd h3 (hf j es h1)
        · rw [if_pos rfl, if_neg hl] at h4; cases h4
      · rw [List.getElem?_set_ne n1] at h1 h3
        rw [List.getElem?_set_ne n2] at h2 h4
        exact R.un j k es fs a h1 h2 h3 h4
theorem SS.putO {p : Addr} {xs : List V} {ds : List D} (s : SS γ H0 lo c σ H) (g : γ ≠ some p) (n : H0 p = none) (e : H p = some (.lst xs)) (rs : Reps γ H xs ds) (i : Nat) (hf : ∀ (j : Nat) (es : List D), lo[j]? = some (.own es) → σ[j]? ≠ some (some (.ref p))) :
    SS γ H0 (lo.set i (.own ds)) c (σ.set i (some (.ref p))) H := by
  refine ⟨s.r.putO g e rs i hf, s.same, fun j es a h1 h2 => ?_⟩
  by_cases ne : i = j
  · subst ne
    rw [List.getElem?_set] at h2
    by_cases hl : i < σ.length
    · rw [if_pos rfl, if_pos hl] at h2
      cases h2
      exact n
    · rw [if_pos rfl, if_neg hl] at h2; cases h2
  · rw [List.getElem?_set_ne ne] at h1 h2
    exact s.fr j es a h1 h2
/-- an own list, written -/
theorem SS.upd {i : Nat} {a : Addr} {xs ys : List V} {ds es : List D} (s : SS γ H0 lo c σ H) (hi : lo[i]? = some (.own ds)) (hs : σ[i]? = some (some (.ref a))) (e : H a = some (.lst xs)) (rs : Reps γ H ys es) (g : γ ≠ some a) :
    SS γ H0 (lo.set i (.own es)) c σ (L2.upd H a (.lst ys)) := by
  have st : Sta H (L2.upd H a (.lst ys)) := Sta.lst e
  have own : ∀ (j : Nat) (fs : List D), (lo.set i (.own es))[j]? = some (.own fs) → ∃ gs : List D, lo[j]? = some (.own gs) := fun j fs h => by
    by_cases ne : i = j
    · subst ne; exact ⟨ds, hi⟩
    · rw [List.getElem?_set_ne ne] at h; exact ⟨fs, h⟩
  refine ⟨⟨fun j d h => ?_, fun j fs h => ?_, fun j k fs gs b h1 h2 h3 h4 => ?_, s.r.cu.ne g, by rw [List.length_set, s.r.ln]⟩, s.same.updN (s.fr i ds a hi hs), fun j fs b h1 h2 => ?_⟩
  · have ne : i ≠ j := by
      rintro rfl
      rw [set_same hi] at h; cases h
    rw [List.getElem?_set_ne ne] at h
    obtain ⟨v, h1, h2⟩ := s.r.fz j d h
    exact ⟨v, h1, h2.sta st⟩
  · by_cases ne : i = j
    · subst ne
      rw [set_same hi] at h
      cases h
      exact ⟨a, ys, hs, upd_same, rs.sta st, g⟩
    · rw [List.getElem?_set_ne ne] at h
      obtain ⟨b, zs, h1, h2, h3, h4⟩ := s.r.ow j fs h
      have nb : b ≠ a := fun z => by
        subst z
        exact ne (s.r.un i j _ _ _ hi h hs h1)
      exact ⟨b, zs, h1, by rw [upd_ne nb]; exact h2, h3.sta st, h4⟩
  · obtain ⟨fs', h1⟩ := own j fs h1
    obtain ⟨gs', h2⟩ := own k gs h2
    exact s.r.un j k _ _ b h1 h2 h3 h4
  · obtain ⟨fs', h1⟩ := own j fs h1
    exact s.fr j _ b h1 h2
/-- an own list, from now on fixed -/
theorem SS.frz {i : Nat} {a : Addr} {xs : List V} {ds : List D} {o : Obj} (s : SS γ H0 lo c σ H) (hi : lo[i]? = some (.own ds)) (hs : σ[i]? = some (some (.ref a))) (e : H a = some (.lst xs)) (rs : Reps γ H xs ds) (g : γ ≠ some a) :
    SS γ H0 (lo.set i (.fz (.lst ds))) c σ (L2.upd H a (.frz o (.lst xs))) := by
  have st : Sta H (L2.upd H a (.frz o (.lst xs))) := Sta.lst e
  refine ⟨⟨fun j d h => ?_, fun j fs h => ?_, fun j k fs gs b h1 h2 h3 h4 => ?_, s.r.cu.ne g, by rw [List.length_set, s.r.ln]⟩, s.same.updN (s.fr i ds a hi hs), fun j fs b h1 h2 => ?_⟩
  · by_cases ne : i = j
    · subst ne
      rw [set_same hi] at h
      cases h
      exact ⟨_, hs, .lst upd_same (rs.sta st)⟩
    · rw [List.getElem?_set_ne ne] at h
      obtain ⟨v, h1, h2⟩ := s.r.fz j d h
      exact ⟨v, h1, h2.sta st⟩
  · have ne := no_own h
    rw [List.getElem?_set_ne ne] at h
    obtain ⟨b, zs, h1, h2, h3, h4⟩ := s.r.ow j fs h
    have nb : b ≠ a := fun z => by
      subst z
      exact ne (s.r.un i j _ _ _ hi h hs h1)
    exact ⟨b, zs, h1, by rw [upd_ne nb]; exact h2, h3.sta st, h4⟩
  · have n1 := no_own h1
    have n2 := no_own h2
    rw [List.getElem?_set_ne n1] at h1
    rw [List.getElem?_set_ne n2] at h2
    exact s.r.un j k _ _ b h1 h2 h3 h4
  · have n1 := no_own h1
    rw [List.getElem?_set_ne n1] at h1
    exact s.fr j _ b h1 h2
/-- the cup, written -/
theorem SS.cup {a : Addr} (s : SS γ H0 lo c σ H) (g : γ = some a) : SS γ H0 lo c' σ (L2.upd H a (.lst [.int c'.1, .int c'.2])) := by
  have st : Sta H (L2.upd H a (.lst [.int c'.1, .int c'.2])) := Sta.lst (s.r.cu a g)
  refine ⟨⟨fun j d h => ?_, fun j fs h => ?_, s.r.un, fun b z => ?_, s.r.ln⟩, fun b o h ng => ?_, s.fr⟩
  · obtain ⟨v, h1, h2⟩ := s.r.fz j d h
    exact ⟨v, h1, h2.sta st⟩
  · obtain ⟨b, zs, h1, h2, h3, h4⟩ := s.r.ow j fs h
    exact ⟨b, zs, h1, by rw [upd_ne (fun z => h4 (by rw [g, z]))]; exact h2, h3.sta st, h4⟩
  · rw [g] at z; cases z; exact upd_same
  · rw [upd_ne (fun z => ng (by rw [g, z]))]; exact s.same b o h ng
end

/-! ### what is wanted behind a statement -/
def XZ (XI : XIs) (γ : Option Addr) (H0 : Hp) (W : WX) : Nat → Int → Cup → Prop := fun n m u => ∀ cls d σ' H', CupAt γ u H' → SameC γ H0 H' → XI n m cls d H' → W cls d σ' H'
def SEnd (γ : Option Addr) (H0 H : Hp) (E : Ends) : Flo → Prop
  | .nx lo c => ∀ σ' H', SS γ H0 lo c σ' H' → Sta H H' → E.nx σ' H'
  | .bk lo c => ∀ σ' H', SS γ H0 lo c σ' H' → Sta H H' → E.bk σ' H'
  | .ct lo c => ∀ σ' H', SS γ H0 lo c σ' H' → Sta H H' → E.ct σ' H'
  | .rt d c => ∀ v H', CupAt γ c H' → SameC γ H0 H' → Rep γ H' v d → E.rt v H'
def tS (Φ : Fns) (XI : XIs) (W : WX) (s : Sm) : TS := fun E σ H => ∃ γ H0 lo c, SS γ H0 lo c σ H ∧ Aft (XZ XI γ H0 W) (exS Φ s lo c) (SEnd γ H0 H E)
def tSs (Φ : Fns) (XI : XIs) (W : WX) (s : Sms) : TS := fun E σ H => ∃ γ H0 lo c, SS γ H0 lo c σ H ∧ Aft (XZ XI γ H0 W) (exSs Φ s lo c) (SEnd γ H0 H E)
section
variable {γ : Option Addr} {H0 H H1 : Hp} {lo : Lo} {c : Cup} {σ : L2.St} {β : Type} {x : Ex} {k : β → Prop}
theorem XZ.xw (s : SameC γ H0 H) {n : Nat} {m : Int} {u : Cup} (h : XZ XI γ H0 W n m u) : XW XI γ W σ H n m u := fun cls d H' kc sc q => h cls d σ H' kc (s.trans sc) q
theorem SEnd.mono {E : Ends} {f : Flo} (s : Sta H H1) (h : SEnd γ H0 H E f) : SEnd γ H0 H1 E f := by
  cases f with
  | nx lo c => exact fun σ' H' q t => h σ' H' q (s.trans t)
  | bk lo c => exact fun σ' H' q t => h σ' H' q (s.trans t)
  | ct lo c => exact fun σ' H' q t => h σ' H' q (s.trans t)
  | rt d c => exact h
theorem seE {f : D × Cup → Res β} {Q : VK} (s : SS γ H0 lo c σ H) (h : Aft (XZ XI γ H0 W) ((evE Φ x lo c).bind f) k)
    (hQ : ∀ v H1 d c1, SS γ H0 lo c1 σ H1 → SameC γ H H1 → RepX (isOwn x) γ H1 v d → Aft (XZ XI γ H0 W) (f (d, c1)) k → Q v H1) : tE Φ XI W x σ H Q :=
  ⟨γ, lo, c, s.r, h.bind.mono (fun _ _ _ q => q.xw s.same) fun r hr v H' kc sc rp => hQ v H' r.1 r.2 (s.go sc kc) sc rp hr⟩
theorem seO {f : D × Cup → Res β} {Q : VK} (hl : ∀ lo c r, evE Φ x lo c = .ok r → ∃ ds, r.1 = .lst ds) (s : SS γ H0 lo c σ H) (h : Aft (XZ XI γ H0 W) ((evE Φ x lo c).bind f) k)
    (hQ : ∀ p xs H1 ds c1, SS γ H0 lo c1 σ H1 → SameC γ H H1 → H p = none → γ ≠ some p → H1 p = some (.lst xs) → Reps γ H1 xs ds → Aft (XZ XI γ H0 W) (f (.lst ds, c1)) k → Q (.ref p) H1) : tO Φ XI W x σ H Q := by
  refine ⟨γ, lo, c, s.r, ?_⟩
  cases q : evE Φ x lo c with
  | bad => rw [q] at h; exact h
  | exc a b u => rw [q] at h; exact XZ.xw s.same h
  | ok r =>
    rw [q] at h
    obtain ⟨ds, e⟩ := hl lo c r q
    obtain ⟨d, u⟩ := r
    cases e
    exact ⟨ds, rfl, fun p xs H' hp gp hx rs kc sc => hQ p xs H' ds u (s.go sc kc) sc hp gp hx rs h⟩
theorem seT {f : Bool → Cup → Res β} {Q : Bool → Hp → Prop} (s : SS γ H0 lo c σ H) (h : Aft (XZ XI γ H0 W) ((evE Φ x lo c).bind fun r => asB r.1 fun b => f b r.2) k)
    (hQ : ∀ b H1 c1, SS γ H0 lo c1 σ H1 → SameC γ H H1 → Aft (XZ XI γ H0 W) (f b c1) k → Q b H1) : tT Φ XI W x σ H Q := by
  refine ⟨γ, lo, c, s.r, ?_⟩
  cases q : evE Φ x lo c with
  | bad => rw [q] at h; exact h
  | exc a b u => rw [q] at h; exact XZ.xw s.same h
  | ok r =>
    rw [q] at h
    obtain ⟨b, e, h⟩ := Aft.asB (show Aft _ (asB r.1 fun b => f b r.2) k from h)
    show Aft _ (asB r.1 _) _
    rw [e]
    exact fun H' kc sc => hQ b H' r.2 (s.go sc kc) sc h
end
theorem _root_.L2.PS.weak {st : Stmt} {t t' : TS} (h : PS X st t) (w : ∀ D σ H, t' D σ H → t D σ H) : PS X st t' := ⟨fun pins s σ H D I q => h.run pins s σ H D I (w D σ H q)⟩
theorem _root_.L2.PSs.weak {st : List Stmt} {t t' : TS} (h : PSs X st t) (w : ∀ D σ H, t' D σ H → t D σ H) : PSs X st t' := ⟨fun pins s σ H D I q => h.run pins s σ H D I (w D σ H q)⟩

/-! ### stores -/
variable {a : Ex} {ea : Expr} {pos px : Pos} {x : Str} {i : Nat}
theorem s_set (C : Cok S Φ XI n W X) (hi : S.N[i]? = some x) (hs : S.sto x = true) (hp : plainE ea = true) (hl : isLC ea = false) (ho : isOwn a = false) (ha : PE X ea (tE Φ XI W a)) : PS X (.Assign [.Name x px] ea pos) (tS Φ XI W (.set i a)) := by
  obtain ⟨h1, h2⟩ := C.st x hs
  refine (ps_set (by rw [C.hN]; exact C.nd) (by rw [C.hN]; exact hi) h1 ha (sw_no hp hl) h2).weak fun E σ H ⟨γ, H0, lo, c, s, h⟩ => ?_
  refine seE s h fun v H1 d c1 s1 q1 r1 h1 => ?_
  rw [ho] at r1
  exact h1 _ _ (s1.put r1 i) (q1.sta s.r.cu)
/-- the wish at a name that takes a new list -/
theorem wO (hlst : ∀ lo c r, evE Φ a lo c = .ok r → ∃ ds, r.1 = .lst ds) {E : Ends} {σ : L2.St} {H : Hp} (h : tS Φ XI W (.setO i a) E σ H) : tAsg (tO Φ XI W a) (gName i) E σ H := by
  obtain ⟨γ, H0, lo, c, s, h⟩ := h
  refine seO hlst s h fun p xs H1 ds c1 s1 q1 n1 g1 e1 r1 h1 => ?_
  have n0 : H0 p = none := by
    cases q : H0 p with
    | none => rfl
    | some o =>
      have := s.same p o q g1
      rw [n1] at this; cases this
  refine h1 _ _ (s1.putO g1 n0 e1 r1 i fun j es hj z => ?_) (q1.sta s.r.cu)
  obtain ⟨b, ys, h2, h3, _, _⟩ := s.r.ow j es hj
  rw [z] at h2
  cases h2
  rw [n1] at h3; cases h3
theorem s_setO (C : Cok S Φ XI n W X) (hi : S.N[i]? = some x) (hs : S.sto x = true) (hsw : ∀ l, swapsWith ea (some (.Name x px)) l X.env = pure false) (hlst : ∀ lo c r, evE Φ a lo c = .ok r → ∃ ds, r.1 = .lst ds) (ha : PE X ea (tO Φ XI W a)) : PS X (.Assign [.Name x px] ea pos) (tS Φ XI W (.setO i a)) := by
  obtain ⟨h1, h2⟩ := C.st x hs
  exact (ps_set (by rw [C.hN]; exact C.nd) (by rw [C.hN]; exact hi) h1 ha (hsw _) h2).weak fun E σ H h => wO hlst h
theorem c_lstO {es : Exs} {l : List Expr} (hl : es.len = l.length) (h1 : l.length ≤ 1000) (ha : PA X l (tA Φ XI W es)) : PE X (.List l pos) (tO Φ XI W (.lst es)) := by
  refine (pe_lst ha).weak fun σ H Q ⟨γ, lo, c, R, h⟩ => ?_
  have h : Aft (XW XI γ W σ H) ((evEs Φ es lo c).bind fun x => .ok (D.lst x.1, x.2)) _ := h
  cases q : evEs Φ es lo c with
  | bad => rw [q] at h; exact h.elim
  | exc a b u => rw [q] at h; exact ⟨γ, lo, c, R, by rw [q]; exact h⟩
  | ok r =>
    have hn := evEs_len es q
    rw [q] at h
    obtain ⟨ds, e, h⟩ := h
    cases e
    refine ⟨γ, lo, c, R, ?_⟩
    rw [q]
    refine fun vs H' kc sc rp => ⟨?_, fun p hp => ?_⟩
    · rw [rp.length, hn, hl]; exact small_len h1
    · have g : γ ≠ some p := fun z => by
        have := kc p z
        rw [hp] at this; cases this
      have hp0 : H p = none := by
        cases q : H p with
        | none => rfl
        | some o =>
          have := sc p o q g
          rw [hp] at this; cases this
      exact h p vs _ hp0 g upd_same (rp.sta (Sta.new hp)) (kc.new hp) (sc.trans (SameC.new hp))
theorem lst_lst {es : Exs} {lo : Lo} {c : Cup} {r : D × Cup} (h : evE Φ (.lst es) lo c = .ok r) : ∃ ds, r.1 = .lst ds := by
  obtain ⟨a, _, h⟩ := bind_ok (show (evEs Φ es lo c).bind _ = _ from h)
  cases h
  exact ⟨_, rfl⟩
/-- list(..), still to be changed -/
def rLs : List V → Hp → VK → Prop := fun xs H Q => ∃ γ c x d ds, xs = [x] ∧ CupAt γ c H ∧ RepW γ H x d ∧ prmD .list d = .ok (.lst ds) ∧ ∀ p ys H', H p = none → γ ≠ some p → H' p = some (.lst ys) → Reps γ H' ys ds → CupAt γ c H' → SameC γ H H' → Q (.ref p) H'
theorem prm_listO : CallR X (.type "list") rLs := by
  intro pins s σ H xs us Q I r ⟨γ, c, x, d, ds, e, k, hx, hz, q⟩
  have go : ∀ p ys, x = .ref p → (SqL X.K H p ys ∨ SqT X.K H p ys) → Reps γ H ys ds → wpAny (model X.prog X.w) X.A (call (.type "list") us) (EP X pins σ Q) X.xe s := fun p ys ex hp r' => by
    subst ex
    exact call_list_of pins s σ H xs us Q I r ⟨p, ys, e, hp, fun l hl => q l ys _ hl (fun z => by
      have := k l z
      rw [hl] at this; cases this) upd_same (r'.sta (Sta.new hl)) (k.new hl) (SameC.new hl)⟩
  cases d with
  | tup es =>
    cases ok_inj hz
    obtain ⟨p, ys, rfl, _, hp, r'⟩ := hx.tup (K := X.K)
    exact go p ys rfl (.inr hp) r'
  | lst es =>
    cases ok_inj hz
    obtain ⟨p, ys, rfl, _, hp, r'⟩ := hx.list (K := X.K)
    exact go p ys rfl (.inl hp) r'
  | _ => cases hz
theorem list_lst {a : Ex} {lo : Lo} {c : Cup} {r : D × Cup} (h : evE Φ (.prm .list a) lo c = .ok r) : ∃ ds, r.1 = .lst ds := by
  obtain ⟨y, _, h⟩ := bind_ok (show (evE Φ a lo c).bind _ = _ from h)
  obtain ⟨z, h2, h⟩ := bind_ok h
  cases h
  obtain ⟨d, u⟩ := y
  cases d <;> first | (cases h2; exact ⟨_, rfl⟩) | cases h2
theorem c_listO {e : Expr} {y : Str} {p : Pos} (C : Cok S Φ XI n W X) (h1 : S.blt y "list" = true) (hp : plainE e = true) (ha : PE X e (tE Φ XI W a)) :
    PE X (.Call (.Name y p) [e] [] pos) (tO Φ XI W (.prm .list a)) := by
  obtain ⟨rfl, g1, m1⟩ := C.blt h1
  refine (pe_callTy prm_listO g1 m1 (by decide +kernel) (pa_cons ha pa_nil (starE hp)) (by decide) (by decide) (starE hp) rfl).weak fun σ H Q ⟨γ, lo, c, R, h⟩ => ?_
  refine useE R h fun v H1 d c1 R1 s1 r1 h1 => ?_
  obtain ⟨z, hz, q⟩ := h1.pure prmD_nx
  obtain ⟨ds, e, q⟩ := q
  cases e
  refine ⟨γ, c1, v, d, ds, rfl, R1.cu, r1.w, hz, fun p ys H' hp g e rs kc sc => q p ys H' ?_ g e rs kc (s1.trans sc)⟩
  cases q : H p with
  | none => rfl
  | some o =>
    have := s1 p o q g
    rw [hp] at this; cases this
/-- name = [.. for ..] -/
theorem s_setLc {ow : List Nat} {t : Tg} {it : It} {cs : Exs} {y : Ex} {ee tg iter : Expr} {ifs : List Expr} {scope : Scope} {op : List (Str × Nat)} {lp : Pos} (C : Cok S Φ XI n W X) (hk : S.sc.kind = .function) (hi : S.N[i]? = some x) (hst : S.sto x = true) (hop : ownPairs S.N ow = some op) (hb : blkC S.N S.sc scope op = true)
    (hsub : (tgSlots t).all (fun i => ow.contains i) = true) (ho : isOwn y = false) (hit : PI X tg iter (tI Φ XI W it))
    (hg : ∀ X', Cok (S.blk scope) Φ XI n (fun _ _ _ _ => False) X' → PG X' tg (tG t)) (ht : ∀ X', Cok (S.blk scope) Φ XI n (fun _ _ _ _ => False) X' → PTs X' ifs (tCs Φ XI (fun _ _ _ _ => False) cs))
    (he : ∀ X', Cok (S.blk scope) Φ XI n (fun _ _ _ _ => False) X' → PE X' ee (tE Φ XI (fun _ _ _ _ => False) y)) (hs : ∀ v, foldedSetIterable iter X.env v = pure v) :
    PS X (.Assign [.Name x px] (.ListComp ee [⟨tg, iter, ifs, 0⟩] scope lp) pos) (tS Φ XI W (.setO i (.lc ow t it cs y))) := by
  have hsw := fun l => sw_lc (elt := ee) (gs := [⟨tg, iter, ifs, 0⟩]) (scope := scope) (pos := lp) (py := px) (y := x) (l := l) C.hsc hk
  cases q : swB S.sc x px lp scope with
  | false =>
    refine s_setO C hi hst (fun l => by rw [hsw l, q]) (fun lo c r => lc_lst) (c_lcO C hop hb hsub ho hit hg ht he hs)
  | true =>
    have ok : BlkOk X.N X.env.scope scope op := by
      rw [C.hN, C.hsc]; exact blkOk_by hb
    have hyl : X.env.scope.names.lookup x = some .local := by
      unfold swB at q
      simp only [Bool.and_eq_true] at q
      rw [C.hsc]
      exact beq_iff_eq.mp q.1.1
    refine (ps_setLc C.calm (by rw [C.hN]; exact C.nd) (by rw [C.hN]; exact hi) hyl (by rw [hsw, q]) hit ok (fun s H Ca cl fp => hg _ (C.blk s H scope Ca cl fp)) (fun s H Ca cl fp => ht _ (C.blk s H scope Ca cl fp)) (fun s H Ca cl fp => he _ (C.blk s H scope Ca cl fp)) hs).weak fun E σ H h => ?_
    rw [ownPairs_snd hop]
    exact lc_wish hsub ho (wO (fun lo c r => lc_lst) h)
end EV

set_option maxHeartbeats 4000000
/-! EvO: the other statements. -/
namespace EV
open PySem PySem.Spec PyProof.Rows L2
variable {S : SC} {Φ : Fns} {XI : XIs} {n : Nat} {W : WX} {X : Cx} {a b : Ex} {ea eb : Expr} {pos px : Pos} {x y : Str} {i j : Nat}

/-! ### several at once -/
inductive RepM (γ : Option Addr) (H0 H : Hp) : List Bool → List V → List D → Prop
  | nil : RepM γ H0 H [] [] []
  | fz {fl : List Bool} {v : V} {vs : List V} {d : D} {ds : List D} : Rep γ H v d → RepM γ H0 H fl vs ds → RepM γ H0 H (false :: fl) (v :: vs) (d :: ds)
  | ow {fl : List Bool} {p : Addr} {xs vs : List V} {l ds : List D} : H0 p = none → γ ≠ some p → H p = some (.lst xs) → Reps γ H xs l → V.ref p ∉ vs → RepM γ H0 H fl vs ds → RepM γ H0 H (true :: fl) (.ref p :: vs) (.lst l :: ds)
theorem Rep.notL {γ : Option Addr} {H : Hp} {p : Addr} {xs : List V} {v : V} {d : D} (r : Rep γ H v d) (e : H p = some (.lst xs)) (g : γ ≠ some p) : v ≠ .ref p := by
  rintro rfl
  cases r with
  | tup h _ => rw [e] at h; cases h
  | lst h _ => rw [e] at h; cases h
  | cup h => exact g h
theorem RepM.notL {γ : Option Addr} {H0 H : Hp} {p : Addr} {xs ys : List V} (e0 : H0 p = some (.lst ys)) (e : H p = some (.lst xs)) (g : γ ≠ some p) : ∀ {fl : List Bool} {vs : List V} {ds : List D}, RepM γ H0 H fl vs ds → V.ref p ∉ vs
  | _, _, _, .nil, h => nomatch h
  | _, _, _, .fz r t, h => by
    rcases List.mem_cons.mp h with z | z
    · exact r.notL e g z.symm
    · exact t.notL e0 e g z
  | _, _, _, .ow n _ _ _ _ t, h => by
    rcases List.mem_cons.mp h with z | z
    · cases z
      rw [e0] at n; cases n
    · exact t.notL e0 e g z
theorem RepM.back {γ : Option Addr} {H0 H1 H : Hp} (s : SameC γ H0 H1) : ∀ {fl : List Bool} {vs : List V} {ds : List D}, RepM γ H1 H fl vs ds → RepM γ H0 H fl vs ds
  | _, _, _, .nil => .nil
  | _, _, _, .fz r t => .fz r (t.back s)
  | _, _, _, .ow (p := p) h1 h2 h3 h4 h5 t => .ow (by
      cases q : H0 p with
      | none => rfl
      | some o => rw [s p o q h2] at h1; cases h1) h2 h3 h4 h5 (t.back s)
def tM (Φ : Fns) (XI : XIs) (W : WX) (fl : List Bool) (es : Exs) : TA := fun σ H Q => ∃ γ lo c, RS γ lo c σ H ∧ Aft (XW XI γ W σ H) (evEs Φ es lo c) fun r => ∃ ok : Unit, ∀ vs H', CupAt γ r.2 H' → SameC γ H H' → RepM γ H H' fl vs r.1 → Q vs H'
theorem m_nil : PA X [] (tM Φ XI W [] .nil) := ⟨fun pos pins s σ H Q I ⟨γ, lo, c, R, _, q⟩ => pa_nil.run pos pins s σ H Q I (q [] H R.cu SameC.refl .nil)⟩
theorem m_fz {r : Exs} {l : List Expr} {fl : List Bool} (hp : plainE ea = true) (ho : isOwn a = false) (ha : PE X ea (tE Φ XI W a)) (hr : PA X l (tM Φ XI W fl r)) : PA X (ea :: l) (tM Φ XI W (false :: fl) (.cons a r)) := by
  refine (pa_cons ha hr (starE hp)).weak fun σ H Q ⟨γ, lo, c, R, h⟩ => ?_
  refine useE R h fun v H1 d c1 R1 s1 r1 h1 => ?_
  rw [ho] at r1
  refine ⟨γ, lo, c1, R1, (Aft.bind h1).mono (fun _ _ _ z => z) fun q hq => ?_⟩
  obtain ⟨_, hq⟩ := hq
  exact ⟨(), fun vs H2 k2 s2 m => hq (v :: vs) H2 k2 (s1.trans s2) (.fz (Rep.sta (s2.sta R1.cu) r1) (m.back s1))⟩
theorem m_ow {r : Exs} {l : List Expr} {fl : List Bool} (hp : plainE ea = true) (hlst : ∀ lo c r, evE Φ a lo c = .ok r → ∃ ds, r.1 = .lst ds) (ha : PE X ea (tO Φ XI W a)) (hr : PA X l (tM Φ XI W fl r)) : PA X (ea :: l) (tM Φ XI W (true :: fl) (.cons a r)) := by
  refine (pa_cons ha hr (starE hp)).weak fun σ H Q ⟨γ, lo, c, R, h⟩ => ?_
  have h : Aft _ ((evE Φ a lo c).bind fun x => (evEs Φ r lo x.2).bind fun y => .ok (x.1 :: y.1, y.2)) _ := h
  refine ⟨γ, lo, c, R, ?_⟩
  cases q : evE Φ a lo c with
  | bad => rw [q] at h; exact h
  | exc _ _ _ => rw [q] at h; exact h
  | ok z =>
    rw [q] at h
    obtain ⟨ds, e⟩ := hlst lo c z q
    obtain ⟨d, c1⟩ := z
    cases e
    refine ⟨ds, rfl, fun p xs H1 n1 g1 e1 r1 k1 s1 => ?_⟩
    have h : Aft (XW XI γ W σ H) ((evEs Φ r lo c1).bind fun y => .ok (.lst ds :: y.1, y.2)) _ := h
    refine ⟨γ, lo, c1, R.same s1 k1, (Aft.bind (Aft.same s1 h)).mono (fun _ _ _ z => z) fun q hq => ?_⟩
    obtain ⟨_, hq⟩ := hq
    refine ⟨(), fun vs H2 k2 s2 m => hq (.ref p :: vs) H2 k2 (s1.trans s2) ?_⟩
    have e2 := s2 _ _ e1 g1
    exact .ow n1 g1 e2 (r1.sta (s2.sta k1)) (m.notL e1 e2 g1) (m.back s1)
def parV : List Nat → List V → L2.St → L2.St
  | i :: is, v :: vs, σ => parV is vs (σ.set i (some v))
  | _, _, σ => σ
theorem SS.par {γ : Option Addr} {H0 H' H : Hp} {c : Cup} (sc : SameC γ H0 H') : ∀ {ts : List (Nat × Bool)} {vs : List V} {ds : List D} {lo lo' : Lo} {σ : L2.St}, SS γ H0 lo c σ H → RepM γ H' H (ts.map (·.2)) vs ds →
    (∀ (j : Nat) (es : List D) (p : Addr), lo[j]? = some (.own es) → σ[j]? = some (some (.ref p)) → V.ref p ∉ vs) → parSet ts ds lo = some lo' → SS γ H0 lo' c (parV (ts.map (·.1)) vs σ) H
  | [], vs, ds, lo, lo', σ, s, m, k, e => by
    cases m
    cases e
    exact s
  | (i, false) :: ts, vs, ds, lo, lo', σ, s, m, k, e => by
    cases m with
    | @fz fl v vs d ds r t =>
      have e : parSet ts ds (lo.set i (.fz d)) = some lo' := e
      show SS γ H0 lo' c (parV (ts.map (·.1)) vs (σ.set i (some v))) H
      refine SS.par sc (s.put r i) t (fun j es p h1 h2 h3 => ?_) e
      have ne := no_own h1
      rw [List.getElem?_set_ne ne] at h1 h2
      exact k j es p h1 h2 (List.mem_cons_of_mem _ h3)
  | (i, true) :: ts, vs, ds, lo, lo', σ, s, m, k, e => by
    cases m with
    | @ow fl p xs vs l ds n g e1 r d t =>
      have n0 : H0 p = none := by
        cases q : H0 p with
        | none => rfl
        | some o => rw [sc p o q g] at n; cases n
      have e : parSet ts ds (lo.set i (.own l)) = some lo' := e
      show SS γ H0 lo' c (parV (ts.map (·.1)) vs (σ.set i (some (.ref p)))) H
      refine SS.par sc (s.putO g n0 e1 r i fun j es h1 h2 => k j es p h1 h2 List.mem_cons_self) t (fun j es q h1 h2 h3 => ?_) e
      by_cases ne : i = j
      · subst ne
        rw [List.getElem?_set] at h2
        by_cases hl : i < σ.length
        · rw [if_pos rfl, if_pos hl] at h2
          cases h2
          exact d h3
        · rw [if_pos rfl, if_neg hl] at h2; cases h2
      · rw [List.getElem?_set_ne ne] at h1 h2
        exact k j es q h1 h2 (List.mem_cons_of_mem _ h3)
theorem seM {γ : Option Addr} {H0 H : Hp} {lo : Lo} {c : Cup} {σ : L2.St} {β : Type} {k : β → Prop} {es : Exs} {f : List D × Cup → Res β} {fl : List Bool} {Q : List V → Hp → Prop} (s : SS γ H0 lo c σ H) (h : Aft (XZ XI γ H0 W) ((evEs Φ es lo c).bind f) k)
    (hQ : ∀ vs H1 ds c1, SS γ H0 lo c1 σ H1 → SameC γ H H1 → RepM γ H H1 fl vs ds → Aft (XZ XI γ H0 W) (f (ds, c1)) k → Q vs H1) : tM Φ XI W fl es σ H Q :=
  ⟨γ, lo, c, s.r, h.bind.mono (fun _ _ _ q => q.xw s.same) fun r hr => ⟨(), fun vs H' kc sc m => hQ vs H' r.1 r.2 (s.go sc kc) sc m hr⟩⟩
/-- the slots, all at once -/
theorem w_par {ts : List (Nat × Bool)} {es : Exs} {E : Ends} {σ : L2.St} {H : Hp} (h : tS Φ XI W (.par ts es) E σ H) : tM Φ XI W (ts.map (·.2)) es σ H fun vs H1 => vs.length = ts.length ∧ E.nx (parV (ts.map (·.1)) vs σ) H1 := by
  obtain ⟨γ, H0, lo, c, s, h⟩ := h
  refine seM s h fun vs H1 ds c1 s1 q1 m h1 => ?_
  obtain ⟨lo', e, h1⟩ := h1.bind.ofO
  have ml : ∀ {fl : List Bool} {vs : List V} {ds : List D}, RepM γ H H1 fl vs ds → vs.length = fl.length := fun {fl vs ds} m => by
    induction m with
    | nil => rfl
    | fz _ _ ih => rw [List.length_cons, List.length_cons, ih]
    | ow _ _ _ _ _ _ ih => rw [List.length_cons, List.length_cons, ih]
  refine ⟨by rw [ml m, List.length_map], h1 _ _ (SS.par s.same s1 m (fun j es p g1 g2 => ?_) e) (q1.sta s.r.cu)⟩
  obtain ⟨b, ys, g3, g4, _, g6⟩ := s.r.ow j es g1
  rw [g2] at g3
  cases g3
  exact m.notL g4 (q1 _ _ g4 g6) g6
theorem s_par2 {i j : Nat} {fi fj : Bool} {es : Exs} {e1 e2 : Expr} {py pt pt2 : Pos} {kt k2 : Nat} (C : Cok S Φ XI n W X) (hk : S.sc.kind = .function) (hi : S.N[i]? = some x) (hj : S.N[j]? = some y) (hij : i ≠ j) (hx : S.sc.names.lookup x = some .local) (hy : S.sc.names.lookup y = some .local)
    (hw : swOf S.sc [.Name x px, .Name y py] [e1, e2] = some (some [x, y])) (ha : PA X [e1, e2] (tM Φ XI W [fi, fj] es)) : PS X (.Assign [.Tuple [.Name x px, .Name y py] kt pt] (.Tuple [e1, e2] k2 pt2) pos) (tS Φ XI W (.par [(i, fi), (j, fj)] es)) := by
  refine (ps_par C.calm (by rw [C.hN]; exact C.nd) (by rw [C.hN]; exact hi) (by rw [C.hN]; exact hj) hij (by rw [C.hsc]; exact hx) (by rw [C.hsc]; exact hy) ha (sw_of C.hsc hk hw) sw_tup).weak fun E σ H h => ?_
  obtain ⟨γ, lo, c, R, q⟩ := w_par h
  refine ⟨γ, lo, c, R, q.mono (fun _ _ _ z => z) fun r ⟨_, hr⟩ => ⟨(), fun vs H' kc sc m => ?_⟩⟩
  obtain ⟨hl, hn⟩ := hr vs H' kc sc m
  match vs, hl, hn with
  | [v, w], _, hn => exact ⟨v, w, rfl, hn⟩
theorem s_par3 {i j l : Nat} {fi fj fl : Bool} {z : Str} {es : Exs} {e1 e2 e3 : Expr} {py pz pt pt2 : Pos} {kt k2 : Nat} (C : Cok S Φ XI n W X) (hk : S.sc.kind = .function) (hi : S.N[i]? = some x) (hj : S.N[j]? = some y) (hl : S.N[l]? = some z) (hij : i ≠ j) (hil : i ≠ l) (hjl : j ≠ l)
    (hx : S.sc.names.lookup x = some .local) (hy : S.sc.names.lookup y = some .local) (hz : S.sc.names.lookup z = some .local)
    (hw : swOf S.sc [.Name x px, .Name y py, .Name z pz] [e1, e2, e3] = some (some [x, y, z])) (ha : PA X [e1, e2, e3] (tM Φ XI W [fi, fj, fl] es)) : PS X (.Assign [.Tuple [.Name x px, .Name y py, .Name z pz] kt pt] (.Tuple [e1, e2, e3] k2 pt2) pos) (tS Φ XI W (.par [(i, fi), (j, fj), (l, fl)] es)) := by
  refine (ps_par3 C.calm (by rw [C.hN]; exact C.nd) (by rw [C.hN]; exact hi) (by rw [C.hN]; exact hj) (by rw [C.hN]; exact hl) hij hil hjl (by rw [C.hsc]; exact hx) (by rw [C.hsc]; exact hy) (by rw [C.hsc]; exact hz) ha (sw_of C.hsc hk hw) sw_tup).weak fun E σ H h => ?_
  obtain ⟨γ, lo, c, R, q⟩ := w_par h
  refine ⟨γ, lo, c, R, q.mono (fun _ _ _ z => z) fun r ⟨_, hr⟩ => ⟨(), fun vs H' kc sc m => ?_⟩⟩
  obtain ⟨hl, hn⟩ := hr vs H' kc sc m
  match vs, hl, hn with
  | [u, v, w], _, hn => exact ⟨u, v, w, rfl, hn⟩
/-- a target = a value -/
theorem s_unp {t : Tg} {tg : Expr} (C : Cok S Φ XI n W X) (ht : chkT S t tg = true) (htt : isTup tg = true) (ho : isOwn a = false) (hw : swappedStores [tg] ea X.env = pure none) (ha : PE X ea (tE Φ XI W a)) : PS X (.Assign [tg] ea pos) (tS Φ XI W (.unp t a)) := by
  obtain ⟨l, k, q, rfl⟩ := isTup_eq htt
  refine (ps_asg ha (c_tg C t _ ht) sw_tup hw rfl).weak fun E σ H ⟨γ, H0, lo, c, s, h⟩ => ?_
  refine seE s h fun v H1 d c1 s1 q1 r1 h1 => ?_
  rw [ho] at r1
  obtain ⟨lo', e, h1⟩ := h1.bind.ofO
  exact ⟨γ, lo, c1, d, lo', s1.r, r1, e, fun σ' R' _ o => h1 σ' H1 (s1.ow R' o) (q1.sta s.r.cu)⟩
def tAu (o : BinO) : TIp := fun x y H Q => ∃ γ d e z, Rep γ H x d ∧ RepW γ H y e ∧ augD o d e = .ok z ∧ ∀ v, Rep γ H v z → Q v H
def augOk : BinO → Operator → Bool
  | .add, .Add => true
  | .sub, .Sub => true
  | .mul, .Mult => true
  | _, _ => false
theorem ip_au {o : BinO} {op : Operator} (ok : augOk o op = true) : PIp X op (tAu o) := by
  intro pins s σ H x y v u Q I rx ry ⟨γ, d, e, z, r1, r2, hz, q⟩
  unfold augD at hz
  split at hz
  · rename_i a b
    have ho : op = .Add := by cases op <;> first | rfl | (simp [augOk] at ok; done)
    subst ho
    cases r1; cases r2.int; cases hz
    exact iop_add pins s σ H _ _ v u Q I rx ry ⟨_, _, rfl, rfl, q _ (.int _)⟩
  · rename_i a b
    have ho : op = .Add := by cases op <;> first | rfl | (simp [augOk] at ok; done)
    subst ho
    obtain ⟨g1, g2⟩ := need_ok hz
    cases g2
    cases r2.str
    have hx : x = .str ⟨a.toArray⟩ := RepW.str (.inl r1)
    refine iop_add_str pins s σ H x _ v u Q I rx ry ⟨_, _, hx, rfl, ?_, q _ ?_⟩
    · have := smallL_le g1
      simpa [Str.length] using this
    · have := Rep.str (γ := γ) (H := H) (⟨a.toArray⟩ ++ ⟨b.toArray⟩)
      have e : ((⟨a.toArray⟩ : Str) ++ ⟨b.toArray⟩).cps.toList = a ++ b := by
        show (a.toArray ++ b.toArray).toList = _
        simp
      rw [e] at this
      exact this
  · rename_i a b
    have ho : op = .Sub := by cases op <;> first | rfl | (simp [augOk] at ok; done)
    subst ho
    cases r1; cases r2.int; cases hz
    exact iop_sub pins s σ H _ _ v u Q I rx ry ⟨_, _, rfl, rfl, q _ (.int _)⟩
  · rename_i a b
    have ho : op = .Mult := by cases op <;> first | rfl | (simp [augOk] at ok; done)
    subst ho
    obtain ⟨g1, g2⟩ := need_ok hz
    cases g2
    cases r1; cases r2.int
    refine iop_mul pins s σ H _ _ v u Q I rx ry ⟨_, _, rfl, rfl, ?_, q _ (.int _)⟩
    unfold small64 at g1
    unfold CMul
    simpa using g1
  · cases hz
theorem s_aug {o : BinO} {op : Operator} (C : Cok S Φ XI n W X) (hi : S.N[i]? = some x) (hs : S.sto x = true) (ok : augOk o op = true) (ha : PE X ea (tE Φ XI W a)) : PS X (.AugAssign (.Name x px) op ea pos) (tS Φ XI W (.aug i o a)) := by
  obtain ⟨h1, h2⟩ := C.st x hs
  refine (ps_aug (by rw [C.hN]; exact C.nd) (by rw [C.hN]; exact hi) h1 ha (ip_au ok) h2).weak fun E σ H ⟨γ, H0, lo, c, s, h⟩ => ?_
  have h : Aft _ (match lo[i]? with
    | some (.fz d) => (evE Φ a lo c).bind fun x => (augD o d x.1).bind fun z => .ok (Flo.nx (lo.set i (.fz z)) x.2)
    | _ => .bad) _ := h
  split at h
  · rename_i d e
    obtain ⟨v, g1, g2⟩ := s.r.fz i d e
    refine ⟨v, g1, seE s h fun w H1 f c1 s1 q1 r1 h1 => ?_⟩
    cases q : augD o d f with
    | bad => rw [q] at h1; exact h1.elim
    | exc _ _ _ =>
      exfalso
      revert q
      unfold augD need
      split <;> first | (intro z; cases z; done) | (split <;> (intro z; cases z; done))
    | ok z =>
      rw [q] at h1
      exact ⟨γ, d, f, z, g2.sta (q1.sta s.r.cu), r1.w, q, fun u ru => h1 _ _ (s1.put ru i) (q1.sta s.r.cu)⟩
  · exact h.elim
/-! ### lists, written -/
theorem s_app {p2 ap cp : Pos} (C : Cok S Φ XI n W X) (hi : S.N[i]? = some x) (hv : S.vis x = true) (hn : okName x = true) (hp : plainE ea = true) (ho : isOwn a = false) (hl : (ap.endLine == cp.line) = true) (ha : PE X ea (tE Φ XI W a)) :
    PS X (.Expr (.Call (.Attribute (.Name x px) "append" ap) [ea] [] cp) pos) (tS Φ XI W (.app i a)) := by
  obtain ⟨n1, n2, _⟩ := okName_1 hn
  refine (ps_expr (pe_bm PySem.F.plainAttrs_list PySem.F.slot_list_append PySem.F.type_list_append mt_append (pe_var (i := i) (by rw [C.hN]; exact hi) (C.vis hv) n1 n2) (pa_cons ha pa_nil (starE hp)) rfl (by rw [starE hp]; rfl) hl (starE hp) rfl) rfl).weak fun E σ H ⟨γ, H0, lo, c, s, h⟩ => ?_
  have h : Aft _ (match lo[i]? with
    | some (.own ds) => (evE Φ a lo c).bind fun x => need (decide (ds.length < 16777216)) (.ok (Flo.nx (lo.set i (.own (ds ++ [x.1]))) x.2))
    | _ => .bad) _ := h
  split at h
  · rename_i ds e
    obtain ⟨b, ys, g1, g2, g3, g4⟩ := s.r.ow i ds e
    refine ⟨.ref b, g1, .inl ⟨rfl, ys, .inl (.inl g2)⟩, seE s h fun v H1 d c1 s1 q1 r1 h1 => ?_⟩
    rw [ho] at r1
    obtain ⟨hz, h1⟩ := h1.need
    have hz : ds.length < 16777216 := of_decide_eq_true hz
    have e2 := q1 _ _ g2 g4
    have st := q1.sta s.r.cu
    refine ⟨b, ys, v, rfl, rfl, e2, by rw [g3.length, sizeLine_eq]; exact hz, ?_⟩
    exact h1 _ _ (s1.upd e g1 e2 ((g3.sta st).app (.cons r1 .nil)) g4) (st.trans (Sta.lst e2))
  · exact h.elim
theorem s_pop {p2 ap cp py : Pos} (C : Cok S Φ XI n W X) (hi : S.N[i]? = some x) (hj : S.N[j]? = some y) (hv : S.vis x = true) (hn : okName x = true) (hs : S.sto y = true) (hij : i ≠ j) (hl : (ap.endLine == cp.line) = true) :
    PS X (.Assign [.Name y py] (.Call (.Attribute (.Name x px) "pop" ap) [] [] cp) pos) (tS Φ XI W (.pop i j)) := by
  obtain ⟨n1, n2, _⟩ := okName_1 hn
  obtain ⟨h1, h2⟩ := C.st y hs
  refine (ps_set (by rw [C.hN]; exact C.nd) (by rw [C.hN]; exact hj) h1 (pe_bm0 PySem.F.plainAttrs_list PySem.F.slot_list_pop PySem.F.type_list_pop mt_pop (pe_var (i := i) (by rw [C.hN]; exact hi) (C.vis hv) n1 n2) rfl hl) rfl h2).weak fun E σ H ⟨γ, H0, lo, c, s, h⟩ => ?_
  have h : Aft _ (match lo[i]? with
    | some (.own ds) => match ds.getLast? with
      | some d => .ok (Flo.nx ((lo.set i (.own ds.dropLast)).set j (.fz d)) c)
      | none => .bad
    | _ => .bad) _ := h
  split at h
  · rename_i ds e
    split at h
    · rename_i d e1
      obtain ⟨b, ys, g1, g2, g3, g4⟩ := s.r.ow i ds e
      rw [List.getLast?_eq_getElem?] at e1
      obtain ⟨v, g5, g6⟩ := g3.get e1
      refine ⟨.ref b, g1, .inl ⟨rfl, ys, .inl (.inl g2)⟩, b, ys, v, rfl, rfl, g2, by rw [g3.length]; exact g5, ?_⟩
      exact h _ _ ((s.upd e g1 g2 g3.dropLast g4).put (g6.sta (Sta.lst g2)) j) (Sta.lst g2)
    · exact h.elim
  · exact h.elim
theorem plain_sub {o : Expr} {env : Env} (h : plainE eb = true) : ∀ v, assign (.Subscript o eb px) env v = (do
      let ov ← holding [v] (eval o env)
      let iv ← holding [v, ov] (eval eb env)
      standAt px
      holding [v, ov, iv] (setItem ov iv v)
      release [v, ov, iv] []) := by
  intro v
  cases eb <;> first | rfl | (simp [plainE] at h; done)
theorem s_put {ps : Pos} (C : Cok S Φ XI n W X) (hi : S.N[i]? = some x) (hv : S.vis x = true) (hn : okName x = true) (hp : plainE eb = true) (ho : isOwn a = false) (ha : PE X ea (tE Φ XI W a)) (hb : PE X eb (tE Φ XI W b)) :
    PS X (.Assign [.Subscript (.Name x px) eb ps] ea pos) (tS Φ XI W (.put i b a)) := by
  obtain ⟨n1, n2, _⟩ := okName_1 hn
  refine (ps_asg ha (pg_sub (pe_var (i := i) (by rw [C.hN]; exact hi) (C.vis hv) n1 n2) hb set_list (plain_sub hp)) sw_sub ss_sub rfl).weak fun E σ H ⟨γ, H0, lo, c, s, h⟩ => ?_
  refine seE s h fun v H1 d c1 s1 q1 r1 h1 => ?_
  rw [ho] at r1
  have h1 : Aft _ (match lo[i]? with
    | some (.own ds) => (evE Φ b lo c1).bind fun y => asI y.1 fun j => (ofO (L2.ixN ds.length j)).bind fun m => .ok (Flo.nx (lo.set i (.own (ds.set m d))) y.2)
    | _ => .bad) _ := h1
  split at h1
  · rename_i ds e
    obtain ⟨p, ys, g1, g2, g3, g4⟩ := s1.r.ow i ds e
    refine ⟨.ref p, g1, seE s1 h1 fun w H2 f c2 s2 q2 r2 h2 => ?_⟩
    obtain ⟨k, rfl, h2⟩ := h2.asI
    obtain ⟨m, hm, h2⟩ := h2.bind.ofO
    have e2 := q2 _ _ g2 g4
    have st := q2.sta s1.r.cu
    refine ⟨p, ys, k, m, rfl, r2.w.int, e2, by rw [g3.length]; exact hm, ?_⟩
    exact h2 _ _ (s2.upd e g1 e2 (Reps.set (Rep.sta st r1) m (g3.sta st)) g4) (((q1.sta s.r.cu).trans st).trans (Sta.lst e2))
  · exact h1.elim
theorem s_cput {ps : Pos} (C : Cok S Φ XI n W X) (hi : S.N[i]? = some x) (hv : S.vis x = true) (hn : okName x = true) (hp : plainE eb = true) (ha : PE X ea (tE Φ XI W a)) (hb : PE X eb (tE Φ XI W b)) :
    PS X (.Assign [.Subscript (.Name x px) eb ps] ea pos) (tS Φ XI W (.cput i b a)) := by
  obtain ⟨n1, n2, _⟩ := okName_1 hn
  refine (ps_asg ha (pg_sub (pe_var (i := i) (by rw [C.hN]; exact hi) (C.vis hv) n1 n2) hb set_list (plain_sub hp)) sw_sub ss_sub rfl).weak fun E σ H ⟨γ, H0, lo, c, s, h⟩ => ?_
  refine seE s h fun v H1 d c1 s1 q1 r1 h1 => ?_
  have h1 : Aft _ (match lo[i]? with
    | some (.fz .cup) => (evE Φ b lo c1).bind fun y => (cupPut y.2 y.1 d).bind fun z => .ok (Flo.nx lo z)
    | _ => .bad) _ := h1
  split at h1
  · rename_i e
    obtain ⟨u, g1, g2⟩ := s1.r.fz i .cup e
    obtain ⟨p, rfl, g⟩ := RepW.cup (.inl g2)
    refine ⟨.ref p, g1, seE s1 h1 fun w H2 f c2 s2 q2 r2 h2 => ?_⟩
    have st := q2.sta s1.r.cu
    have e2 := s2.r.cu p g
    have fin : ∀ (k : Int) (m : Nat) (z : Cup) (i : Int), f = .int k → d = .int i → L2.ixN 2 k = some m → ([.int c2.1, .int c2.2] : List V).set m (.int i) = [.int z.1, .int z.2] → Aft (XZ XI γ H0 W) (.ok (.nx lo z)) (SEnd γ H0 H E) → rSetL (.ref p) w v H2 fun H3 => E.nx σ H3 := fun k m z i ef ed hm hz h3 => by
      subst ef ed
      rw [r1.w.int]
      refine ⟨p, _, k, m, rfl, r2.w.int, e2, hm, ?_⟩
      rw [hz]
      exact h3 _ _ (s2.cup g) (((q1.sta s.r.cu).trans st).trans (Sta.lst e2))
    have h2 : Aft _ ((cupPut c2 f d).bind fun z => .ok (Flo.nx lo z)) _ := h2
    cases f with
    | int k =>
      cases d with
      | int i =>
        match k, h2, fin with
        | .ofNat 0, h2, fin => exact fin 0 0 (i, c2.2) i rfl rfl rfl rfl h2
        | .ofNat 1, h2, fin => exact fin 1 1 (c2.1, i) i rfl rfl rfl rfl h2
        | .ofNat (_ + 2), h2, _ => exact h2.elim
        | .negSucc _, h2, _ => exact h2.elim
      | _ =>
        match k, h2 with
        | .ofNat 0, h2 => exact h2.elim
        | .ofNat 1, h2 => exact h2.elim
        | .ofNat (_ + 2), h2 => exact h2.elim
        | .negSucc _, h2 => exact h2.elim
    | _ => exact h2.elim
  · exact h1.elim
/-! ### leaving, branching -/
theorem s_ret (C : Cok S Φ XI n W X) (ho : isOwn a = false) (ha : PE X ea (tE Φ XI W a)) : PS X (.Return (some ea) pos) (tS Φ XI W (.ret a)) := by
  refine (ps_ret ha).weak fun E σ H ⟨γ, H0, lo, c, s, h⟩ => ?_
  refine seE s h fun v H1 d c1 s1 q1 r1 h1 => ?_
  rw [ho] at r1
  exact h1 v H1 s1.r.cu s1.same r1
theorem s_retN : PS X (.Return none pos) (tS Φ XI W .retN) := ps_retN.weak fun E σ H ⟨γ, H0, lo, c, s, h⟩ => h .non H s.r.cu s.same .non
theorem s_pass : PS X (.Pass pos) (tS Φ XI W .pass) := ps_pass.weak fun E σ H ⟨γ, H0, lo, c, s, h⟩ => h σ H s Sta.refl
theorem s_brk : PS X (.Break pos) (tS Φ XI W .brk) := ps_break.weak fun E σ H ⟨γ, H0, lo, c, s, h⟩ => h σ H s Sta.refl
theorem s_cnt : PS X (.Continue pos) (tS Φ XI W .cnt) := ps_continue.weak fun E σ H ⟨γ, H0, lo, c, s, h⟩ => h σ H s Sta.refl
theorem s_nev {st : Stmt} : PS X st (tS Φ XI W .nev) := ps_never.weak fun E σ H ⟨γ, H0, lo, c, s, h⟩ => h.elim
theorem s_drop (hp : plainE ea = true) (hl : isLC ea = false) (ha : PE X ea (tE Φ XI W a)) : PS X (.Expr ea pos) (tS Φ XI W (.drop a)) := by
  refine (ps_expr ha (sw_no hp hl)).weak fun E σ H ⟨γ, H0, lo, c, s, h⟩ => ?_
  exact seE s h fun v H1 d c1 s1 q1 r1 h1 => h1 σ H1 s1 (q1.sta s.r.cu)
theorem s_if {t u : Sms} {bt be : List Stmt} (ha : PT X ea (tT Φ XI W a)) (ht : PSs X bt (tSs Φ XI W t)) (hu : PSs X be (tSs Φ XI W u)) : PS X (.If ea bt be pos) (tS Φ XI W (.iff a t u)) := by
  refine (ps_if ha ht hu).weak fun E σ H ⟨γ, H0, lo, c, s, h⟩ => ?_
  refine seT (f := fun k u' => if k then exSs Φ t lo u' else exSs Φ u lo u') s h fun k H1 c1 s1 q1 h1 => ?_
  have st := q1.sta s.r.cu
  cases k with
  | true => exact ⟨γ, H0, lo, c1, s1, Aft.mono h1 (fun _ _ _ z => z) fun f hf => SEnd.mono st hf⟩
  | false => exact ⟨γ, H0, lo, c1, s1, Aft.mono h1 (fun _ _ _ z => z) fun f hf => SEnd.mono st hf⟩
/-! ### one after another -/
theorem s_nil : PSs X [] (tSs Φ XI W .nil) := pss_nil.weak fun E σ H ⟨γ, H0, lo, c, s, h⟩ => h σ H s Sta.refl
theorem s_cons {st : Stmt} {rest : List Stmt} {s : Sm} {r : Sms} (h1 : PS X st (tS Φ XI W s)) (h2 : PSs X rest (tSs Φ XI W r)) : PSs X (st :: rest) (tSs Φ XI W (.cons s r)) := by
  refine (pss_cons h1 h2).weak fun E σ H ⟨γ, H0, lo, c, s, h⟩ => ⟨γ, H0, lo, c, s, (Aft.bind h).mono (fun _ _ _ z => z) fun f hf => ?_⟩
  cases f with
  | nx lo' c' => exact fun σ' H' s' st => ⟨γ, H0, lo', c', s', Aft.mono hf (fun _ _ _ z => z) fun f hf => SEnd.mono st hf⟩
  | bk lo' c' => exact hf
  | ct lo' c' => exact hf
  | rt d c' => exact hf
theorem s_frz {sts : List Stmt} {r : Sms} (h : PSs X sts (tSs Φ XI W r)) : PSs X sts (tSs Φ XI W (.cons (.frz i) r)) := by
  refine ⟨fun pins s σ H E I ⟨γ, H0, lo, c, q, hh⟩ => ?_⟩
  have hh : Aft _ ((match lo[i]? with
    | some (.own ds) => .ok (.nx (lo.set i (.fz (.lst ds))) c)
    | _ => .bad : Res Flo).bind fun f => match f with
    | .nx lo c => exSs Φ r lo c
    | f => .ok f) _ := hh
  split at hh
  · rename_i ds e
    obtain ⟨p, ys, g1, g2, g3, g4⟩ := q.r.ow i ds e
    obtain ⟨od, I2⟩ := I.lock g2 trivial
    exact h.run pins s σ _ E I2 ⟨γ, H0, _, c, q.frz e g1 g2 g3 g4, Aft.mono hh (fun _ _ _ z => z) fun f hf => SEnd.mono (Sta.lst g2) hf⟩
  · exact hh.elim
/-! ### loops -/
theorem s_for {t : Tg} {it : It} {b : Sms} {tg iter : Expr} {body : List Stmt} (C : Cok S Φ XI n W X) (ho : isOwnI it = false) (hp : plainE iter = true) (ht : chkT S t tg = true) (hi : PI X tg iter (tI Φ XI W it)) (hb : PSs X body (tSs Φ XI W b)) :
    PS X (.For tg iter body [] pos) (tS Φ XI W (.for_ t it b)) := by
  refine (ps_for C.po C.calm hi (c_tg C t tg ht) hb (folded_of hp X.env)).weak fun E σ H ⟨γ, H0, lo, c, s, h⟩ => ?_
  refine ⟨γ, lo, c, s.r, (Aft.bind h).mono (fun _ _ _ q => q.xw s.same) fun r hr J G H1 kc sc wd g => ?_⟩
  have st0 := sc.sta s.r.cu
  refine for_it wd.walk (fun i σ' H' => ∃ lo' c', SS γ H0 lo' c' σ' H' ∧ Sta H1 H' ∧ Aft (XZ XI γ H0 W) (forGo t (fun lo c => exSs Φ b lo c) (r.1.drop i) lo' c') (SEnd γ H0 H E)) ⟨lo, r.2, s.go sc kc, Sta.refl, hr⟩
    (fun i σ' H' _ ⟨lo', c', _, q, _⟩ => wd.keep _ _ q (fun z => by rw [ho] at z; cases z) g) ?_ ?_
  · rintro i v σ1 Hc H' hi ⟨lo1, c1, s1, q1, h1⟩ y
    obtain ⟨d, hd, rd⟩ := y.2
    have hdr : r.1.drop i = d :: r.1.drop (i + 1) := by
      obtain ⟨hl, e⟩ := List.getElem?_eq_some_iff.mp hd
      rw [List.drop_eq_getElem_cons hl, e]
    rw [hdr] at h1
    have h1 : Aft _ ((ofO (tgSet t d lo1)).bind fun lo => (exSs Φ b lo c1).bind fun f => match f with
      | .nx lo c => forGo t (fun lo c => exSs Φ b lo c) (r.1.drop (i + 1)) lo c
      | .ct lo c => forGo t (fun lo c => exSs Φ b lo c) (r.1.drop (i + 1)) lo c
      | .bk lo c => .ok (.nx lo c)
      | .rt d c => .ok (.rt d c)) _ := h1
    obtain ⟨lo2, e2, h2⟩ := h1.bind.ofO
    have s2 := s1.go y.same (y.cup s1.r.cu)
    refine ⟨γ, lo1, c1, d, lo2, s2.r, rd, e2, fun σ2 R2 _ o2 => ⟨γ, H0, lo2, c1, s2.ow R2 o2, (Aft.bind h2).mono (fun _ _ _ z => z) fun f hf => ?_⟩⟩
    cases f with
    | nx lo3 c3 => exact fun σ3 H3 s3 t3 => ⟨lo3, c3, s3, q1.trans (y.sta.trans t3), hf⟩
    | ct lo3 c3 => exact fun σ3 H3 s3 t3 => ⟨lo3, c3, s3, q1.trans (y.sta.trans t3), hf⟩
    | bk lo3 c3 => exact fun σ3 H3 s3 t3 => hf σ3 H3 s3 (st0.trans (q1.trans (y.sta.trans t3)))
    | rt d3 c3 => exact hf
  · rintro σ1 Hc ⟨lo1, c1, s1, q1, h1⟩
    rw [List.drop_length] at h1
    exact h1 σ1 Hc s1 (st0.trans q1)
theorem s_whl {b : Sms} {body : List Stmt} (C : Cok S Φ XI n W X) (ha : PT X ea (tT Φ XI W a)) (hb : PSs X body (tSs Φ XI W b)) : PS X (.While ea body [] pos) (tS Φ XI W (.whl a b)) := by
  refine (ps_while C.po ha hb).weak fun E σ H ⟨γ, H0, lo, c, s, h⟩ => ?_
  refine ⟨fun m σ' H' => ∃ lo' c', SS γ H0 lo' c' σ' H' ∧ Sta H H' ∧ Aft (XZ XI γ H0 W) (whlGo (fun lo c => (evE Φ a lo c).bind fun x => asB x.1 fun k => .ok (k, x.2)) (fun lo c => exSs Φ b lo c) m lo' c') (SEnd γ H0 H E), ⟨10000, lo, c, s, Sta.refl, h⟩, ?_⟩
  rintro m σ1 Hc ⟨lo1, c1, s1, q1, h1⟩
  cases m with
  | zero => exact h1.elim
  | succ m =>
    have h1 : Aft _ (((evE Φ a lo1 c1).bind fun x => asB x.1 fun k => .ok (k, x.2)).bind fun k => if k.1 then (exSs Φ b lo1 k.2).bind fun f => match f with
      | .nx lo c => whlGo (fun lo c => (evE Φ a lo c).bind fun x => asB x.1 fun k => .ok (k, x.2)) (fun lo c => exSs Φ b lo c) m lo c
      | .ct lo c => whlGo (fun lo c => (evE Φ a lo c).bind fun x => asB x.1 fun k => .ok (k, x.2)) (fun lo c => exSs Φ b lo c) m lo c
      | .bk lo c => .ok (.nx lo c)
      | .rt d c => .ok (.rt d c)
      else .ok (.nx lo1 k.2)) _ := h1
    refine ⟨γ, lo1, c1, s1.r, (Aft.bind h1).mono (fun _ _ _ q => q.xw s1.same) fun r hr H' kc sc => ?_⟩
    obtain ⟨k, c2⟩ := r
    have s2 := s1.go sc kc
    have st := q1.trans (sc.sta s1.r.cu)
    cases k with
    | false =>
      rw [if_neg Bool.false_ne_true]
      exact hr σ1 H' s2 st
    | true =>
      rw [if_pos rfl]
      refine ⟨fun σ' H' => ∃ lo' c', SS γ H0 lo' c' σ' H' ∧ Sta H H' ∧ Aft (XZ XI γ H0 W) (whlGo (fun lo c => (evE Φ a lo c).bind fun x => asB x.1 fun k => .ok (k, x.2)) (fun lo c => exSs Φ b lo c) m lo' c') (SEnd γ H0 H E),
        fun σ' H' z => ⟨m, Nat.lt_succ_self m, z⟩, γ, H0, lo1, c2, s2, (Aft.bind hr).mono (fun _ _ _ z => z) fun f hf => ?_⟩
      cases f with
      | nx lo3 c3 => exact fun σ3 H3 s3 t3 => ⟨lo3, c3, s3, st.trans t3, hf⟩
      | ct lo3 c3 => exact fun σ3 H3 s3 t3 => ⟨lo3, c3, s3, st.trans t3, hf⟩
      | bk lo3 c3 => exact fun σ3 H3 s3 t3 => hf σ3 H3 s3 (st.trans t3)
      | rt d3 c3 => exact hf
end EV

set_option maxHeartbeats 4000000
/-! EvP: every statement that is checked. -/
namespace EV
open PySem PySem.Spec PyProof.Rows L2

def isFr : Ex → Bool
  | .lst _ => true
  | .lc _ _ _ _ _ => true
  | .prm p _ => p == .list
  | _ => false
def fnK (S : SC) : Bool := match S.sc.kind with
  | .function => true
  | _ => false
def chkM (S : SC) : List Bool → Exs → List Expr → Bool
  | [], .nil, [] => true
  | false :: fl, .cons x r, e :: es => chkE S x e && plainE e && !isOwn x && chkM S fl r es
  | true :: fl, .cons x r, e :: es => chkE S x e && plainE e && isFr x && chkM S fl r es
  | _, _, _ => false
def lcl (S : SC) (x : Str) : Bool := S.sc.names.lookup x == some .local
def swIs (o : Option (Option (List Str))) (l : Option (List Str)) : Bool := o == some l
def swTup (S : SC) (tg e : Expr) : Bool := match tg, e with
  | .Tuple ts _ _, .Tuple vs _ _ => fnK S && swIs (swOf S.sc ts vs) none
  | _, _ => false
mutual
def chkS : SC → Sm → Stmt → Bool
  | S, .set i a, .Assign ts e _ => (match ts with
    | [.Name x _] => S.N[i]? == some x && S.sto x && okName x && chkE S a e && plainE e && !isLC e && !isOwn a
    | _ => false)
  | S, .setO i a, .Assign ts e _ => (match ts with
    | [.Name x _] => fnK S && S.N[i]? == some x && S.sto x && okName x && chkE S a e && plainE e && isFr a
    | _ => false)
  | S, .par ts es, .Assign tg e _ => (match tg, e with
    | [.Tuple l _ _], .Tuple r _ _ => fnK S && (match ts, l with
      | [(i, fi), (j, fj)], [.Name x px, .Name y py] => S.N[i]? == some x && S.N[j]? == some y && i != j && lcl S x && lcl S y && decide (r.length = 2) && swIs (swOf S.sc [.Name x px, .Name y py] r) (some [x, y]) && chkM S [fi, fj] es r
      | [(i, fi), (j, fj), (k, fk)], [.Name x px, .Name y py, .Name z pz] => S.N[i]? == some x && S.N[j]? == some y && S.N[k]? == some z && i != j && i != k && j != k && lcl S x && lcl S y && lcl S z && decide (r.length = 3) && swIs (swOf S.sc [.Name x px, .Name y py, .Name z pz] r) (some [x, y, z]) && chkM S [fi, fj, fk] es r
      | _, _ => false)
    | _, _ => false)
  | S, .unp t a, .Assign ts e _ => (match ts with
    | [tg] => chkT S t tg && isTup tg && chkE S a e && !isOwn a && (!isTupE e || swTup S tg e)
    | _ => false)
  | S, .aug i o a, .AugAssign tg op e _ => (match tg with
    | .Name x _ => S.N[i]? == some x && S.sto x && augOk o op && chkE S a e
    | _ => false)
  | S, .app i a, .Expr e _ => (match e with
    | .Call (.Attribute (.Name x _) m ap) [ea] [] cp => S.N[i]? == some x && S.vis x && okName x && m == "append" && ap.endLine == cp.line && chkE S a ea && plainE ea && !isOwn a
    | _ => false)
  | S, .pop i j, .Assign ts e _ => (match ts, e with
    | [.Name y _], .Call (.Attribute (.Name x _) m ap) [] [] cp => S.N[i]? == some x && S.N[j]? == some y && S.vis x && okName x && S.sto y && i != j && m == "pop" && ap.endLine == cp.line
    | _, _ => false)
  | S, .put i k a, .Assign ts e _ => (match ts with
    | [.Subscript (.Name x _) ek _] => S.N[i]? == some x && S.vis x && okName x && plainE ek && !isOwn a && chkE S a e && chkE S k ek
    | _ => false)
  | S, .cput i k a, .Assign ts e _ => (match ts with
    | [.Subscript (.Name x _) ek _] => S.N[i]? == some x && S.vis x && okName x && plainE ek && chkE S a e && chkE S k ek
    | _ => false)
  | S, .ret a, .Return v _ => (match v with
    | some e => chkE S a e && !isOwn a
    | none => false)
  | S, .retN, .Return v _ => (match v with
    | some e => false
    | none => true)
  | S, .iff c a b, .If ec sa sb _ => chkE S c ec && tstE ec && chkSs S a sa && chkSs S b sb
  | S, .for_ t it b, .For tg iter body orelse _ => orelse.isEmpty && !isOwnI it && chkT S t tg && chkI S t it tg iter && chkSs S b body
  | S, .whl c b, .While ec body orelse _ => orelse.isEmpty && chkE S c ec && tstE ec && chkSs S b body
  | _, .pass, .Pass _ => true
  | _, .brk, .Break _ => true
  | _, .cnt, .Continue _ => true
  | S, .drop a, .Expr e _ => chkE S a e && plainE e && !isLC e
  | _, .nev, _ => true
  | _, _, _ => false
def chkSs : SC → Sms → List Stmt → Bool
  | _, .nil, sts => sts.isEmpty
  | S, .cons s r, sts => (match s with
    | .frz _ => chkSs S r sts
    | _ => (match sts with
      | st :: rest => chkS S s st && chkSs S r rest
      | [] => false))
end
variable {Φ : Fns} {XI : XIs}
theorem fnK_eq {S : SC} (h : fnK S = true) : S.sc.kind = .function := by
  unfold fnK at h
  split at h
  · assumption
  · cases h
theorem snd_fr {x : Ex} {S : SC} {n : Nat} {W : WX} {X : Cx} (C : Cok S Φ XI n W X) {e : Expr} (h : chkE S x e = true) (hq : isFr x = true) : PE X e (tO Φ XI W x) ∧ ∀ lo c r, evE Φ x lo c = .ok r → ∃ ds, r.1 = .lst ds := by
  cases x with
  | lst es =>
    refine ⟨?_, fun lo c r => lst_lst⟩
    cases e with
    | List l p =>
      have h : (chkEs S es l && decide (l.length ≤ 1000)) = true := h
      rw [Bool.and_eq_true] at h
      exact c_lstO (chkEs_len es l h.1) (of_decide_eq_true h.2) (sndEs es S n W X C l h.1)
    | _ => cases h
  | prm q a =>
    cases eq_of_beq (show (q == Prm.list) = true from hq)
    refine ⟨?_, fun lo c r => list_lst⟩
    cases e with
    | Call f es ks p =>
      have h : (match (generalizing := false) f, es, ks with
        | .Name x _, [e], [] => S.blt x (Str.ofString (prmNm .list)) && chkE S a e && plainE e
        | _, _, _ => false) = true := h
      split at h
      · simp only [Bool.and_eq_true] at h
        exact c_listO C h.1.1 h.2 (sndE a S n W X C _ h.1.2).v
      · cases h
    | _ => cases h
  | lc ow t it cs x =>
    refine ⟨?_, fun lo c r => lc_lst⟩
    cases e with
    | ListComp ee gs scope p =>
      have h : (match (generalizing := false) gs with
        | [⟨tg, iter, ifs, as⟩] => as == 0 && (tgSlots t).all (fun i => ow.contains i) && chkI S t it tg iter && (match (generalizing := false) ownPairs S.N ow with
          | some op => blkC S.N S.sc scope op && (chkT (S.blk scope) t tg && chkCs (S.blk scope) cs ifs && chkE (S.blk scope) x ee && plainE ee && !isOwn x)
          | none => false)
        | _ => false) = true := h
      split at h
      · rename_i tg iter ifs as _
        simp only [Bool.and_eq_true] at h
        obtain ⟨⟨⟨h1, h2⟩, h3⟩, h4⟩ := h
        cases eq_of_beq h1
        split at h4
        · rename_i op hop
          simp only [Bool.and_eq_true, Bool.not_eq_true'] at h4
          obtain ⟨g1, ⟨⟨⟨g2, g3⟩, g4⟩, g5⟩, g6⟩ := h4
          exact c_lcO C hop g1 h2 g6 (sndI it S n W X C t tg iter h3) (fun X' C' => c_tg C' t tg g2) (fun X' C' => sndCs cs _ n _ X' C' ifs g3) (fun X' C' => (sndE x _ n _ X' C' ee g4).v) (folded_of (chkI_plain h3) _)
        · cases h4
      · cases h
    | _ => cases h
  | _ => cases hq
theorem snd_setO {i : Nat} {x : Str} {px pos : Pos} {a : Ex} {S : SC} {n : Nat} {W : WX} {X : Cx} (C : Cok S Φ XI n W X) {e : Expr} (hk : fnK S = true) (hi : S.N[i]? = some x) (hs : S.sto x = true) (h : chkE S a e = true) (hf : isFr a = true) (hp : plainE e = true) : PS X (.Assign [.Name x px] e pos) (tS Φ XI W (.setO i a)) := by
  by_cases hl : isLC e = true
  · cases e with
    | ListComp ee gs scope p =>
      cases a with
      | lc ow t it cs y =>
        have h : (match (generalizing := false) gs with
          | [⟨tg, iter, ifs, as⟩] => as == 0 && (tgSlots t).all (fun i => ow.contains i) && chkI S t it tg iter && (match (generalizing := false) ownPairs S.N ow with
            | some op => blkC S.N S.sc scope op && (chkT (S.blk scope) t tg && chkCs (S.blk scope) cs ifs && chkE (S.blk scope) y ee && plainE ee && !isOwn y)
            | none => false)
          | _ => false) = true := h
        split at h
        · rename_i tg iter ifs as _
          simp only [Bool.and_eq_true] at h
          obtain ⟨⟨⟨h1, h2⟩, h3⟩, h4⟩ := h
          cases eq_of_beq h1
          split at h4
          · rename_i op hop
            simp only [Bool.and_eq_true, Bool.not_eq_true'] at h4
            obtain ⟨g1, ⟨⟨⟨g2, g3⟩, g4⟩, g5⟩, g6⟩ := h4
            exact s_setLc C (fnK_eq hk) hi hs hop g1 h2 g6 (sndI it S n W X C t tg iter h3) (fun X' C' => c_tg C' t tg g2) (fun X' C' => sndCs cs _ n _ X' C' ifs g3) (fun X' C' => (sndE y _ n _ X' C' ee g4).v) (folded_of (chkI_plain h3) _)
          · cases h4
        · cases h
      | lst es => cases h
      | prm q b => cases h
      | _ => cases hf
    | _ => cases hl
  · obtain ⟨h1, h2⟩ := snd_fr C h hf
    exact s_setO C hi hs (fun l => sw_no hp (by simpa using hl)) h2 h1
theorem sndM {S : SC} {n : Nat} {W : WX} {X : Cx} (C : Cok S Φ XI n W X) : ∀ {fl : List Bool} {es : Exs} {l : List Expr}, chkM S fl es l = true → PA X l (tM Φ XI W fl es)
  | [], .nil, [], _ => m_nil
  | [], .nil, _ :: _, h => by cases h
  | [], .cons _ _, _, h => by cases h
  | false :: fl, .nil, _, h => by cases h
  | true :: fl, .nil, _, h => by cases h
  | false :: fl, .cons _ _, [], h => by cases h
  | true :: fl, .cons _ _, [], h => by cases h
  | false :: fl, .cons x r, e :: es, h => by
    have h : (chkE S x e && plainE e && !isOwn x && chkM S fl r es) = true := h
    simp only [Bool.and_eq_true, Bool.not_eq_true'] at h
    exact m_fz h.1.1.2 h.1.2 (sndE x S n W X C e h.1.1.1).v (sndM C h.2)
  | true :: fl, .cons x r, e :: es, h => by
    have h : (chkE S x e && plainE e && isFr x && chkM S fl r es) = true := h
    simp only [Bool.and_eq_true] at h
    obtain ⟨h1, h2⟩ := snd_fr C h.1.1.1 h.1.2
    exact m_ow h.1.1.2 h2 h1 (sndM C h.2)
theorem lcl_eq {S : SC} {x : Str} (h : lcl S x = true) : S.sc.names.lookup x = some .local := beq_iff_eq.mp h
theorem ne_of_bne {i j : Nat} (h : (i != j) = true) : i ≠ j := by simpa using h
mutual
theorem sndS : ∀ (s : Sm) (S : SC) (n : Nat) (W : WX) (X : Cx), Cok S Φ XI n W X → ∀ st, chkS S s st = true → PS X st (tS Φ XI W s)
  | .set i a, S, n, W, X, C, st, h => by
    cases st with
    | Assign ts e pos =>
      have h : (match (generalizing := false) ts with
        | [.Name x _] => S.N[i]? == some x && S.sto x && okName x && chkE S a e && plainE e && !isLC e && !isOwn a
        | _ => false) = true := h
      split at h
      · simp only [Bool.and_eq_true, Bool.not_eq_true'] at h
        obtain ⟨⟨⟨⟨⟨⟨h1, h2⟩, h3⟩, h4⟩, h5⟩, h6⟩, h7⟩ := h
        exact s_set C (beq_iff_eq.mp h1) h2 h5 h6 h7 (sndE a S n W X C e h4).v
      · cases h
    | _ => cases h
  | .setO i a, S, n, W, X, C, st, h => by
    cases st with
    | Assign ts e pos =>
      have h : (match (generalizing := false) ts with
        | [.Name x _] => fnK S && S.N[i]? == some x && S.sto x && okName x && chkE S a e && plainE e && isFr a
        | _ => false) = true := h
      split at h
      · simp only [Bool.and_eq_true] at h
        obtain ⟨⟨⟨⟨⟨⟨h1, h2⟩, h3⟩, h4⟩, h5⟩, h6⟩, h7⟩ := h
        exact snd_setO C h1 (beq_iff_eq.mp h2) h3 h5 h7 h6
      · cases h
    | _ => cases h
  | .par ts es, S, n, W, X, C, st, h => by
    cases st with
    | Assign tg e pos =>
      have h : (match (generalizing := false) tg, e with
        | [.Tuple l _ _], .Tuple r _ _ => fnK S && (match (generalizing := false) ts, l with
          | [(i, fi), (j, fj)], [.Name x px, .Name y py] => S.N[i]? == some x && S.N[j]? == some y && i != j && lcl S x && lcl S y && decide (r.length = 2) && swIs (swOf S.sc [.Name x px, .Name y py] r) (some [x, y]) && chkM S [fi, fj] es r
          | [(i, fi), (j, fj), (k, fk)], [.Name x px, .Name y py, .Name z pz] => S.N[i]? == some x && S.N[j]? == some y && S.N[k]? == some z && i != j && i != k && j != k && lcl S x && lcl S y && lcl S z && decide (r.length = 3) && swIs (swOf S.sc [.Name x px, .Name y py, .Name z pz] r) (some [x, y, z]) && chkM S [fi, fj, fk] es r
          | _, _ => false)
        | _, _ => false) = true := h
      split at h
      · rename_i l _ _ r _ _ _
        rw [Bool.and_eq_true] at h
        obtain ⟨hk, h⟩ := h
        split at h
        · simp only [Bool.and_eq_true] at h
          obtain ⟨⟨⟨⟨⟨⟨⟨h1, h2⟩, h3⟩, h4⟩, h5⟩, h6⟩, h7⟩, h8⟩ := h
          match r, of_decide_eq_true h6, h7, h8 with
          | [e1, e2], _, h7, h8 => exact s_par2 C (fnK_eq hk) (beq_iff_eq.mp h1) (beq_iff_eq.mp h2) (ne_of_bne h3) (lcl_eq h4) (lcl_eq h5) (beq_iff_eq.mp h7) (sndM C h8)
        · simp only [Bool.and_eq_true] at h
          obtain ⟨⟨⟨⟨⟨⟨⟨⟨⟨⟨⟨h1, h2⟩, h3⟩, h4⟩, h5⟩, h6⟩, h7⟩, h8⟩, h9⟩, h10⟩, h11⟩, h12⟩ := h
          match r, of_decide_eq_true h10, h11, h12 with
          | [e1, e2, e3], _, h11, h12 => exact s_par3 C (fnK_eq hk) (beq_iff_eq.mp h1) (beq_iff_eq.mp h2) (beq_iff_eq.mp h3) (ne_of_bne h4) (ne_of_bne h5) (ne_of_bne h6) (lcl_eq h7) (lcl_eq h8) (lcl_eq h9) (beq_iff_eq.mp h11) (sndM C h12)
        · cases h
      · cases h
    | _ => cases h
  | .unp t a, S, n, W, X, C, st, h => by
    cases st with
    | Assign ts e pos =>
      have h : (match (generalizing := false) ts with
        | [tg] => chkT S t tg && isTup tg && chkE S a e && !isOwn a && (!isTupE e || swTup S tg e)
        | _ => false) = true := h
      split at h
      · simp only [Bool.and_eq_true, Bool.not_eq_true', Bool.or_eq_true] at h
        obtain ⟨⟨⟨⟨h1, h2⟩, h3⟩, h4⟩, h5⟩ := h
        refine s_unp C h1 h2 h4 ?_ (sndE a S n W X C e h3).v
        rcases h5 with h5 | h5
        · exact ss_no h5
        · unfold swTup at h5
          split at h5
          · rw [Bool.and_eq_true] at h5
            exact sw_of C.hsc (fnK_eq h5.1) (beq_iff_eq.mp h5.2)
          · cases h5
      · cases h
    | _ => cases h
  | .aug i o a, S, n, W, X, C, st, h => by
    cases st with
    | AugAssign tg op e pos =>
      have h : (match (generalizing := false) tg with
        | .Name x _ => S.N[i]? == some x && S.sto x && augOk o op && chkE S a e
        | _ => false) = true := h
      split at h
      · simp only [Bool.and_eq_true] at h
        exact s_aug C (beq_iff_eq.mp h.1.1.1) h.1.1.2 h.1.2 (sndE a S n W X C e h.2).v
      · cases h
    | _ => cases h
  | .ext i a, S, n, W, X, C, st, h => by cases st <;> cases h
  | .app i a, S, n, W, X, C, st, h => by
    cases st with
    | Expr e pos =>
      have h : (match (generalizing := false) e with
        | .Call (.Attribute (.Name x _) m ap) [ea] [] cp => S.N[i]? == some x && S.vis x && okName x && m == "append" && ap.endLine == cp.line && chkE S a ea && plainE ea && !isOwn a
        | _ => false) = true := h
      split at h
      · simp only [Bool.and_eq_true, Bool.not_eq_true'] at h
        obtain ⟨⟨⟨⟨⟨⟨⟨h1, h2⟩, h3⟩, h4⟩, h5⟩, h6⟩, h7⟩, h8⟩ := h
        cases beq_iff_eq.mp h4
        exact s_app (p2 := pos) C (beq_iff_eq.mp h1) h2 h3 h7 h8 h5 (sndE a S n W X C _ h6).v
      · cases h
    | _ => cases h
  | .pop i j, S, n, W, X, C, st, h => by
    cases st with
    | Assign ts e pos =>
      have h : (match (generalizing := false) ts, e with
        | [.Name y _], .Call (.Attribute (.Name x _) m ap) [] [] cp => S.N[i]? == some x && S.N[j]? == some y && S.vis x && okName x && S.sto y && i != j && m == "pop" && ap.endLine == cp.line
        | _, _ => false) = true := h
      split at h
      · simp only [Bool.and_eq_true] at h
        obtain ⟨⟨⟨⟨⟨⟨⟨h1, h2⟩, h3⟩, h4⟩, h5⟩, h6⟩, h7⟩, h8⟩ := h
        cases beq_iff_eq.mp h7
        exact s_pop (p2 := pos) C (beq_iff_eq.mp h1) (beq_iff_eq.mp h2) h3 h4 h5 (ne_of_bne h6) h8
      · cases h
    | _ => cases h
  | .put i k a, S, n, W, X, C, st, h => by
    cases st with
    | Assign ts e pos =>
      have h : (match (generalizing := false) ts with
        | [.Subscript (.Name x _) ek _] => S.N[i]? == some x && S.vis x && okName x && plainE ek && !isOwn a && chkE S a e && chkE S k ek
        | _ => false) = true := h
      split at h
      · simp only [Bool.and_eq_true, Bool.not_eq_true'] at h
        obtain ⟨⟨⟨⟨⟨⟨h1, h2⟩, h3⟩, h4⟩, h5⟩, h6⟩, h7⟩ := h
        exact s_put C (beq_iff_eq.mp h1) h2 h3 h4 h5 (sndE a S n W X C e h6).v (sndE k S n W X C _ h7).v
      · cases h
    | _ => cases h
  | .cput i k a, S, n, W, X, C, st, h => by
    cases st with
    | Assign ts e pos =>
      have h : (match (generalizing := false) ts with
        | [.Subscript (.Name x _) ek _] => S.N[i]? == some x && S.vis x && okName x && plainE ek && chkE S a e && chkE S k ek
        | _ => false) = true := h
      split at h
      · simp only [Bool.and_eq_true] at h
        obtain ⟨⟨⟨⟨⟨h1, h2⟩, h3⟩, h4⟩, h5⟩, h6⟩ := h
        exact s_cput C (beq_iff_eq.mp h1) h2 h3 h4 (sndE a S n W X C e h5).v (sndE k S n W X C _ h6).v
      · cases h
    | _ => cases h
  | .ret a, S, n, W, X, C, st, h => by
    cases st with
    | Return v pos =>
      cases v with
      | none => cases h
      | some e =>
        have h : (chkE S a e && !isOwn a) = true := h
        simp only [Bool.and_eq_true, Bool.not_eq_true'] at h
        exact s_ret C h.2 (sndE a S n W X C e h.1).v
    | _ => cases h
  | .retN, S, n, W, X, C, st, h => by
    cases st with
    | Return v pos =>
      cases v with
      | none => exact s_retN
      | some e => cases h
    | _ => cases h
  | .iff c a b, S, n, W, X, C, st, h => by
    cases st with
    | If ec sa sb pos =>
      have h : (chkE S c ec && tstE ec && chkSs S a sa && chkSs S b sb) = true := h
      simp only [Bool.and_eq_true] at h
      exact s_if ((sndE c S n W X C ec h.1.1.1).t h.1.1.2) (sndSs a S n W X C sa h.1.2) (sndSs b S n W X C sb h.2)
    | _ => cases h
  | .for_ t it b, S, n, W, X, C, st, h => by
    cases st with
    | For tg iter body orelse pos =>
      have h : (orelse.isEmpty && !isOwnI it && chkT S t tg && chkI S t it tg iter && chkSs S b body) = true := h
      simp only [Bool.and_eq_true, Bool.not_eq_true'] at h
      obtain ⟨⟨⟨⟨h1, h2⟩, h3⟩, h4⟩, h5⟩ := h
      cases orelse with
      | nil => exact s_for C h2 (chkI_plain h4) h3 (sndI it S n W X C t tg iter h4) (sndSs b S n W X C body h5)
      | cons _ _ => cases h1
    | _ => cases h
  | .whl c b, S, n, W, X, C, st, h => by
    cases st with
    | While ec body orelse pos =>
      have h : (orelse.isEmpty && chkE S c ec && tstE ec && chkSs S b body) = true := h
      simp only [Bool.and_eq_true] at h
      obtain ⟨⟨⟨h1, h2⟩, h3⟩, h4⟩ := h
      cases orelse with
      | nil => exact s_whl C ((sndE c S n W X C ec h2).t h3) (sndSs b S n W X C body h4)
      | cons _ _ => cases h1
    | _ => cases h
  | .pass, S, n, W, X, C, st, h => by
    cases st with
    | Pass pos => exact s_pass
    | _ => cases h
  | .brk, S, n, W, X, C, st, h => by
    cases st with
    | Break pos => exact s_brk
    | _ => cases h
  | .cnt, S, n, W, X, C, st, h => by
    cases st with
    | Continue pos => exact s_cnt
    | _ => cases h
  | .frz i, S, n, W, X, C, st, h => by cases st <;> cases h
  | .drop a, S, n, W, X, C, st, h => by
    cases st with
    | Expr e pos =>
      have h : (chkE S a e && plainE e && !isLC e) = true := h
      simp only [Bool.and_eq_true, Bool.not_eq_true'] at h
      exact s_drop h.1.2 h.2 (sndE a S n W X C e h.1.1).v
    | _ => cases h
  | .nev, S, n, W, X, C, st, h => s_nev
theorem sndSs : ∀ (s : Sms) (S : SC) (n : Nat) (W : WX) (X : Cx), Cok S Φ XI n W X → ∀ st, chkSs S s st = true → PSs X st (tSs Φ XI W s)
  | .nil, S, n, W, X, C, st, h => by
    cases st with
    | nil => exact s_nil
    | cons _ _ => cases h
  | .cons s r, S, n, W, X, C, st, h => by
    by_cases hf : ∃ i, s = .frz i
    · obtain ⟨i, rfl⟩ := hf
      exact s_frz (sndSs r S n W X C st h)
    · cases st with
      | nil => cases s <;> first | exact absurd ⟨_, rfl⟩ hf | cases h
      | cons st rest =>
        have h : (chkS S s st && chkSs S r rest) = true := by
          cases s <;> first | exact absurd ⟨_, rfl⟩ hf | exact h
        rw [Bool.and_eq_true] at h
        exact s_cons (sndS s S n W X C st h.1) (sndSs r S n W X C rest h.2)
end
end EV

set_option maxHeartbeats 4000000
/-! EvQ: defs, the cup, the law. -/
namespace EV
open PySem PySem.Spec PyProof.Rows L2

structure DefI where
  name : Str
  st : Stmt
  N : List Str
  ps : List Str
  fn : Fn
structure Bk where
  tb : List DefI
  fns : List (Str × Nat)
  gls : List (Str × D)
  bts : List Str
def Bk.T (E : Bk) : Nat → Option Fn := fun i => E.tb[i]?.map (·.fn)
def Bk.sc (E : Bk) (N : List Str) (sc : Scope) : SC := ⟨N, sc, sc, E.fns, E.gls, E.bts⟩
def scF (N P : List Str) (sc : Scope) : Bool :=
  decide (sc.kind = .function) && !sc.isCoroutine && !sc.isGenerator && decide N.Nodup && decide (N.take P.length = P) && P.all (fun x => decide (sc.names.lookup x = some .local) || decide (sc.names.lookup x = some .cell)) && sc.names.all (fun y => !decide (y.2 = .free))
theorem scF_ok {N P : List Str} {sc : Scope} (h : scF N P sc = true) : FnScope N P sc := by
  unfold scF at h
  simp only [Bool.and_eq_true, Bool.not_eq_true', decide_eq_true_eq, List.all_eq_true, Bool.or_eq_true, decide_eq_false_iff_not] at h
  obtain ⟨⟨⟨⟨⟨⟨h1, h2⟩, h3⟩, h4⟩, h5⟩, h6⟩, h7⟩ := h
  exact ⟨h1, h2, h3, h4, h5, h6, h7⟩
def chkD (E : Bk) (D : DefI) : Bool := scF D.N D.ps (defScope D.st) && D.fn.np == D.ps.length && D.fn.ns == D.N.length && chkSs (E.sc D.N (defScope D.st)) D.fn.body (defBody D.st)
/-- each name that is called stands in the table -/
def chkF (E : Bk) : Bool := E.fns.all fun p => match E.tb[p.2]? with
  | some D => D.name == p.1
  | none => false
structure TopOk (w : World) (K : PySem.W.Frag) (mg : Str → Option Value) (E : Bk) : Prop where
  fn : ∀ (i : Nat) (D : DefI), E.tb[i]? = some D → ∃ a fd, mg D.name = some (.ref a) ∧ Fun K D.name D.name D.st a fd ∧ Binds K fd D.ps []
  gl : ∀ (x : Str) (d : D), E.gls.lookup x = some d → ∃ u v, mg x = some u ∧ RelV v u ∧ ∀ γ H, Rep γ H v d
  bt : ∀ x, E.bts.contains x = true → mg x = none
section
variable {P : Program} {w : World} {K : PySem.W.Frag} {mg : Str → Option Value} {base : Heap} {E : Bk} {XI : XIs}
theorem cok {N : List Str} {ps : List Str} {sc : Scope} {n : Nat} {f : Addr} {qual : Str} {cdv : Value} {A : Around} {outer : List Env} {s : Shared} {H : Hp} {X : XK} (top : TopOk w K mg E) (hf : chkF E = true) (hr : Room n (A.deeper (envOfC qual sc s.heap.objs.size f cdv))) (S : FnScope N ps sc)
    (ih : ∀ (i : Nat) (D : DefI) (a : Addr) (fd : FuncData), E.tb[i]? = some D → mg D.name = some (.ref a) → Fun K D.name D.name D.st a fd → FnOk P w K mg base (L2.CX P w) n a fd D.ps (spF (runs E.T n) XI i)) :
    Cok (E.sc N sc) (runs E.T n) XI n (fun cls d _ H => X cls d H) (cxOf (L2.CX P w) P w K mg base N qual sc f cdv A outer s H X) := by
  refine ⟨rfl, rfl, S.nd, rfl, fun x hx => ⟨?_, .inl rfl⟩, takes_of rfl rfl rfl rfl, passes_of rfl, fun x j hj => ?_, hr, top.gl, top.bt⟩
  · have hx : (match sc.names.lookup x with
      | some .local => true
      | some .cell => true
      | _ => false) = true := hx
    split at hx
    · exact .inl (by assumption)
    · exact .inr (by assumption)
    · cases hx
  · have hj : E.fns.lookup x = some j := hj
    have q := List.all_eq_true.mp hf _ (PySem.mem_of_lookup hj)
    have q : (match E.tb[j]? with
      | some D => D.name == x
      | none => false) = true := q
    split at q
    · rename_i D e
      cases beq_iff_eq.mp q
      obtain ⟨a, fd, g1, g2, g3⟩ := top.fn j D e
      exact ⟨a, fd, D.ps, g1, g2.kp, g3, ih j D a fd e g1 g2⟩
    · cases q
theorem start_ss {N : List Str} {γ : Option Addr} {vs : List V} {ds : List D} {c : Cup} {H : Hp} {k : Nat} (r : Reps γ H vs ds) (k : CupAt γ c H) (hn : N.length = m) : SS γ H (ds.map Slot.fz ++ List.replicate (m - ds.length) .no) c (L2.start N vs) H := by
  have hl := r.length
  refine ⟨⟨fun i d h => ?_, fun i es h => ?_, fun i j es fs a h => ?_, k, ?_⟩, SameC.refl, fun i es a h => ?_⟩
  · by_cases hi : i < ds.length
    · rw [List.getElem?_append_left (by simpa using hi), List.getElem?_map] at h
      cases q : ds[i]? with
      | none => rw [q] at h; cases h
      | some d' =>
        rw [q] at h
        cases h
        obtain ⟨v, h1, h2⟩ := r.get q
        refine ⟨v, ?_, h2⟩
        unfold L2.start
        rw [List.getElem?_append_left (by simpa [hl] using hi), List.getElem?_map, h1]; rfl
    · rw [List.getElem?_append_right (by simpa using hi), List.getElem?_replicate] at h
      split at h <;> cases h
  · exfalso
    by_cases hi : i < ds.length
    · rw [List.getElem?_append_left (by simpa using hi), List.getElem?_map] at h
      cases q : ds[i]? with
      | none => rw [q] at h; cases h
      | some d' => rw [q] at h; cases h
    · rw [List.getElem?_append_right (by simpa using hi), List.getElem?_replicate] at h
      split at h <;> cases h
  · exfalso
    by_cases hi : i < ds.length
    · rw [List.getElem?_append_left (by simpa using hi), List.getElem?_map] at h
      cases q : ds[i]? with
      | none => rw [q] at h; cases h
      | some d' => rw [q] at h; cases h
    · rw [List.getElem?_append_right (by simpa using hi), List.getElem?_replicate] at h
      split at h <;> cases h
  · unfold L2.start
    rw [List.length_append, List.length_append, List.length_map, List.length_map, List.length_replicate, List.length_replicate, hl, hn]
  · exfalso
    by_cases hi : i < ds.length
    · rw [List.getElem?_append_left (by simpa using hi), List.getElem?_map] at h
      cases q : ds[i]? with
      | none => rw [q] at h; cases h
      | some d' => rw [q] at h; cases h
    · rw [List.getElem?_append_right (by simpa using hi), List.getElem?_replicate] at h
      split at h <;> cases h
theorem runs_succ {T : Nat → Option Fn} {n i : Nat} {ds : List D} {c : Cup} {F : Fn} (h : T i = some F) : runs T (n + 1) i ds c = runFn (runs T n) F ds c := by
  show (match T i with
    | some F => runFn (runs T n) F ds c
    | none => .bad) = _
  rw [h]
/-- every def of the table does what its plain code tells -/
theorem tbl_ok (hc : E.tb.all (chkD E) = true) (hf : chkF E = true) (top : TopOk w K mg E) : ∀ (n i : Nat) (D : DefI) (a : Addr) (fd : FuncData), E.tb[i]? = some D → mg D.name = some (.ref a) → Fun K D.name D.name D.st a fd → FnOk P w K mg base (L2.CX P w) n a fd D.ps (spF (runs E.T n) XI i)
  | 0, i, D, a, fd, _, _, _ => ⟨fun vs H Q E h => by obtain ⟨_, _, _, _, _, q⟩ := h; exact q.elim, fun A outer s H args us vs Q E _ _ _ _ h => by obtain ⟨_, _, _, _, _, q⟩ := h; exact q.elim⟩
  | n + 1, i, D, a, fd, hi, hm, F => by
    have ck := List.all_eq_true.mp hc D (List.mem_of_getElem? hi)
    unfold chkD at ck
    simp only [Bool.and_eq_true] at ck
    obtain ⟨⟨⟨c1, c2⟩, c3⟩, c4⟩ := ck
    have S := scF_ok c1
    have e2 : D.fn.np = D.ps.length := eq_of_beq c2
    have e3 : D.fn.ns = D.N.length := eq_of_beq c3
    have hT : E.T i = some D.fn := by
      show E.tb[i]?.map (·.fn) = _
      rw [hi]; rfl
    refine F.okX S (fun vs H Q X h => ?_) (fun cdv A outer s H vs Q X hr h => ?_)
    · obtain ⟨γ, ds, c, r, k, q⟩ := h
      rw [runs_succ hT] at q
      unfold runFn at q
      by_cases hl : ds.length = D.fn.np
      · rw [r.length, hl, e2]
      · rw [if_neg hl] at q; exact q.elim
    · obtain ⟨γ, ds, c, r, k, q⟩ := h
      rw [runs_succ hT] at q
      unfold runFn at q
      by_cases hl : ds.length = D.fn.np
      · rw [if_pos hl] at q
        have C := cok (XI := XI) (X := X) (outer := outer) (s := s) (H := H) (f := a) (qual := D.name) (cdv := cdv) top hf hr S (fun i D a fd h1 h2 h3 => tbl_ok hc hf top n i D a fd h1 h2 h3)
        refine ⟨_, sndSs D.fn.body _ n _ _ C (defBody D.st) c4, γ, H, _, c, start_ss (k := 0) r k (m := D.fn.ns) e3.symm, ?_⟩
        rw [hl]
        refine (Aft.bind q).mono (fun _ _ _ z cls d σ' H' kc sc xi => z cls d H' kc sc xi) fun f hf => ?_
        cases f with
        | nx lo c => exact fun σ' H' s' _ => hf .non H' s'.r.cu s'.same .non
        | rt d c => exact hf
        | bk lo c => exact hf.elim
        | ct lo c => exact hf.elim
      · rw [if_neg hl] at q; exact q.elim
end
end EV

set_option maxHeartbeats 4000000
/-! EvR: the cup and the law. -/
namespace EV
open PySem PySem.Spec PyProof.Rows L2

def noF : Fns := fun _ _ _ => .bad
/-- the script's first number, or 0; without its sign -/
def cellOf0 (ns : List Int) : Int := match ns with
  | [] => 0
  | n :: _ => n
def absI (i : Int) : Int := if i < 0 then -i else i
theorem absI_nn (i : Int) : 0 ≤ absI i := by unfold absI; split <;> omega
/-- what the cup is at a cell -/
def CupIs (es : Exs) (cell : Int) (c : Cup) : Prop := evEs noF es [.no, .fz (.int cell)] (0, 0) = .ok ([.int c.1, .int c.2], (0, 0))
def spCup (K : PySem.W.Frag) (es : Exs) : Sp := fun vs H Q _ => ∃ (a : Addr) (ns : List Int) (c : Cup), vs = [.ref a] ∧ SqL K H a (ns.map V.int) ∧ ns.length ≤ 63 ∧ CupIs es (absI (cellOf0 ns)) c ∧ ∀ p H', H' p = some (.lst [.int c.1, .int c.2]) → Q (.ref p) H'
theorem Reps.ofInts {γ : Option Addr} {H : Hp} : ∀ ns : List Int, Reps γ H (ns.map V.int) (ns.map D.int)
  | [] => .nil
  | n :: ns => .cons (.int n) (Reps.ofInts ns)
section
variable {P : Program} {w : World} {K : PySem.W.Frag} {mg : Str → Option Value} {base : Heap}
abbrev bk0 (bts : List Str) : Bk := ⟨[], [], [], bts⟩
theorem runs0 (bts : List Str) (n : Nat) : runs (bk0 bts).T n = noF := by
  cases n with
  | zero => rfl
  | succ n => rfl
theorem ok_cup {p1 p2 p3 p4 p5 p6 p7 p8 p9 p10 p11 p12 p13 p14 : Pos} {j1 j2 : Nat} {l : List Expr} {es : Exs} {bts : List Str} {st : Stmt} {f : Addr} {fd : FuncData} (F : Fun K "_law_cup" "_law_cup" st f fd)
    (hb : defBody st = [.Assign [.Name "cell" p1] (.Call (.Name "abs" p2) [.Subscript (.BinOp (.Call (.Name "list" p3) [.Name "script" p4] [] p5) .Add (.List [.Constant (.int 0) j1 p6] p7) p8) (.Constant (.int 0) j2 p9) p10] [] p11) p12, .Return (some (.List l p13)) p14])
    (hs : scF ["script", "cell"] ["script"] (defScope st) = true) (hc : chkEs ((bk0 bts).sc ["script", "cell"] (defScope st)) es l = true) (h1 : l.length ≤ 1000)
    (ha : ((bk0 bts).sc ["script", "cell"] (defScope st)).blt "abs" "abs" = true) (hl : ((bk0 bts).sc ["script", "cell"] (defScope st)).blt "list" "list" = true) (hst : ((bk0 bts).sc ["script", "cell"] (defScope st)).sto "cell" = true) (hv : ((bk0 bts).sc ["script", "cell"] (defScope st)).vis "script" = true)
    (bt : ∀ x, bts.contains x = true → mg x = none) : FnOk P w K mg base (L2.CX P w) 1 f fd ["script"] (spCup K es) := by
  have S := scF_ok hs
  refine F.okX S (fun vs H Q X h => ?_) (fun cdv A outer s H vs Q X hr h => ?_)
  · obtain ⟨a, ns, c, rfl, _⟩ := h; rfl
  · obtain ⟨a, ns, c, rfl, hS, hn, hcup, q⟩ := h
    have top : TopOk w K mg (bk0 bts) := ⟨fun i D h => (nomatch h), fun x d h => (nomatch h), bt⟩
    have C := cok (P := P) (base := base) (XI := fun _ _ _ _ _ => False) (X := X) (outer := outer) (s := s) (H := H) (f := f) (qual := "_law_cup") (cdv := cdv) top rfl hr S (fun i D a fd h => by cases h)
    rw [runs0] at C
    obtain ⟨_, g1, m1⟩ := C.blt ha
    obtain ⟨_, g2, m2⟩ := C.blt hl
    obtain ⟨t1, t2⟩ := C.st _ hst
    rw [hb]
    have hret := ps_ret (pos := p14) (c_lstO (pos := p13) (Φ := noF) (XI := fun _ _ _ _ _ => False) (chkEs_len es l hc) h1 (sndEs es _ _ _ _ C l hc))
    refine ⟨_, pss_cons (ps_set (i := 1) S.nd rfl t1 (pe_callB (prm_any' rfl .abs) g1 m1 (by decide +kernel) (pa_cons (pe_ix ix_any (pe_op (op_bin (o := .add) rfl) (pe_callTy call_list_of g2 m2 (by decide +kernel) (pa_cons (pe_var (i := 0) rfl (C.vis hv)) pa_nil)) (pe_lst (pa_cons pe_int pa_nil))) pe_int (fun _ _ => rfl)) pa_nil)) rfl t2) (pss_one hret), ?_⟩
    refine ⟨.ref a, rfl, a, ns.map V.int, rfl, .inl hS, fun p np => ⟨by show 1 ≤ sizeLine; decide, fun q2 nq => ?_⟩⟩
    have cu : ∀ {H : Hp}, CupAt none (0, 0) H := fun {H} b z => nomatch z
    have npq : p ≠ q2 := ne_of_none upd_same nq
    refine ⟨none, (0, 0), .lst (ns.map D.int), .lst [.int 0], .lst (ns.map D.int ++ [.int 0]), cu, .inr ⟨p, ns.map V.int, _, rfl, rfl, by rw [upd_ne npq]; exact upd_same, .ofInts ns, fun z => nomatch z⟩, .inr ⟨q2, [.int 0], _, rfl, rfl, upd_same, .cons (.int 0) .nil, fun z => nomatch z⟩, ?_, fun v H3 _ s3 r3 => ?_⟩
    · show need (smallL ((ns.map D.int).length + 1)) _ = _
      have : smallL ((ns.map D.int).length + 1) = true := decide_eq_true (by rw [List.length_map]; omega)
      rw [this]; rfl
    · refine ⟨none, (0, 0), _, .int 0, .int (cellOf0 ns), cu, .inl r3, .inl (.int 0), ?_, fun u ru => ?_⟩
      · show ofO (L2.atI _ _) = _
        have e : L2.atI (ns.map D.int ++ [.int 0]) 0 = some (.int (cellOf0 ns)) := by
          cases ns <;> exact atI_nat (j := 0) rfl
        rw [e]; rfl
      · cases ru
        refine ⟨none, (0, 0), .int (cellOf0 ns), .int (cellOf0 ns), .int (absI (cellOf0 ns)), rfl, cu, .inl (.int _), rfl, fun z H4 _ s4 rz => ?_⟩
        cases rz
        refine ⟨none, [.no, .fz (.int (absI (cellOf0 ns)))], (0, 0), ⟨fun i d h => ?_, fun i ds h => ?_, fun i j ds es b h => ?_, cu, rfl⟩, ?_⟩
        · match i, h with
          | 1, h => cases h; exact ⟨.int _, rfl, .int _⟩
          | 0, h => cases h
          | _ + 2, h => simp at h
        · match i, h with
          | 1, h => cases h
          | 0, h => cases h
          | _ + 2, h => simp at h
        · match i, h with
          | 1, h => cases h
          | 0, h => cases h
          | _ + 2, h => simp at h
        · have e : evE noF (.lst es) [.no, .fz (.int (absI (cellOf0 ns)))] (0, 0) = .ok (.lst [.int c.1, .int c.2], (0, 0)) := by
            show (evEs noF es _ _).bind _ = _
            rw [hcup]; rfl
          rw [e]
          refine ⟨_, rfl, fun p5 xs H5 n5 g5 e5 r5 k5 s5 => ?_⟩
          have hx : xs = [.int c.1, .int c.2] := by
            have := r5.ints (ns := [c.1, c.2]) rfl
            exact this
          subst hx
          exact q p5 H5 e5
/-! ### the law -/
def spLaw (K : PySem.W.Frag) : Sp := fun vs H Q _ => ∃ (a : Addr) (ns : List Int), vs = [.ref a] ∧ SqL K H a (ns.map V.int) ∧ ns.length ≤ 63 ∧ ∀ H', Q (.bl true) H'
theorem ok_law {p1 p2 p3 p4 p5 : Pos} {E : Bk} {N : List Str} {st stC : Stmt} {rest : List Stmt} {body : Sms} {es : Exs} {n : Nat} {f fC : Addr} {fd fdC : FuncData} (top : TopOk w K mg E) (F : Fun K "law" "law" st f fd) (FC : Fun K "_law_cup" "_law_cup" stC fC fdC) (bC : Binds K fdC ["script"] []) (mC : mg "_law_cup" = some (.ref fC))
    (okC : FnOk P w K mg base (L2.CX P w) 1 fC fdC ["script"] (spCup K es)) (hb : defBody st = .Assign [.Name "cup" p1] (.Call (.Name "_law_cup" p2) [.Name "script" p3] [] p4) p5 :: rest)
    (hN0 : N[0]? = some ("script" : Str)) (hN1 : N[1]? = some ("cup" : Str)) (hs : scF N ["script"] (defScope st) = true) (hc : chkSs (E.sc N (defScope st)) body rest = true) (htb : E.tb.all (chkD E) = true) (hf : chkF E = true) (hst : (E.sc N (defScope st)).sto "cup" = true) (hv : (E.sc N (defScope st)).vis "script" = true) (hg : (E.sc N (defScope st)).gl "_law_cup" = true)
    (law : ∀ cell : Int, 0 ≤ cell → ∃ c, CupIs es cell c ∧ ∃ c', exSs (runs E.T (n + 1)) body (.no :: .fz .cup :: List.replicate (N.length - 2) .no) c = .ok (.rt (.bl true) c')) :
    FnOk P w K mg base (L2.CX P w) (n + 2) f fd ["script"] (spLaw K) := by
  have S := scF_ok hs
  refine F.okX S (fun vs H Q X h => ?_) (fun cdv A outer s H vs Q X hr h => ?_)
  · obtain ⟨a, ns, rfl, _⟩ := h; rfl
  · obtain ⟨a, ns, rfl, hS, hn, q⟩ := h
    obtain ⟨c, hcup, c', hlaw⟩ := law _ (absI_nn (cellOf0 ns))
    have C := cok (P := P) (base := base) (XI := fun _ _ _ _ _ => False) (X := X) (outer := outer) (s := s) (H := H) (f := f) (qual := "law") (cdv := cdv) top hf hr S (fun i D a fd h1 h2 h3 => tbl_ok htb hf top (n + 1) i D a fd h1 h2 h3)
    obtain ⟨t1, t2⟩ := C.st _ hst
    rw [hb]
    refine ⟨_, pss_cons (ps_set (i := 1) S.nd hN1 t1 (pe_callS (E := fun σ => WE (fun cls d _ H => X cls d H) σ) (okC.mono (by omega)) hr (C.glob hg) mC FC.kp bC (fun σ => passAt C.tk σ) (pa_cons (pe_var (i := 0) hN0 (C.vis hv)) pa_nil)) rfl t2) (sndSs body _ _ _ _ C rest hc), ?_⟩
    have hlen : 2 ≤ N.length := (List.getElem?_eq_some_iff.mp hN1).1
    have hst0 : L2.start N [V.ref a] = some (.ref a) :: none :: List.replicate (N.length - 2) none := by
      show some (V.ref a) :: List.replicate (N.length - 1) none = _
      have : N.length - 1 = (N.length - 2) + 1 := by omega
      rw [this, List.replicate_succ]
    rw [hst0]
    refine ⟨.ref a, rfl, a, ns, c, rfl, hS, hn, hcup, fun p H1 e1 => ?_⟩
    refine ⟨some p, H1, .no :: .fz .cup :: List.replicate (N.length - 2) .no, c, ⟨⟨fun i d h => ?_, fun i ds h => ?_, fun i j ds es b h => ?_, fun b z => ?_, ?_⟩, SameC.refl, fun i ds b h => ?_⟩, ?_⟩
    · match i, h with
      | 0, h => cases h
      | 1, h => cases h; exact ⟨.ref p, rfl, .cup rfl⟩
      | i + 2, h =>
        have h : (List.replicate (N.length - 2) Slot.no)[i]? = some (.fz d) := h
        rw [List.getElem?_replicate] at h
        split at h <;> cases h
    · match i, h with
      | 0, h => cases h
      | 1, h => cases h
      | i + 2, h =>
        have h : (List.replicate (N.length - 2) Slot.no)[i]? = some (.own ds) := h
        rw [List.getElem?_replicate] at h
        split at h <;> cases h
    · match i, h with
      | 0, h => cases h
      | 1, h => cases h
      | i + 2, h =>
        have h : (List.replicate (N.length - 2) Slot.no)[i]? = some (.own ds) := h
        rw [List.getElem?_replicate] at h
        split at h <;> cases h
    · cases z; exact e1
    · show (List.replicate (N.length - 2) Slot.no).length + 1 + 1 = (List.replicate (N.length - 2) (none : Option V)).length + 1 + 1
      rw [List.length_replicate, List.length_replicate]
    · match i, h with
      | 0, h => cases h
      | 1, h => cases h
      | i + 2, h =>
        have h : (List.replicate (N.length - 2) Slot.no)[i]? = some (.own ds) := h
        rw [List.getElem?_replicate] at h
        split at h <;> cases h
    · rw [hlaw]
      intro v H' _ _ rv
      cases rv
      exact q H'
end
/-! ### what the top has written -/
/-- a def of the text, where the top left it -/
def DK (K : PySem.W.Frag) (x : Str) (st : Stmt) : Prop := ∃ f fd, PySem.W.nsIn K mainGlobals x = some (some (.ref f)) ∧ Fun K x x st f fd
theorem dk_mk {K : PySem.W.Frag} {x : Str} {st : Stmt} {f : Addr} {oc : Value} {od an : Option Addr} {osl : Array (Option Value)} {kV doc pm cdv ct : Value} (a : PySem.W.nsIn K mainGlobals x = some (some (.ref f)))
    (l : K.lookup f = some ⟨oc, od, .func (PySem.W.fnOf x x (defArgs st) (defBody st) (defScope st) .none kV doc pm an cdv ct), osl⟩) (c : PySem.W.codeIn K cdv x = true) (k : PySem.W.keepIn K (.ref f) = true) : DK K x st := ⟨f, _, a, fun_mk l c k⟩
def BindOk (D : DefI) : Prop := ∀ (kV doc pm : Value) (an : Option Addr) (cdv ct : Value) (us : List Value), us.length = D.ps.length → bindArgs (PySem.W.fnOf D.name D.name (defArgs D.st) (defBody D.st) (defScope D.st) .none kV doc pm an cdv ct) ⟨us, []⟩ = pure (D.ps.zip us)
def allP {α : Type} (p : α → Prop) : List α → Prop
  | [] => True
  | x :: r => p x ∧ allP p r
theorem allP_get {α : Type} {p : α → Prop} : ∀ {l : List α} {i : Nat} {x : α}, allP p l → l[i]? = some x → p x
  | [], _, _, _, h => by cases h
  | _ :: _, 0, _, h, e => by cases e; exact h.1
  | _ :: r, i + 1, _, h, e => allP_get (l := r) h.2 (by simpa using e)
theorem allP_mem {α : Type} {p : α → Prop} : ∀ {l : List α} {x : α}, allP p l → x ∈ l → p x
  | _ :: _, _, h, e => by
    rcases List.mem_cons.mp e with z | z
    · rw [z]; exact h.1
    · exact allP_mem h.2 z
/-- a number of the module -/
def GK (K : PySem.W.Frag) (p : Str × D) : Prop := ∃ u v, PySem.W.nsIn K mainGlobals p.1 = some (some u) ∧ RelV v u ∧ ∀ γ H, Rep γ H v p.2
theorem gk_int {K : PySem.W.Frag} {x : Str} {i : Int} {t : Tok} (a : PySem.W.nsIn K mainGlobals x = some (some (.int i t))) : GK K (x, .int i) := ⟨_, .int i, a, ⟨t, rfl⟩, fun _ _ => .int i⟩
theorem gk_str {K : PySem.W.Frag} {x z : Str} {l : List Nat} {t : Tok} (a : PySem.W.nsIn K mainGlobals x = some (some (.str z t))) (e : z.cps.toList = l) : GK K (x, .str l) := ⟨_, .str z, a, ⟨t, rfl⟩, fun γ H => by subst e; exact .str z⟩
def BK (K : PySem.W.Frag) (x : Str) : Prop := PySem.W.nsIn K mainGlobals x = some none
theorem top_ok {w : World} {K : PySem.W.Frag} {h : Heap} {mg : Str → Option Value} {E : Bk} (X : K.In h) (G : h.Ns mainGlobals mg) (hd : allP (fun D => DK K D.name D.st) E.tb) (hb : allP BindOk E.tb) (hg : allP (GK K) E.gls) (hz : allP (BK K) E.bts) : TopOk w K mg E := by
  refine ⟨fun i D e => ?_, fun x d e => ?_, fun x e => ?_⟩
  · obtain ⟨f, fd, a, F⟩ := allP_get hd e
    exact ⟨f, fd, PySem.W.mg_of X G a, F, F.binds (allP_get hb e)⟩
  · obtain ⟨u, v, a, r, q⟩ := allP_mem hg (PySem.mem_of_lookup e)
    exact ⟨u, v, PySem.W.mg_of X G a, r, q⟩
  · have q : BK K x := allP_mem hz (List.contains_iff_mem.mp e)
    exact PySem.W.mg_none_of X G q
theorem cx_none {P : Program} {w : World} {outer : List Env} {H : Hp} {s s' : Shared} {e : Value} (h : L2.CX P w outer H s (fun _ _ _ => False) e s') : False := by
  obtain ⟨_, _, _, _, _, _, _, _, _, _, _, _, z⟩ := h
  exact z.elim
end EV

set_option maxHeartbeats 2000000
/-! EvS: plain code, step by step. -/
namespace EV
open L2 (ixN atI)
section
variable {Φ : Fns} {lo : Lo} {c : Cup} {a b d t x : Ex} {es r : Exs} {i j : Nat}
@[simp] theorem evE_var : evE Φ (.var i) lo c = (match lo[i]? with | some (.fz d) => .ok (d, c) | _ => .bad) := rfl
@[simp] theorem evE_own : evE Φ (.own i) lo c = (match lo[i]? with | some (.own ds) => .ok (.lst ds, c) | _ => .bad) := rfl
@[simp] theorem evE_lit {z : D} : evE Φ (.lit z) lo c = .ok (z, c) := rfl
@[simp] theorem evE_bin {o : BinO} : evE Φ (.bin o a b) lo c = (evE Φ a lo c).bind fun x => (evE Φ b lo x.2).bind fun y => (binD o x.1 y.1).bind fun z => .ok (z, y.2) := rfl
@[simp] theorem evE_neg : evE Φ (.neg a) lo c = (evE Φ a lo c).bind fun x => asI x.1 fun i => .ok (.int (-i), x.2) := rfl
@[simp] theorem evE_cmp {o : CmO} : evE Φ (.cmp o a b) lo c = (evE Φ a lo c).bind fun x => (evE Φ b lo x.2).bind fun y => (cmpD o x.1 y.1).bind fun z => .ok (.bl z, y.2) := rfl
@[simp] theorem evE_chn {o o' : CmO} : evE Φ (.chn o o' a b d) lo c = (evE Φ a lo c).bind fun x => (evE Φ b lo x.2).bind fun y => (cmpD o x.1 y.1).bind fun z =>
      if z then (evE Φ d lo y.2).bind fun u => (cmpD o' y.1 u.1).bind fun w => .ok (.bl w, u.2) else .ok (.bl false, y.2) := rfl
@[simp] theorem evE_and : evE Φ (.and a b) lo c = (evE Φ a lo c).bind fun x => asB x.1 fun k => if k then evE Φ b lo x.2 else .ok (.bl false, x.2) := rfl
@[simp] theorem evE_or : evE Φ (.or a b) lo c = (evE Φ a lo c).bind fun x => asB x.1 fun k => if k then .ok (.bl true, x.2) else evE Φ b lo x.2 := rfl
@[simp] theorem evE_not : evE Φ (.not a) lo c = (evE Φ a lo c).bind fun x => asB x.1 fun k => .ok (.bl (!k), x.2) := rfl
@[simp] theorem evE_ite : evE Φ (.ite t a b) lo c = (evE Φ t lo c).bind fun x => asB x.1 fun k => if k then evE Φ a lo x.2 else evE Φ b lo x.2 := rfl
@[simp] theorem evE_tup : evE Φ (.tup es) lo c = (evEs Φ es lo c).bind fun x => .ok (.tup x.1, x.2) := rfl
@[simp] theorem evE_lst : evE Φ (.lst es) lo c = (evEs Φ es lo c).bind fun x => .ok (.lst x.1, x.2) := rfl
@[simp] theorem evE_idx : evE Φ (.idx a b) lo c = (evE Φ a lo c).bind fun x => (evE Φ b lo x.2).bind fun y => (idxD y.2 x.1 y.1).bind fun z => .ok (z, y.2) := rfl
@[simp] theorem evE_slc {l h : Ox} : evE Φ (.slc a l h) lo c = (evE Φ a lo c).bind fun x => (evO Φ l lo x.2).bind fun y => (evO Φ h lo y.2).bind fun z => (slcD x.1 y.1 z.1).bind fun w => .ok (w, z.2) := rfl
@[simp] theorem evE_isi {ty : Ty} : evE Φ (.isi a ty) lo c = (evE Φ a lo c).bind fun x => (isiD ty x.1).bind fun b => .ok (.bl b, x.2) := rfl
@[simp] theorem evE_prm {p : Prm} : evE Φ (.prm p a) lo c = (evE Φ a lo c).bind fun x => (prmD p x.1).bind fun y => .ok (y, x.2) := rfl
@[simp] theorem evE_sset : evE Φ (.sset a) lo c = (evE Φ a lo c).bind fun x => (ssetD x.1).bind fun y => .ok (y, x.2) := rfl
@[simp] theorem evE_call {f : Nat} : evE Φ (.call f es) lo c = (evEs Φ es lo c).bind fun x => Φ f x.1 x.2 := rfl
/-- a comprehension's turn -/
def lcF (Φ : Fns) (ow : List Nat) (t : Tg) (cs : Exs) (e : Ex) (lo : Lo) : D → Cup → Res (Option D × Cup) := fun d c => noX ((ofO (tgSet t d (wipeL lo ow))).bind fun lo' =>
      (evCs Φ cs lo' c).bind fun k => if k.1 then (evE Φ e lo' k.2).bind fun y => .ok (some y.1, y.2) else .ok (none, k.2))
@[simp] theorem evE_lc {ow : List Nat} {tg : Tg} {it : It} {cs : Exs} : evE Φ (.lc ow tg it cs x) lo c = (evI Φ it lo c).bind fun z => (lcGo (lcF Φ ow tg cs x lo) z.1 z.2).bind fun q => .ok (.lst q.1, q.2) := rfl
@[simp] theorem evEs_nil : evEs Φ .nil lo c = .ok ([], c) := rfl
@[simp] theorem evEs_cons : evEs Φ (.cons a r) lo c = (evE Φ a lo c).bind fun x => (evEs Φ r lo x.2).bind fun y => .ok (x.1 :: y.1, y.2) := rfl
@[simp] theorem evCs_nil : evCs Φ .nil lo c = .ok (true, c) := rfl
@[simp] theorem evCs_cons : evCs Φ (.cons a r) lo c = (evE Φ a lo c).bind fun x => asB x.1 fun k => if k then evCs Φ r lo x.2 else .ok (false, x.2) := rfl
@[simp] theorem evO_non : evO Φ .non lo c = .ok (none, c) := rfl
@[simp] theorem evO_som : evO Φ (.som a) lo c = (evE Φ a lo c).bind fun x => asI x.1 fun i => .ok (some i, x.2) := rfl
@[simp] theorem evI_seq : evI Φ (.seq a) lo c = (evE Φ a lo c).bind fun x => (seqD x.1).bind fun y => .ok (y, x.2) := rfl
@[simp] theorem evI_rng1 : evI Φ (.rng1 a) lo c = (evE Φ a lo c).bind fun x => asI x.1 fun j => need (decide (-16777216 ≤ j) && smallL j.toNat) (.ok (rngL 0 j.toNat, x.2)) := rfl
@[simp] theorem evI_enm : evI Φ (.enm a) lo c = (evE Φ a lo c).bind fun x => (ofO (items x.1)).bind fun y => .ok (enmL y, x.2) := rfl
@[simp] theorem evI_zip : evI Φ (.zip a b) lo c = (evE Φ a lo c).bind fun x => (evE Φ b lo x.2).bind fun y => (zipD x.1 y.1).bind fun z => .ok (z, y.2) := rfl
@[simp] theorem exS_set : exS Φ (.set i a) lo c = (evE Φ a lo c).bind fun x => .ok (.nx (lo.set i (.fz x.1)) x.2) := rfl
@[simp] theorem exS_setO : exS Φ (.setO i a) lo c = (evE Φ a lo c).bind fun x => match x.1 with | .lst ds => .ok (.nx (lo.set i (.own ds)) x.2) | _ => .bad := rfl
@[simp] theorem exS_par {ts : List (Nat × Bool)} : exS Φ (.par ts es) lo c = (evEs Φ es lo c).bind fun x => (ofO (parSet ts x.1 lo)).bind fun lo => .ok (.nx lo x.2) := rfl
@[simp] theorem exS_unp {tg : Tg} : exS Φ (.unp tg a) lo c = (evE Φ a lo c).bind fun x => (ofO (tgSet tg x.1 lo)).bind fun lo => .ok (.nx lo x.2) := rfl
@[simp] theorem exS_aug {o : BinO} : exS Φ (.aug i o a) lo c = (match lo[i]? with | some (.fz d) => (evE Φ a lo c).bind fun x => (augD o d x.1).bind fun z => .ok (.nx (lo.set i (.fz z)) x.2) | _ => .bad) := rfl
@[simp] theorem exS_app : exS Φ (.app i a) lo c = (match lo[i]? with | some (.own ds) => (evE Φ a lo c).bind fun x => need (decide (ds.length < 16777216)) (.ok (.nx (lo.set i (.own (ds ++ [x.1]))) x.2)) | _ => .bad) := rfl
@[simp] theorem exS_put : exS Φ (.put i b a) lo c = (evE Φ a lo c).bind fun x => match lo[i]? with | some (.own ds) => (evE Φ b lo x.2).bind fun y => asI y.1 fun j => (ofO (L2.ixN ds.length j)).bind fun m => .ok (.nx (lo.set i (.own (ds.set m x.1))) y.2) | _ => .bad := rfl
@[simp] theorem exS_cput : exS Φ (.cput i b a) lo c = (evE Φ a lo c).bind fun x => match lo[i]? with | some (.fz .cup) => (evE Φ b lo x.2).bind fun y => (cupPut y.2 y.1 x.1).bind fun z => .ok (.nx lo z) | _ => .bad := rfl
@[simp] theorem exS_ret : exS Φ (.ret a) lo c = (evE Φ a lo c).bind fun x => .ok (.rt x.1 x.2) := rfl
@[simp] theorem exS_retN : exS Φ .retN lo c = .ok (.rt .non c) := rfl
@[simp] theorem exS_iff {p q : Sms} : exS Φ (.iff a p q) lo c = (evE Φ a lo c).bind fun x => asB x.1 fun k => if k then exSs Φ p lo x.2 else exSs Φ q lo x.2 := rfl
@[simp] theorem exS_for {tg : Tg} {it : It} {p : Sms} : exS Φ (.for_ tg it p) lo c = (evI Φ it lo c).bind fun x => forGo tg (fun lo c => exSs Φ p lo c) x.1 lo x.2 := rfl
@[simp] theorem exS_whl {p : Sms} : exS Φ (.whl a p) lo c = whlGo (fun lo c => (evE Φ a lo c).bind fun x => asB x.1 fun k => .ok (k, x.2)) (fun lo c => exSs Φ p lo c) 10000 lo c := rfl
@[simp] theorem exS_pass : exS Φ .pass lo c = .ok (.nx lo c) := rfl
@[simp] theorem exS_frz : exS Φ (.frz i) lo c = (match lo[i]? with | some (.own ds) => .ok (.nx (lo.set i (.fz (.lst ds))) c) | _ => .bad) := rfl
@[simp] theorem exS_drop : exS Φ (.drop a) lo c = (evE Φ a lo c).bind fun x => .ok (.nx lo x.2) := rfl
@[simp] theorem exSs_nil : exSs Φ .nil lo c = .ok (.nx lo c) := rfl
@[simp] theorem exSs_cons {s : Sm} {q : Sms} : exSs Φ (.cons s q) lo c = (exS Φ s lo c).bind fun f => match f with | .nx lo c => exSs Φ q lo c | f => .ok f := rfl
end
/-! ### comprehensions -/
theorem lcGo_pure {f : D → Cup → Res (Option D × Cup)} {g : D → Option D} {c : Cup} : ∀ {xs : List D}, (∀ x ∈ xs, f x c = .ok (g x, c)) → lcGo f xs c = .ok (xs.filterMap g, c)
  | [], _ => rfl
  | x :: xs, h => by
    show (f x c).bind _ = _
    rw [h x List.mem_cons_self]
    show (lcGo f xs c).bind _ = _
    rw [lcGo_pure fun y hy => h y (List.mem_cons_of_mem _ hy)]
    show Res.ok ((match g x with | some y => y :: xs.filterMap g | none => xs.filterMap g), c) = _
    rw [List.filterMap_cons]
    cases g x <;> rfl
/-- .. over a list that is made of another -/
theorem lcGo_map {α : Type} {f : D → Cup → Res (Option D × Cup)} {e : α → D} {g : α → Option D} {c : Cup} {l : List α} (h : ∀ x ∈ l, f (e x) c = .ok (g x, c)) : lcGo f (l.map e) c = .ok (l.filterMap g, c) := by
  have q : ∀ {l : List α}, (∀ x ∈ l, f (e x) c = .ok (g x, c)) → lcGo f (l.map e) c = .ok (l.filterMap g, c) := fun {l} h => by
    induction l with
    | nil => rfl
    | cons x l ih =>
      show (f (e x) c).bind _ = _
      rw [h x List.mem_cons_self]
      show (lcGo f (l.map e) c).bind _ = _
      rw [ih fun y hy => h y (List.mem_cons_of_mem _ hy)]
      show Res.ok ((match g x with | some y => y :: l.filterMap g | none => l.filterMap g), c) = _
      rw [List.filterMap_cons]
      cases g x <;> rfl
  exact q h
/-- all, any of tests -/
theorem boolsD_map {α : Type} (p : α → Bool) : ∀ l : List α, boolsD (l.filterMap fun x => some (D.bl (p x))) = some (l.map p)
  | [] => rfl
  | x :: l => by
    rw [List.filterMap_cons]
    show (boolsD (l.filterMap fun x => some (D.bl (p x)))).map (p x :: ·) = _
    rw [boolsD_map p l]; rfl
inductive Rel2 {α β : Type} (Q : α → β → Prop) : List α → List β → Prop
  | nil : Rel2 Q [] []
  | cons {x : α} {y : β} {xs : List α} {ys : List β} : Q x y → Rel2 Q xs ys → Rel2 Q (x :: xs) (y :: ys)
/-- with draws: what is chosen of it -/
theorem lcGo_cup {f : D → Cup → Res (Option D × Cup)} {P : Cup → Prop} {Q : D → D → Prop} : ∀ {xs : List D} {c : Cup}, (∀ x ∈ xs, ∀ c, P c → ∃ o c', f x c = .ok (o, c') ∧ P c' ∧ ∀ y, o = some y → Q x y) → P c →
    ∃ ys zs c', lcGo f xs c = .ok (zs, c') ∧ P c' ∧ ys.Sublist xs ∧ Rel2 Q ys zs
  | [], c, _, p => ⟨[], [], c, rfl, p, .slnil, .nil⟩
  | x :: xs, c, h, p => by
    obtain ⟨o, c1, h1, p1, q1⟩ := h x List.mem_cons_self c p
    obtain ⟨ys, zs, c2, h2, p2, s2, r2⟩ := lcGo_cup (xs := xs) (fun y hy => h y (List.mem_cons_of_mem _ hy)) p1
    cases o with
    | none =>
      refine ⟨ys, zs, c2, ?_, p2, s2.cons _, r2⟩
      show (f x c).bind _ = _
      rw [h1]
      show (lcGo f xs c1).bind _ = _
      rw [h2]; rfl
    | some y =>
      refine ⟨x :: ys, y :: zs, c2, ?_, p2, s2.cons₂ _, .cons (q1 y rfl) r2⟩
      show (f x c).bind _ = _
      rw [h1]
      show (lcGo f xs c1).bind _ = _
      rw [h2]; rfl
/-! ### loops -/
/-- a for that goes through -/
theorem forGo_inv {t : Tg} {f : Lo → Cup → Res Flo} {P : Lo → Cup → Prop} : ∀ {xs : List D} {lo : Lo} {c : Cup}, (∀ x ∈ xs, ∀ lo c, P lo c → ∃ lo1 lo2 c2, tgSet t x lo = some lo1 ∧ f lo1 c = .ok (.nx lo2 c2) ∧ P lo2 c2) → P lo c → ∃ lo' c', forGo t f xs lo c = .ok (.nx lo' c') ∧ P lo' c'
  | [], lo, c, _, p => ⟨lo, c, rfl, p⟩
  | x :: xs, lo, c, h, p => by
    obtain ⟨lo1, lo2, c2, h1, h2, p2⟩ := h x List.mem_cons_self lo c p
    obtain ⟨lo', c', h3, p3⟩ := forGo_inv (xs := xs) (fun y hy => h y (List.mem_cons_of_mem _ hy)) p2
    refine ⟨lo', c', ?_, p3⟩
    show (ofO (tgSet t x lo)).bind _ = _
    rw [h1]
    show (f lo1 c).bind _ = _
    rw [h2]
    exact h3
theorem forGo_fold {α : Type} {t : Tg} {f : Lo → Cup → Res Flo} {R : α → Lo → Prop} {step : α → D → α} {c : Cup} : ∀ {xs : List D} {lo : Lo} {a : α}, (∀ x ∈ xs, ∀ a lo, R a lo → ∃ lo1 lo2, tgSet t x lo = some lo1 ∧ f lo1 c = .ok (.nx lo2 c) ∧ R (step a x) lo2) → R a lo →
    ∃ lo', forGo t f xs lo c = .ok (.nx lo' c) ∧ R (xs.foldl step a) lo'
  | [], lo, a, _, p => ⟨lo, rfl, p⟩
  | x :: xs, lo, a, h, p => by
    obtain ⟨lo1, lo2, h1, h2, p2⟩ := h x List.mem_cons_self a lo p
    obtain ⟨lo', h3, p3⟩ := forGo_fold (xs := xs) (fun y hy => h y (List.mem_cons_of_mem _ hy)) p2
    refine ⟨lo', ?_, p3⟩
    show (ofO (tgSet t x lo)).bind _ = _
    rw [h1]
    show (f lo1 c).bind _ = _
    rw [h2]
    exact h3
/-- step while the test says so, at most n times -/
def whlF {α : Type} (test : α → Bool) (step : α → α) : Nat → α → α
  | 0, a => a
  | n + 1, a => if test a then whlF test step n (step a) else a
theorem whlGo_fun {α : Type} {g : Lo → Cup → Res (Bool × Cup)} {f : Lo → Cup → Res Flo} {R : α → Lo → Prop} {test : α → Bool} {step : α → α} {μ : α → Nat} {c : Cup}
    (hg : ∀ a lo, R a lo → g lo c = .ok (test a, c)) (hf : ∀ a lo, R a lo → test a = true → ∃ lo2, f lo c = .ok (.nx lo2 c) ∧ R (step a) lo2 ∧ μ (step a) < μ a) :
    ∀ (n k : Nat) (a : α) (lo : Lo), R a lo → μ a < n → μ a ≤ k → ∃ lo', whlGo g f n lo c = .ok (.nx lo' c) ∧ R (whlF test step k a) lo' ∧ test (whlF test step k a) = false
  | 0, k, a, lo, r, h, _ => absurd h (Nat.not_lt_zero _)
  | n + 1, k, a, lo, r, h, hk => by
    have e : whlGo g f (n + 1) lo c = (g lo c).bind fun k => if k.1 then (f lo k.2).bind fun r => match r with
      | .nx lo c => whlGo g f n lo c
      | .ct lo c => whlGo g f n lo c
      | .bk lo c => .ok (.nx lo c)
      | .rt d c => .ok (.rt d c)
      else .ok (.nx lo k.2) := rfl
    rw [e, hg a lo r]
    cases q : test a with
    | false =>
      have w : whlF test step k a = a := by
        cases k with
        | zero => rfl
        | succ k => show (if test a then _ else a) = a; rw [q]; rfl
      rw [w]
      exact ⟨lo, rfl, r, q⟩
    | true =>
      obtain ⟨lo2, h2, r2, m2⟩ := hf a lo r q
      cases k with
      | zero => omega
      | succ k =>
        have w : whlF test step (k + 1) a = whlF test step k (step a) := by
          show (if test a then _ else a) = _
          rw [q]; rfl
        rw [w]
        obtain ⟨lo', h3, r3, t3⟩ := whlGo_fun hg hf n k (step a) lo2 r2 (by omega) (by omega)
        refine ⟨lo', ?_, r3, t3⟩
        show (f lo c).bind _ = _
        rw [h2]
        exact h3
end EV

set_option maxHeartbeats 2000000
/-! EvT: tuples of ints, sets of ints, in plain code. -/
namespace EV
open L2 (ixN atI atI_nat atI_last)
abbrev iT (xs : List Int) : D := .tup (xs.map D.int)
theorem okds_ints (n : Nat) : ∀ xs : List Int, D.okds n (xs.map D.int) = true
  | [] => by cases n <;> rfl
  | x :: xs => by
    have ih := okds_ints n xs
    simp only [List.map_cons]
    unfold D.okds
    rw [ih]
    cases n <;> rfl
theorem okd_iT (n : Nat) (xs : List Int) : (iT xs).okd (n + 1) = true := okds_ints n xs
theorem any_int (x : Int) : ∀ ys : List Int, (ys.map D.int).any (fun z => z.eqv (.int x)) = decide (x ∈ ys)
  | [] => rfl
  | y :: ys => by
    rw [List.map_cons, List.any_cons, any_int x ys]
    show ((y == x) || decide (x ∈ ys)) = decide (x ∈ y :: ys)
    by_cases h : y = x
    · subst h; simp
    · have h' : ¬ x = y := fun e => h e.symm
      simp [h, h']
@[simp] theorem cmp_in (x : Int) (ys : List Int) : cmpD .inn (.int x) (.tup (ys.map D.int)) = .ok (decide (x ∈ ys)) := by
  show need (D.okd 60 (.int x) && (iT ys).okd 60) _ = _
  rw [okd_iT 59]
  show need true (Res.ok _) = _
  rw [any_int]; rfl
@[simp] theorem cmp_nin (x : Int) (ys : List Int) : cmpD .nin (.int x) (.tup (ys.map D.int)) = .ok (!decide (x ∈ ys)) := by
  show (cmpD .inn (.int x) (.tup (ys.map D.int))).bind _ = _
  rw [cmp_in]; rfl
theorem eqvs_ints : ∀ xs ys : List Int, D.eqvs (xs.map D.int) (ys.map D.int) = decide (xs = ys)
  | [], [] => rfl
  | [], _ :: _ => rfl
  | _ :: _, [] => rfl
  | x :: xs, y :: ys => by
    show ((x == y) && D.eqvs (xs.map D.int) (ys.map D.int)) = _
    rw [eqvs_ints xs ys]
    by_cases h : x = y
    · subst h; simp
    · simp [h]
@[simp] theorem cmp_eqI (xs ys : List Int) : cmpD .eq (.tup (xs.map D.int)) (.tup (ys.map D.int)) = .ok (decide (xs = ys)) := by
  show need ((iT xs).okd 60 && (iT ys).okd 60) _ = _
  rw [okd_iT 59, okd_iT 59]
  exact congrArg Res.ok (eqvs_ints xs ys)
@[simp] theorem cmp_neI (xs ys : List Int) : cmpD .ne (.tup (xs.map D.int)) (.tup (ys.map D.int)) = .ok (!decide (xs = ys)) := by
  show need ((iT xs).okd 60 && (iT ys).okd 60) _ = _
  rw [okd_iT 59, okd_iT 59]
  exact congrArg (fun b => Res.ok (!b)) (eqvs_ints xs ys)
@[simp] theorem cmp_ne0 (xs : List Int) : cmpD .ne (.lst (xs.map D.int)) (.lst []) = .ok (!decide (xs = [])) := by
  show need (D.okds 59 (xs.map D.int) && true) _ = _
  rw [okds_ints 59]
  cases xs <;> rfl
@[simp] theorem cmp_eq0 (xs : List Int) : cmpD .eq (.lst (xs.map D.int)) (.lst []) = .ok (decide (xs = [])) := by
  show need (D.okds 59 (xs.map D.int) && true) _ = _
  rw [okds_ints 59]
  cases xs <;> rfl
/-- a tuple of ints that is just () -/
@[simp] theorem cmp_eqE (xs : List Int) : cmpD .eq (.tup (xs.map D.int)) (.tup []) = .ok (decide (xs = [])) := cmp_eqI xs []
@[simp] theorem allM {α : Type} (p : α → Bool) (l : List α) : prmD .all (.lst (l.map fun x => D.bl (p x))) = .ok (.bl (l.all p)) := by
  have q := boolsD_map p l
  rw [show (l.filterMap fun x => some (D.bl (p x))) = l.map fun x => D.bl (p x) by simp] at q
  show (ofO (boolsD _)).bind _ = _
  rw [q]
  show Res.ok (D.bl ((l.map p).all id)) = _
  rw [List.all_map]; rfl
@[simp] theorem prm_tl (l : List D) : prmD .tuple (.lst l) = .ok (.tup l) := rfl
@[simp] theorem prm_tt (l : List D) : prmD .tuple (.tup l) = .ok (.tup l) := rfl
@[simp] theorem prm_lt (l : List D) : prmD .list (.tup l) = .ok (.lst l) := rfl
@[simp] theorem prm_ll (l : List D) : prmD .list (.lst l) = .ok (.lst l) := rfl
@[simp] theorem prmD_len (l : List D) : prmD .len (.tup l) = .ok (.int l.length) := rfl
@[simp] theorem prmD_lenl (l : List D) : prmD .len (.lst l) = .ok (.int l.length) := rfl
@[simp] theorem prmD_int (i : Int) : prmD .int (.int i) = .ok (.int i) := rfl
@[simp] theorem seq_tup (l : List D) : seqD (.tup l) = .ok l := rfl
@[simp] theorem seq_lst (l : List D) : seqD (.lst l) = .ok l := rfl
@[simp] theorem items_tup (l : List D) : items (.tup l) = some l := rfl
@[simp] theorem items_lst (l : List D) : items (.lst l) = some l := rfl
@[simp] theorem slc_tup (l : List D) (a b : Option Int) : slcD (.tup l) a b = .ok (.tup (cutL l a b)) := rfl
@[simp] theorem slc_lst (l : List D) (a b : Option Int) : slcD (.lst l) a b = .ok (.lst (cutL l a b)) := rfl
@[simp] theorem idx_t0 {c : Cup} {a : D} {l : List D} : idxD c (.tup (a :: l)) (.int 0) = .ok a := by
  show ofO (atI _ _) = _
  rw [show atI (a :: l) 0 = some a from atI_nat (j := 0) rfl]; rfl
@[simp] theorem idx_t1 {c : Cup} {a b : D} {l : List D} : idxD c (.tup (a :: b :: l)) (.int 1) = .ok b := by
  show ofO (atI _ _) = _
  rw [show atI (a :: b :: l) 1 = some b from atI_nat (j := 1) rfl]; rfl
@[simp] theorem idx_l0 {c : Cup} {a : D} {l : List D} : idxD c (.lst (a :: l)) (.int 0) = .ok a := by
  show ofO (atI _ _) = _
  rw [show atI (a :: l) 0 = some a from atI_nat (j := 0) rfl]; rfl
theorem idx_tn {c : Cup} {l : List D} {k : Nat} {d : D} (h : l[k]? = some d) : idxD c (.tup l) (.int k) = .ok d := by
  show ofO (atI _ _) = _
  rw [atI_nat h]; rfl
theorem idx_ln {c : Cup} {l : List D} {k : Nat} {d : D} (h : l[k]? = some d) : idxD c (.lst l) (.int k) = .ok d := by
  show ofO (atI _ _) = _
  rw [atI_nat h]; rfl
theorem idx_lm {c : Cup} {l : List D} {d : D} (h : l.getLast? = some d) : idxD c (.lst l) (.int (-1)) = .ok d := by
  show ofO (atI _ _) = _
  obtain ⟨k, rfl⟩ := List.getLast?_eq_some_iff.mp h
  rw [atI_last]; rfl
/-! ### cuts -/
theorem cut_from {α : Type} (xs : List α) (k : Nat) : cutL xs (some (k : Int)) none = xs.drop k := by
  unfold cutL
  rw [HT.sIx_nat, HT.sIx_none]
  by_cases h : k ≤ xs.length
  · rw [Nat.min_eq_left h]
    exact List.take_of_length_le (by rw [List.length_drop]; exact Nat.le_refl _)
  · rw [Nat.min_eq_right (by omega), List.drop_eq_nil_of_le (by omega : xs.length ≤ k), List.drop_length]; simp
theorem cut_to {α : Type} (xs : List α) (k : Nat) : cutL xs none (some (k : Int)) = xs.take k := by
  unfold cutL
  rw [HT.sIx_nat, HT.sIx_none, List.drop_zero, Nat.sub_zero]
  by_cases h : k ≤ xs.length
  · rw [Nat.min_eq_left h]
  · rw [Nat.min_eq_right (by omega), List.take_length, List.take_of_length_le (by omega)]
theorem cut_last {α : Type} (xs : List α) : cutL xs none (some (-1)) = xs.dropLast := by
  unfold cutL
  rw [HT.sIx_none, List.drop_zero, Nat.sub_zero, List.dropLast_eq_take]
  have e : HT.sIx xs.length xs.length (some (-1)) = xs.length - 1 := by
    show (if (-1 : Int) < 0 then ((-1 : Int) + (xs.length : Int)).toNat else min (-1 : Int).toNat xs.length) = _
    rw [if_pos (by decide)]
    omega
  rw [e]
/-! ### by number -/
theorem enm_map {α : Type} (e : α → D) (l : List α) : enmL (l.map e) = l.zipIdx.map fun p => .tup [.int p.2, e p.1] := by
  apply List.ext_getElem?
  intro i
  unfold enmL
  rw [List.getElem?_zipWith, List.getElem?_map, List.getElem?_map, List.getElem?_zipIdx, List.length_map]
  by_cases h : i < l.length
  · rw [List.getElem?_range h, List.getElem?_eq_getElem h]; simp
  · rw [List.getElem?_eq_none (by simpa using h : l.length ≤ i)]
    simp
/-- the places where p holds -/
def idxs {α : Type} (p : α → Bool) (l : List α) : List Int := (l.zipIdx.filter fun q => p q.1).map fun q => (q.2 : Int)
theorem mem_idxs {α : Type} {p : α → Bool} {l : List α} {k : Int} : k ∈ idxs p l ↔ ∃ (i : Nat) (x : α), k = i ∧ l[i]? = some x ∧ p x = true := by
  unfold idxs
  constructor
  · intro h
    obtain ⟨⟨x, i⟩, h1, rfl⟩ := List.mem_map.mp h
    obtain ⟨h2, h3⟩ := List.mem_filter.mp h1
    exact ⟨i, x, rfl, List.mem_zipIdx_iff_getElem?.mp h2, h3⟩
  · rintro ⟨i, x, rfl, h1, h2⟩
    exact List.mem_map.mpr ⟨(x, i), List.mem_filter.mpr ⟨List.mem_zipIdx_iff_getElem?.mpr h1, h2⟩, rfl⟩
theorem lc_idx {α : Type} {e : α → D} {p : α → Bool} {f : D → Cup → Res (Option D × Cup)} {l : List α} {c : Cup} (h : ∀ (i : Nat) x, x ∈ l → f (.tup [.int i, e x]) c = .ok (if p x then some (.int i) else none, c)) :
    lcGo f (enmL (l.map e)) c = .ok ((idxs p l).map D.int, c) := by
  rw [enm_map, lcGo_map (g := fun q : α × Nat => if p q.1 then some (D.int q.2) else none) fun q hq => h q.2 q.1 (List.fst_mem_of_mem_zipIdx hq)]
  have : ∀ m : List (α × Nat), (m.filterMap fun q => if p q.1 then some (D.int q.2) else none) = ((m.filter fun q => p q.1).map fun q => (q.2 : Int)).map D.int := fun m => by
    induction m with
    | nil => rfl
    | cons q m ih =>
      rw [List.filterMap_cons, List.filter_cons]
      cases hp : p q.1 <;> simp [hp, ih]
  rw [this]; rfl
theorem lc_filter {α : Type} {e : α → D} {p : α → Bool} {f : D → Cup → Res (Option D × Cup)} {l : List α} {c : Cup} (h : ∀ x ∈ l, f (e x) c = .ok (if p x then some (e x) else none, c)) : lcGo f (l.map e) c = .ok ((l.filter p).map e, c) := by
  rw [lcGo_map h]
  have : ∀ m : List α, (m.filterMap fun x => if p x then some (e x) else none) = (m.filter p).map e := fun m => by
    induction m with
    | nil => rfl
    | cons q m ih =>
      rw [List.filterMap_cons, List.filter_cons]
      cases hp : p q <;> simp [hp, ih]
  rw [this]
theorem lc_map {α : Type} {e g : α → D} {f : D → Cup → Res (Option D × Cup)} {l : List α} {c : Cup} (h : ∀ x ∈ l, f (e x) c = .ok (some (g x), c)) : lcGo f (l.map e) c = .ok (l.map g, c) := by
  rw [lcGo_map h]
  have : ∀ m : List α, (m.filterMap fun x => some (g x)) = m.map g := fun m => by
    induction m with
    | nil => rfl
    | cons q m ih => rw [List.filterMap_cons, ih]; rfl
  rw [this]
/-! ### sets of ints -/
theorem intsD_map : ∀ xs : List Int, intsD (xs.map D.int) = some xs
  | [] => rfl
  | x :: xs => by
    show (intsD (xs.map D.int)).map (x :: ·) = _
    rw [intsD_map xs]; rfl
theorem sset_t {xs : List Int} (h : xs.length ≤ 60) : ssetD (.tup (xs.map D.int)) = .ok (.lst ((sortI xs).map D.int)) := by
  show (ofO (intsD _)).bind _ = _
  rw [intsD_map]
  show need (decide (xs.length ≤ 60)) _ = _
  rw [decide_eq_true h]; rfl
theorem sset_l {xs : List Int} (h : xs.length ≤ 60) : ssetD (.lst (xs.map D.int)) = .ok (.lst ((sortI xs).map D.int)) := by
  show (ofO (intsD _)).bind _ = _
  rw [intsD_map]
  show need (decide (xs.length ≤ 60)) _ = _
  rw [decide_eq_true h]; rfl
theorem add_t {xs ys : List D} (h : xs.length + ys.length ≤ 16777216) : binD .add (.tup xs) (.tup ys) = .ok (.tup (xs ++ ys)) := by
  show need (smallL _) _ = _
  rw [show smallL (xs.length + ys.length) = true from decide_eq_true h]; rfl
theorem add_l {xs ys : List D} (h : xs.length + ys.length ≤ 16777216) : binD .add (.lst xs) (.lst ys) = .ok (.lst (xs ++ ys)) := by
  show need (smallL _) _ = _
  rw [show smallL (xs.length + ys.length) = true from decide_eq_true h]; rfl
/-- rising, each in [0, m) -/
def SetOk (m : Int) (xs : List Int) : Prop := xs.Pairwise (· < ·) ∧ ∀ x ∈ xs, 0 ≤ x ∧ x < m
theorem asc_len : ∀ (xs : List Int) (l m : Int), xs.Pairwise (· < ·) → (∀ x ∈ xs, l ≤ x ∧ x < m) → l ≤ m → (xs.length : Int) ≤ m - l
  | [], l, m, _, _, h => by simp; omega
  | x :: xs, l, m, h, hb, hl => by
    rw [List.pairwise_cons] at h
    have h0 := hb x List.mem_cons_self
    have ih := asc_len xs (x + 1) m h.2 (fun y hy => ⟨by have := h.1 y hy; omega, (hb y (List.mem_cons_of_mem _ hy)).2⟩) (by omega)
    rw [List.length_cons]
    omega
theorem SetOk.len {m : Int} {xs : List Int} (h : SetOk m xs) (hm : 0 ≤ m) : (xs.length : Int) ≤ m := by
  have := asc_len xs 0 m h.1 h.2 hm
  omega
def union (xs ys : List Int) : List Int := sortI (xs ++ ys)
theorem mem_union {xs ys : List Int} {k : Int} : k ∈ union xs ys ↔ k ∈ xs ∨ k ∈ ys := by
  unfold union
  rw [sortI_mem, List.mem_append]
theorem SetOk.union {m : Int} {xs ys : List Int} (h : SetOk m xs) (h2 : SetOk m ys) : SetOk m (EV.union xs ys) := by
  refine ⟨sortI_asc _, fun x hx => ?_⟩
  rcases mem_union.mp hx with z | z
  · exact h.2 x z
  · exact h2.2 x z
def within (xs ys : List Int) : Bool := xs.all fun x => decide (x ∈ ys)
theorem within_iff {xs ys : List Int} : within xs ys = true ↔ ∀ x ∈ xs, x ∈ ys := by
  unfold within
  rw [List.all_eq_true]
  exact ⟨fun h x hx => of_decide_eq_true (h x hx), fun h x hx => decide_eq_true (h x hx)⟩
theorem union_sub {xs ys : List Int} (hx : xs.Pairwise (· < ·)) (h : ∀ y ∈ ys, y ∈ xs) : union xs ys = xs :=
  asc_ext (sortI_asc _) hx fun k => by
    show k ∈ union xs ys ↔ _
    rw [mem_union]
    exact ⟨fun z => z.elim id (h k), .inl⟩
/-! ### a while that keeps something -/
theorem whlF_inv {α : Type} {test : α → Bool} {step : α → α} {I : α → Prop} (h : ∀ a, I a → test a = true → I (step a)) : ∀ (n : Nat) (a : α), I a → I (whlF test step n a)
  | 0, _, i => i
  | n + 1, a, i => by
    show I (if test a then _ else a)
    split
    · exact whlF_inv h n _ (h a i (by assumption))
    · exact i
end EV

namespace K85
open PySem PySem.Spec PyProof.Rows L2 EV
def topS (i : Nat) : Stmt := PySem.Challenge.pw_whatfollows_k85_whole_rounds_of_bases.main.body.getD i (.Pass ⟨0, 0, 0, 0⟩)
/-- is_whole -/
def c0 : Sms := .cons (.ret (.and (.isi (.var 0) .int) (.not (.isi (.var 0) .bool)))) .nil
def f0 : Fn := ⟨1, 1, c0⟩
abbrev s0 : Stmt := topS 6
def d0 : DefI := ⟨"is_whole", s0, ["value"], ["value"], f0⟩
/-- fits_whole -/
def c1 : Sms := .cons (.ret (.and (.call 0 (.cons (.var 0) .nil)) (.chn .le .le (.var 1) (.var 0) (.var 2)))) .nil
def f1 : Fn := ⟨3, 3, c1⟩
abbrev s1 : Stmt := topS 7
def d1 : DefI := ⟨"fits_whole", s1, ["value", "low", "high"], ["value", "low", "high"], f1⟩
/-- is_tuple_of -/
def c2 : Sms := .cons (.ret (.and (.isi (.var 0) .tup) (.chn .le .le (.var 1) (.prm .len (.var 0)) (.var 2)))) .nil
def f2 : Fn := ⟨3, 3, c2⟩
abbrev s2 : Stmt := topS 8
def d2 : DefI := ⟨"is_tuple_of", s2, ["value", "least", "most"], ["value", "least", "most"], f2⟩
/-- is_rising -/
def c3 : Sms := .cons (.ret (.prm .all (.lc [1, 2] (.tp [(.nm 1), (.nm 2)]) (.zip (.var 0) (.slc (.var 0) (.som (.lit (.int 1))) .non)) .nil (.cmp .lt (.var 1) (.var 2))))) .nil
def f3 : Fn := ⟨1, 3, c3⟩
abbrev s3 : Stmt := topS 9
def d3 : DefI := ⟨"is_rising", s3, ["values", "one", "other"], ["values"], f3⟩
/-- fits_set -/
def c4 : Sms := .cons (.ret (.and (.call 2 (.cons (.var 0) (.cons (.lit (.int 0)) (.cons (.var 1) .nil)))) (.and (.prm .all (.lc [2] (.nm 2) (.seq (.var 0)) .nil (.call 1 (.cons (.var 2) (.cons (.lit (.int 0)) (.cons (.bin .sub (.var 1) (.lit (.int 1))) .nil)))))) (.call 3 (.cons (.var 0) .nil))))) .nil
def f4 : Fn := ⟨2, 3, c4⟩
abbrev s4 : Stmt := topS 10
def d4 : DefI := ⟨"fits_set", s4, ["value", "many", "one"], ["value", "many"], f4⟩
/-- is_within -/
def c5 : Sms := .cons (.ret (.prm .all (.lc [2] (.nm 2) (.seq (.var 0)) .nil (.cmp .inn (.var 2) (.var 1))))) .nil
def f5 : Fn := ⟨2, 3, c5⟩
abbrev s5 : Stmt := topS 11
def d5 : DefI := ⟨"is_within", s5, ["one", "other", "item"], ["one", "other"], f5⟩
/-- union_in -/
def c6 : Sms := .cons (.ret (.prm .tuple (.sset (.bin .add (.var 0) (.var 1))))) .nil
def f6 : Fn := ⟨2, 2, c6⟩
abbrev s6 : Stmt := topS 12
def d6 : DefI := ⟨"union_in", s6, ["one", "other"], ["one", "other"], f6⟩
/-- fits_rule -/
def c7 : Sms := .cons (.ret (.and (.call 2 (.cons (.var 1) (.cons (.lit (.int 2)) (.cons (.lit (.int 2)) .nil)))) (.prm .all (.lc [2] (.nm 2) (.seq (.var 1)) .nil (.call 4 (.cons (.var 2) (.cons (.var 0) .nil))))))) .nil
def f7 : Fn := ⟨2, 3, c7⟩
abbrev s7 : Stmt := topS 16
def d7 : DefI := ⟨"fits_rule", s7, ["many", "value", "own"], ["many", "value"], f7⟩
/-- fits_base -/
def c8 : Sms := .cons (.ret (.and (.call 2 (.cons (.var 1) (.cons (.lit (.int 0)) (.cons (.lit (.int 400)) .nil)))) (.prm .all (.lc [2] (.nm 2) (.seq (.var 1)) .nil (.call 7 (.cons (.var 0) (.cons (.var 2) .nil))))))) .nil
def f8 : Fn := ⟨2, 3, c8⟩
abbrev s8 : Stmt := topS 17
def d8 : DefI := ⟨"fits_base", s8, ["many", "value", "rule"], ["many", "value"], f8⟩
/-- need_many -/
def c9 : Sms := .cons (.iff (.not (.call 1 (.cons (.var 0) (.cons (.lit (.int 0)) (.cons (.lit (.int 12)) .nil))))) (.cons .nev .nil) .nil) .nil
def f9 : Fn := ⟨1, 1, c9⟩
abbrev s9 : Stmt := topS 18
def d9 : DefI := ⟨"need_many", s9, ["many"], ["many"], f9⟩
/-- need_base -/
def c10 : Sms := .cons (.drop (.call 9 (.cons (.var 0) .nil))) (.cons (.iff (.not (.call 8 (.cons (.var 0) (.cons (.var 1) .nil)))) (.cons .nev .nil) .nil) .nil)
def f10 : Fn := ⟨2, 2, c10⟩
abbrev s10 : Stmt := topS 19
def d10 : DefI := ⟨"need_base", s10, ["many", "base"], ["many", "base"], f10⟩
/-- need_marks_of -/
def c11 : Sms := .cons (.iff (.not (.call 4 (.cons (.var 1) (.cons (.var 0) .nil)))) (.cons .nev .nil) .nil) .nil
def f11 : Fn := ⟨2, 2, c11⟩
abbrev s11 : Stmt := topS 20
def d11 : DefI := ⟨"need_marks_of", s11, ["many", "marks"], ["many", "marks"], f11⟩
/-- respects_in -/
def c12 : Sms := .cons (.ret (.or (.not (.call 5 (.cons (.idx (.var 1) (.lit (.int 0))) (.cons (.var 0) .nil)))) (.call 5 (.cons (.idx (.var 1) (.lit (.int 1))) (.cons (.var 0) .nil))))) .nil
def f12 : Fn := ⟨2, 2, c12⟩
abbrev s12 : Stmt := topS 21
def d12 : DefI := ⟨"respects_in", s12, ["marks", "rule"], ["marks", "rule"], f12⟩
/-- next_in -/
def c13 : Sms := .cons (.setO 2 (.lc [3, 4] (.tp [(.nm 3), (.nm 4)]) (.enm (.var 0)) (.cons (.not (.call 12 (.cons (.var 1) (.cons (.var 4) .nil)))) .nil) (.var 3))) (.cons (.frz 2) (.cons (.ret (.ite (.cmp .ne (.var 2) (.lst .nil)) (.idx (.var 2) (.lit (.int 0))) (.lit .non))) .nil))
def f13 : Fn := ⟨2, 5, c13⟩
abbrev s13 : Stmt := topS 22
def d13 : DefI := ⟨"next_in", s13, ["base", "marks", "found", "at", "rule"], ["base", "marks"], f13⟩
/-- steps_in -/
def c14 : Sms := .cons (.par [(2, true), (3, false)] (.cons (.lst .nil) (.cons (.call 13 (.cons (.var 0) (.cons (.var 1) .nil))) .nil))) (.cons (.whl (.cmp .isn (.var 3) (.lit .non)) (.cons (.app 2 (.var 3)) (.cons (.set 1 (.call 6 (.cons (.var 1) (.cons (.idx (.idx (.var 0) (.var 3)) (.lit (.int 1))) .nil)))) (.cons (.set 3 (.call 13 (.cons (.var 0) (.cons (.var 1) .nil)))) .nil)))) (.cons (.frz 2) (.cons (.ret (.tup (.cons (.var 1) (.cons (.var 2) .nil)))) .nil)))
def f14 : Fn := ⟨2, 4, c14⟩
abbrev s14 : Stmt := topS 23
def d14 : DefI := ⟨"steps_in", s14, ["base", "marks", "found", "at"], ["base", "marks"], f14⟩
/-- under_in -/
def c15 : Sms := .cons (.ret (.idx (.call 14 (.cons (.var 0) (.cons (.var 1) .nil))) (.lit (.int 0)))) .nil
def f15 : Fn := ⟨2, 2, c15⟩
abbrev s15 : Stmt := topS 24
def d15 : DefI := ⟨"under_in", s15, ["base", "marks"], ["base", "marks"], f15⟩
/-- closure_under -/
def c16 : Sms := .cons (.drop (.call 10 (.cons (.var 0) (.cons (.var 1) .nil)))) (.cons (.drop (.call 11 (.cons (.var 0) (.cons (.var 2) .nil)))) (.cons (.ret (.call 15 (.cons (.var 1) (.cons (.var 2) .nil)))) .nil))
def f16 : Fn := ⟨3, 3, c16⟩
abbrev s16 : Stmt := topS 25
def d16 : DefI := ⟨"closure_under", s16, ["many", "base", "marks"], ["many", "base", "marks"], f16⟩
/-- closing_steps -/
def c17 : Sms := .cons (.drop (.call 10 (.cons (.var 0) (.cons (.var 1) .nil)))) (.cons (.drop (.call 11 (.cons (.var 0) (.cons (.var 2) .nil)))) (.cons (.ret (.prm .tuple (.idx (.call 14 (.cons (.var 1) (.cons (.var 2) .nil))) (.lit (.int 1))))) .nil))
def f17 : Fn := ⟨3, 3, c17⟩
abbrev s17 : Stmt := topS 26
def d17 : DefI := ⟨"closing_steps", s17, ["many", "base", "marks"], ["many", "base", "marks"], f17⟩
/-- pass_in -/
def c18 : Sms := .cons (.set 2 (.var 1)) (.cons (.for_ (.tp [(.nm 3), (.nm 4)]) (.seq (.var 0)) (.cons (.set 2 (.ite (.call 5 (.cons (.var 3) (.cons (.var 1) .nil))) (.call 6 (.cons (.var 2) (.cons (.var 4) .nil))) (.var 2))) .nil)) (.cons (.ret (.var 2)) .nil))
def f18 : Fn := ⟨2, 5, c18⟩
abbrev s18 : Stmt := topS 28
def d18 : DefI := ⟨"pass_in", s18, ["base", "marks", "found", "premise", "conclusion"], ["base", "marks"], f18⟩
/-- passes_in -/
def c19 : Sms := .cons (.par [(2, false), (3, false)] (.cons (.lit (.int 0)) (.cons (.call 18 (.cons (.var 0) (.cons (.var 1) .nil))) .nil))) (.cons (.whl (.cmp .ne (.var 3) (.var 1)) (.cons (.par [(2, false), (1, false)] (.cons (.bin .add (.var 2) (.lit (.int 1))) (.cons (.var 3) .nil))) (.cons (.set 3 (.call 18 (.cons (.var 0) (.cons (.var 1) .nil)))) .nil))) (.cons (.ret (.var 2)) .nil))
def f19 : Fn := ⟨2, 4, c19⟩
abbrev s19 : Stmt := topS 29
def d19 : DefI := ⟨"passes_in", s19, ["base", "marks", "many", "later"], ["base", "marks"], f19⟩
/-- passes_needed -/
def c20 : Sms := .cons (.drop (.call 10 (.cons (.var 0) (.cons (.var 1) .nil)))) (.cons (.drop (.call 11 (.cons (.var 0) (.cons (.var 2) .nil)))) (.cons (.ret (.call 19 (.cons (.var 1) (.cons (.var 2) .nil)))) .nil))
def f20 : Fn := ⟨3, 3, c20⟩
abbrev s20 : Stmt := topS 30
def d20 : DefI := ⟨"passes_needed", s20, ["many", "base", "marks"], ["many", "base", "marks"], f20⟩
/-- need_mark_of -/
def c21 : Sms := .cons (.iff (.not (.call 1 (.cons (.var 1) (.cons (.lit (.int 0)) (.cons (.bin .sub (.var 0) (.lit (.int 1))) .nil))))) (.cons .nev .nil) .nil) .nil
def f21 : Fn := ⟨2, 2, c21⟩
abbrev s21 : Stmt := topS 32
def d21 : DefI := ⟨"need_mark_of", s21, ["many", "mark"], ["many", "mark"], f21⟩
/-- need_goal -/
def c22 : Sms := .cons (.drop (.call 10 (.cons (.var 0) (.cons (.var 1) .nil)))) (.cons (.drop (.call 11 (.cons (.var 0) (.cons (.var 2) .nil)))) (.cons (.drop (.call 21 (.cons (.var 0) (.cons (.var 3) .nil)))) .nil))
def f22 : Fn := ⟨4, 4, c22⟩
abbrev s22 : Stmt := topS 33
def d22 : DefI := ⟨"need_goal", s22, ["many", "base", "marks", "mark"], ["many", "base", "marks", "mark"], f22⟩
/-- rounds_in -/
def c23 : Sms := .cons (.par [(2, true), (3, false)] (.cons (.lst (.cons (.var 1) .nil)) (.cons (.call 18 (.cons (.var 0) (.cons (.var 1) .nil))) .nil))) (.cons (.whl (.cmp .ne (.var 3) (.idx (.own 2) (.neg (.lit (.int 1))))) (.cons (.app 2 (.var 3)) (.cons (.set 3 (.call 18 (.cons (.var 0) (.cons (.var 3) .nil)))) .nil))) (.cons (.frz 2) (.cons (.ret (.var 2)) .nil)))
def f23 : Fn := ⟨2, 4, c23⟩
abbrev s23 : Stmt := topS 34
def d23 : DefI := ⟨"rounds_in", s23, ["base", "marks", "found", "later"], ["base", "marks"], f23⟩
/-- round_of -/
def c24 : Sms := .cons (.setO 2 (.lc [3, 4] (.tp [(.nm 3), (.nm 4)]) (.enm (.var 0)) (.cons (.cmp .inn (.var 1) (.var 4)) .nil) (.var 3))) (.cons (.frz 2) (.cons (.ret (.ite (.cmp .ne (.var 2) (.lst .nil)) (.idx (.var 2) (.lit (.int 0))) (.lit .non))) .nil))
def f24 : Fn := ⟨2, 5, c24⟩
abbrev s24 : Stmt := topS 35
def d24 : DefI := ⟨"round_of", s24, ["rounds", "mark", "found", "at", "marks"], ["rounds", "mark"], f24⟩
/-- rounds_of -/
def c25 : Sms := .cons (.drop (.call 10 (.cons (.var 0) (.cons (.var 1) .nil)))) (.cons (.drop (.call 11 (.cons (.var 0) (.cons (.var 2) .nil)))) (.cons (.ret (.prm .tuple (.call 23 (.cons (.var 1) (.cons (.var 2) .nil))))) .nil))
def f25 : Fn := ⟨3, 3, c25⟩
abbrev s25 : Stmt := topS 36
def d25 : DefI := ⟨"rounds_of", s25, ["many", "base", "marks"], ["many", "base", "marks"], f25⟩
/-- first_round -/
def c26 : Sms := .cons (.drop (.call 22 (.cons (.var 0) (.cons (.var 1) (.cons (.var 2) (.cons (.var 3) .nil)))))) (.cons (.ret (.call 24 (.cons (.call 23 (.cons (.var 1) (.cons (.var 2) .nil))) (.cons (.var 3) .nil)))) .nil)
def f26 : Fn := ⟨4, 4, c26⟩
abbrev s26 : Stmt := topS 37
def d26 : DefI := ⟨"first_round", s26, ["many", "base", "marks", "mark"], ["many", "base", "marks", "mark"], f26⟩
/-- fired_by -/
def c27 : Sms := .cons (.drop (.call 10 (.cons (.var 0) (.cons (.var 1) .nil)))) (.cons (.drop (.call 11 (.cons (.var 0) (.cons (.var 2) .nil)))) (.cons (.setO 3 (.lst .nil)) (.cons (.for_ (.nm 4) (.seq (.slc (.call 23 (.cons (.var 1) (.cons (.var 2) .nil))) .non (.som (.neg (.lit (.int 1)))))) (.cons (.setO 5 (.lc [6, 7] (.tp [(.nm 6), (.nm 7)]) (.enm (.var 1)) (.cons (.call 5 (.cons (.idx (.var 7) (.lit (.int 0))) (.cons (.var 4) .nil))) .nil) (.var 6))) (.cons (.frz 5) (.cons (.app 3 (.prm .tuple (.lc [6] (.nm 6) (.seq (.var 5)) (.cons (.not (.call 5 (.cons (.idx (.idx (.var 1) (.var 6)) (.lit (.int 1))) (.cons (.var 4) .nil)))) .nil) (.var 6)))) .nil)))) (.cons (.ret (.prm .tuple (.own 3))) .nil))))
def f27 : Fn := ⟨3, 8, c27⟩
abbrev s27 : Stmt := topS 38
def d27 : DefI := ⟨"fired_by", s27, ["many", "base", "marks", "found", "there", "able", "at", "rule"], ["many", "base", "marks"], f27⟩
/-- unfired -/
def c28 : Sms := .cons (.drop (.call 10 (.cons (.var 0) (.cons (.var 1) .nil)))) (.cons (.drop (.call 11 (.cons (.var 0) (.cons (.var 2) .nil)))) (.cons (.set 3 (.call 15 (.cons (.var 1) (.cons (.var 2) .nil)))) (.cons (.ret (.prm .tuple (.lc [4, 5] (.tp [(.nm 4), (.nm 5)]) (.enm (.var 1)) (.cons (.not (.call 5 (.cons (.idx (.var 5) (.lit (.int 0))) (.cons (.var 3) .nil)))) .nil) (.var 4)))) .nil)))
def f28 : Fn := ⟨3, 6, c28⟩
abbrev s28 : Stmt := topS 39
def d28 : DefI := ⟨"unfired", s28, ["many", "base", "marks", "last", "at", "rule"], ["many", "base", "marks"], f28⟩
/-- idle_rules -/
def c29 : Sms := .cons (.drop (.call 10 (.cons (.var 0) (.cons (.var 1) .nil)))) (.cons (.ret (.prm .tuple (.lc [2, 3] (.tp [(.nm 2), (.nm 3)]) (.enm (.var 1)) (.cons (.call 5 (.cons (.idx (.var 3) (.lit (.int 1))) (.cons (.idx (.var 3) (.lit (.int 0))) .nil))) .nil) (.var 2)))) .nil)
def f29 : Fn := ⟨2, 4, c29⟩
abbrev s29 : Stmt := topS 40
def d29 : DefI := ⟨"idle_rules", s29, ["many", "base", "at", "rule"], ["many", "base"], f29⟩
/-- _law_roll -/
def c30 : Sms := .cons (.iff (.cmp .gt (.idx (.var 0) (.lit (.int 0))) (.lit (.int 0))) (.cons (.set 2 (.bin .mod (.prm .int (.idx (.var 0) (.lit (.int 0)))) (.var 1))) (.cons (.cput 0 (.lit (.int 0)) (.bin .fdiv (.idx (.var 0) (.lit (.int 0))) (.var 1))) (.cons (.ret (.var 2)) .nil))) .nil) (.cons (.cput 0 (.lit (.int 1)) (.bin .mod (.prm .int (.bin .add (.bin .mul (.idx (.var 0) (.lit (.int 1))) (.lit (.int 36583))) (.lit (.int 12823)))) (.lit (.int 2147483423)))) (.cons (.set 3 (.bin .mod (.prm .int (.bin .mul (.idx (.var 0) (.lit (.int 1))) (.bin .add (.idx (.var 0) (.lit (.int 1))) (.lit (.int 9721))))) (.lit (.int 2147483587)))) (.cons (.ret (.bin .mod (.prm .int (.bin .fdiv (.var 3) (.lit (.int 6829)))) (.var 1))) .nil)))
def f30 : Fn := ⟨2, 4, c30⟩
abbrev s30 : Stmt := topS 43
def d30 : DefI := ⟨"_law_roll", s30, ["cup", "many", "found", "deep"], ["cup", "many"], f30⟩
/-- _law_same -/
def c31 : Sms := .cons (.iff (.or (.isi (.var 1) .tup) (.isi (.var 1) .lst)) (.cons (.iff (.or (.cmp .ne (.isi (.var 0) .tup) (.isi (.var 1) .tup)) (.or (.cmp .ne (.isi (.var 0) .lst) (.isi (.var 1) .lst)) (.cmp .ne (.prm .len (.var 0)) (.prm .len (.var 1))))) (.cons (.ret (.lit (.bl false))) .nil) .nil) (.cons (.ret (.cmp .eq (.lc [2] (.nm 2) (.rng1 (.prm .len (.var 1))) (.cons (.not (.call 31 (.cons (.idx (.var 0) (.var 2)) (.cons (.idx (.var 1) (.var 2)) .nil)))) .nil) (.lit (.int 1))) (.lst .nil))) .nil)) .nil) (.cons (.iff (.cmp .is (.var 1) (.lit .non)) (.cons (.ret (.cmp .is (.var 0) (.lit .non))) .nil) .nil) (.cons (.iff (.isi (.var 1) .bool) (.cons (.ret (.ite (.var 1) (.cmp .is (.var 0) (.lit (.bl true))) (.cmp .is (.var 0) (.lit (.bl false))))) .nil) .nil) (.cons (.iff (.isi (.var 1) .int) (.cons (.ret (.and (.isi (.var 0) .int) (.and (.not (.isi (.var 0) .bool)) (.cmp .eq (.prm .int (.var 0)) (.var 1))))) .nil) .nil) (.cons (.ret (.and (.isi (.var 0) .str) (.cmp .eq (.prm .str (.var 0)) (.var 1)))) .nil))))
def f31 : Fn := ⟨2, 3, c31⟩
abbrev s31 : Stmt := topS 44
def d31 : DefI := ⟨"_law_same", s31, ["told", "due", "at"], ["told", "due"], f31⟩
/-- _law_set -/
def c32 : Sms := .cons (.ret (.prm .tuple (.lc [2] (.nm 2) (.rng1 (.var 1)) (.cons (.cmp .eq (.call 30 (.cons (.var 0) (.cons (.lit (.int 2)) .nil))) (.lit (.int 0))) .nil) (.var 2)))) .nil
def f32 : Fn := ⟨2, 3, c32⟩
abbrev s32 : Stmt := topS 45
def d32 : DefI := ⟨"_law_set", s32, ["cup", "many", "item"], ["cup", "many"], f32⟩
/-- _law_within -/
def c33 : Sms := .cons (.ret (.cmp .eq (.lc [2] (.nm 2) (.seq (.var 0)) (.cons (.cmp .nin (.var 2) (.var 1)) .nil) (.var 2)) (.lst .nil))) .nil
def f33 : Fn := ⟨2, 3, c33⟩
abbrev s33 : Stmt := topS 46
def d33 : DefI := ⟨"_law_within", s33, ["one", "other", "item"], ["one", "other"], f33⟩
/-- _law_rule -/
def c34 : Sms := .cons (.par [(2, false), (3, false)] (.cons (.call 32 (.cons (.var 0) (.cons (.var 1) .nil))) (.cons (.call 32 (.cons (.var 0) (.cons (.var 1) .nil))) .nil))) (.cons (.ret (.ite (.cmp .gt (.call 30 (.cons (.var 0) (.cons (.lit (.int 4)) .nil))) (.lit (.int 0))) (.tup (.cons (.slc (.var 2) .non (.som (.call 30 (.cons (.var 0) (.cons (.lit (.int 4)) .nil))))) (.cons (.var 3) .nil))) (.tup (.cons (.var 2) (.cons (.var 3) .nil))))) .nil)
def f34 : Fn := ⟨2, 4, c34⟩
abbrev s34 : Stmt := topS 47
def d34 : DefI := ⟨"_law_rule", s34, ["cup", "many", "one", "other"], ["cup", "many"], f34⟩
/-- _law_base -/
def c35 : Sms := .cons (.ret (.prm .tuple (.lc [2] (.nm 2) (.rng1 (.call 30 (.cons (.var 0) (.cons (.lit (.int 5)) .nil)))) .nil (.call 34 (.cons (.var 0) (.cons (.var 1) .nil)))))) .nil
def f35 : Fn := ⟨2, 3, c35⟩
abbrev s35 : Stmt := topS 48
def d35 : DefI := ⟨"_law_base", s35, ["cup", "many", "at"], ["cup", "many"], f35⟩
/-- _law_both -/
def c36 : Sms := .cons (.ret (.prm .tuple (.sset (.bin .add (.prm .list (.var 0)) (.prm .list (.var 1)))))) .nil
def f36 : Fn := ⟨2, 2, c36⟩
abbrev s36 : Stmt := topS 49
def d36 : DefI := ⟨"_law_both", s36, ["one", "other"], ["one", "other"], f36⟩
/-- _law_pass -/
def c37 : Sms := .cons (.set 2 (.var 1)) (.cons (.for_ (.tp [(.nm 3), (.nm 4)]) (.seq (.var 0)) (.cons (.set 2 (.ite (.call 33 (.cons (.var 3) (.cons (.var 1) .nil))) (.call 36 (.cons (.var 2) (.cons (.var 4) .nil))) (.var 2))) .nil)) (.cons (.ret (.var 2)) .nil))
def f37 : Fn := ⟨2, 5, c37⟩
abbrev s37 : Stmt := topS 50
def d37 : DefI := ⟨"_law_pass", s37, ["base", "marks", "found", "premise", "conclusion"], ["base", "marks"], f37⟩
/-- _law_rounds -/
def c38 : Sms := .cons (.setO 2 (.lst (.cons (.var 1) .nil))) (.cons (.whl (.cmp .ne (.call 37 (.cons (.var 0) (.cons (.idx (.own 2) (.neg (.lit (.int 1)))) .nil))) (.idx (.own 2) (.neg (.lit (.int 1))))) (.cons (.app 2 (.call 37 (.cons (.var 0) (.cons (.idx (.own 2) (.neg (.lit (.int 1)))) .nil)))) .nil)) (.cons (.frz 2) (.cons (.ret (.var 2)) .nil)))
def f38 : Fn := ⟨2, 3, c38⟩
abbrev s38 : Stmt := topS 51
def d38 : DefI := ⟨"_law_rounds", s38, ["base", "marks", "found"], ["base", "marks"], f38⟩
/-- _law_number -/
def c39 : Sms := .cons (.setO 2 (.lc [3, 4] (.tp [(.nm 3), (.nm 4)]) (.enm (.var 0)) (.cons (.cmp .inn (.var 1) (.var 4)) .nil) (.var 3))) (.cons (.frz 2) (.cons (.ret (.ite (.cmp .ne (.var 2) (.lst .nil)) (.idx (.var 2) (.lit (.int 0))) (.lit .non))) .nil))
def f39 : Fn := ⟨2, 5, c39⟩
abbrev s39 : Stmt := topS 52
def d39 : DefI := ⟨"_law_number", s39, ["rounds", "mark", "found", "at", "row"], ["rounds", "mark"], f39⟩
/-- _law_rows_right -/
def c40 : Sms := .cons (.set 0 (.tup (.cons (.tup (.cons (.tup (.cons (.lit (.int 0)) .nil)) (.cons (.tup (.cons (.lit (.int 1)) .nil)) .nil))) (.cons (.tup (.cons (.tup (.cons (.lit (.int 1)) (.cons (.lit (.int 2)) .nil))) (.cons (.tup (.cons (.lit (.int 3)) .nil)) .nil))) (.cons (.tup (.cons (.tup (.cons (.lit (.int 3)) .nil)) (.cons (.tup (.cons (.lit (.int 0)) .nil)) .nil))) .nil))))) (.cons (.ret (.call 31 (.cons (.tup (.cons (.call 27 (.cons (.lit (.int 4)) (.cons (.var 0) (.cons (.tup (.cons (.lit (.int 0)) (.cons (.lit (.int 2)) .nil))) .nil)))) (.cons (.call 28 (.cons (.lit (.int 4)) (.cons (.var 0) (.cons (.tup (.cons (.lit (.int 0)) (.cons (.lit (.int 2)) .nil))) .nil)))) (.cons (.call 28 (.cons (.lit (.int 4)) (.cons (.var 0) (.cons (.tup (.cons (.lit (.int 0)) .nil)) .nil)))) .nil)))) (.cons (.tup (.cons (.tup (.cons (.tup (.cons (.lit (.int 0)) .nil)) (.cons (.tup (.cons (.lit (.int 1)) .nil)) .nil))) (.cons (.tup .nil) (.cons (.tup (.cons (.lit (.int 1)) (.cons (.lit (.int 2)) .nil))) .nil)))) .nil)))) .nil)
def f40 : Fn := ⟨0, 1, c40⟩
abbrev s40 : Stmt := topS 53
def d40 : DefI := ⟨"_law_rows_right", s40, ["base"], [], f40⟩
def cL : Sms := .cons (.iff (.not (.call 40 .nil)) (.cons (.ret (.lit (.bl false))) .nil) .nil) (.cons (.for_ (.nm 2) (.rng1 (.lit (.int 8))) (.cons (.set 3 (.bin .add (.lit (.int 1)) (.call 30 (.cons (.var 1) (.cons (.lit (.int 5)) .nil))))) (.cons (.unp (.tp [(.nm 4), (.nm 5)]) (.tup (.cons (.bin .add (.call 35 (.cons (.var 1) (.cons (.var 3) .nil))) (.call 35 (.cons (.var 1) (.cons (.var 3) .nil)))) (.cons (.call 32 (.cons (.var 1) (.cons (.var 3) .nil))) .nil)))) (.cons (.set 6 (.call 38 (.cons (.var 4) (.cons (.var 5) .nil)))) (.cons (.setO 7 (.lst .nil)) (.cons (.for_ (.nm 8) (.seq (.slc (.var 6) .non (.som (.neg (.lit (.int 1)))))) (.cons (.setO 9 (.lc [10, 11] (.tp [(.nm 10), (.nm 11)]) (.enm (.var 4)) (.cons (.and (.call 33 (.cons (.idx (.var 11) (.lit (.int 0))) (.cons (.var 8) .nil))) (.not (.call 33 (.cons (.idx (.var 11) (.lit (.int 1))) (.cons (.var 8) .nil))))) .nil) (.var 10))) (.cons (.frz 9) (.cons (.app 7 (.prm .tuple (.var 9))) .nil)))) (.cons (.set 12 (.tup (.cons (.call 25 (.cons (.var 3) (.cons (.var 4) (.cons (.var 5) .nil)))) (.cons (.call 27 (.cons (.var 3) (.cons (.var 4) (.cons (.var 5) .nil)))) (.cons (.call 20 (.cons (.var 3) (.cons (.var 4) (.cons (.var 5) .nil)))) .nil))))) (.cons (.iff (.or (.not (.call 31 (.cons (.var 12) (.cons (.tup (.cons (.prm .tuple (.var 6)) (.cons (.prm .tuple (.own 7)) (.cons (.bin .sub (.prm .len (.var 6)) (.lit (.int 1))) .nil)))) .nil)))) (.cmp .ne (.call 16 (.cons (.var 3) (.cons (.var 4) (.cons (.var 5) .nil)))) (.idx (.var 6) (.neg (.lit (.int 1)))))) (.cons (.ret (.lit (.bl false))) .nil) .nil) (.cons (.set 13 (.prm .tuple (.lc [14] (.nm 14) (.rng1 (.var 3)) .nil (.call 26 (.cons (.var 3) (.cons (.var 4) (.cons (.var 5) (.cons (.var 14) .nil)))))))) (.cons (.iff (.not (.call 31 (.cons (.var 13) (.cons (.prm .tuple (.lc [14] (.nm 14) (.rng1 (.var 3)) .nil (.call 39 (.cons (.var 6) (.cons (.var 14) .nil))))) .nil)))) (.cons (.ret (.lit (.bl false))) .nil) .nil) (.cons (.set 15 (.prm .tuple (.lc [10, 11] (.tp [(.nm 10), (.nm 11)]) (.enm (.var 4)) (.cons (.not (.call 33 (.cons (.idx (.var 11) (.lit (.int 0))) (.cons (.idx (.var 6) (.neg (.lit (.int 1)))) .nil)))) .nil) (.var 10)))) (.cons (.set 16 (.prm .tuple (.lc [10, 11] (.tp [(.nm 10), (.nm 11)]) (.enm (.var 4)) (.cons (.call 33 (.cons (.idx (.var 11) (.lit (.int 1))) (.cons (.idx (.var 11) (.lit (.int 0))) .nil))) .nil) (.var 10)))) (.cons (.iff (.not (.call 31 (.cons (.tup (.cons (.call 28 (.cons (.var 3) (.cons (.var 4) (.cons (.var 5) .nil)))) (.cons (.call 29 (.cons (.var 3) (.cons (.var 4) .nil))) .nil))) (.cons (.tup (.cons (.var 15) (.cons (.var 16) .nil))) .nil)))) (.cons (.ret (.lit (.bl false))) .nil) .nil) (.cons (.set 17 (.call 17 (.cons (.var 3) (.cons (.var 4) (.cons (.var 5) .nil))))) (.cons (.iff (.cmp .ne (.lc [10] (.nm 10) (.seq (.var 17)) (.cons (.or (.cmp .inn (.var 10) (.var 15)) (.cmp .inn (.var 10) (.var 16))) .nil) (.var 10)) (.lst .nil)) (.cons (.ret (.lit (.bl false))) .nil) .nil) (.cons (.iff (.cmp .ne (.lc [8] (.nm 8) (.seq (.own 7)) (.cons (.cmp .eq (.var 8) (.tup .nil)) .nil) (.var 8)) (.lst .nil)) (.cons (.ret (.lit (.bl false))) .nil) .nil) .nil)))))))))))))))) (.cons (.set 18 (.tup (.cons (.tup (.cons (.tup (.cons (.lit (.int 0)) .nil)) (.cons (.tup (.cons (.lit (.int 1)) .nil)) .nil))) (.cons (.tup (.cons (.tup (.cons (.lit (.int 1)) (.cons (.lit (.int 2)) .nil))) (.cons (.tup (.cons (.lit (.int 3)) .nil)) .nil))) (.cons (.tup (.cons (.tup (.cons (.lit (.int 3)) .nil)) (.cons (.tup (.cons (.lit (.int 0)) .nil)) .nil))) .nil))))) (.cons (.ret (.call 31 (.cons (.tup (.cons (.call 25 (.cons (.lit (.int 4)) (.cons (.var 18) (.cons (.tup (.cons (.lit (.int 0)) (.cons (.lit (.int 2)) .nil))) .nil)))) (.cons (.call 27 (.cons (.lit (.int 4)) (.cons (.var 18) (.cons (.tup (.cons (.lit (.int 0)) (.cons (.lit (.int 2)) .nil))) .nil)))) .nil))) (.cons (.tup (.cons (.tup (.cons (.tup (.cons (.lit (.int 0)) (.cons (.lit (.int 2)) .nil))) (.cons (.tup (.cons (.lit (.int 0)) (.cons (.lit (.int 1)) (.cons (.lit (.int 2)) .nil)))) (.cons (.tup (.cons (.lit (.int 0)) (.cons (.lit (.int 1)) (.cons (.lit (.int 2)) (.cons (.lit (.int 3)) .nil))))) .nil)))) (.cons (.tup (.cons (.tup (.cons (.lit (.int 0)) .nil)) (.cons (.tup (.cons (.lit (.int 1)) .nil)) .nil))) .nil))) .nil)))) .nil)))
abbrev sL : Stmt := topS 54
abbrev sC : Stmt := topS 42
abbrev nL : List Str := ["script", "cup", "turn", "many", "base", "marks", "rounds", "fired", "row", "able", "at", "rule", "told", "firsts", "mark", "rest", "idle", "steps", "chain"]
def eC : Exs := .cons (.ite (.cmp .ge (.var 1) (.bin .pow (.lit (.int 10)) (.lit (.int 18)))) (.bin .fdiv (.var 1) (.lit (.int 211))) (.lit (.int 0))) (.cons (.bin .add (.bin .mod (.prm .int (.bin .add (.bin .mul (.var 1) (.lit (.int 9007))) (.lit (.int 11131)))) (.lit (.int 2041487011))) (.lit (.int 7529))) .nil)
def bts : List Str := [("abs" : Str), ("all" : Str), ("bool" : Str), ("enumerate" : Str), ("int" : Str), ("isinstance" : Str), ("len" : Str), ("list" : Str), ("range" : Str), ("set" : Str), ("sorted" : Str), ("str" : Str), ("tuple" : Str), ("zip" : Str)]
def bk : Bk := ⟨[d0, d1, d2, d3, d4, d5, d6, d7, d8, d9, d10, d11, d12, d13, d14, d15, d16, d17, d18, d19, d20, d21, d22, d23, d24, d25, d26, d27, d28, d29, d30, d31, d32, d33, d34, d35, d36, d37, d38, d39, d40], [(("is_whole" : Str), 0), (("fits_whole" : Str), 1), (("is_tuple_of" : Str), 2), (("is_rising" : Str), 3), (("fits_set" : Str), 4), (("is_within" : Str), 5), (("union_in" : Str), 6), (("fits_rule" : Str), 7), (("fits_base" : Str), 8), (("need_many" : Str), 9), (("need_base" : Str), 10), (("need_marks_of" : Str), 11), (("respects_in" : Str), 12), (("next_in" : Str), 13), (("steps_in" : Str), 14), (("under_in" : Str), 15), (("closure_under" : Str), 16), (("closing_steps" : Str), 17), (("pass_in" : Str), 18), (("passes_in" : Str), 19), (("passes_needed" : Str), 20), (("need_mark_of" : Str), 21), (("need_goal" : Str), 22), (("rounds_in" : Str), 23), (("round_of" : Str), 24), (("rounds_of" : Str), 25), (("first_round" : Str), 26), (("fired_by" : Str), 27), (("unfired" : Str), 28), (("idle_rules" : Str), 29), (("_law_roll" : Str), 30), (("_law_same" : Str), 31), (("_law_set" : Str), 32), (("_law_within" : Str), 33), (("_law_rule" : Str), 34), (("_law_base" : Str), 35), (("_law_both" : Str), 36), (("_law_pass" : Str), 37), (("_law_rounds" : Str), 38), (("_law_number" : Str), 39), (("_law_rows_right" : Str), 40)], [(("MARKS" : Str), ((.int 12) : D)), (("RULES" : Str), ((.int 400) : D))], bts⟩
end K85
namespace K85
open PySem PySem.Spec PyProof.Rows L2 EV
theorem k0 : chkD bk d0 = true := by decide +kernel
theorem k1 : chkD bk d1 = true := by decide +kernel
theorem k2 : chkD bk d2 = true := by decide +kernel
theorem k3 : chkD bk d3 = true := by decide +kernel
theorem k4 : chkD bk d4 = true := by decide +kernel
theorem k5 : chkD bk d5 = true := by decide +kernel
theorem k6 : chkD bk d6 = true := by decide +kernel
theorem k7 : chkD bk d7 = true := by decide +kernel
theorem k8 : chkD bk d8 = true := by decide +kernel
theorem k9 : chkD bk d9 = true := by decide +kernel
theorem k10 : chkD bk d10 = true := by decide +kernel
theorem k11 : chkD bk d11 = true := by decide +kernel
theorem k12 : chkD bk d12 = true := by decide +kernel
theorem k13 : chkD bk d13 = true := by decide +kernel
theorem k14 : chkD bk d14 = true := by decide +kernel
theorem k15 : chkD bk d15 = true := by decide +kernel
theorem k16 : chkD bk d16 = true := by decide +kernel
theorem k17 : chkD bk d17 = true := by decide +kernel
theorem k18 : chkD bk d18 = true := by decide +kernel
theorem k19 : chkD bk d19 = true := by decide +kernel
theorem k20 : chkD bk d20 = true := by decide +kernel
theorem k21 : chkD bk d21 = true := by decide +kernel
theorem k22 : chkD bk d22 = true := by decide +kernel
theorem k23 : chkD bk d23 = true := by decide +kernel
theorem k24 : chkD bk d24 = true := by decide +kernel
theorem k25 : chkD bk d25 = true := by decide +kernel
theorem k26 : chkD bk d26 = true := by decide +kernel
theorem k27 : chkD bk d27 = true := by decide +kernel
theorem k28 : chkD bk d28 = true := by decide +kernel
theorem k29 : chkD bk d29 = true := by decide +kernel
theorem k30 : chkD bk d30 = true := by decide +kernel
theorem k31 : chkD bk d31 = true := by decide +kernel
theorem k32 : chkD bk d32 = true := by decide +kernel
theorem k33 : chkD bk d33 = true := by decide +kernel
theorem k34 : chkD bk d34 = true := by decide +kernel
theorem k35 : chkD bk d35 = true := by decide +kernel
theorem k36 : chkD bk d36 = true := by decide +kernel
theorem k37 : chkD bk d37 = true := by decide +kernel
theorem k38 : chkD bk d38 = true := by decide +kernel
theorem k39 : chkD bk d39 = true := by decide +kernel
theorem k40 : chkD bk d40 = true := by decide +kernel
theorem kAll : bk.tb.all (chkD bk) = true := by
  show [d0, d1, d2, d3, d4, d5, d6, d7, d8, d9, d10, d11, d12, d13, d14, d15, d16, d17, d18, d19, d20, d21, d22, d23, d24, d25, d26, d27, d28, d29, d30, d31, d32, d33, d34, d35, d36, d37, d38, d39, d40].all (chkD bk) = true
  simp only [List.all_cons, List.all_nil, k0, k1, k2, k3, k4, k5, k6, k7, k8, k9, k10, k11, k12, k13, k14, k15, k16, k17, k18, k19, k20, k21, k22, k23, k24, k25, k26, k27, k28, k29, k30, k31, k32, k33, k34, k35, k36, k37, k38, k39, k40, Bool.and_self]
theorem kF : chkF bk = true := by decide +kernel
theorem b0 : BindOk d0 := fun _ _ _ _ _ _ us hl => match us, hl with | [_], _ => rfl
theorem b1 : BindOk d1 := fun _ _ _ _ _ _ us hl => match us, hl with | [_, _, _], _ => rfl
theorem b2 : BindOk d2 := fun _ _ _ _ _ _ us hl => match us, hl with | [_, _, _], _ => rfl
theorem b3 : BindOk d3 := fun _ _ _ _ _ _ us hl => match us, hl with | [_], _ => rfl
theorem b4 : BindOk d4 := fun _ _ _ _ _ _ us hl => match us, hl with | [_, _], _ => rfl
theorem b5 : BindOk d5 := fun _ _ _ _ _ _ us hl => match us, hl with | [_, _], _ => rfl
theorem b6 : BindOk d6 := fun _ _ _ _ _ _ us hl => match us, hl with | [_, _], _ => rfl
theorem b7 : BindOk d7 := fun _ _ _ _ _ _ us hl => match us, hl with | [_, _], _ => rfl
theorem b8 : BindOk d8 := fun _ _ _ _ _ _ us hl => match us, hl with | [_, _], _ => rfl
theorem b9 : BindOk d9 := fun _ _ _ _ _ _ us hl => match us, hl with | [_], _ => rfl
theorem b10 : BindOk d10 := fun _ _ _ _ _ _ us hl => match us, hl with | [_, _], _ => rfl
theorem b11 : BindOk d11 := fun _ _ _ _ _ _ us hl => match us, hl with | [_, _], _ => rfl
theorem b12 : BindOk d12 := fun _ _ _ _ _ _ us hl => match us, hl with | [_, _], _ => rfl
theorem b13 : BindOk d13 := fun _ _ _ _ _ _ us hl => match us, hl with | [_, _], _ => rfl
theorem b14 : BindOk d14 := fun _ _ _ _ _ _ us hl => match us, hl with | [_, _], _ => rfl
theorem b15 : BindOk d15 := fun _ _ _ _ _ _ us hl => match us, hl with | [_, _], _ => rfl
theorem b16 : BindOk d16 := fun _ _ _ _ _ _ us hl => match us, hl with | [_, _, _], _ => rfl
theorem b17 : BindOk d17 := fun _ _ _ _ _ _ us hl => match us, hl with | [_, _, _], _ => rfl
theorem b18 : BindOk d18 := fun _ _ _ _ _ _ us hl => match us, hl with | [_, _], _ => rfl
theorem b19 : BindOk d19 := fun _ _ _ _ _ _ us hl => match us, hl with | [_, _], _ => rfl
theorem b20 : BindOk d20 := fun _ _ _ _ _ _ us hl => match us, hl with | [_, _, _], _ => rfl
theorem b21 : BindOk d21 := fun _ _ _ _ _ _ us hl => match us, hl with | [_, _], _ => rfl
theorem b22 : BindOk d22 := fun _ _ _ _ _ _ us hl => match us, hl with | [_, _, _, _], _ => rfl
theorem b23 : BindOk d23 := fun _ _ _ _ _ _ us hl => match us, hl with | [_, _], _ => rfl
theorem b24 : BindOk d24 := fun _ _ _ _ _ _ us hl => match us, hl with | [_, _], _ => rfl
theorem b25 : BindOk d25 := fun _ _ _ _ _ _ us hl => match us, hl with | [_, _, _], _ => rfl
theorem b26 : BindOk d26 := fun _ _ _ _ _ _ us hl => match us, hl with | [_, _, _, _], _ => rfl
theorem b27 : BindOk d27 := fun _ _ _ _ _ _ us hl => match us, hl with | [_, _, _], _ => rfl
theorem b28 : BindOk d28 := fun _ _ _ _ _ _ us hl => match us, hl with | [_, _, _], _ => rfl
theorem b29 : BindOk d29 := fun _ _ _ _ _ _ us hl => match us, hl with | [_, _], _ => rfl
theorem b30 : BindOk d30 := fun _ _ _ _ _ _ us hl => match us, hl with | [_, _], _ => rfl
theorem b31 : BindOk d31 := fun _ _ _ _ _ _ us hl => match us, hl with | [_, _], _ => rfl
theorem b32 : BindOk d32 := fun _ _ _ _ _ _ us hl => match us, hl with | [_, _], _ => rfl
theorem b33 : BindOk d33 := fun _ _ _ _ _ _ us hl => match us, hl with | [_, _], _ => rfl
theorem b34 : BindOk d34 := fun _ _ _ _ _ _ us hl => match us, hl with | [_, _], _ => rfl
theorem b35 : BindOk d35 := fun _ _ _ _ _ _ us hl => match us, hl with | [_, _], _ => rfl
theorem b36 : BindOk d36 := fun _ _ _ _ _ _ us hl => match us, hl with | [_, _], _ => rfl
theorem b37 : BindOk d37 := fun _ _ _ _ _ _ us hl => match us, hl with | [_, _], _ => rfl
theorem b38 : BindOk d38 := fun _ _ _ _ _ _ us hl => match us, hl with | [_, _], _ => rfl
theorem b39 : BindOk d39 := fun _ _ _ _ _ _ us hl => match us, hl with | [_, _], _ => rfl
theorem b40 : BindOk d40 := fun _ _ _ _ _ _ us hl => match us, hl with | [], _ => rfl
theorem kB : allP BindOk bk.tb := ⟨b0, b1, b2, b3, b4, b5, b6, b7, b8, b9, b10, b11, b12, b13, b14, b15, b16, b17, b18, b19, b20, b21, b22, b23, b24, b25, b26, b27, b28, b29, b30, b31, b32, b33, b34, b35, b36, b37, b38, b39, b40, trivial⟩
theorem kL : chkSs (bk.sc nL (defScope sL)) cL ((defBody sL).drop 1) = true := by decide +kernel
theorem lSc : scF nL ["script"] (defScope sL) = true := by decide +kernel
theorem lSt : (bk.sc nL (defScope sL)).sto "cup" = true := by decide +kernel
theorem lVi : (bk.sc nL (defScope sL)).vis "script" = true := by decide +kernel
theorem lGl : (bk.sc nL (defScope sL)).gl "_law_cup" = true := by decide +kernel
theorem cSc : scF ["script", "cell"] ["script"] (defScope sC) = true := by decide +kernel
theorem cSt : ((bk0 bts).sc ["script", "cell"] (defScope sC)).sto "cell" = true := by decide +kernel
theorem cVi : ((bk0 bts).sc ["script", "cell"] (defScope sC)).vis "script" = true := by decide +kernel
theorem cAb : ((bk0 bts).sc ["script", "cell"] (defScope sC)).blt "abs" "abs" = true := by decide +kernel
theorem cLi : ((bk0 bts).sc ["script", "cell"] (defScope sC)).blt "list" "list" = true := by decide +kernel
def lC : List Expr := match (defBody sC).getD 1 (.Pass ⟨0, 0, 0, 0⟩) with
  | .Return (some (.List l _)) _ => l
  | _ => []
theorem cEs : chkEs ((bk0 bts).sc ["script", "cell"] (defScope sC)) eC lC = true := by decide +kernel
def dep : Nat := 20
set_option maxHeartbeats 4000000 in
theorem top_law {P : Program} {w : World} {K : PySem.W.Frag} {h : Heap} {mg : Str → Option Value} {fa : Addr} (X : K.In h) (G : h.Ns mainGlobals mg) (hfa : mg "law" = some (.ref fa)) (hd : allP (fun D => DK K D.name D.st) bk.tb) (hg : allP (GK K) bk.gls) (hz : allP (BK K) bk.bts) (hC : DK K "_law_cup" sC) (hL : DK K "law" sL)
    (law : ∀ cell : Int, 0 ≤ cell → ∃ c, CupIs eC cell c ∧ ∃ c', exSs (runs bk.T (dep + 1)) cL (.no :: .fz .cup :: List.replicate (nL.length - 2) .no) c = .ok (.rt (.bl true) c')) :
    ∃ fd : FuncData, (∀ (s : Shared) (v : Value), BindsTo s fd ⟨[v], []⟩ [("script", v)]) ∧ ∀ base : Heap, K.In base → base.Ns mainGlobals mg → FnOk P w K mg base (L2.CX P w) (dep + 2) fa fd ["script"] (spLaw K) := by
  obtain ⟨f, fd, a, F⟩ := hL
  obtain ⟨fC, fdC, aC, FC⟩ := hC
  have e := hfa.symm.trans (PySem.W.mg_of X G a)
  cases e
  have top := top_ok (w := w) X G hd kB hg hz
  have bC := FC.binds (ps := ["script"]) fun _ _ _ _ _ _ us hl => match us, hl with | [_], _ => rfl
  refine ⟨fd, ?_, fun base _ _ => ok_law top F FC bC (PySem.W.mg_of X G aC) (ok_cup (bts := bts) FC rfl cSc cEs (by decide +kernel) cAb cLi cSt cVi top.bt) rfl rfl rfl lSc kL kAll kF lSt lVi lGl law⟩
  obtain ⟨oc, od, kV, doc, pm, an, cdv, ct, osl, rfl, lk, hcd⟩ := F.ex
  exact fun s v => .of_eq rfl
end K85

set_option maxHeartbeats 1000000
namespace K85
open EV
abbrev Rul := List Int × List Int
abbrev eR (r : Rul) : D := .tup [iT r.1, iT r.2]
abbrev eB (b : List Rul) : D := .tup (b.map eR)
def BaseOk (m : Int) (b : List Rul) : Prop := ∀ r ∈ b, SetOk m r.1 ∧ SetOk m r.2
variable {n : Nat} {c : Cup} {xs ys : List Int} {m : Int} {b : List Rul} {r : Rul}
theorem r0 {i : Int} : runs bk.T (n + 1) 0 [.int i] c = .ok (.bl true, c) := by
  rw [runs_succ (F := f0) rfl]; rfl
theorem r1 {i l h : Int} : runs bk.T (n + 2) 1 [.int i, .int l, .int h] c = .ok (.bl (decide (l ≤ i) && decide (i ≤ h)), c) := by
  rw [runs_succ (F := f1) rfl]
  simp [runFn, f1, c1, r0, cmpD]
  by_cases h1 : l ≤ i <;> simp [h1]
theorem r2 {ds : List D} {l h : Int} : runs bk.T (n + 1) 2 [.tup ds, .int l, .int h] c = .ok (.bl (decide (l ≤ ds.length) && decide ((ds.length : Int) ≤ h)), c) := by
  rw [runs_succ (F := f2) rfl]
  simp [runFn, f2, c2, isiD, cmpD]
  by_cases h1 : l ≤ ds.length <;> simp [h1]
theorem rising_zip : ∀ {xs : List Int}, xs.Pairwise (· < ·) → ((xs.zip (xs.drop 1)).all fun p => decide (p.1 < p.2)) = true
  | [], _ => rfl
  | [_], _ => rfl
  | x :: y :: l, h => by
    rw [List.pairwise_cons] at h
    have ih := rising_zip h.2
    show (decide (x < y) && (((y :: l).zip l).all fun p => decide (p.1 < p.2))) = true
    rw [decide_eq_true (h.1 y List.mem_cons_self)]
    exact ih
theorem zip_ints (xs ys : List Int) : (xs.map D.int).zipWith (fun x y => D.tup [x, y]) (ys.map D.int) = (xs.zip ys).map fun p => .tup [.int p.1, .int p.2] := by
  rw [List.zipWith_map, List.map_zip_eq_zipWith]; rfl
theorem r3 (h : xs.Pairwise (· < ·)) : runs bk.T (n + 1) 3 [iT xs] c = .ok (.bl true, c) := by
  rw [runs_succ (F := f3) rfl]
  have q : lcGo (lcF (runs bk.T n) [1, 2] (.tp [.nm 1, .nm 2]) .nil (.cmp .lt (.var 1) (.var 2)) [.fz (iT xs), .no, .no]) ((xs.zip (xs.drop 1)).map fun p => .tup [.int p.1, .int p.2]) c = .ok ((xs.zip (xs.drop 1)).map fun p => D.bl (decide (p.1 < p.2)), c) :=
    lc_map fun x _ => by simp [lcF, wipeL, tgSet, tgSets, cmpD]
  have e : cutL (xs.map D.int) (some 1) none = (xs.drop 1).map D.int := by
    rw [show cutL (xs.map D.int) (some 1) none = (xs.map D.int).drop 1 from cut_from _ 1, List.map_drop]
  simp [runFn, f3, c3, zipD, e, zip_ints]
  rw [← zip_ints xs (xs.drop 1), List.map_drop, List.drop_one] at q
  simp [q]
  simpa using rising_zip h
theorem r4 (h : SetOk m xs) (hm : 0 ≤ m) : runs bk.T (n + 3) 4 [iT xs, .int m] c = .ok (.bl true, c) := by
  rw [runs_succ (F := f4) rfl]
  have q : lcGo (lcF (runs bk.T (n + 2)) [2] (.nm 2) .nil (.call 1 (.cons (.var 2) (.cons (.lit (.int 0)) (.cons (.bin .sub (.var 1) (.lit (.int 1))) .nil)))) [.fz (iT xs), .fz (.int m), .no]) (xs.map D.int) c = .ok (xs.map fun x => D.bl (decide (0 ≤ x) && decide (x ≤ m - 1)), c) :=
    lc_map fun x _ => by simp [lcF, wipeL, tgSet, r1, binD]
  have hl := h.len hm
  have ha : (xs.all fun x => decide (0 ≤ x) && decide (x ≤ m - 1)) = true := by
    rw [List.all_eq_true]
    intro x hx
    have := h.2 x hx
    simp; omega
  simp [runFn, f4, c4, r2, hl]
  simp [q]
  rw [if_pos (fun x hx => by have := h.2 x hx; omega)]
  simp [r3 h.1]
theorem r5 : runs bk.T (n + 1) 5 [iT xs, iT ys] c = .ok (.bl (within xs ys), c) := by
  rw [runs_succ (F := f5) rfl]
  have q : lcGo (lcF (runs bk.T n) [2] (.nm 2) .nil (.cmp .inn (.var 2) (.var 1)) [.fz (iT xs), .fz (iT ys), .no]) (xs.map D.int) c = .ok (xs.map fun x => D.bl (decide (x ∈ ys)), c) :=
    lc_map fun x _ => by simp [lcF, wipeL, tgSet]
  simp [runFn, f5, c5, q, within]
theorem r6 (h : xs.length + ys.length ≤ 60) : runs bk.T (n + 1) 6 [iT xs, iT ys] c = .ok (iT (union xs ys), c) := by
  rw [runs_succ (F := f6) rfl]
  have e : binD .add (iT xs) (iT ys) = .ok (iT (xs ++ ys)) := by
    rw [show iT (xs ++ ys) = .tup (xs.map D.int ++ ys.map D.int) by rw [← List.map_append]]
    exact add_t (by rw [List.length_map, List.length_map]; omega)
  have e2 : ssetD (iT (xs ++ ys)) = .ok (.lst ((sortI (xs ++ ys)).map D.int)) := sset_t (by rw [List.length_append]; exact h)
  have g : runFn (runs bk.T n) f6 [iT xs, iT ys] c = (((binD .add (iT xs) (iT ys)).bind fun z => Res.ok (z, c)).bind fun x => (ssetD x.1).bind fun y => .ok (y, x.2)).bind fun x => (prmD .tuple x.1).bind fun y => .ok (y, x.2) := by
    simp [runFn, f6, c6]
    cases binD .add (iT xs) (iT ys) <;> simp
    rename_i z
    cases ssetD z <;> simp
    rename_i z
    cases prmD .tuple z <;> simp
  rw [g, e]
  simp only [Res.bind_ok]
  rw [e2]
  simp [union]
theorem r7 (h : SetOk m r.1 ∧ SetOk m r.2) (hm : 0 ≤ m) : runs bk.T (n + 4) 7 [.int m, eR r] c = .ok (.bl true, c) := by
  rw [runs_succ (F := f7) rfl]
  simp [runFn, f7, c7, r2, lcGo, lcF, wipeL, tgSet, r4 h.1 hm, r4 h.2 hm, prmD, boolsD]
theorem r8 (h : BaseOk m b) (hm : 0 ≤ m) (hb : b.length ≤ 400) : runs bk.T (n + 5) 8 [.int m, eB b] c = .ok (.bl true, c) := by
  rw [runs_succ (F := f8) rfl]
  have q : lcGo (lcF (runs bk.T (n + 4)) [2] (.nm 2) .nil (.call 7 (.cons (.var 0) (.cons (.var 2) .nil))) [.fz (.int m), .fz (eB b), .no]) (b.map eR) c = .ok (b.map fun _ => D.bl true, c) :=
    lc_map fun x hx => by simp [lcF, wipeL, tgSet, r7 (h x hx) hm]
  have e : prmD .all (.lst (b.map fun _ => D.bl true)) = .ok (.bl true) := by
    rw [allM (fun _ => true) b]; simp
  have hb' : (b.length : Int) ≤ 400 := by omega
  simp [runFn, f8, c8, r2, hb', q, e]
theorem r9 (h0 : 0 ≤ m) (h1 : m ≤ 12) : runs bk.T (n + 3) 9 [.int m] c = .ok (.non, c) := by
  rw [runs_succ (F := f9) rfl]
  simp [runFn, f9, c9, r1, h0, h1]
theorem r10 (h : BaseOk m b) (h0 : 0 ≤ m) (h1 : m ≤ 12) (hb : b.length ≤ 400) : runs bk.T (n + 6) 10 [.int m, eB b] c = .ok (.non, c) := by
  rw [runs_succ (F := f10) rfl]
  simp [runFn, f10, c10, r9 h0 h1, r8 h h0 hb]
theorem r11 (h : SetOk m xs) (h0 : 0 ≤ m) : runs bk.T (n + 4) 11 [.int m, iT xs] c = .ok (.non, c) := by
  rw [runs_succ (F := f11) rfl]
  simp [runFn, f11, c11, r4 h h0]
def respects (m : List Int) (r : Rul) : Bool := !within r.1 m || within r.2 m
theorem r12 : runs bk.T (n + 2) 12 [iT xs, eR r] c = .ok (.bl (respects xs r), c) := by
  rw [runs_succ (F := f12) rfl]
  simp [runFn, f12, c12, r5, respects]
  cases within r.1 xs <;> simp
/-- the first place where something holds -/
def firstD (l : List Int) : D := match l with
  | [] => .non
  | i :: _ => .int i
theorem ite_first (l : List Int) {c : Cup} : (if (!decide (l = [])) = true then (idxD c (.lst (l.map D.int)) (.int 0)).bind fun z => .ok (z, c) else Res.ok (D.non, c)) = .ok (firstD l, c) := by
  cases l <;> simp [firstD]
theorem r13 : runs bk.T (n + 3) 13 [eB b, iT xs] c = .ok (firstD (idxs (fun r => !respects xs r) b), c) := by
  rw [runs_succ (F := f13) rfl]
  have q : lcGo (lcF (runs bk.T (n + 2)) [3, 4] (.tp [.nm 3, .nm 4]) (.cons (.not (.call 12 (.cons (.var 1) (.cons (.var 4) .nil)))) .nil) (.var 3) [.fz (eB b), .fz (iT xs), .no, .no, .no]) (enmL (b.map eR)) c = .ok ((idxs (fun r => !respects xs r) b).map D.int, c) :=
    lc_idx fun i r hr => by
      simp [lcF, wipeL, tgSet, tgSets, r12]
      cases respects xs r <;> simp
  simp [runFn, f13, c13, q]
  cases h : idxs (fun r => !respects xs r) b <;> simp [firstD]
end K85

set_option maxHeartbeats 1000000
namespace K85
open EV
variable {n : Nat} {c : Cup} {xs ys s t : List Int} {m : Int} {b : List Rul} {r : Rul}
/-! ### sets -/
theorem asc_sub : ∀ {s t : List Int}, s.Pairwise (· < ·) → t.Pairwise (· < ·) → (∀ x ∈ s, x ∈ t) → s.length ≤ t.length ∧ (s.length = t.length → s = t)
  | [], t, _, _, _ => ⟨Nat.zero_le _, fun h => (List.length_eq_zero_iff.mp h.symm).symm⟩
  | x :: s, [], _, _, h => nomatch h x List.mem_cons_self
  | x :: s, y :: t, hs, ht, h => by
    have hs' := List.pairwise_cons.mp hs
    have ht' := List.pairwise_cons.mp ht
    by_cases e : x = y
    · subst e
      obtain ⟨h1, h2⟩ := asc_sub hs'.2 ht'.2 fun z hz => by
        rcases List.mem_cons.mp (h z (List.mem_cons_of_mem _ hz)) with q | q
        · have := hs'.1 z hz; omega
        · exact q
      refine ⟨Nat.succ_le_succ h1, fun q => ?_⟩
      rw [h2 (by simpa using q)]
    · have hx : x ∈ t := by
        rcases List.mem_cons.mp (h x List.mem_cons_self) with q | q
        · exact absurd q e
        · exact q
      have hy := ht'.1 x hx
      obtain ⟨h1, _⟩ := asc_sub (s := x :: s) hs ht'.2 fun z hz => by
        rcases List.mem_cons.mp (h z hz) with q | q
        · rcases List.mem_cons.mp hz with w | w
          · omega
          · have := hs'.1 z w; omega
        · exact q
      refine ⟨Nat.le_succ_of_le h1, fun q => ?_⟩
      rw [List.length_cons (as := t)] at q
      omega
/-! ### one pass -/
def passG (s : List Int) (b : List Rul) (f : List Int) : List Int := b.foldl (fun f r => if within r.1 s then union f r.2 else f) f
def passF (b : List Rul) (s : List Int) : List Int := passG s b s
theorem passG_cons {f : List Int} : passG s (r :: b) f = passG s b (if within r.1 s then union f r.2 else f) := rfl
theorem passG_ok : ∀ {b : List Rul} {f : List Int}, BaseOk m b → SetOk m f → SetOk m (passG s b f)
  | [], _, _, h => h
  | r :: b, f, hb, h => by
    rw [passG_cons]
    refine passG_ok (fun q hq => hb q (List.mem_cons_of_mem _ hq)) ?_
    split
    · exact h.union (hb r List.mem_cons_self).2
    · exact h
theorem passG_sub {x : Int} : ∀ {b : List Rul} {f : List Int}, x ∈ f → x ∈ passG s b f
  | [], _, h => h
  | r :: b, f, h => by
    rw [passG_cons]
    refine passG_sub ?_
    split
    · exact mem_union.mpr (.inl h)
    · exact h
theorem passG_has {x : Int} (hw : within r.1 s = true) (hx : x ∈ r.2) : ∀ {b : List Rul} {f : List Int}, r ∈ b → x ∈ passG s b f
  | q :: b, f, h => by
    rw [passG_cons]
    rcases List.mem_cons.mp h with z | z
    · subst z
      rw [if_pos hw]
      exact passG_sub (mem_union.mpr (.inr hx))
    · exact passG_has hw hx z
def Closed (b : List Rul) (S : Int → Prop) : Prop := ∀ r ∈ b, (∀ x ∈ r.1, S x) → ∀ x ∈ r.2, S x
theorem passG_least {S : Int → Prop} (hs : ∀ x ∈ s, S x) : ∀ {b : List Rul} {f : List Int}, Closed b S → (∀ x ∈ f, S x) → ∀ x ∈ passG s b f, S x
  | [], _, _, h => h
  | r :: b, f, hc, h => by
    rw [passG_cons]
    refine passG_least hs (fun q hq => hc q (List.mem_cons_of_mem _ hq)) ?_
    split
    · rename_i hw
      intro x hx
      rcases mem_union.mp hx with z | z
      · exact h x z
      · exact hc r List.mem_cons_self (fun y hy => hs y (within_iff.mp hw y hy)) x z
    · exact h
theorem passG_same (hs : s.Pairwise (· < ·)) : ∀ {b : List Rul}, (∀ r ∈ b, respects s r = true) → passG s b s = s
  | [], _ => rfl
  | r :: b, h => by
    rw [passG_cons]
    have h1 := h r List.mem_cons_self
    unfold respects at h1
    split
    · rename_i hw
      rw [hw] at h1
      rw [union_sub hs (within_iff.mp (by simpa using h1))]
      exact passG_same hs fun q hq => h q (List.mem_cons_of_mem _ hq)
    · exact passG_same hs fun q hq => h q (List.mem_cons_of_mem _ hq)
theorem pass_fix (h : passF b s = s) : ∀ r ∈ b, respects s r = true := fun r hr => by
  unfold respects
  cases hw : within r.1 s with
  | false => rfl
  | true =>
    show within r.2 s = true
    refine within_iff.mpr fun x hx => ?_
    have q : x ∈ passF b s := passG_has hw hx hr
    rw [h] at q; exact q
theorem closed_of (h : ∀ r ∈ b, respects s r = true) : Closed b (· ∈ s) := fun r hr hp x hx => by
  have h1 := h r hr
  unfold respects at h1
  rw [within_iff.mpr hp] at h1
  exact within_iff.mp (by simpa using h1) x hx
theorem pass_grow (hb : BaseOk m b) (hs : SetOk m s) (h : passF b s ≠ s) : s.length < (passF b s).length := by
  obtain ⟨h1, h2⟩ := asc_sub hs.1 (passG_ok (s := s) hb hs).1 fun x hx => passG_sub (s := s) (b := b) hx
  rcases Nat.lt_or_ge s.length (passF b s).length with z | z
  · exact z
  · exact absurd (h2 (Nat.le_antisymm h1 z)).symm h
theorem _root_.EV.SetOk.len12 (h : SetOk m s) (h0 : 0 ≤ m) (h1 : m ≤ 12) : s.length ≤ 12 := by
  have := h.len h0; omega
theorem forGo_foldM {α β : Type} {e : β → D} {t : Tg} {f : Lo → Cup → Res Flo} {R : α → Lo → Prop} {step : α → β → α} {c : Cup} : ∀ {l : List β} {lo : Lo} {a : α}, (∀ x ∈ l, ∀ a lo, R a lo → ∃ lo1 lo2, tgSet t (e x) lo = some lo1 ∧ f lo1 c = .ok (.nx lo2 c) ∧ R (step a x) lo2) → R a lo →
    ∃ lo', forGo t f (l.map e) lo c = .ok (.nx lo' c) ∧ R (l.foldl step a) lo'
  | [], lo, a, _, p => ⟨lo, rfl, p⟩
  | x :: l, lo, a, h, p => by
    obtain ⟨lo1, lo2, h1, h2, p2⟩ := h x List.mem_cons_self a lo p
    obtain ⟨lo', h3, p3⟩ := forGo_foldM (l := l) (fun y hy => h y (List.mem_cons_of_mem _ hy)) p2
    refine ⟨lo', ?_, p3⟩
    show (ofO (tgSet t (e x) lo)).bind _ = _
    rw [h1]
    show (f lo1 c).bind _ = _
    rw [h2]
    exact h3
theorem r18 (hb : BaseOk m b) (hs : SetOk m s) (h0 : 0 ≤ m) (h1 : m ≤ 12) : runs bk.T (n + 2) 18 [eB b, iT s] c = .ok (iT (passF b s), c) := by
  rw [runs_succ (F := f18) rfl]
  obtain ⟨lo', q, qs, s1, s2, rfl⟩ := forGo_foldM (e := eR) (t := .tp [.nm 3, .nm 4]) (f := fun lo c => exSs (runs bk.T (n + 1)) (.cons (.set 2 (.ite (.call 5 (.cons (.var 3) (.cons (.var 1) .nil))) (.call 6 (.cons (.var 2) (.cons (.var 4) .nil))) (.var 2))) .nil) lo c)
    (R := fun (a : List Int) lo => SetOk m a ∧ ∃ s1 s2, lo = [.fz (eB b), .fz (iT s), .fz (iT a), s1, s2]) (step := fun f r => if within r.1 s then union f r.2 else f) (c := c) (l := b) (lo := [.fz (eB b), .fz (iT s), .fz (iT s), .no, .no]) (a := s)
    (fun r hr a lo ⟨ha, s1, s2, e⟩ => by
      subst e
      refine ⟨[.fz (eB b), .fz (iT s), .fz (iT a), .fz (iT r.1), .fz (iT r.2)], [.fz (eB b), .fz (iT s), .fz (iT (if within r.1 s then union a r.2 else a)), .fz (iT r.1), .fz (iT r.2)], rfl, ?_, ?_, _, _, rfl⟩
      · have hl : a.length + r.2.length ≤ 60 := by
          have := ha.len12 h0 h1
          have := (hb r hr).2.len12 h0 h1
          omega
        simp [r5]
        cases within r.1 s <;> simp [r6 hl]
      · split
        · exact ha.union (hb r hr).2
        · exact ha) ⟨hs, _, _, rfl⟩
  simp [runFn, f18, c18] at q ⊢
  simp [q, passF, passG]
/-! ### rounds -/
def lastS (a : List (List Int)) : List Int := a.getLastD []
def tst (b : List Rul) (a : List (List Int)) : Bool := !decide (passF b (lastS a) = lastS a)
def stp (b : List Rul) (a : List (List Int)) : List (List Int) := a ++ [passF b (lastS a)]
def RL (b : List Rul) (s : List Int) : List (List Int) := whlF (tst b) (stp b) 12 [s]
theorem lastS_app {a : List (List Int)} {x : List Int} : lastS (a ++ [x]) = x := by simp [lastS]
theorem lastS_get {a : List (List Int)} (h : a ≠ []) : a.getLast? = some (lastS a) := by
  unfold lastS
  rw [List.getLastD_eq_getLast?]
  cases q : a.getLast? with
  | none => exact absurd (List.getLast?_eq_none_iff.mp q) h
  | some x => rfl
/-- what the rounds keep -/
structure RI (m : Int) (b : List Rul) (s : List Int) (a : List (List Int)) : Prop where
  ne : a ≠ []
  ok : ∀ x ∈ a, SetOk m x
  ln : a.length ≤ (lastS a).length + 1
  sub : ∀ x ∈ s, x ∈ lastS a
  least : ∀ S : Int → Prop, Closed b S → (∀ x ∈ s, S x) → ∀ x ∈ lastS a, S x
  mv : ∀ x ∈ a.dropLast, passF b x ≠ x
theorem RI.last {a : List (List Int)} (h : RI m b s a) : SetOk m (lastS a) := h.ok _ (List.mem_of_getLast? (lastS_get h.ne))
theorem RI.start (hs : SetOk m s) : RI m b s [s] := ⟨by simp, fun x hx => by rw [List.mem_singleton.mp hx]; exact hs, by simp, fun x hx => hx, fun S _ h => h, fun x hx => by simp at hx⟩
theorem RI.step {a : List (List Int)} (hb : BaseOk m b) (h : RI m b s a) (ht : tst b a = true) : RI m b s (stp b a) := by
  have hne : passF b (lastS a) ≠ lastS a := by
    unfold tst at ht
    simpa using ht
  refine ⟨by simp [stp], fun x hx => ?_, ?_, fun x hx => ?_, fun S hc hS x hx => ?_, fun x hx => ?_⟩
  · rcases List.mem_append.mp hx with z | z
    · exact h.ok x z
    · rw [List.mem_singleton.mp z]; exact passG_ok hb h.last
  · have := pass_grow hb h.last hne
    have := h.ln
    unfold stp
    rw [lastS_app, List.length_append, List.length_singleton]
    omega
  · unfold stp
    rw [lastS_app]
    exact passG_sub (h.sub x hx)
  · unfold stp at hx
    rw [lastS_app] at hx
    exact passG_least (h.least S hc hS) hc (h.least S hc hS) x hx
  · unfold stp at hx
    rw [List.dropLast_concat] at hx
    have e : a = a.dropLast ++ [lastS a] := by
      obtain ⟨l, e⟩ := List.getLast?_eq_some_iff.mp (lastS_get h.ne)
      rw [e]; simp [lastS]
    rw [e] at hx
    rcases List.mem_append.mp hx with z | z
    · exact h.mv x z
    · rw [List.mem_singleton.mp z]; exact hne
theorem RL_inv (hb : BaseOk m b) (hs : SetOk m s) : RI m b s (RL b s) := whlF_inv (fun a h ht => h.step hb ht) 12 [s] (RI.start hs)
/-- the loop's measure -/
def mu (a : List (List Int)) : Nat := 12 - (lastS a).length
theorem mu_step {a : List (List Int)} (hb : BaseOk m b) (h0 : 0 ≤ m) (h1 : m ≤ 12) (h : RI m b s a) (ht : tst b a = true) : mu (stp b a) < mu a := by
  have hne : passF b (lastS a) ≠ lastS a := by
    unfold tst at ht
    simpa using ht
  have := pass_grow hb h.last hne
  have := (passG_ok (s := lastS a) hb h.last).len12 h0 h1
  unfold mu stp
  rw [lastS_app]
  show 12 - (passF b (lastS a)).length < _
  have : (passF b (lastS a)).length ≤ 12 := this
  omega
theorem idx_last {a : List (List Int)} (h : a ≠ []) : idxD c (.lst (a.map iT)) (.int (-1)) = .ok (iT (lastS a)) := idx_lm (by rw [List.getLast?_map, lastS_get h]; rfl)
theorem r23 (hb : BaseOk m b) (hs : SetOk m s) (h0 : 0 ≤ m) (h1 : m ≤ 12) : runs bk.T (n + 3) 23 [eB b, iT s] c = .ok (.lst ((RL b s).map iT), c) ∧ tst b (RL b s) = false := by
  rw [runs_succ (F := f23) rfl]
  obtain ⟨lo', q, ⟨qi, rfl⟩, qt⟩ := whlGo_fun (g := fun lo c => (evE (runs bk.T (n + 2)) (.cmp .ne (.var 3) (.idx (.own 2) (.neg (.lit (.int 1))))) lo c).bind fun x => asB x.1 fun k => .ok (k, x.2))
    (f := fun lo c => exSs (runs bk.T (n + 2)) (.cons (.app 2 (.var 3)) (.cons (.set 3 (.call 18 (.cons (.var 0) (.cons (.var 3) .nil)))) .nil)) lo c)
    (R := fun a lo => RI m b s a ∧ lo = [.fz (eB b), .fz (iT s), .own (a.map iT), .fz (iT (passF b (lastS a)))]) (test := tst b) (step := stp b) (μ := mu) (c := c)
    (fun a lo ⟨ha, e⟩ => by
      subst e
      simp [idx_last ha.ne, tst])
    (fun a lo ⟨ha, e⟩ ht => by
      subst e
      have hl : a.length < 16777216 := by
        have := ha.ln
        have := ha.last.len12 h0 h1
        omega
      refine ⟨[.fz (eB b), .fz (iT s), .own ((stp b a).map iT), .fz (iT (passF b (lastS (stp b a))))], ?_, ⟨ha.step hb ht, rfl⟩, mu_step hb h0 h1 ha ht⟩
      simp [hl, r18 hb (passG_ok (s := lastS a) hb ha.last) h0 h1, stp, lastS_app, passF])
    10000 12 [s] _ ⟨RI.start hs, rfl⟩ (by unfold mu; omega) (by unfold mu; omega)
  refine ⟨?_, qt⟩
  have e18 := r18 (n := n) (c := c) hb hs h0 h1
  simp [runFn, f23, c23, e18, parSet, lastS] at q ⊢
  simp [q]
  rfl
end K85

set_option maxHeartbeats 1000000
namespace K85
open EV
variable {n : Nat} {c : Cup} {xs ys s t : List Int} {m : Int} {b : List Rul} {r : Rul}
/-! ### steps -/
def nxt (b : List Rul) (s : List Int) : List Int := idxs (fun r => !respects s r) b
def tstS (b : List Rul) (a : List Int × List Int) : Bool := !decide (nxt b a.1 = [])
def stpS (b : List Rul) (a : List Int × List Int) : List Int × List Int := match nxt b a.1 with
  | [] => a
  | i :: _ => (union a.1 ((b[i.toNat]?).getD ([], [])).2, a.2 ++ [i])
def SL (b : List Rul) (s : List Int) : List Int × List Int := whlF (tstS b) (stpS b) 12 (s, [])
theorem nxt_nil : nxt b s = [] ↔ ∀ r ∈ b, respects s r = true := by
  constructor
  · intro h r hr
    obtain ⟨k, hk⟩ := List.getElem?_of_mem hr
    cases q : respects s r with
    | true => rfl
    | false =>
      have : (k : Int) ∈ nxt b s := mem_idxs.mpr ⟨k, r, rfl, hk, by simp [q]⟩
      rw [h] at this; cases this
  · intro h
    cases q : nxt b s with
    | nil => rfl
    | cons i l =>
      have : i ∈ nxt b s := by rw [q]; exact List.mem_cons_self
      obtain ⟨k, r, _, hk, hr⟩ := mem_idxs.mp this
      rw [h r (List.mem_of_getElem? hk)] at hr; cases hr
structure SI (m : Int) (b : List Rul) (s : List Int) (a : List Int × List Int) : Prop where
  ok : SetOk m a.1
  sub : ∀ x ∈ s, x ∈ a.1
  least : ∀ S : Int → Prop, Closed b S → (∀ x ∈ s, S x) → ∀ x ∈ a.1, S x
  fnd : ∀ i ∈ a.2, ∃ (k : Nat) (r : Rul), i = k ∧ b[k]? = some r ∧ within r.1 a.1 = true ∧ within r.2 r.1 = false
  ln : a.2.length ≤ a.1.length
theorem SI.start (hs : SetOk m s) : SI m b s (s, []) := ⟨hs, fun _ h => h, fun _ _ h => h, fun i h => (by cases h), Nat.zero_le _⟩
theorem SI.next {a : List Int × List Int} (hb : BaseOk m b) (h : SI m b s a) (ht : tstS b a = true) : ∃ (k : Nat) (r : Rul) (l : List Int), nxt b a.1 = (k : Int) :: l ∧ b[k]? = some r ∧ within r.1 a.1 = true ∧ within r.2 a.1 = false ∧ stpS b a = (union a.1 r.2, a.2 ++ [(k : Int)]) := by
  cases q : nxt b a.1 with
  | nil => unfold tstS at ht; rw [q] at ht; simp at ht
  | cons i l =>
    have : i ∈ nxt b a.1 := by rw [q]; exact List.mem_cons_self
    obtain ⟨k, r, rfl, hk, hr⟩ := mem_idxs.mp this
    have hw : within r.1 a.1 = true ∧ within r.2 a.1 = false := by
      unfold respects at hr
      revert hr
      cases within r.1 a.1 <;> cases within r.2 a.1 <;> simp
    refine ⟨k, r, l, rfl, hk, hw.1, hw.2, ?_⟩
    unfold stpS
    rw [q]
    show (union a.1 ((b[(k : Int).toNat]?).getD ([], [])).2, _) = _
    rw [Int.toNat_natCast, hk]; rfl
theorem grow_union (hs : SetOk m s) (ht : SetOk m t) (h : within t s = false) : s.length < (union s t).length := by
  obtain ⟨h1, h2⟩ := asc_sub hs.1 (hs.union ht).1 fun x hx => mem_union.mpr (.inl hx)
  rcases Nat.lt_or_ge s.length (union s t).length with z | z
  · exact z
  · have e := h2 (Nat.le_antisymm h1 z)
    have : within t s = true := within_iff.mpr fun x hx => by
      rw [e]; exact mem_union.mpr (.inr hx)
    rw [h] at this; cases this
theorem SI.step {a : List Int × List Int} (hb : BaseOk m b) (h : SI m b s a) (ht : tstS b a = true) : SI m b s (stpS b a) ∧ a.1.length < (stpS b a).1.length := by
  obtain ⟨k, r, l, e1, hk, h1, h2, e2⟩ := h.next hb ht
  have hr := List.mem_of_getElem? hk
  have hg := grow_union h.ok (hb r hr).2 h2
  rw [e2]
  refine ⟨⟨h.ok.union (hb r hr).2, fun x hx => mem_union.mpr (.inl (h.sub x hx)), fun S hc hS x hx => ?_, fun i hi => ?_, ?_⟩, hg⟩
  · rcases mem_union.mp hx with z | z
    · exact h.least S hc hS x z
    · exact hc r hr (fun y hy => h.least S hc hS y (within_iff.mp h1 y hy)) x z
  · rcases List.mem_append.mp hi with z | z
    · obtain ⟨k', r', e, g1, g2, g3⟩ := h.fnd i z
      exact ⟨k', r', e, g1, within_iff.mpr fun x hx => mem_union.mpr (.inl (within_iff.mp g2 x hx)), g3⟩
    · refine ⟨k, r, List.mem_singleton.mp z, hk, within_iff.mpr fun x hx => mem_union.mpr (.inl (within_iff.mp h1 x hx)), ?_⟩
      cases q : within r.2 r.1 with
      | false => rfl
      | true =>
        have : within r.2 a.1 = true := within_iff.mpr fun x hx => within_iff.mp h1 x (within_iff.mp q x hx)
        rw [h2] at this; cases this
  · have := h.ln
    show (a.2 ++ [(k : Int)]).length ≤ (union a.1 r.2).length
    rw [List.length_append, List.length_singleton]
    omega
theorem SL_inv (hb : BaseOk m b) (hs : SetOk m s) : SI m b s (SL b s) := whlF_inv (fun a h ht => (h.step hb ht).1) 12 (s, []) (SI.start hs)
theorem r14 (hb : BaseOk m b) (hs : SetOk m s) (h0 : 0 ≤ m) (h1 : m ≤ 12) : runs bk.T (n + 4) 14 [eB b, iT s] c = .ok (.tup [iT (SL b s).1, .lst ((SL b s).2.map D.int)], c) ∧ tstS b (SL b s) = false := by
  rw [runs_succ (F := f14) rfl]
  obtain ⟨lo', q, ⟨qi, rfl⟩, qt⟩ := whlGo_fun (g := fun lo c => (evE (runs bk.T (n + 3)) (.cmp .isn (.var 3) (.lit .non)) lo c).bind fun x => asB x.1 fun k => .ok (k, x.2))
    (f := fun lo c => exSs (runs bk.T (n + 3)) (.cons (.app 2 (.var 3)) (.cons (.set 1 (.call 6 (.cons (.var 1) (.cons (.idx (.idx (.var 0) (.var 3)) (.lit (.int 1))) .nil)))) (.cons (.set 3 (.call 13 (.cons (.var 0) (.cons (.var 1) .nil)))) .nil))) lo c)
    (R := fun a lo => SI m b s a ∧ lo = [.fz (eB b), .fz (iT a.1), .own (a.2.map D.int), .fz (firstD (nxt b a.1))]) (test := tstS b) (step := stpS b) (μ := fun a => 12 - a.1.length) (c := c)
    (fun a lo ⟨ha, e⟩ => by
      subst e
      unfold tstS
      cases nxt b a.1 <;> simp [firstD, cmpD, isD])
    (fun a lo ⟨ha, e⟩ ht => by
      subst e
      obtain ⟨hS, hg⟩ := ha.step hb ht
      obtain ⟨k, r, l, e1, hk, g1, g2, e2⟩ := ha.next hb ht
      have hl : a.2.length < 16777216 := by
        have := ha.ln
        have := ha.ok.len12 h0 h1
        omega
      have hu : a.1.length + r.2.length ≤ 60 := by
        have := ha.ok.len12 h0 h1
        have := (hb r (List.mem_of_getElem? hk)).2.len12 h0 h1
        omega
      have hi : ∀ c, idxD c (.tup (b.map eR)) (.int k) = .ok (eR r) := fun c => idx_tn (by rw [List.getElem?_map, hk]; rfl)
      refine ⟨[.fz (eB b), .fz (iT (stpS b a).1), .own ((stpS b a).2.map D.int), .fz (firstD (nxt b (stpS b a).1))], ?_, ⟨hS, rfl⟩, ?_⟩
      · rw [e2, e1]
        simp [hl, firstD, hi, r6 hu, r13, nxt]
      · have := hS.ok.len12 h0 h1
        omega)
    10000 12 (s, []) _ ⟨SI.start hs, rfl⟩ (by omega) (by omega)
  refine ⟨?_, qt⟩
  simp [runFn, f14, c14, r13, parSet] at q ⊢
  rw [show firstD (idxs (fun r => !respects s r) b) = firstD (nxt b s) from rfl]
  simp [q]
  exact ⟨rfl, rfl⟩
theorem r15 (hb : BaseOk m b) (hs : SetOk m s) (h0 : 0 ≤ m) (h1 : m ≤ 12) : runs bk.T (n + 5) 15 [eB b, iT s] c = .ok (iT (SL b s).1, c) := by
  rw [runs_succ (F := f15) rfl]
  simp [runFn, f15, c15, (r14 hb hs h0 h1).1]
theorem r16 (hb : BaseOk m b) (hs : SetOk m s) (h0 : 0 ≤ m) (h1 : m ≤ 12) (hl : b.length ≤ 400) : runs bk.T (n + 7) 16 [.int m, eB b, iT s] c = .ok (iT (SL b s).1, c) := by
  rw [runs_succ (F := f16) rfl]
  simp [runFn, f16, c16, r10 hb h0 h1 hl, r11 hs h0, r15 hb hs h0 h1]
theorem r17 (hb : BaseOk m b) (hs : SetOk m s) (h0 : 0 ≤ m) (h1 : m ≤ 12) (hl : b.length ≤ 400) : runs bk.T (n + 7) 17 [.int m, eB b, iT s] c = .ok (iT (SL b s).2, c) := by
  rw [runs_succ (F := f17) rfl]
  simp [runFn, f17, c17, r10 hb h0 h1 hl, r11 hs h0, (r14 hb hs h0 h1).1]
theorem r19 (hb : BaseOk m b) (hs : SetOk m s) (h0 : 0 ≤ m) (h1 : m ≤ 12) : runs bk.T (n + 3) 19 [eB b, iT s] c = .ok (.int ((RL b s).length - 1), c) := by
  rw [runs_succ (F := f19) rfl]
  obtain ⟨lo', q, ⟨qi, rfl⟩, qt⟩ := whlGo_fun (g := fun lo c => (evE (runs bk.T (n + 2)) (.cmp .ne (.var 3) (.var 1)) lo c).bind fun x => asB x.1 fun k => .ok (k, x.2))
    (f := fun lo c => exSs (runs bk.T (n + 2)) (.cons (.par [(2, false), (1, false)] (.cons (.bin .add (.var 2) (.lit (.int 1))) (.cons (.var 3) .nil))) (.cons (.set 3 (.call 18 (.cons (.var 0) (.cons (.var 1) .nil)))) .nil)) lo c)
    (R := fun a lo => RI m b s a ∧ lo = [.fz (eB b), .fz (iT (lastS a)), .fz (.int (a.length - 1)), .fz (iT (passF b (lastS a)))]) (test := tst b) (step := stp b) (μ := mu) (c := c)
    (fun a lo ⟨ha, e⟩ => by
      subst e
      simp [tst])
    (fun a lo ⟨ha, e⟩ ht => by
      subst e
      refine ⟨[.fz (eB b), .fz (iT (lastS (stp b a))), .fz (.int ((stp b a).length - 1)), .fz (iT (passF b (lastS (stp b a))))], ?_, ⟨ha.step hb ht, rfl⟩, mu_step hb h0 h1 ha ht⟩
      have e18 := r18 (n := n) (c := c) hb (passG_ok (s := lastS a) hb ha.last) h0 h1
      have e : passG (lastS a) b (lastS a) = passF b (lastS a) := rfl
      rw [e] at e18
      simp [parSet, binD, e18, stp, lastS_app])
    10000 12 [s] _ ⟨RI.start hs, rfl⟩ (by unfold mu; omega) (by unfold mu; omega)
  have e18 := r18 (n := n) (c := c) hb hs h0 h1
  simp [runFn, f19, c19, e18, parSet, lastS] at q ⊢
  simp [q]
  rfl
theorem r20 (hb : BaseOk m b) (hs : SetOk m s) (h0 : 0 ≤ m) (h1 : m ≤ 12) (hl : b.length ≤ 400) : runs bk.T (n + 7) 20 [.int m, eB b, iT s] c = .ok (.int ((RL b s).length - 1), c) := by
  rw [runs_succ (F := f20) rfl]
  simp [runFn, f20, c20, r10 hb h0 h1 hl, r11 hs h0, r19 hb hs h0 h1]
theorem r21 {k : Int} (hk : 0 ≤ k) (hm : k < m) : runs bk.T (n + 3) 21 [.int m, .int k] c = .ok (.non, c) := by
  rw [runs_succ (F := f21) rfl]
  have : k ≤ m - 1 := by omega
  simp [runFn, f21, c21, r1, binD, hk, this]
theorem r22 {k : Int} (hb : BaseOk m b) (hs : SetOk m s) (h0 : 0 ≤ m) (h1 : m ≤ 12) (hl : b.length ≤ 400) (hk : 0 ≤ k) (hm : k < m) : runs bk.T (n + 7) 22 [.int m, eB b, iT s, .int k] c = .ok (.non, c) := by
  rw [runs_succ (F := f22) rfl]
  simp [runFn, f22, c22, r10 hb h0 h1 hl, r11 hs h0, r21 hk hm]
theorem r24 {a : List (List Int)} {k : Int} : runs bk.T (n + 1) 24 [.lst (a.map iT), .int k] c = .ok (firstD (idxs (fun r => decide (k ∈ r)) a), c) := by
  rw [runs_succ (F := f24) rfl]
  have q : lcGo (lcF (runs bk.T n) [3, 4] (.tp [.nm 3, .nm 4]) (.cons (.cmp .inn (.var 1) (.var 4)) .nil) (.var 3) [.fz (.lst (a.map iT)), .fz (.int k), .no, .no, .no]) (enmL (a.map iT)) c = .ok ((idxs (fun r => decide (k ∈ r)) a).map D.int, c) :=
    lc_idx fun i r hr => by
      simp [lcF, wipeL, tgSet, tgSets]
      by_cases h : k ∈ r <;> simp [h]
  simp [runFn, f24, c24, q]
  cases h : idxs (fun r => decide (k ∈ r)) a <;> simp [firstD]
theorem r25 (hb : BaseOk m b) (hs : SetOk m s) (h0 : 0 ≤ m) (h1 : m ≤ 12) (hl : b.length ≤ 400) : runs bk.T (n + 7) 25 [.int m, eB b, iT s] c = .ok (.tup ((RL b s).map iT), c) := by
  rw [runs_succ (F := f25) rfl]
  simp [runFn, f25, c25, r10 hb h0 h1 hl, r11 hs h0, (r23 hb hs h0 h1).1]
theorem r26 {k : Int} (hb : BaseOk m b) (hs : SetOk m s) (h0 : 0 ≤ m) (h1 : m ≤ 12) (hl : b.length ≤ 400) (hk : 0 ≤ k) (hm : k < m) : runs bk.T (n + 8) 26 [.int m, eB b, iT s, .int k] c = .ok (firstD (idxs (fun r => decide (k ∈ r)) (RL b s)), c) := by
  rw [runs_succ (F := f26) rfl]
  simp [runFn, f26, c26, r22 hb hs h0 h1 hl hk hm, (r23 hb hs h0 h1).1, r24]
theorem forGo_pre {β : Type} {e : β → D} {t : Tg} {f : Lo → Cup → Res Flo} {R : Nat → Lo → Prop} {c : Cup} : ∀ {l : List β} {lo : Lo}, (∀ i x, l[i]? = some x → ∀ lo, R i lo → ∃ lo1 lo2, tgSet t (e x) lo = some lo1 ∧ f lo1 c = .ok (.nx lo2 c) ∧ R (i + 1) lo2) → R 0 lo →
    ∃ lo', forGo t f (l.map e) lo c = .ok (.nx lo' c) ∧ R l.length lo' := by
  intro l lo h r0
  have go : ∀ (k : Nat) (lo : Lo), k ≤ l.length → R k lo → ∃ lo', forGo t f ((l.drop k).map e) lo c = .ok (.nx lo' c) ∧ R l.length lo' := by
    intro k
    induction hd : l.length - k generalizing k with
    | zero =>
      intro lo hk r
      have e : k = l.length := by omega
      subst e
      rw [List.drop_length]
      exact ⟨lo, rfl, r⟩
    | succ d ih =>
      intro lo hk r
      have hlt : k < l.length := by omega
      obtain ⟨lo1, lo2, h1, h2, r2⟩ := h k l[k] (List.getElem?_eq_getElem hlt) lo r
      obtain ⟨lo', h3, r3⟩ := ih (k + 1) (by omega) lo2 hlt r2
      refine ⟨lo', ?_, r3⟩
      rw [List.drop_eq_getElem_cons hlt, List.map_cons]
      show (ofO (tgSet t (e l[k]) lo)).bind _ = _
      rw [h1]
      show (f lo1 c).bind _ = _
      rw [h2]
      exact h3
  exact go 0 lo (Nat.zero_le _) r0
/-- which fire at s -/
def fired (b : List Rul) (s : List Int) : List Int := idxs (fun r => within r.1 s && !within r.2 s) b
theorem idxs_filter {α : Type} {p q : α → Bool} {q' : Int → Bool} {l : List α} (h : ∀ (k : Nat) x, l[k]? = some x → q' k = q x) : (idxs p l).filter q' = idxs (fun x => p x && q x) l := by
  unfold idxs
  rw [List.filter_map, List.filter_filter]
  congr 1
  apply List.filter_congr
  rintro ⟨x, i⟩ hx
  have := h i x (List.mem_zipIdx_iff_getElem?.mp hx)
  simp only [Function.comp]
  rw [this, Bool.and_comm]
theorem r27 (hb : BaseOk m b) (hs : SetOk m s) (h0 : 0 ≤ m) (h1 : m ≤ 12) (hl : b.length ≤ 400) : runs bk.T (n + 7) 27 [.int m, eB b, iT s] c = .ok (.tup (((RL b s).dropLast.map (fired b)).map iT), c) := by
  rw [runs_succ (F := f27) rfl]
  have hR := RL_inv hb hs
  have hlen : (RL b s).length ≤ 13 := by
    have := hR.ln
    have := hR.last.len12 h0 h1
    omega
  obtain ⟨lo', q, s4, s5, s6, s7, rfl⟩ := forGo_pre (e := iT) (t := .nm 4) (f := fun lo c => exSs (runs bk.T (n + 6)) (.cons (.setO 5 (.lc [6, 7] (.tp [.nm 6, .nm 7]) (.enm (.var 1)) (.cons (.call 5 (.cons (.idx (.var 7) (.lit (.int 0))) (.cons (.var 4) .nil))) .nil) (.var 6))) (.cons (.frz 5) (.cons (.app 3 (.prm .tuple (.lc [6] (.nm 6) (.seq (.var 5)) (.cons (.not (.call 5 (.cons (.idx (.idx (.var 1) (.var 6)) (.lit (.int 1))) (.cons (.var 4) .nil)))) .nil) (.var 6)))) .nil))) lo c)
    (R := fun i lo => ∃ s4 s5 s6 s7, lo = [.fz (.int m), .fz (eB b), .fz (iT s), .own ((((RL b s).dropLast.take i).map (fired b)).map iT), s4, s5, s6, s7]) (c := c) (l := (RL b s).dropLast) (lo := [.fz (.int m), .fz (eB b), .fz (iT s), .own [], .no, .no, .no, .no])
    (fun i x hx lo ⟨s4, s5, s6, s7, e⟩ => by
      subst e
      refine ⟨[.fz (.int m), .fz (eB b), .fz (iT s), .own ((((RL b s).dropLast.take i).map (fired b)).map iT), .fz (iT x), s5, s6, s7], [.fz (.int m), .fz (eB b), .fz (iT s), .own ((((RL b s).dropLast.take (i + 1)).map (fired b)).map iT), .fz (iT x), .fz (.lst ((idxs (fun r => within r.1 x) b).map D.int)), s6, s7], rfl, ?_, _, _, _, _, rfl⟩
      have q1 : ∀ lo5, lcGo (lcF (runs bk.T (n + 6)) [6, 7] (.tp [.nm 6, .nm 7]) (.cons (.call 5 (.cons (.idx (.var 7) (.lit (.int 0))) (.cons (.var 4) .nil))) .nil) (.var 6) [.fz (.int m), .fz (eB b), .fz (iT s), .own ((((RL b s).dropLast.take i).map (fired b)).map iT), .fz (iT x), lo5, s6, s7]) (enmL (b.map eR)) c = .ok ((idxs (fun r => within r.1 x) b).map D.int, c) := fun lo5 =>
        lc_idx fun i r hr => by
          simp [lcF, wipeL, tgSet, tgSets, r5]
          cases within r.1 x <;> simp
      have q2 : lcGo (lcF (runs bk.T (n + 6)) [6] (.nm 6) (.cons (.not (.call 5 (.cons (.idx (.idx (.var 1) (.var 6)) (.lit (.int 1))) (.cons (.var 4) .nil)))) .nil) (.var 6) [.fz (.int m), .fz (eB b), .fz (iT s), .own ((((RL b s).dropLast.take i).map (fired b)).map iT), .fz (iT x), .fz (.lst ((idxs (fun r => within r.1 x) b).map D.int)), s6, s7]) ((idxs (fun r => within r.1 x) b).map D.int) c = .ok ((fired b x).map D.int, c) := by
        rw [lc_filter (p := fun i => !within ((b[i.toNat]?).getD ([], [])).2 x) fun i hi => by
          obtain ⟨k, r, rfl, hk, hr⟩ := mem_idxs.mp hi
          have hix : ∀ c, idxD c (.tup (b.map eR)) (.int k) = .ok (eR r) := fun c => idx_tn (by rw [List.getElem?_map, hk]; rfl)
          simp [lcF, wipeL, tgSet, hix, r5, hk]
          cases within r.2 x <;> simp]
        rw [idxs_filter (q := fun r => !within r.2 x) fun k r hk => by simp [hk]]
        rfl
      have hlt : i < 13 := by
        have := (List.getElem?_eq_some_iff.mp hx).1
        rw [List.length_dropLast] at this
        omega
      have hln : (((((RL b s).dropLast.take i).map (fired b)).map iT).length) < 16777216 := by
        rw [List.length_map, List.length_map, List.length_take]
        omega
      have et : (RL b s).dropLast.take (i + 1) = (RL b s).dropLast.take i ++ [x] := by
        rw [List.take_add_one, hx]; rfl
      rw [et]
      simp only [exSs_cons, exS_setO, evE_lc, evI_enm, evE_var, exS_frz, exS_app, evE_prm, evI_seq, exSs_nil, List.getElem?_cons_succ, List.getElem?_cons_zero, Res.bind_ok, items_tup, ofO_some, q1, List.set_cons_succ, List.set_cons_zero, seq_lst, q2, prm_tl, decide_eq_true hln, need_true]
      simp)
    ⟨.no, .no, .no, .no, by simp⟩
  have hq := q
  rw [List.take_length] at hq
  have e1 := (r23 (n := n + 3) (c := c) hb hs h0 h1).1
  have ec : cutL ((RL b s).map iT) none (some (-1)) = (RL b s).dropLast.map iT := by
    rw [cut_last, List.map_dropLast]
  have e10 := r10 (n := n) (c := c) hb h0 h1 hl
  have e11 := r11 (n := n + 2) (c := c) hs h0
  simp [runFn, f27, c27, e10, e11, e1, ec] at hq ⊢
  simp [hq]
end K85

set_option maxHeartbeats 1000000
namespace K85
open EV
variable {n : Nat} {c : Cup} {xs ys s t : List Int} {m : Int} {b : List Rul} {r : Rul}
theorem r28 (hb : BaseOk m b) (hs : SetOk m s) (h0 : 0 ≤ m) (h1 : m ≤ 12) (hl : b.length ≤ 400) : runs bk.T (n + 7) 28 [.int m, eB b, iT s] c = .ok (iT (idxs (fun r => !within r.1 (SL b s).1) b), c) := by
  rw [runs_succ (F := f28) rfl]
  have q : lcGo (lcF (runs bk.T (n + 6)) [4, 5] (.tp [.nm 4, .nm 5]) (.cons (.not (.call 5 (.cons (.idx (.var 5) (.lit (.int 0))) (.cons (.var 3) .nil)))) .nil) (.var 4) [.fz (.int m), .fz (eB b), .fz (iT s), .fz (iT (SL b s).1), .no, .no]) (enmL (b.map eR)) c = .ok ((idxs (fun r => !within r.1 (SL b s).1) b).map D.int, c) :=
    lc_idx fun i r hr => by
      simp [lcF, wipeL, tgSet, tgSets, r5]
      cases within r.1 (SL b s).1 <;> simp
  simp [runFn, f28, c28, r10 hb h0 h1 hl, r11 hs h0, r15 hb hs h0 h1, q]
theorem r29 (hb : BaseOk m b) (h0 : 0 ≤ m) (h1 : m ≤ 12) (hl : b.length ≤ 400) : runs bk.T (n + 7) 29 [.int m, eB b] c = .ok (iT (idxs (fun r => within r.2 r.1) b), c) := by
  rw [runs_succ (F := f29) rfl]
  have q : lcGo (lcF (runs bk.T (n + 6)) [2, 3] (.tp [.nm 2, .nm 3]) (.cons (.call 5 (.cons (.idx (.var 3) (.lit (.int 1))) (.cons (.idx (.var 3) (.lit (.int 0))) .nil))) .nil) (.var 2) [.fz (.int m), .fz (eB b), .no, .no]) (enmL (b.map eR)) c = .ok ((idxs (fun r => within r.2 r.1) b).map D.int, c) :=
    lc_idx fun i r hr => by
      simp [lcF, wipeL, tgSet, tgSets, r5]
      cases within r.2 r.1 <;> simp
  simp [runFn, f29, c29, r10 hb h0 h1 hl, q]
/-! ### draws -/
def Good (c : Cup) : Prop := 0 ≤ c.1 ∧ 0 ≤ c.2 ∧ c.2 < 1099511627776
theorem mod_pos {a k : Int} (h : 0 < k) : binD .mod (.int a) (.int k) = .ok (.int (a % k)) := by
  show need (decide (k ≠ 0)) _ = _
  rw [decide_eq_true (by omega), Int.fmod_eq_emod_of_nonneg a (by omega)]; rfl
theorem fdiv_pos {a k : Int} (h : 0 < k) (h2 : k < 1073741824) : binD .fdiv (.int a) (.int k) = .ok (.int (a / k)) := by
  show need (decide (k ≠ 0) && decide (k.natAbs < 1073741824)) _ = _
  rw [decide_eq_true (by omega), decide_eq_true (by omega), Int.fdiv_eq_ediv_of_nonneg a (by omega)]; rfl
theorem mul_r {a k : Int} (h : -(2 ^ 64) < k) (h2 : k < 2 ^ 64) : binD .mul (.int a) (.int k) = .ok (.int (a * k)) := by
  show need (small64 a || small64 k) _ = _
  have : small64 k = true := by unfold small64; rw [decide_eq_true h, decide_eq_true h2]; rfl
  rw [this, Bool.or_true]; rfl
theorem mul_l {a k : Int} (h : -(2 ^ 64) < a) (h2 : a < 2 ^ 64) : binD .mul (.int a) (.int k) = .ok (.int (a * k)) := by
  show need (small64 a || small64 k) _ = _
  have : small64 a = true := by unfold small64; rw [decide_eq_true h, decide_eq_true h2]; rfl
  rw [this]; rfl
@[simp] theorem bin_add {a k : Int} : binD .add (.int a) (.int k) = .ok (.int (a + k)) := rfl
@[simp] theorem bin_sub {a k : Int} : binD .sub (.int a) (.int k) = .ok (.int (a - k)) := rfl
@[simp] theorem idx_c0 : idxD c .cup (.int 0) = .ok (.int c.1) := rfl
@[simp] theorem idx_c1 : idxD c .cup (.int 1) = .ok (.int c.2) := rfl
@[simp] theorem put_c0 {v : Int} : cupPut c (.int 0) (.int v) = .ok (v, c.2) := rfl
@[simp] theorem put_c1 {v : Int} : cupPut c (.int 1) (.int v) = .ok (c.1, v) := rfl
@[simp] theorem cmp_gt {a k : Int} : cmpD .gt (.int a) (.int k) = .ok (decide (k < a)) := rfl
@[simp] theorem cmp_eqi {a k : Int} : cmpD .eq (.int a) (.int k) = .ok (a == k) := rfl
theorem r30 {k : Int} (hk : 1 ≤ k) (hk2 : k < 1073741824) (g : Good c) : ∃ v c', runs bk.T (n + 1) 30 [.cup, .int k] c = .ok (.int v, c') ∧ 0 ≤ v ∧ v < k ∧ Good c' := by
  obtain ⟨g1, g2, g3⟩ := g
  rw [runs_succ (F := f30) rfl]
  by_cases h : 0 < c.1
  · refine ⟨c.1 % k, (c.1 / k, c.2), ?_, Int.emod_nonneg _ (by omega), Int.emod_lt_of_pos _ (by omega), Int.ediv_nonneg g1 (by omega), g2, g3⟩
    simp [runFn, f30, c30, h, mod_pos (a := c.1) (show 0 < k by omega), fdiv_pos (a := c.1) (show 0 < k by omega) hk2]
  · have e1 := mul_r (a := c.2) (k := 36583) (by decide) (by decide)
    have e2 := mod_pos (a := c.2 * 36583 + 12823) (k := 2147483423) (by decide)
    generalize hw : (c.2 * 36583 + 12823) % 2147483423 = w at e2
    have w0 : 0 ≤ w := by rw [← hw]; exact Int.emod_nonneg _ (by decide)
    have w1 : w < 2147483423 := by rw [← hw]; exact Int.emod_lt_of_pos _ (by decide)
    have e3 := mul_l (a := w) (k := w + 9721) (by omega) (by omega)
    have e4 := mod_pos (a := w * (w + 9721)) (k := 2147483587) (by decide)
    generalize hd : w * (w + 9721) % 2147483587 = d at e4
    have e5 := fdiv_pos (a := d) (k := 6829) (by decide) (by decide)
    have e6 := mod_pos (a := d / 6829) (show 0 < k by omega)
    refine ⟨d / 6829 % k, (c.1, w), ?_, Int.emod_nonneg _ (by omega), Int.emod_lt_of_pos _ (by omega), g1, w0, by show w < _; omega⟩
    simp [runFn, f30, c30, h, e1, e2, e3, e4, e5, e6]
theorem rel2_eq : ∀ {xs ys : List D}, Rel2 (fun x y => x = y) xs ys → xs = ys
  | _, _, .nil => rfl
  | _, _, .cons e t => by rw [e, rel2_eq t]
theorem rng_map (k : Nat) : rngL 0 k = ((List.range k).map fun i => ((i : Nat) : Int)).map D.int := by
  unfold rngL
  rw [List.map_map]
  apply List.map_congr_left
  intro i _
  show D.int (0 + i) = D.int i
  rw [Int.zero_add]
theorem range_asc (k : Nat) : ((List.range k).map fun i => ((i : Nat) : Int)).Pairwise (· < ·) := by
  rw [List.pairwise_map]
  exact List.pairwise_lt_range.imp fun h => by omega
theorem _root_.EV.SetOk.sublist {xs ys : List Int} (h : SetOk m ys) (s : xs.Sublist ys) : SetOk m xs := ⟨h.1.sublist s, fun x hx => h.2 x (s.subset hx)⟩
theorem r32 (h0 : 0 ≤ m) (h1 : m ≤ 12) (g : Good c) : ∃ xs c', runs bk.T (n + 2) 32 [.cup, .int m] c = .ok (iT xs, c') ∧ SetOk m xs ∧ Good c' := by
  rw [runs_succ (F := f32) rfl]
  obtain ⟨ys, zs, c', q, g', sb, rl⟩ := lcGo_cup (f := lcF (runs bk.T (n + 1)) [2] (.nm 2) (.cons (.cmp .eq (.call 30 (.cons (.var 0) (.cons (.lit (.int 2)) .nil))) (.lit (.int 0))) .nil) (.var 2) [.fz .cup, .fz (.int m), .no]) (P := Good) (Q := fun x y => x = y) (xs := rngL 0 m.toNat) (c := c)
    (fun x hx c g => by
      obtain ⟨v, c1, e, _, _, g1⟩ := r30 (n := n) (k := 2) (by decide) (by decide) g
      refine ⟨if v == 0 then some x else none, c1, ?_, g1, fun y hy => ?_⟩
      · simp [lcF, wipeL, tgSet, e]
        by_cases hv : v = 0 <;> simp [hv]
      · split at hy
        · cases hy; rfl
        · cases hy) g
  cases rel2_eq rl
  rw [rng_map] at sb
  obtain ⟨l, hl, rfl⟩ := List.sublist_map_iff.mp sb
  refine ⟨l, c', ?_, SetOk.sublist ⟨range_asc _, fun x hx => ?_⟩ hl, g'⟩
  · have hs : smallL m.toNat = true := decide_eq_true (by omega)
    have hm : -16777216 ≤ m := by omega
    simp [runFn, f32, c32, q, hs, hm]
  · obtain ⟨i, hi, rfl⟩ := List.mem_map.mp hx
    have := List.mem_range.mp hi
    omega
theorem r34 (h0 : 0 ≤ m) (h1 : m ≤ 12) (g : Good c) : ∃ r c', runs bk.T (n + 3) 34 [.cup, .int m] c = .ok (eR r, c') ∧ (SetOk m r.1 ∧ SetOk m r.2) ∧ Good c' := by
  rw [runs_succ (F := f34) rfl]
  obtain ⟨xs, c1, e1, o1, g1⟩ := r32 (n := n) h0 h1 g
  obtain ⟨ys, c2, e2, o2, g2⟩ := r32 (n := n) h0 h1 g1
  obtain ⟨v, c3, e3, v0, v1, g3⟩ := r30 (n := n + 1) (k := 4) (by decide) (by decide) g2
  by_cases h : 0 < v
  · obtain ⟨u, c4, e4, u0, u1, g4⟩ := r30 (n := n + 1) (k := 4) (by decide) (by decide) g3
    refine ⟨(xs.take u.toNat, ys), c4, ?_, ⟨o1.sublist (List.take_sublist _ _), o2⟩, g4⟩
    have ec : cutL (xs.map D.int) none (some u) = (xs.take u.toNat).map D.int := by
      rw [show u = ((u.toNat : Nat) : Int) by omega, cut_to, List.map_take, Int.toNat_natCast]
    simp [runFn, f34, c34, e1, e2, e3, e4, h, parSet, ec]
  · refine ⟨(xs, ys), c3, ?_, ⟨o1, o2⟩, g3⟩
    simp [runFn, f34, c34, e1, e2, e3, h, parSet]
theorem rel2_rules : ∀ {xs zs : List D}, Rel2 (fun _ y => ∃ r : Rul, y = eR r ∧ SetOk m r.1 ∧ SetOk m r.2) xs zs → ∃ b : List Rul, zs = b.map eR ∧ BaseOk m b ∧ b.length = xs.length
  | _, _, .nil => ⟨[], rfl, (fun _ h => nomatch h), rfl⟩
  | _, _, .cons ⟨r, e, h⟩ t => by
    obtain ⟨b, rfl, hb, hl⟩ := rel2_rules t
    refine ⟨r :: b, by rw [e]; rfl, fun q hq => ?_, by rw [List.length_cons, List.length_cons, hl]⟩
    rcases List.mem_cons.mp hq with z | z
    · rw [z]; exact h
    · exact hb q z
theorem r35 (h0 : 0 ≤ m) (h1 : m ≤ 12) (g : Good c) : ∃ b c', runs bk.T (n + 4) 35 [.cup, .int m] c = .ok (eB b, c') ∧ BaseOk m b ∧ b.length ≤ 4 ∧ Good c' := by
  rw [runs_succ (F := f35) rfl]
  obtain ⟨v, c1, e1, v0, v1, g1⟩ := r30 (n := n + 2) (k := 5) (by decide) (by decide) g
  obtain ⟨ys, zs, c', q, g', sb, rl⟩ := lcGo_cup (f := lcF (runs bk.T (n + 3)) [2] (.nm 2) .nil (.call 34 (.cons (.var 0) (.cons (.var 1) .nil))) [.fz .cup, .fz (.int m), .no]) (P := Good) (Q := fun _ y => ∃ r : Rul, y = eR r ∧ SetOk m r.1 ∧ SetOk m r.2) (xs := rngL 0 v.toNat) (c := c1)
    (fun x hx c g => by
      obtain ⟨r, c1, e, o, g1⟩ := r34 (n := n) h0 h1 g
      refine ⟨some (eR r), c1, ?_, g1, fun y hy => ⟨r, by cases hy; rfl, o⟩⟩
      simp [lcF, wipeL, tgSet, e]) g1
  obtain ⟨b, rfl, hb, hl⟩ := rel2_rules rl
  refine ⟨b, c', ?_, hb, ?_, g'⟩
  · have hs : smallL v.toNat = true := decide_eq_true (by omega)
    have hm : -16777216 ≤ v := by omega
    simp [runFn, f35, c35, e1, q, hs, hm]
  · have := sb.length_le
    rw [rng_map, List.length_map, List.length_map, List.length_range] at this
    omega
/-! ### the law's own -/
theorem r33 : runs bk.T (n + 1) 33 [iT xs, iT ys] c = .ok (.bl (within xs ys), c) := by
  rw [runs_succ (F := f33) rfl]
  have q : lcGo (lcF (runs bk.T n) [2] (.nm 2) (.cons (.cmp .nin (.var 2) (.var 1)) .nil) (.var 2) [.fz (iT xs), .fz (iT ys), .no]) (xs.map D.int) c = .ok ((xs.filter fun x => !decide (x ∈ ys)).map D.int, c) :=
    lc_filter fun x _ => by
      simp [lcF, wipeL, tgSet]
      by_cases h : x ∈ ys <;> simp [h]
  have e : decide ((xs.filter fun x => !decide (x ∈ ys)) = []) = within xs ys := by
    unfold within
    rw [Bool.eq_iff_iff]
    simp [List.filter_eq_nil_iff]
  have g : runFn (runs bk.T n) f33 [iT xs, iT ys] c = .ok (.bl (decide ((xs.filter fun x => !decide (x ∈ ys)) = [])), c) := by
    simp only [runFn, f33, c33, List.length_cons, List.length_nil, if_pos, List.map_cons, List.map_nil, exSs_cons, exS_ret, evE_cmp, evE_lc, evI_seq, evE_var, List.cons_append, List.nil_append, List.getElem?_cons_succ, List.getElem?_cons_zero, Res.bind_ok, seq_tup]
    simp only [List.replicate, q, Res.bind_ok, evE_lst, evEs_nil, cmp_eq0]
  rw [g, e]
theorem r36 (h : xs.length + ys.length ≤ 60) : runs bk.T (n + 1) 36 [iT xs, iT ys] c = .ok (iT (union xs ys), c) := by
  rw [runs_succ (F := f36) rfl]
  have e : binD .add (.lst (xs.map D.int)) (.lst (ys.map D.int)) = .ok (.lst ((xs ++ ys).map D.int)) := by
    rw [List.map_append]
    exact add_l (by rw [List.length_map, List.length_map]; omega)
  have e2 : ssetD (.lst ((xs ++ ys).map D.int)) = .ok (.lst ((sortI (xs ++ ys)).map D.int)) := sset_l (by rw [List.length_append]; exact h)
  simp only [runFn, f36, c36, List.length_cons, List.length_nil, if_pos, List.map_cons, List.map_nil, exSs_cons, exS_ret, evE_prm, evE_sset, evE_bin, evE_var, List.cons_append, List.nil_append, List.getElem?_cons_succ, List.getElem?_cons_zero, Res.bind_ok, prm_lt, e, e2, prm_tl]
  rfl
theorem r37 (hb : BaseOk m b) (hs : SetOk m s) (h0 : 0 ≤ m) (h1 : m ≤ 12) : runs bk.T (n + 2) 37 [eB b, iT s] c = .ok (iT (passF b s), c) := by
  rw [runs_succ (F := f37) rfl]
  obtain ⟨lo', q, qs, s1, s2, rfl⟩ := forGo_foldM (e := eR) (t := .tp [.nm 3, .nm 4]) (f := fun lo c => exSs (runs bk.T (n + 1)) (.cons (.set 2 (.ite (.call 33 (.cons (.var 3) (.cons (.var 1) .nil))) (.call 36 (.cons (.var 2) (.cons (.var 4) .nil))) (.var 2))) .nil) lo c)
    (R := fun (a : List Int) lo => SetOk m a ∧ ∃ s1 s2, lo = [.fz (eB b), .fz (iT s), .fz (iT a), s1, s2]) (step := fun f r => if within r.1 s then union f r.2 else f) (c := c) (l := b) (lo := [.fz (eB b), .fz (iT s), .fz (iT s), .no, .no]) (a := s)
    (fun r hr a lo ⟨ha, s1, s2, e⟩ => by
      subst e
      refine ⟨[.fz (eB b), .fz (iT s), .fz (iT a), .fz (iT r.1), .fz (iT r.2)], [.fz (eB b), .fz (iT s), .fz (iT (if within r.1 s then union a r.2 else a)), .fz (iT r.1), .fz (iT r.2)], rfl, ?_, ?_, _, _, rfl⟩
      · have hl : a.length + r.2.length ≤ 60 := by
          have := ha.len12 h0 h1
          have := (hb r hr).2.len12 h0 h1
          omega
        simp [r33]
        cases within r.1 s <;> simp [r36 hl]
      · split
        · exact ha.union (hb r hr).2
        · exact ha) ⟨hs, _, _, rfl⟩
  simp [runFn, f37, c37] at q ⊢
  simp [q, passF, passG]
theorem r38 (hb : BaseOk m b) (hs : SetOk m s) (h0 : 0 ≤ m) (h1 : m ≤ 12) : runs bk.T (n + 3) 38 [eB b, iT s] c = .ok (.lst ((RL b s).map iT), c) := by
  rw [runs_succ (F := f38) rfl]
  obtain ⟨lo', q, ⟨qi, rfl⟩, qt⟩ := whlGo_fun (g := fun lo c => (evE (runs bk.T (n + 2)) (.cmp .ne (.call 37 (.cons (.var 0) (.cons (.idx (.own 2) (.neg (.lit (.int 1)))) .nil))) (.idx (.own 2) (.neg (.lit (.int 1))))) lo c).bind fun x => asB x.1 fun k => .ok (k, x.2))
    (f := fun lo c => exSs (runs bk.T (n + 2)) (.cons (.app 2 (.call 37 (.cons (.var 0) (.cons (.idx (.own 2) (.neg (.lit (.int 1)))) .nil)))) .nil) lo c)
    (R := fun a lo => RI m b s a ∧ lo = [.fz (eB b), .fz (iT s), .own (a.map iT)]) (test := tst b) (step := stp b) (μ := mu) (c := c)
    (fun a lo ⟨ha, e⟩ => by
      subst e
      simp [idx_last ha.ne, r37 hb ha.last h0 h1, tst])
    (fun a lo ⟨ha, e⟩ ht => by
      subst e
      have hl : a.length < 16777216 := by
        have := ha.ln
        have := ha.last.len12 h0 h1
        omega
      refine ⟨[.fz (eB b), .fz (iT s), .own ((stp b a).map iT)], ?_, ⟨ha.step hb ht, rfl⟩, mu_step hb h0 h1 ha ht⟩
      simp [idx_last ha.ne, hl, r37 hb ha.last h0 h1, stp])
    10000 12 [s] _ ⟨RI.start hs, rfl⟩ (by unfold mu; omega) (by unfold mu; omega)
  simp [runFn, f38, c38] at q ⊢
  simp [q]
  rfl
theorem r39 {a : List (List Int)} {k : Int} : runs bk.T (n + 1) 39 [.lst (a.map iT), .int k] c = .ok (firstD (idxs (fun r => decide (k ∈ r)) a), c) := by
  rw [runs_succ (F := f39) rfl]
  have q : lcGo (lcF (runs bk.T n) [3, 4] (.tp [.nm 3, .nm 4]) (.cons (.cmp .inn (.var 1) (.var 4)) .nil) (.var 3) [.fz (.lst (a.map iT)), .fz (.int k), .no, .no, .no]) (enmL (a.map iT)) c = .ok ((idxs (fun r => decide (k ∈ r)) a).map D.int, c) :=
    lc_idx fun i r hr => by
      simp [lcF, wipeL, tgSet, tgSets]
      by_cases h : k ∈ r <;> simp [h]
  simp [runFn, f39, c39, q]
  cases h : idxs (fun r => decide (k ∈ r)) a <;> simp [firstD]
/-- told by _law_same -/
def pvD : Nat → D → Bool
  | _, .non => true
  | _, .bl _ => true
  | _, .int _ => true
  | k + 1, .tup xs => xs.all (fun x => pvD k x) && smallL xs.length
  | k + 1, .lst xs => xs.all (fun x => pvD k x) && smallL xs.length
  | _, _ => false
theorem same_loop {k : Nat} {l : List D} {d : D} (hd : ∀ (i : Nat) x, l[i]? = some x → ∀ c, idxD c d (.int i) = .ok x) (ih : ∀ x ∈ l, ∀ c, runs bk.T k 31 [x, x] c = .ok (.bl true, c)) :
    lcGo (lcF (runs bk.T k) [2] (.nm 2) (.cons (.not (.call 31 (.cons (.idx (.var 0) (.var 2)) (.cons (.idx (.var 1) (.var 2)) .nil)))) .nil) (.lit (.int 1)) [.fz d, .fz d, .no]) (rngL 0 l.length) c = .ok ([], c) := by
  rw [rng_map, List.map_map, lcGo_map (g := fun _ => none) fun i hi => ?_]
  · simp
  · have hlt := List.mem_range.mp hi
    have hx := List.getElem?_eq_getElem hlt
    simp [lcF, wipeL, tgSet, hd i _ hx, ih _ (List.getElem_mem hlt)]
theorem cmp_nebb {a : Bool} : cmpD .ne (.bl a) (.bl a) = .ok false := by cases a <;> rfl
theorem cmp_neii {a : Int} : cmpD .ne (.int a) (.int a) = .ok false := by
  show Res.ok (!(a == a)) = _
  rw [beq_self_eq_true]; rfl
theorem r31 : ∀ (k : Nat) (d : D) (c : Cup), pvD k d = true → runs bk.T (n + k + 1) 31 [d, d] c = .ok (.bl true, c)
  | k, .non, c, _ => by rw [runs_succ (F := f31) rfl]; rfl
  | k, .bl v, c, _ => by rw [runs_succ (F := f31) rfl]; cases v <;> rfl
  | k, .int i, c, _ => by
    rw [runs_succ (F := f31) rfl]
    simp [runFn, f31, c31, isiD, cmpD, isD, D.okd, D.eqv]
  | 0, .tup xs, c, h => by cases h
  | 0, .lst xs, c, h => by cases h
  | k, .str x, c, h => by cases k <;> cases h
  | k, .cup, c, h => by cases k <;> cases h
  | k + 1, .tup xs, c, h => by
    have h : (xs.all (fun x => pvD k x) && smallL xs.length) = true := h
    rw [Bool.and_eq_true] at h
    have q := same_loop (k := n + k + 1) (l := xs) (d := .tup xs) (c := c) (fun i x hx c => idx_tn hx) fun x hx c => r31 k x c (List.all_eq_true.mp h.1 x hx)
    have hm : (-16777216 : Int) ≤ xs.length := by omega
    rw [show n + (k + 1) + 1 = (n + k + 1) + 1 by omega, runs_succ (F := f31) rfl]
    simp [runFn, f31, c31, isiD, cmp_nebb, cmp_neii, h.2, hm, q]
    rfl
  | k + 1, .lst xs, c, h => by
    have h : (xs.all (fun x => pvD k x) && smallL xs.length) = true := h
    rw [Bool.and_eq_true] at h
    have q := same_loop (k := n + k + 1) (l := xs) (d := .lst xs) (c := c) (fun i x hx c => idx_ln hx) fun x hx c => r31 k x c (List.all_eq_true.mp h.1 x hx)
    have hm : (-16777216 : Int) ≤ xs.length := by omega
    rw [show n + (k + 1) + 1 = (n + k + 1) + 1 by omega, runs_succ (F := f31) rfl]
    simp [runFn, f31, c31, isiD, cmp_nebb, cmp_neii, h.2, hm, q]
    rfl
end K85

set_option maxHeartbeats 2000000
namespace K85
open EV
variable {n : Nat} {c : Cup} {xs ys s t : List Int} {m : Int} {b : List Rul} {r : Rul}
theorem exSs_step {Φ : Fns} {st : Sm} {q : Sms} {lo lo1 : Lo} {c c1 : Cup} (h : exS Φ st lo c = .ok (.nx lo1 c1)) : exSs Φ (.cons st q) lo c = exSs Φ q lo1 c1 := by
  show (exS Φ st lo c).bind _ = _
  rw [h]; rfl
def t0 : Sm := .set 3 (.bin .add (.lit (.int 1)) (.call 30 (.cons (.var 1) (.cons (.lit (.int 5)) .nil))))
def t1 : Sm := .unp (.tp [(.nm 4), (.nm 5)]) (.tup (.cons (.bin .add (.call 35 (.cons (.var 1) (.cons (.var 3) .nil))) (.call 35 (.cons (.var 1) (.cons (.var 3) .nil)))) (.cons (.call 32 (.cons (.var 1) (.cons (.var 3) .nil))) .nil)))
def t2 : Sm := .set 6 (.call 38 (.cons (.var 4) (.cons (.var 5) .nil)))
def t3 : Sm := .setO 7 (.lst .nil)
def t4 : Sm := .for_ (.nm 8) (.seq (.slc (.var 6) .non (.som (.neg (.lit (.int 1)))))) (.cons (.setO 9 (.lc [10, 11] (.tp [(.nm 10), (.nm 11)]) (.enm (.var 4)) (.cons (.and (.call 33 (.cons (.idx (.var 11) (.lit (.int 0))) (.cons (.var 8) .nil))) (.not (.call 33 (.cons (.idx (.var 11) (.lit (.int 1))) (.cons (.var 8) .nil))))) .nil) (.var 10))) (.cons (.frz 9) (.cons (.app 7 (.prm .tuple (.var 9))) .nil)))
def t5 : Sm := .set 12 (.tup (.cons (.call 25 (.cons (.var 3) (.cons (.var 4) (.cons (.var 5) .nil)))) (.cons (.call 27 (.cons (.var 3) (.cons (.var 4) (.cons (.var 5) .nil)))) (.cons (.call 20 (.cons (.var 3) (.cons (.var 4) (.cons (.var 5) .nil)))) .nil))))
def t6 : Sm := .iff (.or (.not (.call 31 (.cons (.var 12) (.cons (.tup (.cons (.prm .tuple (.var 6)) (.cons (.prm .tuple (.own 7)) (.cons (.bin .sub (.prm .len (.var 6)) (.lit (.int 1))) .nil)))) .nil)))) (.cmp .ne (.call 16 (.cons (.var 3) (.cons (.var 4) (.cons (.var 5) .nil)))) (.idx (.var 6) (.neg (.lit (.int 1)))))) (.cons (.ret (.lit (.bl false))) .nil) .nil
def t7 : Sm := .set 13 (.prm .tuple (.lc [14] (.nm 14) (.rng1 (.var 3)) .nil (.call 26 (.cons (.var 3) (.cons (.var 4) (.cons (.var 5) (.cons (.var 14) .nil)))))))
def t8 : Sm := .iff (.not (.call 31 (.cons (.var 13) (.cons (.prm .tuple (.lc [14] (.nm 14) (.rng1 (.var 3)) .nil (.call 39 (.cons (.var 6) (.cons (.var 14) .nil))))) .nil)))) (.cons (.ret (.lit (.bl false))) .nil) .nil
def t9 : Sm := .set 15 (.prm .tuple (.lc [10, 11] (.tp [(.nm 10), (.nm 11)]) (.enm (.var 4)) (.cons (.not (.call 33 (.cons (.idx (.var 11) (.lit (.int 0))) (.cons (.idx (.var 6) (.neg (.lit (.int 1)))) .nil)))) .nil) (.var 10)))
def t10 : Sm := .set 16 (.prm .tuple (.lc [10, 11] (.tp [(.nm 10), (.nm 11)]) (.enm (.var 4)) (.cons (.call 33 (.cons (.idx (.var 11) (.lit (.int 1))) (.cons (.idx (.var 11) (.lit (.int 0))) .nil))) .nil) (.var 10)))
def t11 : Sm := .iff (.not (.call 31 (.cons (.tup (.cons (.call 28 (.cons (.var 3) (.cons (.var 4) (.cons (.var 5) .nil)))) (.cons (.call 29 (.cons (.var 3) (.cons (.var 4) .nil))) .nil))) (.cons (.tup (.cons (.var 15) (.cons (.var 16) .nil))) .nil)))) (.cons (.ret (.lit (.bl false))) .nil) .nil
def t12 : Sm := .set 17 (.call 17 (.cons (.var 3) (.cons (.var 4) (.cons (.var 5) .nil))))
def t13 : Sm := .iff (.cmp .ne (.lc [10] (.nm 10) (.seq (.var 17)) (.cons (.or (.cmp .inn (.var 10) (.var 15)) (.cmp .inn (.var 10) (.var 16))) .nil) (.var 10)) (.lst .nil)) (.cons (.ret (.lit (.bl false))) .nil) .nil
def t14 : Sm := .iff (.cmp .ne (.lc [8] (.nm 8) (.seq (.own 7)) (.cons (.cmp .eq (.var 8) (.tup .nil)) .nil) (.var 8)) (.lst .nil)) (.cons (.ret (.lit (.bl false))) .nil) .nil
def bT : Sms := .cons t0 (.cons t1 (.cons t2 (.cons t3 (.cons t4 (.cons t5 (.cons t6 (.cons t7 (.cons t8 (.cons t9 (.cons t10 (.cons t11 (.cons t12 (.cons t13 (.cons t14 (.nil)))))))))))))))
theorem cL_eq : cL = .cons (.iff (.not (.call 40 .nil)) (.cons (.ret (.lit (.bl false))) .nil) .nil) (.cons (.for_ (.nm 2) (.rng1 (.lit (.int 8))) bT) (.cons (.set 18 (.tup (.cons (.tup (.cons (.tup (.cons (.lit (.int 0)) .nil)) (.cons (.tup (.cons (.lit (.int 1)) .nil)) .nil))) (.cons (.tup (.cons (.tup (.cons (.lit (.int 1)) (.cons (.lit (.int 2)) .nil))) (.cons (.tup (.cons (.lit (.int 3)) .nil)) .nil))) (.cons (.tup (.cons (.tup (.cons (.lit (.int 3)) .nil)) (.cons (.tup (.cons (.lit (.int 0)) .nil)) .nil))) .nil))))) (.cons (.ret (.call 31 (.cons (.tup (.cons (.call 25 (.cons (.lit (.int 4)) (.cons (.var 18) (.cons (.tup (.cons (.lit (.int 0)) (.cons (.lit (.int 2)) .nil))) .nil)))) (.cons (.call 27 (.cons (.lit (.int 4)) (.cons (.var 18) (.cons (.tup (.cons (.lit (.int 0)) (.cons (.lit (.int 2)) .nil))) .nil)))) .nil))) (.cons (.tup (.cons (.tup (.cons (.tup (.cons (.lit (.int 0)) (.cons (.lit (.int 2)) .nil))) (.cons (.tup (.cons (.lit (.int 0)) (.cons (.lit (.int 1)) (.cons (.lit (.int 2)) .nil)))) (.cons (.tup (.cons (.lit (.int 0)) (.cons (.lit (.int 1)) (.cons (.lit (.int 2)) (.cons (.lit (.int 3)) .nil))))) .nil)))) (.cons (.tup (.cons (.tup (.cons (.lit (.int 0)) .nil)) (.cons (.tup (.cons (.lit (.int 1)) .nil)) .nil))) .nil))) .nil)))) .nil))) := rfl
abbrev LL (a2 a3 a4 a5 a6 a7 a8 a9 a10 a11 a12 a13 a14 a15 a16 a17 a18 : Slot) : Lo := [.no, .fz .cup, a2, a3, a4, a5, a6, a7, a8, a9, a10, a11, a12, a13, a14, a15, a16, a17, a18]
/-! ### what the two ways come to is the same -/
theorem closure_eq (hb : BaseOk m b) (hs : SetOk m s) (h0 : 0 ≤ m) (h1 : m ≤ 12) : (SL b s).1 = lastS (RL b s) := by
  have hR := RL_inv hb hs
  have hS := SL_inv hb hs
  have tR := (r23 (n := 0) (c := (0, 0)) hb hs h0 h1).2
  have tS := (r14 (n := 0) (c := (0, 0)) hb hs h0 h1).2
  have cR : Closed b (· ∈ lastS (RL b s)) := closed_of (pass_fix (by unfold tst at tR; simpa using tR))
  have cS : Closed b (· ∈ (SL b s).1) := closed_of (nxt_nil.mp (by unfold tstS at tS; simpa using tS))
  exact asc_ext hS.ok.1 hR.last.1 fun k => ⟨hS.least _ cR hR.sub k, hR.least _ cS hS.sub k⟩
theorem fired_ne (hs : SetOk m s) (h : passF b s ≠ s) : fired b s ≠ [] := fun e => h (passG_same hs.1 fun r hr => by
  obtain ⟨k, hk⟩ := List.getElem?_of_mem hr
  have q : ¬ (within r.1 s && !within r.2 s) = true := fun z => by
    have : (k : Int) ∈ fired b s := mem_idxs.mpr ⟨k, r, rfl, hk, z⟩
    rw [e] at this; cases this
  unfold respects
  cases h1 : within r.1 s <;> cases h2 : within r.2 s <;> simp [h1, h2] at q ⊢)
theorem pv_set {k : Nat} (h : xs.length ≤ 1000) : pvD (k + 1) (iT xs) = true := by
  show ((xs.map D.int).all (fun x => pvD k x) && smallL (xs.map D.int).length) = true
  rw [Bool.and_eq_true, List.all_eq_true]
  refine ⟨fun x hx => ?_, decide_eq_true (by rw [List.length_map]; omega)⟩
  obtain ⟨i, _, rfl⟩ := List.mem_map.mp hx
  cases k <;> rfl
theorem pv_sets {k : Nat} {a : List (List Int)} (h : ∀ x ∈ a, x.length ≤ 1000) (h2 : a.length ≤ 1000) : pvD (k + 2) (.tup (a.map iT)) = true := by
  show ((a.map iT).all (fun x => pvD (k + 1) x) && smallL (a.map iT).length) = true
  rw [Bool.and_eq_true, List.all_eq_true]
  refine ⟨fun x hx => ?_, decide_eq_true (by rw [List.length_map]; omega)⟩
  obtain ⟨i, hi, rfl⟩ := List.mem_map.mp hx
  exact pv_set (h i hi)
theorem idxs_len {α : Type} {p : α → Bool} {l : List α} : (idxs p l).length ≤ l.length := by
  unfold idxs
  rw [List.length_map]
  exact Nat.le_trans (List.length_filter_le _ _) (by rw [List.length_zipIdx]; exact Nat.le_refl _)
theorem pv_first (k : Nat) (l : List Int) : pvD k (firstD l) = true := by
  cases l <;> cases k <;> rfl
/-! ### a turn -/
def Sh (lo : Lo) : Prop := ∃ a2 a3 a4 a5 a6 a7 a8 a9 a10 a11 a12 a13 a14 a15 a16 a17 a18, lo = LL a2 a3 a4 a5 a6 a7 a8 a9 a10 a11 a12 a13 a14 a15 a16 a17 a18
theorem turn {a2 a3 a4 a5 a6 a7 a8 a9 a10 a11 a12 a13 a14 a15 a16 a17 a18 : Slot} (g : Good c) : ∃ lo2 c2, exSs (runs bk.T 21) bT (LL a2 a3 a4 a5 a6 a7 a8 a9 a10 a11 a12 a13 a14 a15 a16 a17 a18) c = .ok (.nx lo2 c2) ∧ Sh lo2 ∧ Good c2 := by
  obtain ⟨v, c1, e1, v0, v1, g1⟩ := r30 (n := 20) (k := 5) (by decide) (by decide) g
  have x0 : exS (runs bk.T 21) t0 (LL a2 a3 a4 a5 a6 a7 a8 a9 a10 a11 a12 a13 a14 a15 a16 a17 a18) c = .ok (.nx (LL a2 (.fz (.int (1 + v))) a4 a5 a6 a7 a8 a9 a10 a11 a12 a13 a14 a15 a16 a17 a18) c1) := by
    simp [t0, e1]
  generalize hm : 1 + v = m at x0
  have h0 : 0 ≤ m := by omega
  have h1 : m ≤ 12 := by omega
  obtain ⟨b1, c2, e2, o2, l2, g2⟩ := r35 (n := 17) h0 h1 g1
  obtain ⟨b2, c3, e3, o3, l3, g3⟩ := r35 (n := 17) h0 h1 g2
  obtain ⟨s, c4, e4, hs, g4⟩ := r32 (n := 19) h0 h1 g3
  have ea : binD .add (eB b1) (eB b2) = .ok (eB (b1 ++ b2)) := by
    rw [show eB (b1 ++ b2) = .tup (b1.map eR ++ b2.map eR) by rw [← List.map_append]]
    exact add_t (by rw [List.length_map, List.length_map]; omega)
  have x1 : exS (runs bk.T 21) t1 (LL a2 (.fz (.int m)) a4 a5 a6 a7 a8 a9 a10 a11 a12 a13 a14 a15 a16 a17 a18) c1 = .ok (.nx (LL a2 (.fz (.int m)) (.fz (eB (b1 ++ b2))) (.fz (iT s)) a6 a7 a8 a9 a10 a11 a12 a13 a14 a15 a16 a17 a18) c4) := by
    have q : evE (runs bk.T 21) (.tup (.cons (.bin .add (.call 35 (.cons (.var 1) (.cons (.var 3) .nil))) (.call 35 (.cons (.var 1) (.cons (.var 3) .nil)))) (.cons (.call 32 (.cons (.var 1) (.cons (.var 3) .nil))) .nil))) (LL a2 (.fz (.int m)) a4 a5 a6 a7 a8 a9 a10 a11 a12 a13 a14 a15 a16 a17 a18) c1 = .ok (.tup [eB (b1 ++ b2), iT s], c4) := by
      simp only [evE_tup, evEs_cons, evEs_nil, evE_bin, evE_call, evE_var, LL, List.getElem?_cons_succ, List.getElem?_cons_zero, Res.bind_ok, e2, e3, e4, ea]
    rw [t1, exS_unp, q]
    rfl
  have hb : BaseOk m (b1 ++ b2) := fun r hr => (List.mem_append.mp hr).elim (o2 r) (o3 r)
  have hl8 : (b1 ++ b2).length ≤ 8 := by rw [List.length_append]; omega
  generalize b1 ++ b2 = b at x1 hb hl8
  have hl : b.length ≤ 400 := by omega
  have hR := RL_inv hb hs
  have hlen : (RL b s).length ≤ 13 := by
    have := hR.ln
    have := hR.last.len12 h0 h1
    omega
  have e5 := r38 (n := 18) (c := c4) hb hs h0 h1
  have x2 : exS (runs bk.T 21) t2 (LL a2 (.fz (.int m)) (.fz (eB b)) (.fz (iT s)) a6 a7 a8 a9 a10 a11 a12 a13 a14 a15 a16 a17 a18) c4 = .ok (.nx (LL a2 (.fz (.int m)) (.fz (eB b)) (.fz (iT s)) (.fz (.lst ((RL b s).map iT))) a7 a8 a9 a10 a11 a12 a13 a14 a15 a16 a17 a18) c4) := by
    simp [t2, e5]
  have x3 : exS (runs bk.T 21) t3 (LL a2 (.fz (.int m)) (.fz (eB b)) (.fz (iT s)) (.fz (.lst ((RL b s).map iT))) a7 a8 a9 a10 a11 a12 a13 a14 a15 a16 a17 a18) c4 = .ok (.nx (LL a2 (.fz (.int m)) (.fz (eB b)) (.fz (iT s)) (.fz (.lst ((RL b s).map iT))) (.own []) a8 a9 a10 a11 a12 a13 a14 a15 a16 a17 a18) c4) := by
    simp [t3]
  obtain ⟨y8, y9, x4⟩ : ∃ y8 y9, exS (runs bk.T 21) t4 (LL a2 (.fz (.int m)) (.fz (eB b)) (.fz (iT s)) (.fz (.lst ((RL b s).map iT))) (.own []) a8 a9 a10 a11 a12 a13 a14 a15 a16 a17 a18) c4 = .ok (.nx (LL a2 (.fz (.int m)) (.fz (eB b)) (.fz (iT s)) (.fz (.lst ((RL b s).map iT))) (.own (((RL b s).dropLast.map (fired b)).map iT)) y8 y9 a10 a11 a12 a13 a14 a15 a16 a17 a18) c4) := by
    obtain ⟨lo', q, s8, s9, rfl⟩ := forGo_pre (e := iT) (t := .nm 8) (f := fun lo c => exSs (runs bk.T 21) (.cons (.setO 9 (.lc [10, 11] (.tp [(.nm 10), (.nm 11)]) (.enm (.var 4)) (.cons (.and (.call 33 (.cons (.idx (.var 11) (.lit (.int 0))) (.cons (.var 8) .nil))) (.not (.call 33 (.cons (.idx (.var 11) (.lit (.int 1))) (.cons (.var 8) .nil))))) .nil) (.var 10))) (.cons (.frz 9) (.cons (.app 7 (.prm .tuple (.var 9))) .nil))) lo c)
      (R := fun i lo => ∃ s8 s9, lo = LL a2 (.fz (.int m)) (.fz (eB b)) (.fz (iT s)) (.fz (.lst ((RL b s).map iT))) (.own ((((RL b s).dropLast.take i).map (fired b)).map iT)) s8 s9 a10 a11 a12 a13 a14 a15 a16 a17 a18) (c := c4) (l := (RL b s).dropLast) (lo := LL a2 (.fz (.int m)) (.fz (eB b)) (.fz (iT s)) (.fz (.lst ((RL b s).map iT))) (.own []) a8 a9 a10 a11 a12 a13 a14 a15 a16 a17 a18)
      (fun i x hx lo ⟨s8, s9, e⟩ => by
        subst e
        refine ⟨LL a2 (.fz (.int m)) (.fz (eB b)) (.fz (iT s)) (.fz (.lst ((RL b s).map iT))) (.own ((((RL b s).dropLast.take i).map (fired b)).map iT)) (.fz (iT x)) s9 a10 a11 a12 a13 a14 a15 a16 a17 a18, LL a2 (.fz (.int m)) (.fz (eB b)) (.fz (iT s)) (.fz (.lst ((RL b s).map iT))) (.own ((((RL b s).dropLast.take (i + 1)).map (fired b)).map iT)) (.fz (iT x)) (.fz (.lst ((fired b x).map D.int))) a10 a11 a12 a13 a14 a15 a16 a17 a18, rfl, ?_, _, _, rfl⟩
        have q1 : lcGo (lcF (runs bk.T 21) [10, 11] (.tp [(.nm 10), (.nm 11)]) (.cons (.and (.call 33 (.cons (.idx (.var 11) (.lit (.int 0))) (.cons (.var 8) .nil))) (.not (.call 33 (.cons (.idx (.var 11) (.lit (.int 1))) (.cons (.var 8) .nil))))) .nil) (.var 10) (LL a2 (.fz (.int m)) (.fz (eB b)) (.fz (iT s)) (.fz (.lst ((RL b s).map iT))) (.own ((((RL b s).dropLast.take i).map (fired b)).map iT)) (.fz (iT x)) s9 a10 a11 a12 a13 a14 a15 a16 a17 a18)) (enmL (b.map eR)) c4 = .ok ((fired b x).map D.int, c4) :=
          lc_idx fun i r hr => by
            simp [lcF, wipeL, tgSet, tgSets, r33 (n := 20)]
            cases within r.1 x <;> cases within r.2 x <;> simp
        have hlt : i < 13 := by
          have := (List.getElem?_eq_some_iff.mp hx).1
          rw [List.length_dropLast] at this
          omega
        have hln : (((((RL b s).dropLast.take i).map (fired b)).map iT).length) < 16777216 := by
          rw [List.length_map, List.length_map, List.length_take]
          omega
        have et : (RL b s).dropLast.take (i + 1) = (RL b s).dropLast.take i ++ [x] := by
          rw [List.take_add_one, hx]; rfl
        rw [et]
        simp only [exSs_cons, exS_setO, evE_lc, evI_enm, evE_var, exS_frz, exS_app, evE_prm, exSs_nil, LL, List.getElem?_cons_succ, List.getElem?_cons_zero, Res.bind_ok, items_tup, ofO_some, List.set_cons_succ, List.set_cons_zero]
        simp only [LL] at q1
        simp only [q1, Res.bind_ok, List.getElem?_cons_succ, List.getElem?_cons_zero, List.set_cons_succ, List.set_cons_zero, prm_tl, decide_eq_true hln, need_true]
        simp)
      ⟨a8, a9, by simp⟩
    rw [List.take_length] at q
    refine ⟨s8, s9, ?_⟩
    have ec : cutL ((RL b s).map iT) none (some (-1)) = (RL b s).dropLast.map iT := by
      rw [cut_last, List.map_dropLast]
    rw [t4, exS_for]
    rw [show evI (runs bk.T 21) (.seq (.slc (.var 6) .non (.som (.neg (.lit (.int 1)))))) (LL a2 (.fz (.int m)) (.fz (eB b)) (.fz (iT s)) (.fz (.lst ((RL b s).map iT))) (.own []) a8 a9 a10 a11 a12 a13 a14 a15 a16 a17 a18) c4 = .ok ((RL b s).dropLast.map iT, c4) by simp [ec]]
    exact q
  have e6 := r25 (n := 14) (c := c4) hb hs h0 h1 hl
  have e7 := r27 (n := 14) (c := c4) hb hs h0 h1 hl
  have e8 := r20 (n := 14) (c := c4) hb hs h0 h1 hl
  generalize hF : (RL b s).dropLast.map (fired b) = F at x4 e7
  have x5 : exS (runs bk.T 21) t5 (LL a2 (.fz (.int m)) (.fz (eB b)) (.fz (iT s)) (.fz (.lst ((RL b s).map iT))) (.own (F.map iT)) y8 y9 a10 a11 a12 a13 a14 a15 a16 a17 a18) c4 = .ok (.nx (LL a2 (.fz (.int m)) (.fz (eB b)) (.fz (iT s)) (.fz (.lst ((RL b s).map iT))) (.own (F.map iT)) y8 y9 a10 a11 (.fz (.tup [.tup ((RL b s).map iT), .tup (F.map iT), .int ((RL b s).length - 1)])) a13 a14 a15 a16 a17 a18) c4) := by
    simp only [t5, exS_set, evE_tup, evEs_cons, evEs_nil, evE_call, evE_var, LL, List.getElem?_cons_succ, List.getElem?_cons_zero, Res.bind_ok, e6, e7, e8, List.set_cons_succ, List.set_cons_zero]
  have hcl := closure_eq hb hs h0 h1
  have pvT : pvD 3 (.tup [.tup ((RL b s).map iT), .tup (F.map iT), .int ((RL b s).length - 1)]) = true := by
    have p1 : pvD 2 (.tup ((RL b s).map iT)) = true := pv_sets (k := 0) (fun x hx => by have := (hR.ok x hx).len12 h0 h1; omega) (by omega)
    have p2 : pvD 2 (.tup (F.map iT)) = true := pv_sets (k := 0) (fun x hx => by
      rw [← hF] at hx
      obtain ⟨y, _, rfl⟩ := List.mem_map.mp hx
      have : (fired b y).length ≤ b.length := idxs_len
      omega) (by rw [← hF, List.length_map, List.length_dropLast]; omega)
    show (List.all _ _ && _) = true
    simp [p1, p2, smallL]
    rfl
  have e9 := r31 (n := 17) 3 _ c4 pvT
  have e10 := r16 (n := 14) (c := c4) hb hs h0 h1 hl
  have x6 : exS (runs bk.T 21) t6 (LL a2 (.fz (.int m)) (.fz (eB b)) (.fz (iT s)) (.fz (.lst ((RL b s).map iT))) (.own (F.map iT)) y8 y9 a10 a11 (.fz (.tup [.tup ((RL b s).map iT), .tup (F.map iT), .int ((RL b s).length - 1)])) a13 a14 a15 a16 a17 a18) c4 = .ok (.nx (LL a2 (.fz (.int m)) (.fz (eB b)) (.fz (iT s)) (.fz (.lst ((RL b s).map iT))) (.own (F.map iT)) y8 y9 a10 a11 (.fz (.tup [.tup ((RL b s).map iT), .tup (F.map iT), .int ((RL b s).length - 1)])) a13 a14 a15 a16 a17 a18) c4) := by
    simp only [t6, exS_iff, evE_or, evE_not, evE_tup, evE_prm, evE_bin, evE_own, evE_lit, evEs_cons, evEs_nil, evE_call, evE_var, evE_cmp, evE_idx, evE_neg, LL, List.getElem?_cons_succ, List.getElem?_cons_zero, Res.bind_ok, prm_tl, prmD_lenl, List.length_map, bin_sub, e9, e10, asB_bl, asI_int, Bool.not_true, Bool.false_eq_true, if_false, idx_last hR.ne, cmp_neI, hcl, decide_true, exSs_nil]
  have e11 : ∀ k : Nat, k ∈ List.range m.toNat → runs bk.T 21 26 [.int m, eB b, iT s, .int (k : Int)] c4 = .ok (firstD (idxs (fun r => decide ((k : Int) ∈ r)) (RL b s)), c4) := fun k hk => by
    have := List.mem_range.mp hk
    exact r26 (n := 13) hb hs h0 h1 hl (by omega) (by omega)
  have hsm : smallL m.toNat = true := decide_eq_true (by omega)
  have hmm : (-16777216 : Int) ≤ m := by omega
  have x7 : exS (runs bk.T 21) t7 (LL a2 (.fz (.int m)) (.fz (eB b)) (.fz (iT s)) (.fz (.lst ((RL b s).map iT))) (.own (F.map iT)) y8 y9 a10 a11 (.fz (.tup [.tup ((RL b s).map iT), .tup (F.map iT), .int ((RL b s).length - 1)])) a13 a14 a15 a16 a17 a18) c4 = .ok (.nx (LL a2 (.fz (.int m)) (.fz (eB b)) (.fz (iT s)) (.fz (.lst ((RL b s).map iT))) (.own (F.map iT)) y8 y9 a10 a11 (.fz (.tup [.tup ((RL b s).map iT), .tup (F.map iT), .int ((RL b s).length - 1)])) (.fz (.tup ((List.range m.toNat).map fun k : Nat => firstD (idxs (fun r => decide ((k : Int) ∈ r)) (RL b s))))) a14 a15 a16 a17 a18) c4) := by
    have q : lcGo (lcF (runs bk.T 21) [14] (.nm 14) .nil (.call 26 (.cons (.var 3) (.cons (.var 4) (.cons (.var 5) (.cons (.var 14) .nil))))) (LL a2 (.fz (.int m)) (.fz (eB b)) (.fz (iT s)) (.fz (.lst ((RL b s).map iT))) (.own (F.map iT)) y8 y9 a10 a11 (.fz (.tup [.tup ((RL b s).map iT), .tup (F.map iT), .int ((RL b s).length - 1)])) a13 a14 a15 a16 a17 a18)) (rngL 0 m.toNat) c4 = .ok ((List.range m.toNat).map fun k : Nat => firstD (idxs (fun r => decide ((k : Int) ∈ r)) (RL b s)), c4) := by
      rw [rng_map, List.map_map]
      exact lc_map fun k hk => by simp [lcF, wipeL, tgSet, e11 k hk]
    simp only [LL] at q
    simp only [t7, exS_set, evE_prm, evE_lc, evI_rng1, evE_var, LL, List.getElem?_cons_succ, List.getElem?_cons_zero, Res.bind_ok, asI_int, hsm, decide_eq_true hmm, Bool.and_self, need_true, q, prm_tl, List.set_cons_succ, List.set_cons_zero]
  generalize hT : D.tup [.tup ((RL b s).map iT), .tup (F.map iT), .int ((RL b s).length - 1)] = T at x5 x6 x7
  generalize hG : ((List.range m.toNat).map fun k : Nat => firstD (idxs (fun r => decide ((k : Int) ∈ r)) (RL b s))) = G at x7
  have pvG : pvD 1 (.tup G) = true := by
    show (G.all _ && smallL G.length) = true
    rw [← hG, Bool.and_eq_true, List.all_eq_true]
    refine ⟨fun x hx => ?_, decide_eq_true (by rw [List.length_map, List.length_range]; omega)⟩
    obtain ⟨k, _, rfl⟩ := List.mem_map.mp hx
    exact pv_first 0 _
  have e12 := r31 (n := 19) 1 _ c4 pvG
  have x8 : exS (runs bk.T 21) t8 (LL a2 (.fz (.int m)) (.fz (eB b)) (.fz (iT s)) (.fz (.lst ((RL b s).map iT))) (.own (F.map iT)) y8 y9 a10 a11 (.fz T) (.fz (.tup G)) a14 a15 a16 a17 a18) c4 = .ok (.nx (LL a2 (.fz (.int m)) (.fz (eB b)) (.fz (iT s)) (.fz (.lst ((RL b s).map iT))) (.own (F.map iT)) y8 y9 a10 a11 (.fz T) (.fz (.tup G)) a14 a15 a16 a17 a18) c4) := by
    have q : lcGo (lcF (runs bk.T 21) [14] (.nm 14) .nil (.call 39 (.cons (.var 6) (.cons (.var 14) .nil))) (LL a2 (.fz (.int m)) (.fz (eB b)) (.fz (iT s)) (.fz (.lst ((RL b s).map iT))) (.own (F.map iT)) y8 y9 a10 a11 (.fz T) (.fz (.tup G)) a14 a15 a16 a17 a18)) (rngL 0 m.toNat) c4 = .ok (G, c4) := by
      rw [rng_map, List.map_map, ← hG]
      exact lc_map fun k hk => by simp [lcF, wipeL, tgSet, r39 (n := 20)]
    simp only [LL] at q
    simp only [t8, exS_iff, evE_not, evE_call, evEs_cons, evEs_nil, evE_prm, evE_lc, evI_rng1, evE_var, LL, List.getElem?_cons_succ, List.getElem?_cons_zero, Res.bind_ok, asI_int, hsm, decide_eq_true hmm, Bool.and_self, need_true, q, prm_tl, e12, asB_bl, Bool.not_true, Bool.false_eq_true, if_false, exSs_nil]
  have x9 : exS (runs bk.T 21) t9 (LL a2 (.fz (.int m)) (.fz (eB b)) (.fz (iT s)) (.fz (.lst ((RL b s).map iT))) (.own (F.map iT)) y8 y9 a10 a11 (.fz T) (.fz (.tup G)) a14 a15 a16 a17 a18) c4 = .ok (.nx (LL a2 (.fz (.int m)) (.fz (eB b)) (.fz (iT s)) (.fz (.lst ((RL b s).map iT))) (.own (F.map iT)) y8 y9 a10 a11 (.fz T) (.fz (.tup G)) a14 (.fz (iT (idxs (fun r => !within r.1 (SL b s).1) b))) a16 a17 a18) c4) := by
    have q : lcGo (lcF (runs bk.T 21) [10, 11] (.tp [(.nm 10), (.nm 11)]) (.cons (.not (.call 33 (.cons (.idx (.var 11) (.lit (.int 0))) (.cons (.idx (.var 6) (.neg (.lit (.int 1)))) .nil)))) .nil) (.var 10) (LL a2 (.fz (.int m)) (.fz (eB b)) (.fz (iT s)) (.fz (.lst ((RL b s).map iT))) (.own (F.map iT)) y8 y9 a10 a11 (.fz T) (.fz (.tup G)) a14 a15 a16 a17 a18)) (enmL (b.map eR)) c4 = .ok ((idxs (fun r => !within r.1 (SL b s).1) b).map D.int, c4) :=
      lc_idx fun i r hr => by
        simp [lcF, wipeL, tgSet, tgSets, r33 (n := 20), idx_last hR.ne, hcl]
        cases within r.1 (lastS (RL b s)) <;> simp
    simp only [LL] at q
    simp only [t9, exS_set, evE_prm, evE_lc, evI_enm, evE_var, LL, List.getElem?_cons_succ, List.getElem?_cons_zero, Res.bind_ok, items_tup, ofO_some, q, prm_tl, List.set_cons_succ, List.set_cons_zero]
  have x10 : exS (runs bk.T 21) t10 (LL a2 (.fz (.int m)) (.fz (eB b)) (.fz (iT s)) (.fz (.lst ((RL b s).map iT))) (.own (F.map iT)) y8 y9 a10 a11 (.fz T) (.fz (.tup G)) a14 (.fz (iT (idxs (fun r => !within r.1 (SL b s).1) b))) a16 a17 a18) c4 = .ok (.nx (LL a2 (.fz (.int m)) (.fz (eB b)) (.fz (iT s)) (.fz (.lst ((RL b s).map iT))) (.own (F.map iT)) y8 y9 a10 a11 (.fz T) (.fz (.tup G)) a14 (.fz (iT (idxs (fun r => !within r.1 (SL b s).1) b))) (.fz (iT (idxs (fun r => within r.2 r.1) b))) a17 a18) c4) := by
    have q : lcGo (lcF (runs bk.T 21) [10, 11] (.tp [(.nm 10), (.nm 11)]) (.cons (.call 33 (.cons (.idx (.var 11) (.lit (.int 1))) (.cons (.idx (.var 11) (.lit (.int 0))) .nil))) .nil) (.var 10) (LL a2 (.fz (.int m)) (.fz (eB b)) (.fz (iT s)) (.fz (.lst ((RL b s).map iT))) (.own (F.map iT)) y8 y9 a10 a11 (.fz T) (.fz (.tup G)) a14 (.fz (iT (idxs (fun r => !within r.1 (SL b s).1) b))) a16 a17 a18)) (enmL (b.map eR)) c4 = .ok ((idxs (fun r => within r.2 r.1) b).map D.int, c4) :=
      lc_idx fun i r hr => by
        simp [lcF, wipeL, tgSet, tgSets, r33 (n := 20)]
        cases within r.2 r.1 <;> simp
    simp only [LL] at q
    simp only [t10, exS_set, evE_prm, evE_lc, evI_enm, evE_var, LL, List.getElem?_cons_succ, List.getElem?_cons_zero, Res.bind_ok, items_tup, ofO_some, q, prm_tl, List.set_cons_succ, List.set_cons_zero]
  have e13 := r28 (n := 14) (c := c4) hb hs h0 h1 hl
  have e14 := r29 (n := 14) (c := c4) hb h0 h1 hl
  generalize hU : idxs (fun r => !within r.1 (SL b s).1) b = U at x9 x10 e13
  generalize hI : idxs (fun r : Rul => within r.2 r.1) b = I at x10 e14
  have lU : U.length ≤ 1000 := by rw [← hU]; exact Nat.le_trans idxs_len (by omega)
  have lI : I.length ≤ 1000 := by rw [← hI]; exact Nat.le_trans idxs_len (by omega)
  have e15 := r31 (n := 18) 2 (.tup [iT U, iT I]) c4 (pv_sets (k := 0) (a := [U, I]) (fun x hx => by
    rcases List.mem_cons.mp hx with z | z
    · rw [z]; exact lU
    · rw [List.mem_singleton.mp z]; exact lI) (by simp))
  have x11 : exS (runs bk.T 21) t11 (LL a2 (.fz (.int m)) (.fz (eB b)) (.fz (iT s)) (.fz (.lst ((RL b s).map iT))) (.own (F.map iT)) y8 y9 a10 a11 (.fz T) (.fz (.tup G)) a14 (.fz (iT U)) (.fz (iT I)) a17 a18) c4 = .ok (.nx (LL a2 (.fz (.int m)) (.fz (eB b)) (.fz (iT s)) (.fz (.lst ((RL b s).map iT))) (.own (F.map iT)) y8 y9 a10 a11 (.fz T) (.fz (.tup G)) a14 (.fz (iT U)) (.fz (iT I)) a17 a18) c4) := by
    simp only [t11, exS_iff, evE_not, evE_call, evE_tup, evEs_cons, evEs_nil, evE_var, LL, List.getElem?_cons_succ, List.getElem?_cons_zero, Res.bind_ok, e13, e14, e15, asB_bl, Bool.not_true, Bool.false_eq_true, if_false, exSs_nil]
  have e16 := r17 (n := 14) (c := c4) hb hs h0 h1 hl
  have x12 : exS (runs bk.T 21) t12 (LL a2 (.fz (.int m)) (.fz (eB b)) (.fz (iT s)) (.fz (.lst ((RL b s).map iT))) (.own (F.map iT)) y8 y9 a10 a11 (.fz T) (.fz (.tup G)) a14 (.fz (iT U)) (.fz (iT I)) a17 a18) c4 = .ok (.nx (LL a2 (.fz (.int m)) (.fz (eB b)) (.fz (iT s)) (.fz (.lst ((RL b s).map iT))) (.own (F.map iT)) y8 y9 a10 a11 (.fz T) (.fz (.tup G)) a14 (.fz (iT U)) (.fz (iT I)) (.fz (iT (SL b s).2)) a18) c4) := by
    simp only [t12, exS_set, evE_call, evEs_cons, evEs_nil, evE_var, LL, List.getElem?_cons_succ, List.getElem?_cons_zero, Res.bind_ok, e16, List.set_cons_succ, List.set_cons_zero]
  have x13 : exS (runs bk.T 21) t13 (LL a2 (.fz (.int m)) (.fz (eB b)) (.fz (iT s)) (.fz (.lst ((RL b s).map iT))) (.own (F.map iT)) y8 y9 a10 a11 (.fz T) (.fz (.tup G)) a14 (.fz (iT U)) (.fz (iT I)) (.fz (iT (SL b s).2)) a18) c4 = .ok (.nx (LL a2 (.fz (.int m)) (.fz (eB b)) (.fz (iT s)) (.fz (.lst ((RL b s).map iT))) (.own (F.map iT)) y8 y9 a10 a11 (.fz T) (.fz (.tup G)) a14 (.fz (iT U)) (.fz (iT I)) (.fz (iT (SL b s).2)) a18) c4) := by
    have q : lcGo (lcF (runs bk.T 21) [10] (.nm 10) (.cons (.or (.cmp .inn (.var 10) (.var 15)) (.cmp .inn (.var 10) (.var 16))) .nil) (.var 10) (LL a2 (.fz (.int m)) (.fz (eB b)) (.fz (iT s)) (.fz (.lst ((RL b s).map iT))) (.own (F.map iT)) y8 y9 a10 a11 (.fz T) (.fz (.tup G)) a14 (.fz (iT U)) (.fz (iT I)) (.fz (iT (SL b s).2)) a18)) ((SL b s).2.map D.int) c4 = .ok ([], c4) := by
      rw [lcGo_map (g := fun _ => none) fun i hi => ?_]
      · simp
      · obtain ⟨k, r, rfl, hk, w1, w2⟩ := (SL_inv hb hs).fnd i hi
        have n1 : (k : Int) ∉ U := fun z => by
          rw [← hU] at z
          obtain ⟨k', r', e, hk', hr'⟩ := mem_idxs.mp z
          have : k' = k := by omega
          subst this
          rw [hk] at hk'; cases hk'
          rw [w1] at hr'; cases hr'
        have n2 : (k : Int) ∉ I := fun z => by
          rw [← hI] at z
          obtain ⟨k', r', e, hk', hr'⟩ := mem_idxs.mp z
          have : k' = k := by omega
          subst this
          rw [hk] at hk'; cases hk'
          rw [w2] at hr'; cases hr'
        simp [lcF, wipeL, tgSet, n1, n2]
    simp only [LL] at q
    simp only [t13, exS_iff, evE_cmp, evE_lc, evI_seq, evE_lst, evEs_nil, evE_var, LL, List.getElem?_cons_succ, List.getElem?_cons_zero, Res.bind_ok, seq_tup, q, show cmpD .ne (.lst []) (.lst []) = .ok false from rfl, asB_bl, Bool.false_eq_true, if_false, exSs_nil]
  have x14 : exS (runs bk.T 21) t14 (LL a2 (.fz (.int m)) (.fz (eB b)) (.fz (iT s)) (.fz (.lst ((RL b s).map iT))) (.own (F.map iT)) y8 y9 a10 a11 (.fz T) (.fz (.tup G)) a14 (.fz (iT U)) (.fz (iT I)) (.fz (iT (SL b s).2)) a18) c4 = .ok (.nx (LL a2 (.fz (.int m)) (.fz (eB b)) (.fz (iT s)) (.fz (.lst ((RL b s).map iT))) (.own (F.map iT)) y8 y9 a10 a11 (.fz T) (.fz (.tup G)) a14 (.fz (iT U)) (.fz (iT I)) (.fz (iT (SL b s).2)) a18) c4) := by
    have q : lcGo (lcF (runs bk.T 21) [8] (.nm 8) (.cons (.cmp .eq (.var 8) (.tup .nil)) .nil) (.var 8) (LL a2 (.fz (.int m)) (.fz (eB b)) (.fz (iT s)) (.fz (.lst ((RL b s).map iT))) (.own (F.map iT)) y8 y9 a10 a11 (.fz T) (.fz (.tup G)) a14 (.fz (iT U)) (.fz (iT I)) (.fz (iT (SL b s).2)) a18)) (F.map iT) c4 = .ok ([], c4) := by
      rw [lcGo_map (g := fun _ => none) fun x hx => ?_]
      · simp
      · rw [← hF] at hx
        obtain ⟨y, hy, rfl⟩ := List.mem_map.mp hx
        have hne := fired_ne (hR.ok y (List.dropLast_subset _ hy)) (hR.mv y hy)
        simp [lcF, wipeL, tgSet, hne]
    simp only [LL] at q
    simp only [t14, exS_iff, evE_cmp, evE_lc, evI_seq, evE_lst, evEs_nil, evE_own, LL, List.getElem?_cons_succ, List.getElem?_cons_zero, Res.bind_ok, seq_lst, q, show cmpD .ne (.lst []) (.lst []) = .ok false from rfl, asB_bl, Bool.false_eq_true, if_false, exSs_nil]
  refine ⟨LL a2 (.fz (.int m)) (.fz (eB b)) (.fz (iT s)) (.fz (.lst ((RL b s).map iT))) (.own (F.map iT)) y8 y9 a10 a11 (.fz T) (.fz (.tup G)) a14 (.fz (iT U)) (.fz (iT I)) (.fz (iT (SL b s).2)) a18, c4, ?_, ⟨_, _, _, _, _, _, _, _, _, _, _, _, _, _, _, _, _, rfl⟩, g4⟩
  unfold bT
  rw [exSs_step x0, exSs_step x1, exSs_step x2, exSs_step x3, exSs_step x4, exSs_step x5, exSs_step x6, exSs_step x7, exSs_step x8, exSs_step x9, exSs_step x10, exSs_step x11, exSs_step x12, exSs_step x13, exSs_step x14]
  rfl
/-! ### the whole -/
def chain : List Rul := [([0], [1]), ([1, 2], [3]), ([3], [0])]
theorem chain_ok : BaseOk 4 chain := by
  intro r hr
  unfold SetOk
  simp [chain] at hr
  rcases hr with rfl | rfl | rfl <;> decide
theorem s02 : SetOk 4 [0, 2] := by unfold SetOk; decide
theorem s00 : SetOk 4 [0] := by unfold SetOk; decide
theorem r40 : runs bk.T (20 + 1) 40 [] c = .ok (.bl true, c) := by
  rw [runs_succ (F := f40) rfl]
  have e1 := r27 (n := 13) (c := c) chain_ok s02 (by decide) (by decide) (by decide)
  have e2 := r28 (n := 13) (c := c) chain_ok s02 (by decide) (by decide) (by decide)
  have e3 := r28 (n := 13) (c := c) chain_ok s00 (by decide) (by decide) (by decide)
  rw [show (RL chain [0, 2]).dropLast.map (fired chain) = [[0], [1]] by decide +kernel] at e1
  rw [show idxs (fun r => !within r.1 (SL chain [0, 2]).1) chain = [] by decide +kernel] at e2
  rw [show idxs (fun r => !within r.1 (SL chain [0]).1) chain = [1, 2] by decide +kernel] at e3
  have e4 := r31 (n := 16) 3 (.tup [.tup [iT [0], iT [1]], iT [], iT [1, 2]]) c rfl
  simp only [chain, eB, eR, iT, List.map_cons, List.map_nil] at e1 e2 e3 e4
  simp only [runFn, f40, c40, List.length_nil, if_pos, List.map_nil, List.nil_append, exSs_cons, exS_set, exS_ret, evE_tup, evEs_cons, evEs_nil, evE_lit, evE_call, evE_var, Res.bind_ok, List.replicate, List.set_cons_zero, List.getElem?_cons_zero, e1, e2, e3, e4]
end K85

set_option maxHeartbeats 2000000
namespace K85
open EV
variable {n : Nat} {c : Cup}
theorem loop8 (g : Good c) {lo : Lo} (h : Sh lo) : ∃ lo' c', exS (runs bk.T 21) (.for_ (.nm 2) (.rng1 (.lit (.int 8))) bT) lo c = .ok (.nx lo' c') ∧ Sh lo' ∧ Good c' := by
  obtain ⟨lo', c', q, h1, h2⟩ := forGo_inv (t := .nm 2) (f := fun lo c => exSs (runs bk.T 21) bT lo c) (P := fun lo c => Sh lo ∧ Good c) (xs := rngL 0 8) (lo := lo) (c := c)
    (fun x _ lo c ⟨hs, g⟩ => by
      obtain ⟨a2, a3, a4, a5, a6, a7, a8, a9, a10, a11, a12, a13, a14, a15, a16, a17, a18, rfl⟩ := hs
      obtain ⟨lo2, c2, e, hs2, g2⟩ := turn (a2 := .fz x) (a3 := a3) (a4 := a4) (a5 := a5) (a6 := a6) (a7 := a7) (a8 := a8) (a9 := a9) (a10 := a10) (a11 := a11) (a12 := a12) (a13 := a13) (a14 := a14) (a15 := a15) (a16 := a16) (a17 := a17) (a18 := a18) g
      exact ⟨_, lo2, c2, rfl, e, hs2, g2⟩) ⟨h, g⟩
  exact ⟨lo', c', q, h1, h2⟩
theorem last_ok {lo : Lo} (h : Sh lo) : ∃ c', exSs (runs bk.T 21) (.cons (.set 18 (.tup (.cons (.tup (.cons (.tup (.cons (.lit (.int 0)) .nil)) (.cons (.tup (.cons (.lit (.int 1)) .nil)) .nil))) (.cons (.tup (.cons (.tup (.cons (.lit (.int 1)) (.cons (.lit (.int 2)) .nil))) (.cons (.tup (.cons (.lit (.int 3)) .nil)) .nil))) (.cons (.tup (.cons (.tup (.cons (.lit (.int 3)) .nil)) (.cons (.tup (.cons (.lit (.int 0)) .nil)) .nil))) .nil))))) (.cons (.ret (.call 31 (.cons (.tup (.cons (.call 25 (.cons (.lit (.int 4)) (.cons (.var 18) (.cons (.tup (.cons (.lit (.int 0)) (.cons (.lit (.int 2)) .nil))) .nil)))) (.cons (.call 27 (.cons (.lit (.int 4)) (.cons (.var 18) (.cons (.tup (.cons (.lit (.int 0)) (.cons (.lit (.int 2)) .nil))) .nil)))) .nil))) (.cons (.tup (.cons (.tup (.cons (.tup (.cons (.lit (.int 0)) (.cons (.lit (.int 2)) .nil))) (.cons (.tup (.cons (.lit (.int 0)) (.cons (.lit (.int 1)) (.cons (.lit (.int 2)) .nil)))) (.cons (.tup (.cons (.lit (.int 0)) (.cons (.lit (.int 1)) (.cons (.lit (.int 2)) (.cons (.lit (.int 3)) .nil))))) .nil)))) (.cons (.tup (.cons (.tup (.cons (.lit (.int 0)) .nil)) (.cons (.tup (.cons (.lit (.int 1)) .nil)) .nil))) .nil))) .nil)))) .nil)) lo c = .ok (.rt (.bl true) c') := by
  obtain ⟨a2, a3, a4, a5, a6, a7, a8, a9, a10, a11, a12, a13, a14, a15, a16, a17, a18, rfl⟩ := h
  have e1 := r25 (n := 14) (c := c) chain_ok s02 (by decide) (by decide) (by decide)
  have e2 := r27 (n := 14) (c := c) chain_ok s02 (by decide) (by decide) (by decide)
  rw [show RL chain [0, 2] = [[0, 2], [0, 1, 2], [0, 1, 2, 3]] by decide +kernel] at e1
  rw [show (RL chain [0, 2]).dropLast.map (fired chain) = [[0], [1]] by decide +kernel] at e2
  have e4 := r31 (n := 17) 3 (.tup [.tup [iT [0, 2], iT [0, 1, 2], iT [0, 1, 2, 3]], .tup [iT [0], iT [1]]]) c rfl
  simp only [chain, eB, eR, iT, List.map_cons, List.map_nil] at e1 e2 e4
  refine ⟨c, ?_⟩
  simp only [exSs_cons, exS_set, exS_ret, evE_tup, evEs_cons, evEs_nil, evE_lit, evE_call, evE_var, Res.bind_ok, LL, List.set_cons_succ, List.set_cons_zero, List.getElem?_cons_succ, List.getElem?_cons_zero, e1, e2, e4]
theorem cup_is {cell : Int} (h : 0 ≤ cell) : ∃ c, CupIs eC cell c ∧ Good c := by
  have e1 : binD .pow (.int 10) (.int 18) = .ok (.int 1000000000000000000) := by rfl
  have e2 := fdiv_pos (a := cell) (k := 211) (by decide) (by decide)
  have e3 := mul_r (a := cell) (k := 9007) (by decide) (by decide)
  have e4 := mod_pos (a := cell * 9007 + 11131) (k := 2041487011) (by decide)
  have w0 : 0 ≤ (cell * 9007 + 11131) % 2041487011 := Int.emod_nonneg _ (by decide)
  have w1 : (cell * 9007 + 11131) % 2041487011 < 2041487011 := Int.emod_lt_of_pos _ (by decide)
  refine ⟨(if 1000000000000000000 ≤ cell then cell / 211 else 0, (cell * 9007 + 11131) % 2041487011 + 7529), ?_, ?_, by show 0 ≤ _ + _; omega, by show _ + _ < _; omega⟩
  · unfold CupIs
    by_cases hc : (1000000000000000000 : Int) ≤ cell
    · simp [eC, e1, e2, e3, e4, cmpD, hc]
    · simp [eC, e1, e2, e3, e4, cmpD, hc]
  · show 0 ≤ (if 1000000000000000000 ≤ cell then cell / 211 else 0)
    split
    · exact Int.ediv_nonneg h (by decide)
    · exact Int.le_refl _
theorem law_holds : ∀ cell : Int, 0 ≤ cell → ∃ c, CupIs eC cell c ∧ ∃ c', exSs (runs bk.T (dep + 1)) cL (.no :: .fz .cup :: List.replicate (nL.length - 2) .no) c = .ok (.rt (.bl true) c') := by
  intro cell h
  obtain ⟨c, hc, g⟩ := cup_is h
  refine ⟨c, hc, ?_⟩
  have x0 : exS (runs bk.T 21) (.iff (.not (.call 40 .nil)) (.cons (.ret (.lit (.bl false))) .nil) .nil) (LL .no .no .no .no .no .no .no .no .no .no .no .no .no .no .no .no .no) c = .ok (.nx (LL .no .no .no .no .no .no .no .no .no .no .no .no .no .no .no .no .no) c) := by
    simp only [exS_iff, evE_not, evE_call, evEs_nil, Res.bind_ok, r40, asB_bl, Bool.not_true, Bool.false_eq_true, if_false, exSs_nil]
  obtain ⟨lo1, c1, x1, s1, g1⟩ := loop8 g (lo := LL .no .no .no .no .no .no .no .no .no .no .no .no .no .no .no .no .no) ⟨_, _, _, _, _, _, _, _, _, _, _, _, _, _, _, _, _, rfl⟩
  obtain ⟨c2, x2⟩ := last_ok (c := c1) s1
  refine ⟨c2, ?_⟩
  show exSs (runs bk.T 21) cL (LL .no .no .no .no .no .no .no .no .no .no .no .no .no .no .no .no .no) c = _
  rw [cL_eq, exSs_step x0, exSs_step x1]
  exact x2
end K85

open PySem PySem.W PyProof.Rows
set_option maxHeartbeats 0 in
theorem PySem.Challenge.cw_whatfollows_k85_whole_rounds_of_bases_holds : PySem.Challenge.rw_whatfollows_k85_whole_rounds_of_bases.Holds := by
  w_on; o_law; k_head; (case hw => w_witness2)
  k_fill
  refine L2.walk_of (l := PySem.Challenge.rw_whatfollows_k85_whole_rounds_of_bases) (n := 63) (k := K85.dep + 2) (x := "script") (CX := fun w => L2.CX PySem.Challenge.rw_whatfollows_k85_whole_rounds_of_bases.prog w) (sp := fun w => EV.spLaw _) rfl (by decide) rfl ⟨rfl, by decide, by decide⟩ (fun w h Y => PySem.W.kIn_of Y) ?F (fun _ _ a ns hl _ hS => ⟨a, ns, rfl, hS, hl, fun _ => rfl⟩) (fun _ _ _ _ _ h => EV.cx_none h)
  case F =>
    intro w mg fa h KX G hmg
    refine K85.top_law KX G hmg ?hd ?hg ?hz ?hC ?hL K85.law_holds
    case hC => (refine' EV.dk_mk ?a ?l ?c ?k; (case a => k_is); (case l => k_is); (case c => k_is); (case k => k_is))
    case hL => (refine' EV.dk_mk ?a ?l ?c ?k; (case a => k_is); (case l => k_is); (case c => k_is); (case k => k_is))
    case hd =>
      refine ⟨?_, ?_, ?_, ?_, ?_, ?_, ?_, ?_, ?_, ?_, ?_, ?_, ?_, ?_, ?_, ?_, ?_, ?_, ?_, ?_, ?_, ?_, ?_, ?_, ?_, ?_, ?_, ?_, ?_, ?_, ?_, ?_, ?_, ?_, ?_, ?_, ?_, ?_, ?_, ?_, ?_, trivial⟩
      all_goals (refine' EV.dk_mk ?a ?l ?c ?k; (case a => k_is); (case l => k_is); (case c => k_is); (case k => k_is))
    case hg =>
      refine ⟨?_, ?_, trivial⟩
      · refine' EV.gk_int ?a; (case a => k_is)
      · refine' EV.gk_int ?a; (case a => k_is)
    case hz =>
      refine ⟨?_, ?_, ?_, ?_, ?_, ?_, ?_, ?_, ?_, ?_, ?_, ?_, ?_, ?_, trivial⟩
      all_goals (show PySem.W.nsIn _ _ _ = _; k_is)
