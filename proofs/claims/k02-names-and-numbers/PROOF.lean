import PyProof.Rows.All
import Wide.All
import OpenK.AllK
import Wide.FinOn
import HandS.ForMost
import HandS.ForExc
import HandS.Flow
import HandS.Deep
import HandS.TupAny
import HandS.TupMul
import HandS.Defaults
import HandS.Zip
import HandS.IsInst
import HandS.Style
import HandS.Wide
import HandS.Head0
import HandS.Head1
import HandS.Head2
import HandS.HeadEnd
import HandS.HeadHook1
import HandS.HeadHook2
import PySem.Challenge.RW_allcomers_k02_names_and_numbers
set_option Elab.async false
set_option linter.all false
/-! Dy, part 1: data without a heap, a tree of outcomes, an own syntax without places, and what it comes to. -/
namespace Dy
open PySem

/-- a value as data -/
inductive D where
  | non | bl (b : Bool) | int (i : Int) | str (s : List Nat)
  | lst (xs : List D) | tup (xs : List D) | dct (kvs : List (D × D))
  | ins (c : Nat) (fs : List (Str × D))
  | bag
  | scr (a : Nat) (ns : List Int)
deriving Inhabited

/-- outcomes: a value, a drawn number below n, an exception, no rule -/
inductive T (α : Type) where
  | ret (a : α) | draw (n : Nat) (k : Nat → T α) | exc (e : D) | bad

namespace T
variable {α β γ : Type}
def bind : T α → (α → T β) → T β
  | ret a, f => f a
  | draw n k, f => draw n fun i => bind (k i) f
  | exc e, _ => exc e
  | bad, _ => bad
instance : Monad T where
  pure := ret
  bind := bind
/-- every outcome -/
def All (P : α → Prop) (E : D → Prop) : T α → Prop
  | ret a => P a
  | draw n k => ∀ i, i < n → All P E (k i)
  | exc e => E e
  | bad => False
theorem all_bind {P : β → Prop} {E : D → Prop} {f : α → T β} : ∀ {x : T α}, (x.bind f).All P E ↔ x.All (fun a => (f a).All P E) E
  | ret a => Iff.rfl
  | draw n k => by
    show (∀ i, i < n → ((k i).bind f).All P E) ↔ ∀ i, i < n → (k i).All _ E
    exact ⟨fun h i hi => all_bind.mp (h i hi), fun h i hi => all_bind.mpr (h i hi)⟩
  | exc e => Iff.rfl
  | bad => Iff.rfl
theorem all_mono {P P' : α → Prop} {E E' : D → Prop} (hE : ∀ e, E e → E' e) : ∀ {x : T α}, x.All P E → (∀ a, P a → P' a) → x.All P' E'
  | ret a, h, k => k a h
  | draw n f, h, k => fun i hi => all_mono hE (h i hi) k
  | exc e, h, _ => hE e h
  | bad, h, _ => h
theorem all_imp {P P' : α → Prop} {E : D → Prop} {x : T α} (h : x.All P E) (k : ∀ a, P a → P' a) : x.All P' E := all_mono (fun _ z => z) h k
theorem bind_assoc (f : α → T β) (g : β → T γ) : ∀ x : T α, (x.bind f).bind g = x.bind fun a => (f a).bind g
  | ret a => rfl
  | draw n k => by
    show draw n _ = draw n _
    congr 1
    funext i
    exact bind_assoc f g (k i)
  | exc e => rfl
  | bad => rfl
theorem bind_ret : ∀ x : T α, x.bind ret = x
  | ret a => rfl
  | draw n k => by
    show draw n _ = draw n _
    congr 1
    funext i
    exact bind_ret (k i)
  | exc e => rfl
  | bad => rfl
@[simp] theorem ret_bind (a : α) (f : α → T β) : (ret a).bind f = f a := rfl
@[simp] theorem pure_bind' (a : α) (f : α → T β) : ((pure a : T α) >>= f) = f a := rfl
@[simp] theorem bind_eq (x : T α) (f : α → T β) : (x >>= f) = x.bind f := rfl
@[simp] theorem pure_eq (a : α) : (pure a : T α) = ret a := rfl
@[simp] theorem exc_bind (e : D) (f : α → T β) : (exc e : T α).bind f = exc e := rfl
@[simp] theorem bad_bind (f : α → T β) : (bad : T α).bind f = bad := rfl
def need (c : Bool) (k : T α) : T α := match c with | true => k | false => bad
/-- no exception -/
def still : T α → T α
  | ret a => ret a
  | draw n k => draw n fun i => still (k i)
  | exc _ => bad
  | bad => bad
theorem all_still {P : α → Prop} {E E' : D → Prop} : ∀ {x : T α}, x.still.All P E → x.All P E'
  | ret a, h => h
  | draw n k, h => fun i hi => all_still (h i hi)
  | exc _, h => h.elim
  | bad, h => h.elim
theorem all_need {P : α → Prop} {E : D → Prop} {c : Bool} {k : T α} (h : (need c k).All P E) : c = true ∧ k.All P E := by
  cases c with
  | true => exact ⟨rfl, h⟩
  | false => exact h.elim
def ofOpt : Option α → T α
  | some a => ret a
  | none => bad
theorem all_ofOpt {P : α → Prop} {E : D → Prop} {o : Option α} (h : (ofOpt o).All P E) : ∃ a, o = some a ∧ P a := by
  cases o with
  | some a => exact ⟨a, rfl, h⟩
  | none => exact h.elim
end T

/-! ### the own syntax -/
/-- where a parameter's value comes from: a place, a keyword, a default -/
inductive Sr where
  | pos (j : Nat) | kw (j : Nat) | df (j : Nat)
deriving DecidableEq
def pick {α : Type} (us ws ds : List α) : Sr → Option α
  | .pos j => us[j]?
  | .kw j => ws[j]?
  | .df j => ds[j]?
def selL {α : Type} (sel : List Sr) (us ws ds : List α) : List α := sel.filterMap (pick us ws ds)
inductive Bf where
  | len | all | any | list | tuple | sum | int
inductive Ty where
  | none | bool | int | str | list | tuple
inductive Mf where
  | join

inductive Tg where
  | n (i : Nat) | t (ts : List Tg)
mutual
inductive OE where
  | bad
  | const (d : D)
  | var (i : Nat)
  | tup (es : List OE) | lst (es : List OE)
  | bin (op : Operator) (a b : OE)
  | neg (a : OE)
  | cmp (op : CmpOp) (a b : OE)
  | chain (op op' : CmpOp) (a b c : OE)
  | isN (a : OE) | notN (a : OE)
  | and_ (es : List OE) | or_ (es : List OE)
  | not_ (a : OE)
  | ifx (t : OT) (a b : OE)
  | sub (a i : OE)
  | slice (a : OE) (lo hi : Option OE)
  | call (f : Str) (args kws : List OE) (sel : List Sr) (dfts : List D)
  | bcall (f : Bf) (args : List OE)
  | meth (m : Mf) (o : OE) (args : List OE)
  | isi (a : OE) (ts : List Ty)
  | lc (elt : OE) (own : List Nat) (tg : Tg) (it : OI) (ifs : List OT)
inductive OT where
  | e (a : OE) | and_ (ts : List OT) | or_ (ts : List OT) | not_ (t : OT)
inductive OI where
  | e (a : OE) | rng1 (a : OE) | rng2 (a b : OE) | enum (a : OE) | zip (a b : OE)
end
inductive OS where
  | bad
  | set (i : Nat) (e : OE)
  | seti (tg : Tg) (e : OE)
  | par2 (i j : Nat) (a b : OE)
  | par3 (i j l : Nat) (a b c : OE)
  | app (i : Nat) (e : OE)
  | put (i : Nat) (ix e : OE)
  | expr (e : OE)
  | ret (e : OE)
  | retN
  | if_ (t : OT) (a b : List OS)
  | for_ (tg : Tg) (it : OI) (b : List OS)
  | while_ (n : Nat) (t : OT) (b : List OS)
  | pass | brk | cont

/-- the slots' data -/
abbrev Gam := List (Option D)
def wipeG (Γ : Gam) : List Nat → Gam
  | [] => Γ
  | v :: vs => (wipeG Γ vs).set v none

/-! ### operations on data -/
def most : Nat := 16777216
def binD : Operator → D → D → T D
  | .Add, .int a, .int b => .ret (.int (a + b))
  | .Add, .str a, .str b => .need (decide (a.length + b.length ≤ most)) (.ret (.str (a ++ b)))
  | .Add, .lst a, .lst b => .need (decide (a.length + b.length ≤ most)) (.ret (.lst (a ++ b)))
  | .Add, .tup a, .tup b => .need (decide (a.length + b.length ≤ most)) (.ret (.tup (a ++ b)))
  | .Sub, .int a, .int b => .ret (.int (a - b))
  | .Mult, .int a, .int b => .need (decide (a.natAbs < 2 ^ 64 ∨ b.natAbs < 2 ^ 64)) (.ret (.int (a * b)))
  | .Mult, .str a, .int b => .need (decide (a.length * b.toNat ≤ most ∧ -(2 ^ 62) ≤ b ∧ b < 2 ^ 62)) (.ret (.str (List.replicate b.toNat a).flatten))
  | .Mult, .lst a, .int b => .need (decide (a.length * b.toNat ≤ most ∧ -(2 ^ 62) ≤ b ∧ b < 2 ^ 62)) (.ret (.lst (List.replicate b.toNat a).flatten))
  | .Mult, .tup a, .int b => .need (decide (0 < a.length ∧ a.length ≤ 1000 ∧ 2 ≤ b ∧ b ≤ 1000)) (.ret (.tup (List.replicate b.toNat a).flatten))
  | .FloorDiv, .int a, .int b => .need (decide (0 < b ∧ b < 2 ^ 200)) (.ret (.int (a / b)))
  | .Mod, .int a, .int b => .need (decide (0 < b)) (.ret (.int (a % b)))
  | .Pow, .int a, .int b => .need (decide (0 ≤ b ∧ b ≤ 1000000 ∧ a.natAbs < 2 ^ 64)) (.ret (.int (a ^ b.toNat)))
  | _, _, _ => .bad

def natsLt : List Nat → List Nat → Bool
  | [], [] => false
  | [], _ :: _ => true
  | _ :: _, [] => false
  | x :: xs, y :: ys => if x = y then natsLt xs ys else decide (x < y)

mutual
/-- as plain data of the library: no dicts, no instances -/
def toPy : D → Option PyData
  | .non => some .none
  | .bl b => some (.bool b)
  | .int i => some (.int i)
  | .str l => some (.str ⟨l.toArray⟩)
  | .lst xs => (toPys xs).map .list
  | .tup xs => (toPys xs).map .tuple
  | .dct _ => none
  | .ins _ _ => none
  | .bag => none
  | .scr _ _ => none
def toPys : List D → Option (List PyData)
  | [] => some []
  | d :: ds => match toPy d, toPys ds with
    | some x, some xs => some (x :: xs)
    | _, _ => none
end
/-- == of plain data -/
def eqD (a b : D) : Option Bool := match toPy a, toPy b with
  | some x, some y => if x.depth ≤ 64 ∧ y.depth ≤ 64 then some (PyData.eqv x y) else none
  | _, _ => none
def notO : Option Bool → Option Bool := Option.map (!·)
def blT : Option Bool → T D
  | some b => .ret (.bl b)
  | none => .bad
def inD (a : D) (xs : List D) : Option Bool := match toPy a, toPys xs with
  | some x, some ys => if x.depth ≤ 64 ∧ PyData.depthAll ys ≤ 63 then some (ys.any fun z => PyData.eqv z x) else none
  | _, _ => none
def isFlat : D → Bool
  | .non => true | .bl _ => true | .int _ => true | .str _ => true
  | _ => false
/-- in a tuple: flat items alone -/
def inT (a : D) (xs : List D) : Option Bool := if isFlat a && xs.all isFlat then inD a xs else none
/-- c in s, a sign in a text -/
def cmpD : CmpOp → D → D → T D
  | .Eq, a, b => blT (eqD a b)
  | .NotEq, a, b => blT (notO (eqD a b))
  | .Lt, .int a, .int b => .ret (.bl (decide (a < b)))
  | .LtE, .int a, .int b => .ret (.bl (decide (a ≤ b)))
  | .Gt, .int a, .int b => .ret (.bl (decide (b < a)))
  | .GtE, .int a, .int b => .ret (.bl (decide (b ≤ a)))
  | .Lt, .str a, .str b => .ret (.bl (decide (a < b)))
  | .LtE, .str a, .str b => .ret (.bl (decide (a ≤ b)))
  | .Gt, .str a, .str b => .ret (.bl (decide (b < a)))
  | .GtE, .str a, .str b => .ret (.bl (decide (b ≤ a)))
  | .In, a, .lst xs => blT (inD a xs)
  | .In, a, .tup xs => blT (inT a xs)
  | .NotIn, a, .lst xs => blT (notO (inD a xs))
  | .NotIn, a, .tup xs => blT (notO (inT a xs))
  | _, _, _ => .bad
def truthD : D → T Bool
  | .non => .ret false
  | .bl b => .ret b
  | .int i => .ret (i != 0)
  | .str l => .need (decide (l.length ≤ most)) (.ret (!l.isEmpty))
  | .lst xs => .ret (!xs.isEmpty)
  | .tup xs => .ret (!xs.isEmpty)
  | _ => .bad
/-- the place that an index means -/
def ixD (n : Nat) (i : Int) : Option Nat := if 0 ≤ i then (if i < n then some i.toNat else none) else if -(n : Int) ≤ i then some (i + n).toNat else none
def subD : D → D → T D
  | .lst xs, .int i => .ofOpt ((ixD xs.length i).bind fun j => xs[j]?)
  | .tup xs, .int i => .ofOpt ((ixD xs.length i).bind fun j => xs[j]?)
  | .str l, .int i => .need (decide (l.length ≤ most)) (.ofOpt (((ixD l.length i).bind fun j => l[j]?).map fun c => .str [c]))
  | .scr _ ns, .int i => .ofOpt ((ixD (ns.map D.int).length i).bind fun j => (ns.map D.int)[j]?)
  | _, _ => .bad
def cutIx (n d : Nat) : Option Int → Nat
  | none => d
  | some i => if i < 0 then (i + n).toNat else min i.toNat n
def cutL {α : Type} (xs : List α) (lo hi : Option Int) : List α := (xs.drop (cutIx xs.length 0 lo)).take (cutIx xs.length xs.length hi - cutIx xs.length 0 lo)
def sliceD : D → Option Int → Option Int → T D
  | .lst xs, lo, hi => .ret (.lst (cutL xs lo hi))
  | .tup xs, lo, hi => .ret (.tup (cutL xs lo hi))
  | .str l, lo, hi => .need (decide (l.length ≤ most)) (.ret (.str (cutL l lo hi)))
  | .scr _ ns, lo, hi => .ret (.lst ((cutL ns lo hi).map D.int))
  | _, _, _ => .bad
/-- the built-in type of a value -/
def tyD : D → Option Ty
  | .non => some .none | .bl _ => some .bool | .int _ => some .int | .str _ => some .str | .lst _ => some .list | .tup _ => some .tuple
  | _ => none
def subTy : Ty → Ty → Bool
  | .bool, .int => true
  | .bool, .bool => true | .int, .int => true | .str, .str => true | .list, .list => true | .tuple, .tuple => true
  | _, _ => false
def isTy (t : Ty) (d : D) : Option Bool := (tyD d).map fun k => subTy k t
def isTys (d : D) : List Ty → Option Bool
  | [] => some false
  | t :: ts => match isTy t d with
    | some true => some true
    | some false => isTys d ts
    | none => none
def intsOf : List D → Option (List Int)
  | [] => some []
  | .int i :: r => (intsOf r).map (i :: ·)
  | _ => none
def strsOf : List D → Option (List (List Nat))
  | [] => some []
  | .str l :: r => (strsOf r).map (l :: ·)
  | _ => none
def blsOf : List D → Option (List Bool)
  | [] => some []
  | .bl b :: r => (blsOf r).map (b :: ·)
  | _ => none
def joinL (a : List Nat) : List (List Nat) → List Nat
  | [] => []
  | [x] => x
  | x :: y :: r => x ++ a ++ joinL a (y :: r)
def lenD : List D → T D
  | [.str l] => .need (decide (l.length ≤ most)) (.ret (.int l.length))
  | [.lst xs] => .ret (.int xs.length)
  | [.tup xs] => .ret (.int xs.length)
  | [.scr _ ns] => .ret (.int (ns.map D.int).length)
  | _ => .bad
def allD : List D → T D
  | [.lst xs] => (match blsOf xs with | some bs => .ret (.bl (bs.all id)) | none => .bad)
  | _ => .bad
def anyD : List D → T D
  | [.lst xs] => (match blsOf xs with | some bs => .ret (.bl (bs.any id)) | none => .bad)
  | _ => .bad
def listD : List D → T D
  | [.lst xs] => .ret (.lst xs)
  | [.tup xs] => .ret (.lst xs)
  | _ => .bad
def tupleD : List D → T D
  | [.lst xs] => .ret (.tup xs)
  | [.tup xs] => .ret (.tup xs)
  | _ => .bad
def sumD : List D → T D
  | [.lst xs] => (match intsOf xs with | some ns => .ret (.int ns.sum) | none => .bad)
  | _ => .bad
def intD : List D → T D
  | [.int i] => .ret (.int i)
  | [.bl b] => .ret (.int (if b then 1 else 0))
  | _ => .bad
/-- built-in functions -/
def bcallD : Bf → List D → T D
  | .len, ds => lenD ds
  | .all, ds => allD ds
  | .any, ds => anyD ds
  | .list, ds => listD ds
  | .tuple, ds => tupleD ds
  | .sum, ds => sumD ds
  | .int, ds => intD ds
def joinD : D → List D → T D
  | .str a, [.lst xs] => (match strsOf xs with
      | some ys => .need (decide ((ys.map (·.length)).sum + ys.length * a.length ≤ 16777216)) (.ret (.str (joinL a ys)))
      | none => .bad)
  | _, _ => .bad
/-- what has such a method -/
def recvD : Mf → D → Bool
  | .join, .str _ => true
  | _, _ => false
/-- methods of the built-in types -/
def methD : Mf → D → List D → T D
  | .join, d, ds => joinD d ds

/-! ### what an expression comes to -/
/-- what a call of a def of the program comes to: its data, and whether the object is its caller's alone -/
abbrev Calls := Str → List D → T (D × Bool)
mutual
def bindTg : Tg → D → Gam → Option Gam
  | .n i, d, Γ => some (Γ.set i (some d))
  | .t ts, d, Γ => match d with
    | .tup ds => bindTgs ts ds Γ
    | _ => none
def bindTgs : List Tg → List D → Gam → Option Gam
  | [], [], Γ => some Γ
  | t :: ts, d :: ds, Γ => (bindTg t d Γ).bind fun Γ' => bindTgs ts ds Γ'
  | _, _, _ => none
end
def enumD : Nat → List D → List D
  | _, [] => []
  | i, d :: ds => .tup [.int i, d] :: enumD (i + 1) ds
def zipD : List D → List D → List D
  | a :: as, b :: bs => .tup [a, b] :: zipD as bs
  | _, _ => []
def rangeD (lo : Int) (n : Nat) : List D := (List.range n).map fun (i : Nat) => D.int (lo + (i : Int))
def itemsD : D → T (List D)
  | .lst xs => .ret xs
  | .tup xs => .ret xs
  | .str l => .need (decide (l.length ≤ most)) (.ret (l.map fun c => .str [c]))
  | _ => .bad
def isNonD : D → Bool
  | .non => true
  | _ => false
/-- a comprehension's turns -/
def lcLoop (f : D → T (Option D)) : List D → T (List D)
  | [] => .ret []
  | d :: ds => (f d).bind fun r => (lcLoop f ds).bind fun rs => .ret (match r with | some x => x :: rs | none => rs)
variable (C : Calls)
mutual
def evE : OE → Gam → T D
  | .bad, _ => .bad
  | .const d, _ => .ret d
  | .var i, Γ => match Γ[i]? with
    | some (some d) => .ret d
    | _ => .bad
  | .tup es, Γ => (evEs es Γ).bind fun ds => .ret (.tup ds)
  | .lst es, Γ => (evEs es Γ).bind fun ds => .ret (.lst ds)
  | .bin op a b, Γ => (evE a Γ).bind fun x => (evE b Γ).bind fun y => binD op x y
  | .neg a, Γ => (evE a Γ).bind fun x => match x with | .int i => .ret (.int (-i)) | _ => .bad
  | .cmp op a b, Γ => (evE a Γ).bind fun x => (evE b Γ).bind fun y => cmpD op x y
  | .chain op op' a b c, Γ => (evE a Γ).bind fun x => (evE b Γ).bind fun y => (cmpD op x y).bind fun z => match z with
    | .bl true => (evE c Γ).bind fun w => cmpD op' y w
    | .bl false => .ret (.bl false)
    | _ => .bad
  | .isN a, Γ => (evE a Γ).bind fun x => .ret (.bl (isNonD x))
  | .notN a, Γ => (evE a Γ).bind fun x => .ret (.bl (!isNonD x))
  | .and_ es, Γ => evAnd es Γ
  | .or_ es, Γ => evOr es Γ
  | .not_ a, Γ => (evE a Γ).bind fun x => (truthD x).bind fun b => .ret (.bl (!b))
  | .ifx t a b, Γ => (evT t Γ).bind fun c => match c with | true => evE a Γ | false => evE b Γ
  | .sub a i, Γ => (evE a Γ).bind fun x => (evE i Γ).bind fun y => subD x y
  | .slice a lo hi, Γ => (evE a Γ).bind fun x => (evO lo Γ).bind fun l => (evO hi Γ).bind fun h => sliceD x l h
  | .call f args kws sel dfts, Γ => (evEs args Γ).bind fun ds => (evEs kws Γ).bind fun zs => .need (decide ((selL sel ds zs dfts).length = sel.length)) ((C f (selL sel ds zs dfts)).bind fun r => .ret r.1)
  | .bcall f args, Γ => (evEs args Γ).bind fun ds => bcallD f ds
  | .meth m o args, Γ => (evE o Γ).bind fun x => .need (recvD m x) ((evEs args Γ).bind fun ds => methD m x ds)
  | .isi a ts, Γ => (evE a Γ).bind fun x => blT (isTys x ts)
  | .lc elt own tg it ifs, Γ => (evI it Γ).bind fun ds => (lcLoop (fun d => ((T.ofOpt (bindTg tg d (wipeG Γ own))).bind fun Γ' => (evTs ifs Γ').bind fun b => match b with
      | true => (evE elt Γ').bind fun x => .ret (some x)
      | false => .ret none).still) ds).bind fun xs => .ret (.lst xs)
def evEs : List OE → Gam → T (List D)
  | [], _ => .ret []
  | e :: es, Γ => (evE e Γ).bind fun x => (evEs es Γ).bind fun xs => .ret (x :: xs)
def evO : Option OE → Gam → T (Option Int)
  | none, _ => .ret none
  | some e, Γ => (evE e Γ).bind fun x => match x with | .int i => .ret (some i) | _ => .bad
/-- and, or as values -/
def evAnd : List OE → Gam → T D
  | [], _ => .bad
  | e :: es, Γ => match es with
    | [] => evE e Γ
    | _ :: _ => (evE e Γ).bind fun x => (truthD x).bind fun c => match c with
      | true => evAnd es Γ
      | false => .ret x
def evOr : List OE → Gam → T D
  | [], _ => .bad
  | e :: es, Γ => match es with
    | [] => evE e Γ
    | _ :: _ => (evE e Γ).bind fun x => (truthD x).bind fun c => match c with
      | true => .ret x
      | false => evOr es Γ
/-- as a test -/
def evT : OT → Gam → T Bool
  | .e a, Γ => (evE a Γ).bind truthD
  | .and_ es, Γ => evTAnd es Γ
  | .or_ es, Γ => evTOr es Γ
  | .not_ a, Γ => (evT a Γ).bind fun b => .ret (!b)
def evTAnd : List OT → Gam → T Bool
  | [], _ => .bad
  | e :: es, Γ => match es with
    | [] => evT e Γ
    | _ :: _ => (evT e Γ).bind fun c => match c with | true => evTAnd es Γ | false => .ret false
def evTOr : List OT → Gam → T Bool
  | [], _ => .bad
  | e :: es, Γ => match es with
    | [] => evT e Γ
    | _ :: _ => (evT e Γ).bind fun c => match c with | true => .ret true | false => evTOr es Γ
def evTs : List OT → Gam → T Bool
  | [], _ => .ret true
  | e :: es, Γ => match es with
    | [] => evT e Γ
    | _ :: _ => .bad
def evI : OI → Gam → T (List D)
  | .e a, Γ => (evE a Γ).bind itemsD
  | .rng1 a, Γ => (evE a Γ).bind fun x => match x with
    | .int j => .need (decide (-(2 ^ 62) ≤ j ∧ j ≤ 16777216)) (.ret (rangeD 0 j.toNat))
    | _ => .bad
  | .rng2 a b, Γ => (evE a Γ).bind fun x => (evE b Γ).bind fun y => match x, y with
    | .int i, .int j => .need (decide (-(2 ^ 62) ≤ i ∧ i < 2 ^ 62 ∧ -(2 ^ 62) ≤ j ∧ j < 2 ^ 62 ∧ j - i ≤ 16777216)) (.ret (rangeD i (j - i).toNat))
    | _, _ => .bad
  | .enum a, Γ => (evE a Γ).bind fun x => match x with | .lst xs => .ret (enumD 0 xs) | _ => .bad
  | .zip a b, Γ => (evE a Γ).bind fun x => (evE b Γ).bind fun y => match x, y with
    | .lst xs, .lst ys => .ret (zipD xs ys)
    | .tup xs, .tup ys => .ret (zipD xs ys)
    | _, _ => .bad
end
end Dy

set_option linter.all false
set_option maxRecDepth 10000
set_option autoImplicit false
/-! Dy, part 2: data in the heap. -/
namespace Dy
open PySem PySem.Spec PyProof.Rows L2

/-- a tuple: frozen, or the module's -/
def TAt (K : PySem.W.Frag) (S : Addr → Prop) (H : Hp) (a : Addr) (xs : List V) : Prop :=
  (S a ∧ H a = some (.tup xs)) ∨
    ∃ (o : Obj) (its : Array Value) (n : Nat), K.lookup a = some o ∧ o.cls = .type "tuple" ∧ o.data = .seq its n ∧ its.size ≤ sizeLine ∧ Vals xs its.toList
theorem TAt.sq {K : PySem.W.Frag} {S : Addr → Prop} {H : Hp} {a : Addr} {xs : List V} (h : TAt K S H a xs) : SqT K H a xs := by
  rcases h with ⟨_, h⟩ | h
  · exact .inl (.inl h)
  · exact .inr h
/-- a list of the module's own -/
def KList (K : PySem.W.Frag) (a : Addr) (xs : List V) : Prop := ∃ (o : Obj) (its : Array Value) (n : Nat), K.lookup a = some o ∧ o.cls = .type "list" ∧ o.dict = none ∧ o.data = .seq its n ∧ its.size ≤ sizeLine ∧ Vals xs its.toList
def SAt (K : PySem.W.Frag) (S : Addr → Prop) (H : Hp) (a : Addr) (xs : List V) : Prop := (S a ∧ Rd H a (.lst xs)) ∨ KList K a xs
theorem SAt.sq {K : PySem.W.Frag} {S : Addr → Prop} {H : Hp} {a : Addr} {xs : List V} (h : SAt K S H a xs) : SqL K H a xs := by
  rcases h with ⟨_, h⟩ | h
  · exact .inl h
  · exact .inr h
theorem SAt.mono {K : PySem.W.Frag} {S S' : Addr → Prop} {H H' : Hp} {a : Addr} {xs : List V} (hS : ∀ a, S a → S' a) (hH : ∀ a o, S a → H a = some o → H' a = some o) (h : SAt K S H a xs) : SAt K S' H' a xs :=
  h.imp (fun ⟨s, p⟩ => ⟨hS _ s, p.imp (hH _ _ s) (fun ⟨o, z⟩ => ⟨o, hH _ _ s z⟩)⟩) fun z => z
def okS (l : List Nat) : Bool := l.all (· < 0x110000)
section
variable (K : PySem.W.Frag) (bg : Option (Addr × Addr))
mutual
/-- the value v stands for d; its objects lie in S -/
def Rep (S : Addr → Prop) (H : Hp) : D → V → Prop
  | .non, v => v = .non
  | .bl b, v => v = .bl b
  | .int i, v => v = .int i
  | .str l, v => v = .str ⟨l.toArray⟩ ∧ okS l = true
  | .lst ds, v => ∃ a xs, v = .ref a ∧ S a ∧ Rd H a (.lst xs) ∧ Reps S H ds xs
  | .tup ds, v => ∃ a xs, v = .ref a ∧ TAt K S H a xs ∧ Reps S H ds xs
  | .dct _, _ => False
  | .ins _ _, _ => False
  | .bag, v => ∃ b, bg = some b ∧ v = .ref b.1
  | .scr a ns, v => v = .ref a ∧ SAt K S H a (ns.map V.int)
def Reps (S : Addr → Prop) (H : Hp) : List D → List V → Prop
  | [], xs => xs = []
  | d :: ds, xs => ∃ x r, xs = x :: r ∧ Rep S H d x ∧ Reps S H ds r
end
end
section
variable {K : PySem.W.Frag} {bg : Option (Addr × Addr)} {S S' : Addr → Prop} {H H' : Hp}
theorem TAt.mono {a : Addr} {xs : List V} (hS : ∀ a, S a → S' a) (hH : ∀ a o, S a → H a = some o → H' a = some o) (h : TAt K S H a xs) : TAt K S' H' a xs := by
  rcases h with ⟨h1, h2⟩ | h
  · exact .inl ⟨hS _ h1, hH _ _ h1 h2⟩
  · exact .inr h
mutual
theorem Rep.mono (hS : ∀ a, S a → S' a) (hH : ∀ a o, S a → H a = some o → H' a = some o) : ∀ (d : D) (v : V), Rep K bg S H d v → Rep K bg S' H' d v
  | .non, _, h => h
  | .bl _, _, h => h
  | .int _, _, h => h
  | .str _, _, h => h
  | .lst ds, v, h => by
    obtain ⟨a, xs, e, s, p, r⟩ := h
    exact ⟨a, xs, e, hS _ s, p.imp (hH _ _ s) (fun ⟨o, z⟩ => ⟨o, hH _ _ s z⟩), Reps.mono hS hH ds xs r⟩
  | .tup ds, v, h => by
    obtain ⟨a, xs, e, t, r⟩ := h
    exact ⟨a, xs, e, t.mono hS hH, Reps.mono hS hH ds xs r⟩
  | .dct _, _, h => h
  | .ins _ _, _, h => h
  | .bag, _, h => h
  | .scr a ns, v, h => ⟨h.1, h.2.mono hS hH⟩
theorem Reps.mono (hS : ∀ a, S a → S' a) (hH : ∀ a o, S a → H a = some o → H' a = some o) : ∀ (ds : List D) (vs : List V), Reps K bg S H ds vs → Reps K bg S' H' ds vs
  | [], _, h => h
  | d :: ds, vs, h => by
    obtain ⟨x, r, e, h1, h2⟩ := h
    exact ⟨x, r, e, Rep.mono hS hH d x h1, Reps.mono hS hH ds r h2⟩
end
theorem Reps.length : ∀ {ds : List D} {vs : List V}, Reps K bg S H ds vs → vs.length = ds.length
  | [], _, h => by rw [show _ = [] from h]; rfl
  | d :: ds, vs, h => by
    obtain ⟨x, r, e, _, h2⟩ := h
    rw [e, List.length_cons, List.length_cons, Reps.length h2]
theorem Reps.get : ∀ {ds : List D} {vs : List V} {i : Nat} {d : D}, Reps K bg S H ds vs → ds[i]? = some d → ∃ v, vs[i]? = some v ∧ Rep K bg S H d v
  | [], _, _, _, h, e => by simp at e
  | d :: ds, vs, i, d', h, e => by
    obtain ⟨x, r, e2, h1, h2⟩ := h
    subst e2
    cases i with
    | zero =>
      have : d = d' := by simpa using e
      subst this
      exact ⟨x, rfl, h1⟩
    | succ i => exact Reps.get (i := i) h2 (by simpa using e)
theorem Reps.append : ∀ {as bs : List D} {xs ys : List V}, Reps K bg S H as xs → Reps K bg S H bs ys → Reps K bg S H (as ++ bs) (xs ++ ys)
  | [], bs, xs, ys, h, h' => by
    rw [show xs = [] from h]
    exact h'
  | d :: ds, bs, xs, ys, h, h' => by
    obtain ⟨x, r, e2, h1, h2⟩ := h
    subst e2
    exact ⟨x, r ++ ys, rfl, h1, Reps.append h2 h'⟩
theorem Reps.drop : ∀ {ds : List D} {vs : List V} (n : Nat), Reps K bg S H ds vs → Reps K bg S H (ds.drop n) (vs.drop n)
  | [], vs, n, h => by
    rw [show vs = [] from h]
    simp [Reps]
  | d :: ds, vs, 0, h => h
  | d :: ds, vs, n + 1, h => by
    obtain ⟨x, r, e2, h1, h2⟩ := h
    subst e2
    exact Reps.drop n h2
theorem Reps.take : ∀ {ds : List D} {vs : List V} (n : Nat), Reps K bg S H ds vs → Reps K bg S H (ds.take n) (vs.take n)
  | [], vs, n, h => by
    rw [show vs = [] from h]
    simp [Reps]
  | d :: ds, vs, 0, h => by simp [Reps]
  | d :: ds, vs, n + 1, h => by
    obtain ⟨x, r, e2, h1, h2⟩ := h
    subst e2
    exact ⟨x, r.take n, rfl, h1, Reps.take n h2⟩
theorem Rep.flat {d : D} {v : V} (f : isFlat d = true) (h : Rep K bg S H d v) : Rep K bg S' H' d v := by
  cases d <;> first | exact h | cases f
end

/-! ### worlds -/
/-- the draws: cells, the next one, what is left of a great one, a mixed number, how many -/
def BagAt (H : Hp) (b : Addr × Addr) : Prop := ∃ (ns : List Int) (i m st n : Int), H b.1 = some (.lst [.ref b.2, .int i, .int m, .int st, .int n]) ∧ Rd H b.2 (.lst (ns.map V.int)) ∧ 0 ≤ i ∧ 0 ≤ m ∧ 0 ≤ st ∧ st < 2147483399 ∧ i ≤ ns.length
structure Wld (bg : Option (Addr × Addr)) (S : Addr → Prop) (H : Hp) : Prop where
  dom : ∀ a, S a → H a ≠ none
  bag : ∀ b, bg = some b → BagAt H b ∧ ¬ S b.1 ∧ b.2 ≠ b.1
def isBag (bg : Option (Addr × Addr)) (a : Addr) : Prop := ∃ b, bg = some b ∧ a = b.1
/-- more is frozen; what was there stands, but for the draws -/
structure Ext (bg : Option (Addr × Addr)) (S : Addr → Prop) (H : Hp) (S' : Addr → Prop) (H' : Hp) : Prop where
  sub : ∀ a, S a → S' a
  new : ∀ a, S' a → S a ∨ H a = none
  keep : ∀ a o, H a = some o → ¬ isBag bg a → H' a = some o
  dom : ∀ a, H a ≠ none → H' a ≠ none
section
variable {bg : Option (Addr × Addr)} {S S' S1 S2 : Addr → Prop} {H H' H1 H2 : Hp}
theorem Ext.refl : Ext bg S H S H := ⟨fun _ h => h, fun _ h => .inl h, fun _ _ h _ => h, fun _ h => h⟩
theorem Ext.unborn (h : Ext bg S H S1 H1) {a : Addr} (e : H1 a = none) : H a = none := by
  cases q : H a with
  | none => rfl
  | some o => exact absurd e (h.dom a (by rw [q]; simp))
theorem Ext.trans (h : Ext bg S H S1 H1) (h' : Ext bg S1 H1 S2 H2) : Ext bg S H S2 H2 := ⟨fun a x => h'.sub a (h.sub a x), fun a x => by
  rcases h'.new a x with y | y
  · exact h.new a y
  · exact .inr (h.unborn y), fun a o x n => h'.keep a o (h.keep a o x n) n, fun a x => h'.dom a (h.dom a x)⟩
theorem Wld.nob (W : Wld bg S H) {a : Addr} (h : S a) : ¬ isBag bg a := fun ⟨b, e, z⟩ => (W.bag b e).2.1 (z ▸ h)
theorem Ext.rep {K : PySem.W.Frag} (E : Ext bg S H S' H') (W : Wld bg S H) {d : D} {v : V} (h : Rep K bg S H d v) : Rep K bg S' H' d v :=
  h.mono E.sub (fun a o s e => E.keep a o e (W.nob s)) d v
theorem Ext.reps {K : PySem.W.Frag} (E : Ext bg S H S' H') (W : Wld bg S H) {ds : List D} {vs : List V} (h : Reps K bg S H ds vs) : Reps K bg S' H' ds vs :=
  h.mono E.sub (fun a o s e => E.keep a o e (W.nob s)) ds vs
/-- a new object, frozen at once -/
def plus (S : Addr → Prop) (p : Addr) : Addr → Prop := fun a => S a ∨ a = p
theorem Ext.laid (p : Addr) (o : HO) (hp : H p = none) : Ext bg S H (plus S p) (upd H p o) := ⟨fun _ h => .inl h, fun a h => by
  rcases h with h | h
  · exact .inl h
  · rw [h]; exact .inr hp, fun a u h _ => by rw [upd_ne (ne_of_none h hp)]; exact h, fun a h => by
    by_cases e : a = p
    · rw [e, upd_same]; simp
    · rw [upd_ne e]; exact h⟩
/-- a new object, not frozen -/
theorem Ext.made (p : Addr) (o : HO) (hp : H p = none) : Ext bg S H S (upd H p o) := ⟨fun _ h => h, fun a h => .inl h, fun a u h _ => by rw [upd_ne (ne_of_none h hp)]; exact h, fun a h => by
    by_cases e : a = p
    · rw [e, upd_same]; simp
    · rw [upd_ne e]; exact h⟩
theorem BagAt.stay {b : Addr × Addr} (h : BagAt H b) (k1 : ∀ o, H b.1 = some o → H' b.1 = some o) (k2 : ∀ o, H b.2 = some o → H' b.2 = some o) : BagAt H' b := by
  obtain ⟨ns, i, m, st, n, e1, e2, r⟩ := h
  exact ⟨ns, i, m, st, n, k1 _ e1, e2.imp (k2 _) (fun ⟨o, z⟩ => ⟨o, k2 _ z⟩), r⟩
theorem BagAt.there {b : Addr × Addr} (h : BagAt H b) : H b.1 ≠ none ∧ H b.2 ≠ none := by
  obtain ⟨ns, i, m, st, n, e1, e2, r⟩ := h
  refine ⟨by rw [e1]; simp, ?_⟩
  rcases e2 with e2 | ⟨o, e2⟩ <;> (rw [e2]; simp)
theorem Wld.made (W : Wld bg S H) {p : Addr} {o : HO} (hp : H p = none) : Wld bg S (upd H p o) := ⟨fun a h => by
  by_cases e : a = p
  · rw [e, upd_same]; simp
  · rw [upd_ne e]; exact W.dom a h, fun b e => by
    obtain ⟨B, n, ne⟩ := W.bag b e
    exact ⟨B.stay (fun o q => by rw [upd_ne (ne_of_none q hp)]; exact q) (fun o q => by rw [upd_ne (ne_of_none q hp)]; exact q), n, ne⟩⟩
theorem Wld.laid (W : Wld bg S H) {p : Addr} {o : HO} (hp : H p = none) : Wld bg (plus S p) (upd H p o) := ⟨fun a h => by
  by_cases e : a = p
  · rw [e, upd_same]; simp
  · rw [upd_ne e]
    rcases h with h | h
    · exact W.dom a h
    · exact absurd h e, fun b e => by
    obtain ⟨B, n, ne⟩ := (W.made (o := o) hp).bag b e
    refine ⟨B, fun z => ?_, ne⟩
    rcases z with z | z
    · exact n z
    · exact ((W.bag b e).1.there).1 (by rw [z]; exact hp)⟩
end

/-! ### slots -/
/-- what a slot of one's own holds -/
def Own (K : PySem.W.Frag) (bg : Option (Addr × Addr)) (S : Addr → Prop) (H0 H : Hp) (d : D) (v : V) : Prop :=
  ∃ p ds xs, v = .ref p ∧ d = .lst ds ∧ ¬ S p ∧ H0 p = none ∧ H p = some (.lst xs) ∧ Reps K bg S H ds xs
/-- O: the slots that own their object -/
structure Abs (K : PySem.W.Frag) (bg : Option (Addr × Addr)) (H0 : Hp) (O : List Nat) (Γ : Gam) (S : Addr → Prop) (σ : L2.St) (H : Hp) : Prop where
  len : σ.length = Γ.length
  dat : ∀ (i : Nat) (d : D), i ∉ O → Γ[i]? = some (some d) → ∃ v, σ[i]? = some (some v) ∧ Rep K bg S H d v
  own : ∀ (i : Nat), i ∈ O → ∃ d v, Γ[i]? = some (some d) ∧ σ[i]? = some (some v) ∧ Own K bg S H0 H d v
  apart : ∀ (i j : Nat) (a : Addr), i ∈ O → j ∈ O → i ≠ j → σ[i]? = some (some (V.ref a)) → σ[j]? ≠ some (some (V.ref a))
/-- a function's body at work: S0, H0 the entry -/
structure At (K : PySem.W.Frag) (bg : Option (Addr × Addr)) (S0 : Addr → Prop) (H0 : Hp) (O : List Nat) (Γ : Gam) (S : Addr → Prop) (σ : L2.St) (H : Hp) : Prop where
  wld0 : Wld bg S0 H0
  wld : Wld bg S H
  ext : Ext bg S0 H0 S H
  abs : Abs K bg H0 O Γ S σ H
/-- frozen, or the object of an own slot of A -/
def Gs (S : Addr → Prop) (O : List Nat) (σ : L2.St) (A : List Nat) : Addr → Prop := fun a => S a ∨ ∃ (i : Nat), i ∈ A ∧ i ∈ O ∧ σ[i]? = some (some (V.ref a))
section
variable {K : PySem.W.Frag} {bg : Option (Addr × Addr)} {S0 S S' : Addr → Prop} {H0 H H' : Hp} {O : List Nat} {Γ : Gam} {σ : L2.St} {A A' : List Nat}
theorem Own.nobag {d : D} {v : V} {p : Addr} (W0 : Wld bg S0 H0) (h : Own K bg S H0 H d v) (e : v = .ref p) : ¬ isBag bg p ∧ H0 p = none := by
  obtain ⟨q, ds, xs, e1, _, _, h0, _⟩ := h
  subst e1
  injection e with e
  subst e
  refine ⟨fun ⟨b, e, z⟩ => ?_, h0⟩
  exact ((W0.bag b e).1.there).1 (z ▸ h0)
/-- the object of an own slot -/
theorem Abs.at (h : Abs K bg H0 O Γ S σ H) {i : Nat} {a : Addr} (hi : i ∈ O) (e : σ[i]? = some (some (V.ref a))) : ∃ ds xs, Γ[i]? = some (some (.lst ds)) ∧ ¬ S a ∧ H0 a = none ∧ H a = some (.lst xs) ∧ Reps K bg S H ds xs := by
  obtain ⟨d, v, g, e', p, ds, xs, ev, ed, r⟩ := h.own i hi
  rw [e] at e'
  cases e'
  injection ev with ev
  subst ev ed
  exact ⟨ds, xs, g, r⟩
/-- the world with the own slots of A frozen for the time -/
theorem At.gwld (h : At K bg S0 H0 O Γ S σ H) (A : List Nat) : Wld bg (Gs S O σ A) H := ⟨fun a z => by
  rcases z with z | ⟨i, _, m, e⟩
  · exact h.wld.dom a z
  · obtain ⟨ds, xs, g, n, h0, hp, _⟩ := h.abs.at m e
    rw [hp]; simp, fun b e => by
    obtain ⟨B, n, ne⟩ := h.wld.bag b e
    refine ⟨B, fun z => ?_, ne⟩
    rcases z with z | ⟨i, _, m, e'⟩
    · exact n z
    · obtain ⟨ds, xs, g, n, h0, hp, _⟩ := h.abs.at m e'
      exact ((h.wld0.bag b e).1.there).1 h0⟩
theorem Gs.sub (h : ∀ i, i ∈ A → i ∈ A') : ∀ a, Gs S O σ A a → Gs S O σ A' a := fun a z => by
  rcases z with z | ⟨i, m, g, e⟩
  · exact .inl z
  · exact .inr ⟨i, h i m, g, e⟩
theorem Gs.ext (h : ∀ a, S a → S' a) : ∀ a, Gs S O σ A a → Gs S' O σ A a := fun a z => by
  rcases z with z | z
  · exact .inl (h a z)
  · exact .inr z
/-- from one state of an expression's evaluation to a later one -/
theorem At.rep (h : At K bg S0 H0 O Γ S σ H) (E : Ext bg S H S' H') {d : D} {v : V} (r : Rep K bg (Gs S O σ A) H d v) : Rep K bg (Gs S' O σ A) H' d v :=
  r.mono (Gs.ext E.sub) (fun a o s e => E.keep a o e ((h.gwld A).nob s)) d v
theorem At.reps (h : At K bg S0 H0 O Γ S σ H) (E : Ext bg S H S' H') {d : List D} {v : List V} (r : Reps K bg (Gs S O σ A) H d v) : Reps K bg (Gs S' O σ A) H' d v :=
  r.mono (Gs.ext E.sub) (fun a o s e => E.keep a o e ((h.gwld A).nob s)) d v
/-- a later state: more is frozen, none of it one's own -/
theorem At.later (h : At K bg S0 H0 O Γ S σ H) (E : Ext bg S H S' H') (W : Wld bg S' H') : At K bg S0 H0 O Γ S' σ H' := by
  refine ⟨h.wld0, W, h.ext.trans E, h.abs.len, fun i d n g => ?_, fun i m => ?_, h.abs.apart⟩
  · obtain ⟨v, e, r⟩ := h.abs.dat i d n g
    exact ⟨v, e, E.rep h.wld r⟩
  · obtain ⟨d, v, g, e, p, ds, xs, ev, ed, ns, h0, hp, r⟩ := h.abs.own i m
    refine ⟨d, v, g, e, p, ds, xs, ev, ed, fun z => ?_, h0, E.keep p _ hp ?_, E.reps h.wld r⟩
    · rcases E.new p z with z | z
      · exact ns z
      · rw [hp] at z; cases z
    · rintro ⟨b, e, z⟩
      exact ((h.wld0.bag b e).1.there).1 (z ▸ h0)
/-- own slots of A are frozen -/
theorem At.freeze (h : At K bg S0 H0 O Γ S σ H) (A : List Nat) : At K bg S0 H0 (O.filter fun i => decide (i ∉ A)) Γ (Gs S O σ A) σ H := by
  have up : ∀ a, S a → Gs S O σ A a := fun _ h => .inl h
  refine ⟨h.wld0, h.gwld A, ⟨fun a z => up a (h.ext.sub a z), fun a z => ?_, h.ext.keep, h.ext.dom⟩, h.abs.len, fun i d n g => ?_, fun i m => ?_, fun i j a mi mj => h.abs.apart i j a (List.mem_filter.mp mi).1 (List.mem_filter.mp mj).1⟩
  · rcases z with z | ⟨i, _, m, e⟩
    · exact h.ext.new a z
    · obtain ⟨ds, xs, g, n, h0, hp, _⟩ := h.abs.at m e
      exact .inr h0
  · by_cases mo : i ∈ O
    · have ma : i ∈ A := by
        by_cases q : i ∈ A
        · exact q
        · exact absurd (List.mem_filter.mpr ⟨mo, decide_eq_true q⟩) n
      obtain ⟨d', v, g', e, p, ds, xs, ev, ed, ns, h0, hp, r⟩ := h.abs.own i mo
      rw [g] at g'
      cases g'
      subst ed ev
      exact ⟨_, e, p, xs, rfl, .inr ⟨i, ma, mo, e⟩, .inl hp, r.mono up (fun _ _ _ q => q) ds xs⟩
    · obtain ⟨v, e, r⟩ := h.abs.dat i d mo g
      exact ⟨v, e, r.mono up (fun _ _ _ q => q) d v⟩
  · obtain ⟨mo, q⟩ := List.mem_filter.mp m
    have q := of_decide_eq_true q
    obtain ⟨d, v, g, e, p, ds, xs, ev, ed, ns, h0, hp, r⟩ := h.abs.own i mo
    refine ⟨d, v, g, e, p, ds, xs, ev, ed, fun z => ?_, h0, hp, r.mono up (fun _ _ _ q => q) ds xs⟩
    rcases z with z | ⟨j, mj, moj, ej⟩
    · exact ns z
    · subst ev
      by_cases ij : i = j
      · subst ij; exact q mj
      · exact h.abs.apart i j p mo moj ij e ej
/-- slots forgotten -/
theorem wipeG_length (Γ : Gam) : ∀ vs : List Nat, (wipeG Γ vs).length = Γ.length
  | [] => rfl
  | v :: vs => by unfold wipeG; rw [List.length_set, wipeG_length Γ vs]
theorem wipe_get {α : Type} {Γ : List (Option α)} {i : Nat} {x : α} : ∀ {vs : List Nat} {w : List Nat → List (Option α)}, (w [] = Γ) → (∀ v vs, w (v :: vs) = (w vs).set v none) → ((w vs)[i]? = some (some x) ↔ Γ[i]? = some (some x) ∧ i ∉ vs)
  | [], w, h0, _ => by rw [h0]; simp
  | v :: vs, w, h0, h1 => by
    rw [h1]
    by_cases e : v = i
    · subst e
      constructor
      · intro h
        by_cases hv : v < (w vs).length
        · rw [List.getElem?_set_self hv] at h; cases h
        · rw [List.getElem?_eq_none (by simpa using hv)] at h; cases h
      · rintro ⟨_, h⟩
        exact absurd (by simp) h
    · rw [List.getElem?_set_ne e, wipe_get h0 h1]
      constructor
      · rintro ⟨a, b⟩
        exact ⟨a, by simp only [List.mem_cons, not_or]; exact ⟨fun z => e z.symm, b⟩⟩
      · rintro ⟨a, b⟩
        simp only [List.mem_cons, not_or] at b
        exact ⟨a, b.2⟩
theorem wipeG_get {i : Nat} {d : D} {vs : List Nat} : (wipeG Γ vs)[i]? = some (some d) ↔ Γ[i]? = some (some d) ∧ i ∉ vs := wipe_get (w := wipeG Γ) rfl fun _ _ => rfl
theorem wipeS_get {i : Nat} {v : V} {vs : List Nat} : (wipe σ vs)[i]? = some (some v) ↔ σ[i]? = some (some v) ∧ i ∉ vs := wipe_get (w := wipe σ) rfl fun _ _ => rfl
theorem At.wiped (h : At K bg S0 H0 O Γ S σ H) (vs : List Nat) : At K bg S0 H0 (O.filter fun i => decide (i ∉ vs)) (wipeG Γ vs) S (wipe σ vs) H := by
  refine ⟨h.wld0, h.wld, h.ext, by rw [wipeG_length, wipe_length]; exact h.abs.len, fun i d n g => ?_, fun i m => ?_, fun i j a mi mj ij e e' => ?_⟩
  · obtain ⟨g, nv⟩ := wipeG_get.mp g
    obtain ⟨v, e, r⟩ := h.abs.dat i d (fun mo => n (List.mem_filter.mpr ⟨mo, decide_eq_true nv⟩)) g
    exact ⟨v, wipeS_get.mpr ⟨e, nv⟩, r⟩
  · obtain ⟨mo, q⟩ := List.mem_filter.mp m
    have q := of_decide_eq_true q
    obtain ⟨d, v, g, e, r⟩ := h.abs.own i mo
    exact ⟨d, v, wipeG_get.mpr ⟨g, q⟩, wipeS_get.mpr ⟨e, q⟩, r⟩
  · exact h.abs.apart i j a (List.mem_filter.mp mi).1 (List.mem_filter.mp mj).1 ij (wipeS_get.mp e).1 (wipeS_get.mp e').1
/-- data is stored in a slot -/
theorem At.put (h : At K bg S0 H0 O Γ S σ H) {d : D} {v : V} (i : Nat) (r : Rep K bg S H d v) : At K bg S0 H0 (O.filter fun j => decide (j ≠ i)) (Γ.set i (some d)) S (σ.set i (some v)) H := by
  refine ⟨h.wld0, h.wld, h.ext, by rw [List.length_set, List.length_set]; exact h.abs.len, fun j d' n g => ?_, fun j m => ?_, fun j k a mj mk jk e e' => ?_⟩
  · by_cases ij : i = j
    · subst ij
      have hi : i < Γ.length := by
        have := (List.getElem?_eq_some_iff.mp g).1
        rw [List.length_set] at this
        exact this
      rw [List.getElem?_set_self hi] at g
      cases g
      exact ⟨v, List.getElem?_set_self (by rw [h.abs.len]; exact hi), r⟩
    · rw [List.getElem?_set_ne ij] at g ⊢
      exact h.abs.dat j d' (fun mo => n (List.mem_filter.mpr ⟨mo, decide_eq_true fun z => ij z.symm⟩)) g
  · obtain ⟨mo, q⟩ := List.mem_filter.mp m
    have q := of_decide_eq_true q
    obtain ⟨d', v', g, e, r'⟩ := h.abs.own j mo
    exact ⟨d', v', by rw [List.getElem?_set_ne (fun z => q z.symm)]; exact g, by rw [List.getElem?_set_ne (fun z => q z.symm)]; exact e, r'⟩
  · have qj := of_decide_eq_true (List.mem_filter.mp mj).2
    have qk := of_decide_eq_true (List.mem_filter.mp mk).2
    rw [List.getElem?_set_ne (fun z => qj z.symm)] at e
    rw [List.getElem?_set_ne (fun z => qk z.symm)] at e'
    exact h.abs.apart j k a (List.mem_filter.mp mj).1 (List.mem_filter.mp mk).1 jk e e'
end
end Dy

set_option linter.all false
set_option maxRecDepth 10000
set_option autoImplicit false
/-! Dy, part 3: the operations on data are those on values. -/
namespace Dy
open PySem PySem.Spec PyProof.Rows L2

/-- what is wanted of a value that stands for d -/
def Rs (K : PySem.W.Frag) (bg : Option (Addr × Addr)) (S : Addr → Prop) (H : Hp) (Q : VK) (d : D) : Prop :=
  ∀ u S' H', Wld bg S' H' → Ext bg S H S' H' → Rep K bg S' H' d u → Q u H'
section
variable {K : PySem.W.Frag} {bg : Option (Addr × Addr)} {S : Addr → Prop} {H : Hp} {Q : VK}
theorem Rs.here {d : D} {u : V} (h : Rs K bg S H Q d) (W : Wld bg S H) (r : Rep K bg S H d u) : Q u H := h u S H W .refl r
theorem Rs.lst {ds : List D} {xs : List V} (h : Rs K bg S H Q (.lst ds)) (W : Wld bg S H) (r : Reps K bg S H ds xs) : ∀ p, H p = none → Q (.ref p) (upd H p (.lst xs)) := fun p hp =>
  h _ (plus S p) _ (W.laid hp) (.laid p _ hp) ⟨p, xs, rfl, .inr rfl, .inl upd_same, (Ext.laid (bg := bg) p _ hp).reps W r⟩
theorem Rs.tup {ds : List D} {xs : List V} (h : Rs K bg S H Q (.tup ds)) (W : Wld bg S H) (r : Reps K bg S H ds xs) : ∀ p, H p = none → Q (.ref p) (upd H p (.tup xs)) := fun p hp =>
  h _ (plus S p) _ (W.laid hp) (.laid p _ hp) ⟨p, xs, rfl, .inl ⟨.inr rfl, upd_same⟩, (Ext.laid (bg := bg) p _ hp).reps W r⟩
end
/-! ### lists that may be frozen -/
theorem rd_list {X : Cx} {pins : List (Addr × Obj)} {σ : L2.St} {H : Hp} {s : Shared} {a : Addr} {xs : List V} (I : L2.Inv X pins σ H s) (h : Rd H a (.lst xs)) : ∃ (ws : List Value) (m : Nat), Vals xs ws ∧ xs.length = ws.length ∧ xs.length ≤ sizeLine ∧ s.heap.get? a = some { cls := .type "list", data := .seq ws.toArray m } := by
  obtain ⟨z, ws, m, r, e⟩ := h.ok I.hok
  exact ⟨ws, m, r, r.length, z, e⟩
theorem op_catR {X : Cx} : OpR X (binaryOp .Add) (fun v w H Q => ∃ a b xs zs, v = .ref a ∧ w = .ref b ∧ Rd H a (.lst xs) ∧ Rd H b (.lst zs) ∧ xs.length + zs.length ≤ sizeLine ∧ ∀ p, H p = none → Q (.ref p) (upd H p (.lst (xs ++ zs)))) := by
  intro pins s σ H v w u1 u2 Q I r1 r2 ⟨a, b, xs, zs, ev, ew, ha, hb, hz, q⟩
  subst ev ew
  cases r1
  cases r2
  obtain ⟨ws, m, t1, l1, _, e1⟩ := rd_list I ha
  obtain ⟨ws2, m2, t2, l2, _, e2⟩ := rd_list I hb
  refine PySem.P.add_list e1 e2 ?_ (by rw [List.size_toArray, List.size_toArray, ← l1, ← l2]; exact hz)
  have cat : ws.toArray ++ ws2.toArray = (ws ++ ws2).toArray := by simp
  rw [cat]
  exact ⟨V.ref _, _, I.lnew (t' := s.toks) (t1.append t2) (by rw [List.length_append]; exact hz), rfl, q _ I.fresh⟩
theorem op_repR {X : Cx} : OpR X (binaryOp .Mult) (fun v w H Q => ∃ a k xs, v = .ref a ∧ w = .int k ∧ Rd H a (.lst xs) ∧ -(2 ^ 63) ≤ k ∧ k < 2 ^ 63 ∧ xs.length * k.toNat ≤ sizeLine ∧ ∀ p, H p = none → Q (.ref p) (upd H p (.lst (List.replicate k.toNat xs).flatten))) := by
  intro pins s σ H v w u1 u2 Q I r1 r2 ⟨a, k, xs, ev, ew, ha, k1, k2, hz, q⟩
  subst ev ew
  cases r1
  obtain ⟨t, rfl⟩ := r2
  obtain ⟨ws, m, t1, l1, _, e⟩ := rd_list I ha
  have small : ws.toArray.size * k.toNat ≤ sizeLine := by rw [List.size_toArray, ← l1]; exact hz
  have capOk : ¬ ws.toArray.size * k.toNat > (2 ^ 63 - 1) / 8 := by
    have hh : (sizeLine : Nat) ≤ (2 ^ 63 - 1) / 8 := by decide
    omega
  have fitOk : ¬ (!Builtin.List.listFitsIndex k) = true := by rw [fitsIndex_both k1 k2]; exact Bool.false_ne_true
  have longOk : ¬ Builtin.List.listTooLong (ws.toArray.size * k.toNat) = true := by rw [notLongL small]; exact Bool.false_ne_true
  have made : List.foldl (fun x1 x2 => x1 ++ x2) #[] (List.replicate (if ws.toArray.isEmpty = true then 0 else k.toNat) ws.toArray) = (List.replicate k.toNat ws).flatten.toArray := by
    have go : ∀ m : Nat, List.foldl (fun x1 x2 => x1 ++ x2) #[] (List.replicate m ws.toArray) = (List.replicate m ws).flatten.toArray := fun m => (L2.foldl_rep ws m []).trans (by rw [List.nil_append])
    rw [go]
    cases ws with
    | nil => simp
    | cons y ys => rw [if_neg (by simp)]
  refine wpAny_binaryOp_repeat_ref (T := "list") (U := "int") (by decide) ⟨_, e, rfl⟩ (fun s2 => typeIs_int s2 k t) noFill_list_mul F.fills_int_mul F.slot_int_rmul repeat_list F.slot_int_index.lookup ?_
  refine call_meets F.slot_int_rmul (typeIs_int s k t) F.entry_int_rmul (F.args_int_rmul_2 _ _) (int___rmul___int_list k t a ws.toArray m) ⟨e, rfl, ⟨_, e, rfl⟩, ?_⟩
  refine call_meets F.slot_list_mul ⟨_, e, rfl⟩ F.entry_list_mul (F.args_list_mul_2 _ _) (AutoListH.list___mul___list_int_3 a ws.toArray m k t fitOk capOk longOk) ⟨e, ?_⟩
  rw [made]
  exact ⟨V.ref _, _, I.lnew (t' := s.toks) (t1.rep k.toNat) (by rw [PyProof.Rows.lm_len_rep_flat, Nat.mul_comm]; exact hz), rfl, q _ I.fresh⟩
theorem natLt {b : Int} {n : Nat} (h0 : 0 < b) (h : b < 2 ^ n) : b.natAbs < 2 ^ n := by
  have e : ((b.natAbs : Nat) : Int) = b := Int.natAbs_of_nonneg (Int.le_of_lt h0)
  have : ((b.natAbs : Nat) : Int) < ((2 ^ n : Nat) : Int) := by
    rw [e]
    simpa using h
  exact Int.ofNat_lt.mp this
/-- a two-place operation on data -/
def rD2 (K : PySem.W.Frag) (EX : D → Prop) (f : D → D → T D) : R2 := fun v w H Q => ∃ bg S x y, Wld bg S H ∧ Rep K bg S H x v ∧ Rep K bg S H y w ∧ (f x y).All (Rs K bg S H Q) EX
theorem okS_append {a b : List Nat} (ha : okS a = true) (hb : okS b = true) : okS (a ++ b) = true := by
  unfold okS at *
  rw [List.all_append, ha, hb]; rfl
theorem okS_take {a : List Nat} (n : Nat) (h : okS a = true) : okS (a.take n) = true := List.all_eq_true.mpr fun x hx => List.all_eq_true.mp h x (List.mem_of_mem_take hx)
theorem okS_drop {a : List Nat} (n : Nat) (h : okS a = true) : okS (a.drop n) = true := List.all_eq_true.mpr fun x hx => List.all_eq_true.mp h x (List.mem_of_mem_drop hx)
theorem okS_rep {a : List Nat} (h : okS a = true) : ∀ n, okS (List.replicate n a).flatten = true
  | 0 => rfl
  | n + 1 => by
    rw [List.replicate_succ, List.flatten_cons]
    exact okS_append h (okS_rep h n)
theorem foldl_rep (a : List Nat) : ∀ (n : Nat) (acc : Array Nat), List.foldl (· ++ ·) acc (List.replicate n a.toArray) = acc ++ ((List.replicate n a).flatten).toArray
  | 0, acc => by simp
  | n + 1, acc => by
    rw [List.replicate_succ, List.foldl_cons, foldl_rep a n]
    simp [List.replicate_succ, Array.append_assoc]
theorem mulS (a : List Nat) (b : Int) : Txt.mul ⟨a.toArray⟩ b = ⟨((List.replicate b.toNat a).flatten).toArray⟩ := by
  unfold Txt.mul
  by_cases h : b < 1
  · rw [if_pos h, show b.toNat = 0 by omega]; rfl
  · rw [if_neg h]
    split
    · rename_i h2
      rw [Bool.or_eq_true] at h2
      rcases h2 with h2 | h2
      · have : b = 1 := by simpa using h2
        subst this
        simp
      · have : a = [] := by simpa [Str.length] using h2
        subst this
        simp
    · congr 1
      rw [foldl_rep]
      simp
theorem lineM : most = sizeLine := by rw [sizeLine_eq]; rfl
theorem reps_ints {K : PySem.W.Frag} {bg : Option (Addr × Addr)} {S : Addr → Prop} {H : Hp} : ∀ ns : List Int, Reps K bg S H (ns.map D.int) (ns.map V.int)
  | [] => rfl
  | n :: ns => ⟨V.int n, ns.map V.int, rfl, rfl, reps_ints ns⟩
theorem reps_rep {K : PySem.W.Frag} {bg : Option (Addr × Addr)} {S : Addr → Prop} {H : Hp} {ds : List D} {xs : List V} (h : Reps K bg S H ds xs) : ∀ n, Reps K bg S H (List.replicate n ds).flatten (List.replicate n xs).flatten
  | 0 => rfl
  | n + 1 => by
    rw [List.replicate_succ, List.replicate_succ, List.flatten_cons, List.flatten_cons]
    exact h.append (reps_rep h n)

section
variable {X : Cx} {EX : D → Prop}
theorem op_mul_str : OpR X (binaryOp .Mult) (fun x y H Q => ∃ (a : List Nat) (b : Int), x = .str ⟨a.toArray⟩ ∧ y = .int b ∧ a.length * b.toNat ≤ most ∧ -(2 ^ 62) ≤ b ∧ b < 2 ^ 62 ∧ Q (.str ⟨((List.replicate b.toNat a).flatten).toArray⟩) H) := by
  intro pins s σ H x y v u Q I rx ry h
  obtain ⟨a, b, rfl, rfl, hz, h1, h2, q⟩ := h
  obtain ⟨t, rfl⟩ := rx
  obtain ⟨t', rfl⟩ := ry
  refine SB.mul ⟨?_, fun hb _ hz' => ?_, fun hb _ => ?_⟩ fun t' k => ⟨.str _, H, I.tok _, ⟨_, by rw [mulS]⟩, q⟩
  · rw [decide_eq_false (by omega), decide_eq_false (by omega)]; rfl
  · have e : (⟨a.toArray⟩ : Str).length = a.length := by simp [Str.length]
    rw [e] at hz'
    have hm : a.length * b.toNat ≤ 16777216 := hz
    have h3 : (a.length : Int) * b ≤ 16777216 := by
      have : ((a.length * b.toNat : Nat) : Int) ≤ 16777216 := Int.ofNat_le.mpr hm
      rw [Int.natCast_mul, Int.toNat_of_nonneg (by omega)] at this
      exact this
    have h4 : (a.length : Int) ≤ (2 ^ 63 - 1) / b := by
      rw [Int.le_ediv_iff_mul_le (by omega)]
      omega
    omega
  · have e : (⟨a.toArray⟩ : Str).length = a.length := by simp [Str.length]
    rw [e]
    unfold PySem.Builtin.Str.tooLong
    have := lineM
    simp only [decide_eq_false_iff_not]
    omega
theorem op_bin (op : Operator) : OpR X (binaryOp op) (rD2 X.K EX (binD op)) := by
  intro pins s σ H v w u1 u2 Q I r1 r2 ⟨bg, S, x, y, W, hx, hy, h⟩
  have hl := lineM
  unfold binD at h
  split at h
  · exact op_add pins s σ H v w u1 u2 Q I r1 r2 ⟨_, _, hx, hy, h.here W rfl⟩
  · obtain ⟨c, h⟩ := T.all_need h
    have c := of_decide_eq_true c
    refine op_add_str pins s σ H v w u1 u2 Q I r1 r2 ⟨_, _, hx.1, hy.1, ?_, h.here W ⟨?_, okS_append hx.2 hy.2⟩⟩
    · show (List.toArray _).size + (List.toArray _).size ≤ sizeLine
      rw [List.size_toArray, List.size_toArray, ← hl]
      exact c
    · show V.str ⟨_⟩ = _
      simp
  · obtain ⟨c, h⟩ := T.all_need h
    have c := of_decide_eq_true c
    obtain ⟨a1, xs1, e1, s1, p1, q1⟩ := hx
    obtain ⟨a2, xs2, e2, s2, p2, q2⟩ := hy
    have l1 := q1.length
    have l2 := q2.length
    exact op_catR pins s σ H v w u1 u2 Q I r1 r2 ⟨_, _, _, _, e1, e2, p1, p2, by omega, h.lst W (q1.append q2)⟩
  · obtain ⟨c, h⟩ := T.all_need h
    have c := of_decide_eq_true c
    obtain ⟨a1, xs1, e1, p1, q1⟩ := id hx
    obtain ⟨a2, xs2, e2, p2, q2⟩ := id hy
    have l1 := q1.length
    have l2 := q2.length
    refine op_catA pins s σ H v w u1 u2 Q I r1 r2 ⟨_, _, _, _, e1, e2, p1.sq, p2.sq, by omega, fun z => ?_, fun z z' => ?_, fun _ _ => h.tup W (q1.append q2)⟩
    · subst z
      have : _ = [] := List.eq_nil_of_length_eq_zero l1.symm
      subst this
      rw [← e2]
      exact h.here W hy
    · subst z'
      have : _ = [] := List.eq_nil_of_length_eq_zero l2.symm
      subst this
      rw [List.append_nil] at h
      rw [← e1]
      exact h.here W hx
  · exact op_sub pins s σ H v w u1 u2 Q I r1 r2 ⟨_, _, hx, hy, h.here W rfl⟩
  · obtain ⟨c, h⟩ := T.all_need h
    have c := of_decide_eq_true c
    exact op_mul pins s σ H v w u1 u2 Q I r1 r2 ⟨_, _, hx, hy, c.imp (fun c => ⟨by omega, by omega⟩) (fun c => ⟨by omega, by omega⟩), h.here W rfl⟩
  · obtain ⟨c, h⟩ := T.all_need h
    obtain ⟨c1, c2, c3⟩ := of_decide_eq_true c
    exact op_mul_str pins s σ H v w u1 u2 Q I r1 r2 ⟨_, _, hx.1, hy, c1, c2, c3, h.here W ⟨rfl, okS_rep hx.2 _⟩⟩
  · obtain ⟨c, h⟩ := T.all_need h
    obtain ⟨c1, c2, c3⟩ := of_decide_eq_true c
    obtain ⟨a1, xs1, e1, s1, p1, q1⟩ := hx
    have l1 := q1.length
    refine op_repR pins s σ H v w u1 u2 Q I r1 r2 ⟨_, _, _, e1, hy, p1, by omega, by omega, by rw [l1, ← hl]; exact c1, h.lst W (reps_rep q1 _)⟩
  · obtain ⟨c, h⟩ := T.all_need h
    obtain ⟨c1, c2, c3, c4⟩ := of_decide_eq_true c
    obtain ⟨a1, xs1, e1, p1, q1⟩ := hx
    have l1 := q1.length
    refine op_repT pins s σ H v w u1 u2 Q I r1 r2 ⟨_, _, _, e1, hy, p1.sq, fun z => ?_, c3, c4, by omega, h.tup W (reps_rep q1 _)⟩
    subst z
    rw [List.length_nil] at l1
    omega
  · obtain ⟨c, h⟩ := T.all_need h
    obtain ⟨c1, c2⟩ := of_decide_eq_true c
    exact op_fdivW pins s σ H v w u1 u2 Q I r1 r2 ⟨_, _, hx, hy, wide_div (b := 200) c1 (natLt c1 c2) (by decide) (by decide), h.here W rfl⟩
  · obtain ⟨c, h⟩ := T.all_need h
    have c := of_decide_eq_true c
    exact op_mod pins s σ H v w u1 u2 Q I r1 r2 ⟨_, _, hx, hy, c, h.here W rfl⟩
  · obtain ⟨c, h⟩ := T.all_need h
    obtain ⟨c1, c2, c3⟩ := of_decide_eq_true c
    exact op_pow pins s σ H v w u1 u2 Q I r1 r2 ⟨_, _, hx, hy, ⟨c1, c2, c3⟩, h.here W rfl⟩
  · exact h.elim
end

/-! ### comparisons -/
section
variable {K : PySem.W.Frag} {bg : Option (Addr × Addr)} {S : Addr → Prop} {H : Hp}
theorem TAt.sqT {a : Addr} {xs : List V} (h : TAt K S H a xs) : SqT K H a xs := h.sq
mutual
theorem Rep.dp : ∀ (d : D) (p : PyData) (v : V), toPy d = some p → Rep K bg S H d v → Dp K H v p ∧ p.canLay0 = true
  | .non, p, v, e, h => by
    cases e
    rw [show v = .non from h]
    exact ⟨.non, rfl⟩
  | .bl b, p, v, e, h => by
    cases e
    rw [show v = .bl b from h]
    exact ⟨.bl b, rfl⟩
  | .int i, p, v, e, h => by
    cases e
    rw [show v = .int i from h]
    exact ⟨.int i, rfl⟩
  | .str l, p, v, e, h => by
    cases e
    obtain ⟨h1, h2⟩ := h
    rw [h1]
    refine ⟨.str _, ?_⟩
    show PyData.strOk _ = true
    unfold PyData.strOk
    rw [← Array.all_toList]
    exact h2
  | .lst ds, p, v, e, h => by
    unfold toPy at e
    obtain ⟨ps, e1, e2⟩ := Option.map_eq_some_iff.mp e
    subst e2
    obtain ⟨a, xs, ev, s, hp, r⟩ := h
    obtain ⟨q1, q2⟩ := Reps.dp ds ps xs e1 r
    rw [ev]
    exact ⟨.lst (.inl hp) q1, q2⟩
  | .tup ds, p, v, e, h => by
    unfold toPy at e
    obtain ⟨ps, e1, e2⟩ := Option.map_eq_some_iff.mp e
    subst e2
    obtain ⟨a, xs, ev, t, r⟩ := h
    obtain ⟨q1, q2⟩ := Reps.dp ds ps xs e1 r
    rw [ev]
    exact ⟨.tup t.sq q1, q2⟩
  | .dct _, _, _, e, _ => by cases e
  | .ins _ _, _, _, e, _ => by cases e
  | .bag, _, _, e, _ => by cases e
  | .scr _ _, _, _, e, _ => by cases e
theorem Reps.dp : ∀ (ds : List D) (ps : List PyData) (vs : List V), toPys ds = some ps → Reps K bg S H ds vs → DpAll K H vs ps ∧ PyData.canLayAll0 ps = true
  | [], ps, vs, e, h => by
    cases e
    rw [show vs = [] from h]
    exact ⟨.nil, rfl⟩
  | d :: ds, ps, vs, e, h => by
    unfold toPys at e
    obtain ⟨x, r, ev, h1, h2⟩ := h
    subst ev
    cases e1 : toPy d with
    | none => rw [e1] at e; cases e
    | some q =>
      cases e2 : toPys ds with
      | none => rw [e1, e2] at e; cases e
      | some qs =>
        rw [e1, e2] at e
        cases e
        obtain ⟨a1, a2⟩ := Rep.dp d q x e1 h1
        obtain ⟨b1, b2⟩ := Reps.dp ds qs r e2 h2
        refine ⟨.cons a1 b1, ?_⟩
        show (q.canLay0 && PyData.canLayAll0 qs) = true
        rw [a2, b2]
        rfl
end
theorem eqD_some {a b : D} {k : Bool} (h : eqD a b = some k) : ∃ x y, toPy a = some x ∧ toPy b = some y ∧ x.depth ≤ 64 ∧ y.depth ≤ 64 ∧ PyData.eqv x y = k := by
  unfold eqD at h
  cases e1 : toPy a with
  | none => rw [e1] at h; cases h
  | some x =>
    cases e2 : toPy b with
    | none => rw [e1, e2] at h; cases h
    | some y =>
      rw [e1, e2] at h
      dsimp only at h
      split at h
      · rename_i c
        exact ⟨x, y, rfl, rfl, c.1, c.2, Option.some.inj h⟩
      · cases h
theorem shaped_of {p : PyData} (h : p.canLay0 = true) (d : p.depth ≤ 64) : SeqAt.shaped p = true := by
  unfold SeqAt.shaped
  rw [h, decide_eq_true d]
  rfl
end
theorem inD_some {a : D} {xs : List D} {k : Bool} (h : inD a xs = some k) : ∃ x ys, toPy a = some x ∧ toPys xs = some ys ∧ x.depth ≤ 64 ∧ PyData.depthAll ys ≤ 63 ∧ (ys.any fun z => PyData.eqv z x) = k := by
  unfold inD at h
  cases e1 : toPy a with
  | none => rw [e1] at h; cases h
  | some x =>
    cases e2 : toPys xs with
    | none => rw [e1, e2] at h; cases h
    | some y =>
      rw [e1, e2] at h
      dsimp only at h
      split at h
      · rename_i c
        exact ⟨x, y, rfl, rfl, c.1, c.2, Option.some.inj h⟩
      · cases h
theorem flat_eqv {K : PySem.W.Frag} {bg : Option (Addr × Addr)} {S : Addr → Prop} {H : Hp} {a b : D} {v w : V} {x y : PyData} (fa : isFlat a = true) (fb : isFlat b = true) (ra : Rep K bg S H a v) (rb : Rep K bg S H b w)
    (ea : toPy a = some x) (eb : toPy b = some y) : flatV v = true ∧ flatV w = true ∧ eqV v w = PyData.eqv x y := by
  cases a <;> first | (exfalso; revert fa; simp [isFlat]; done) | (cases b <;> first | (exfalso; revert fb; simp [isFlat]; done) | (cases ea; cases eb; simp only [Rep] at ra rb; (first | subst ra | (obtain ⟨ra, _⟩ := ra; subst ra)); (first | subst rb | (obtain ⟨rb, _⟩ := rb; subst rb)); exact ⟨rfl, rfl, rfl⟩))
theorem reps_in {K : PySem.W.Frag} {bg : Option (Addr × Addr)} {S : Addr → Prop} {H : Hp} {a : D} {v : V} {x : PyData} (fa : isFlat a = true) (ra : Rep K bg S H a v) (ea : toPy a = some x) : ∀ {ds : List D} {ws : List V} {ys : List PyData},
    ds.all isFlat = true → Reps K bg S H ds ws → toPys ds = some ys → ws.all flatV = true ∧ inV v ws = ys.any fun z => PyData.eqv z x
  | [], ws, ys, _, r, e => by
    cases e
    rw [show ws = [] from r]
    exact ⟨rfl, rfl⟩
  | d :: ds, ws, ys, f, r, e => by
    obtain ⟨w, rs, ew, r1, r2⟩ := r
    subst ew
    rw [List.all_cons, Bool.and_eq_true] at f
    unfold toPys at e
    cases e1 : toPy d with
    | none => rw [e1] at e; cases e
    | some q =>
      cases e2 : toPys ds with
      | none => rw [e1, e2] at e; cases e
      | some qs =>
        rw [e1, e2] at e
        cases e
        obtain ⟨i1, i2⟩ := reps_in fa ra ea f.2 r2 e2
        obtain ⟨j1, j2, j3⟩ := flat_eqv f.1 fa r1 ra e1 ea
        refine ⟨by rw [List.all_cons, j1, i1]; rfl, ?_⟩
        show (eqV w v || inV v rs) = _
        rw [i2, j3, List.any_cons]
theorem T.all_blT {P : D → Prop} {E : D → Prop} {o : Option Bool} (h : (blT o).All P E) : ∃ b, o = some b ∧ P (.bl b) := by
  cases o with
  | some b => exact ⟨b, rfl, h⟩
  | none => exact h.elim

section
variable {X : Cx} {EX : D → Prop}
theorem not_lt_le (a b : List Nat) : decide (a ≤ b) = !decide (b < a) := by
  by_cases h : b < a
  · rw [decide_eq_true h, decide_eq_false (List.not_le.mpr h)]; rfl
  · rw [decide_eq_false h, decide_eq_true (List.not_lt.mp h)]; rfl
theorem op_eqDD (hu : X.A.units + 64 < cLine) : OpR X (compareOp .Eq) (rD2 X.K EX fun a b => blT (eqD a b)) := by
  intro pins s σ H v w u1 u2 Q I r1 r2 ⟨bg, S, x, y, W, hx, hy, h⟩
  obtain ⟨k, ek, h⟩ := T.all_blT h
  obtain ⟨p, q, ep, eq, dp, dq, e⟩ := eqD_some ek
  obtain ⟨p1, p2⟩ := Rep.dp x p v ep hx
  obtain ⟨q1, q2⟩ := Rep.dp y q w eq hy
  exact op_eqD hu pins s σ H v w u1 u2 Q I r1 r2 ⟨p, q, p1, q1, shaped_of p2 dp, shaped_of q2 dq, h.here W (by rw [e]; rfl)⟩
theorem op_neDD (hu : X.A.units + 64 < cLine) : OpR X (compareOp .NotEq) (rD2 X.K EX fun a b => blT (notO (eqD a b))) := by
  intro pins s σ H v w u1 u2 Q I r1 r2 ⟨bg, S, x, y, W, hx, hy, h⟩
  obtain ⟨k, ek, h⟩ := T.all_blT h
  obtain ⟨k', ek', e'⟩ := Option.map_eq_some_iff.mp ek
  obtain ⟨p, q, ep, eq, dp, dq, e⟩ := eqD_some ek'
  obtain ⟨p1, p2⟩ := Rep.dp x p v ep hx
  obtain ⟨q1, q2⟩ := Rep.dp y q w eq hy
  exact op_neD hu pins s σ H v w u1 u2 Q I r1 r2 ⟨p, q, p1, q1, shaped_of p2 dp, shaped_of q2 dq, h.here W (by rw [e, e']; rfl)⟩
theorem shaped_lst {ys : List PyData} (h : PyData.canLayAll0 ys = true) (d : PyData.depthAll ys ≤ 63) : SeqAt.shaped (.list ys) = true :=
  shaped_of (by exact h) (by show PyData.depthAll ys + 1 ≤ 64; omega)
theorem op_cmp (op : CmpOp) (hr : X.A.units + 65 < cLine) : OpR X (compareOp op) (rD2 X.K EX (cmpD op)) := by
  intro pins s σ H v w u1 u2 Q I r1 r2 ⟨bg, S, x, y, W, hx, hy, h⟩
  have hl := lineM
  unfold cmpD at h
  split at h
  · exact op_eqDD (EX := EX) (by omega) pins s σ H v w u1 u2 Q I r1 r2 ⟨bg, S, _, _, W, hx, hy, h⟩
  · exact op_neDD (EX := EX) (by omega) pins s σ H v w u1 u2 Q I r1 r2 ⟨bg, S, _, _, W, hx, hy, h⟩
  · exact op_lt pins s σ H v w u1 u2 Q I r1 r2 ⟨_, _, hx, hy, h.here W rfl⟩
  · exact op_le pins s σ H v w u1 u2 Q I r1 r2 ⟨_, _, hx, hy, h.here W rfl⟩
  · exact op_gt pins s σ H v w u1 u2 Q I r1 r2 ⟨_, _, hx, hy, h.here W rfl⟩
  · exact op_ge pins s σ H v w u1 u2 Q I r1 r2 ⟨_, _, hx, hy, h.here W rfl⟩
  · exact op_lt_str pins s σ H v w u1 u2 Q I r1 r2 ⟨_, _, hx.1, hy.1, h.here W rfl⟩
  · exact op_le_str pins s σ H v w u1 u2 Q I r1 r2 ⟨_, _, hx.1, hy.1, h.here W (by rw [not_lt_le]; rfl)⟩
  · exact op_gt_str pins s σ H v w u1 u2 Q I r1 r2 ⟨_, _, hx.1, hy.1, h.here W rfl⟩
  · exact op_ge_str pins s σ H v w u1 u2 Q I r1 r2 ⟨_, _, hx.1, hy.1, h.here W (by rw [not_lt_le]; rfl)⟩
  · obtain ⟨k, ek, h⟩ := T.all_blT h
    obtain ⟨p, ys, ep, eys, dp, dys, e⟩ := inD_some ek
    obtain ⟨p1, p2⟩ := Rep.dp _ p v ep hx
    obtain ⟨q1, q2⟩ := Rep.dp (.lst _) (.list ys) w (by unfold toPy; rw [eys]; rfl) hy
    exact op_inD hr pins s σ H v w u1 u2 Q I r1 r2 ⟨p, ys, p1, q1, shaped_of p2 dp, shaped_lst q2 dys, h.here W (by rw [e]; rfl)⟩
  · obtain ⟨k, ek, h⟩ := T.all_blT h
    unfold inT at ek
    split at ek
    · rename_i f
      rw [Bool.and_eq_true] at f
      obtain ⟨p, ys, ep, eys, dp, dys, e⟩ := inD_some ek
      obtain ⟨a, xs, ea, t, rs⟩ := hy
      obtain ⟨i1, i2⟩ := reps_in f.1 hx ep f.2 rs eys
      have fv : flatV v = true := (flat_eqv f.1 f.1 hx hx ep ep).1
      exact op_in_seq pins s σ H v w u1 u2 Q I r1 r2 ⟨a, xs, ea, .inr t.sq, fv, i1, h.here W (by rw [if_neg Bool.false_ne_true, i2, e]; rfl)⟩
    · cases ek
  · obtain ⟨k, ek, h⟩ := T.all_blT h
    obtain ⟨k', ek, ekk⟩ := Option.map_eq_some_iff.mp ek
    obtain ⟨p, ys, ep, eys, dp, dys, e⟩ := inD_some ek
    obtain ⟨p1, p2⟩ := Rep.dp _ p v ep hx
    obtain ⟨q1, q2⟩ := Rep.dp (.lst _) (.list ys) w (by unfold toPy; rw [eys]; rfl) hy
    exact op_notInD hr pins s σ H v w u1 u2 Q I r1 r2 ⟨p, ys, p1, q1, shaped_of p2 dp, shaped_lst q2 dys, h.here W (by rw [e, ekk]; rfl)⟩
  · obtain ⟨k, ek, h⟩ := T.all_blT h
    obtain ⟨k', ek, ekk⟩ := Option.map_eq_some_iff.mp ek
    unfold inT at ek
    split at ek
    · rename_i f
      rw [Bool.and_eq_true] at f
      obtain ⟨p, ys, ep, eys, dp, dys, e⟩ := inD_some ek
      obtain ⟨a, xs, ea, t, rs⟩ := hy
      obtain ⟨i1, i2⟩ := reps_in f.1 hx ep f.2 rs eys
      have fv : flatV v = true := (flat_eqv f.1 f.1 hx hx ep ep).1
      exact op_notIn_seq pins s σ H v w u1 u2 Q I r1 r2 ⟨a, xs, ea, .inr t.sq, fv, i1, h.here W (by rw [if_pos rfl, i2, e, ekk]; rfl)⟩
    · cases ek
  · exact h.elim
theorem reps_ix {K : PySem.W.Frag} {bg : Option (Addr × Addr)} {S : Addr → Prop} {H : Hp} {ds : List D} {xs : List V} {i : Int} {d : D} (r : Reps K bg S H ds xs) (e : ((ixD ds.length i).bind fun j => ds[j]?) = some d) :
    ∃ v, atI xs i = some v ∧ Rep K bg S H d v := by
  obtain ⟨j, e1, e2⟩ := Option.bind_eq_some_iff.mp e
  obtain ⟨v, e3, r3⟩ := r.get e2
  refine ⟨v, ?_, r3⟩
  have : ixN xs.length i = some j := by rw [r.length]; exact e1
  unfold atI
  rw [this]
  exact e3
theorem ix_dat : IxR X (rD2 X.K EX subD) := by
  intro value slice pins s σ H v w u1 u2 Q I r1 r2 ⟨bg, S, x, y, W, hx, hy, h⟩ hs
  have hl := lineM
  unfold subD at h
  split at h
  · obtain ⟨d, e, h⟩ := T.all_ofOpt h
    obtain ⟨a, xs, ea, sa, pa, ra⟩ := hx
    obtain ⟨z, ez, rz⟩ := reps_ix ra e
    exact ix_list value slice pins s σ H v w u1 u2 Q I r1 r2 ⟨a, xs, _, z, ea, hy, .inl pa, ez, h.here W rz⟩ hs
  · obtain ⟨d, e, h⟩ := T.all_ofOpt h
    obtain ⟨a, xs, ea, ta, ra⟩ := hx
    obtain ⟨z, ez, rz⟩ := reps_ix ra e
    exact ix_tup value slice pins s σ H v w u1 u2 Q I r1 r2 ⟨a, xs, _, z, ea, hy, ta.sq, ez, h.here W rz⟩ hs
  · obtain ⟨c, h⟩ := T.all_need h
    have c := of_decide_eq_true c
    obtain ⟨d, e, h⟩ := T.all_ofOpt h
    obtain ⟨z, e1, e2⟩ := Option.map_eq_some_iff.mp e
    obtain ⟨j, e3, e4⟩ := Option.bind_eq_some_iff.mp e1
    refine ix_str value slice pins s σ H v w u1 u2 Q I r1 r2 ⟨_, _, z, hx.1, hy, ?_, ?_, h.here W ?_⟩ hs
    · show (List.toArray _).size ≤ sizeLine
      rw [List.size_toArray, ← hl]; exact c
    · exact e1
    · subst e2
      refine ⟨rfl, ?_⟩
      have := List.all_eq_true.mp hx.2 z (List.mem_of_getElem? e4)
      show (List.all [z] _) = true
      rw [List.all_cons, this]; rfl
  · obtain ⟨d, e, h⟩ := T.all_ofOpt h
    obtain ⟨ea, la⟩ := hx
    obtain ⟨z, ez, rz⟩ := reps_ix (reps_ints (K := X.K) (bg := bg) (S := S) (H := H) _) e
    exact ix_list value slice pins s σ H v w u1 u2 Q I r1 r2 ⟨_, _, _, z, ea, hy, la.sq, ez, h.here W rz⟩ hs
  · exact h.elim
/-- a slice of data -/
def rSlD (K : PySem.W.Frag) (EX : D → Prop) : V → Option Int → Option Int → Hp → VK → Prop := fun v lo hi H Q => ∃ bg S x, Wld bg S H ∧ Rep K bg S H x v ∧ (sliceD x lo hi).All (Rs K bg S H Q) EX
theorem cutIx_eq (n d : Nat) (o : Option Int) : cutIx n d o = HT.sIx n d o := by cases o <;> rfl
theorem reps_cut {K : PySem.W.Frag} {bg : Option (Addr × Addr)} {S : Addr → Prop} {H : Hp} {ds : List D} {xs : List V} (r : Reps K bg S H ds xs) (lo hi : Option Int) : Reps K bg S H (cutL ds lo hi) (cutV xs lo hi) := by
  unfold cutL cutV
  rw [r.length, cutIx_eq, cutIx_eq]
  exact (r.drop _).take _
theorem cutL_whole {α : Type} (xs : List α) (lo hi : Option Int) (h : HT.sIx xs.length 0 lo = 0 ∧ HT.sIx xs.length xs.length hi = xs.length) : cutL xs lo hi = xs := by
  unfold cutL
  rw [cutIx_eq, cutIx_eq, h.1, h.2]
  simp
theorem sl_dat : SlR X (rSlD X.K EX) := by
  intro pins s σ H v w vl vu lo hi sl Q I rx hs pl pu ⟨bg, S, x, W, hx, h⟩
  have hl := lineM
  unfold sliceD at h
  split at h
  · obtain ⟨a, xs, ea, sa, pa, ra⟩ := hx
    exact sl_list pins s σ H v w vl vu lo hi sl Q I rx hs pl pu ⟨a, xs, ea, .inl pa, h.lst W (reps_cut ra lo hi)⟩
  · obtain ⟨a, xs, ea, ta, ra⟩ := id hx
    have len := ra.length
    refine sl_tupA pins s σ H v w vl vu lo hi sl Q I rx hs pl pu ⟨a, xs, ea, ta.sq, fun z => ?_, fun _ => h.tup W (reps_cut ra lo hi)⟩
    rw [len] at z
    rw [cutL_whole _ lo hi z] at h
    rw [← ea]
    exact h.here W hx
  · obtain ⟨c, h⟩ := T.all_need h
    have c := of_decide_eq_true c
    refine sl_str pins s σ H v w vl vu lo hi sl Q I rx hs pl pu ⟨_, hx.1, ?_, h.here W ⟨?_, okS_take _ (okS_drop _ hx.2)⟩⟩
    · show (List.toArray _).size ≤ sizeLine
      rw [List.size_toArray, ← hl]; exact c
    · show V.str (cutS _ _ _) = _
      unfold cutS cutL
      rw [cutIx_eq, cutIx_eq]
      simp [Str.length]
  · rename_i a ns
    obtain ⟨ea, la⟩ := hx
    have sq := la.sq
    have ra : Reps X.K bg S H (ns.map D.int) (ns.map V.int) := reps_ints ns
    refine sl_list pins s σ H v w vl vu lo hi sl Q I rx hs pl pu ⟨a, _, ea, sq, ?_⟩
    have e1 : (cutL ns lo hi).map D.int = cutL (ns.map D.int) lo hi := by
      unfold cutL
      rw [List.map_take, List.map_drop, List.length_map]
    rw [e1] at h
    exact h.lst W (reps_cut ra lo hi)
  · exact h.elim
end
end Dy

set_option linter.all false
set_option maxRecDepth 10000
set_option autoImplicit false
/-! Dy, part 4: built-ins by data; what an expression asks; the own syntax of a text. -/
namespace Dy
open PySem PySem.Spec PyProof.Rows L2

/-! ### built-in functions -/
/-- a call on data -/
def rDc (K : PySem.W.Frag) (EX : D → Prop) (f : List D → T D) : List V → Hp → VK → Prop := fun vs H Q => ∃ bg S ds, Wld bg S H ∧ Reps K bg S H ds vs ∧ (f ds).All (Rs K bg S H Q) EX
section
variable {K : PySem.W.Frag} {bg : Option (Addr × Addr)} {S : Addr → Prop} {H : Hp}
theorem Reps.one {d : D} {vs : List V} (h : Reps K bg S H [d] vs) : ∃ v, vs = [v] ∧ Rep K bg S H d v := by
  obtain ⟨v, r, e, h1, h2⟩ := h
  rw [show r = [] from h2] at e
  exact ⟨v, e, h1⟩
theorem Reps.two {d e : D} {vs : List V} (h : Reps K bg S H [d, e] vs) : ∃ v w, vs = [v, w] ∧ Rep K bg S H d v ∧ Rep K bg S H e w := by
  obtain ⟨v, r, e, h1, h2⟩ := h
  obtain ⟨w, rfl, h3⟩ := Reps.one h2
  exact ⟨v, w, e, h1, h3⟩
theorem Reps.bls : ∀ {ds : List D} {bs : List Bool} {vs : List V}, blsOf ds = some bs → Reps K bg S H ds vs → vs = bs.map V.bl
  | [], bs, vs, e, h => by
    cases e
    exact h
  | d :: ds, bs, vs, e, h => by
    obtain ⟨v, r, rfl, h1, h2⟩ := h
    cases d <;> first | (cases e; done) | skip
    rename_i b
    obtain ⟨cs, e1, e2⟩ := Option.map_eq_some_iff.mp (show (blsOf ds).map (b :: ·) = some bs from e)
    subst e2
    rw [List.map_cons, ← Reps.bls e1 h2, show v = V.bl b from h1]
theorem Reps.ints : ∀ {ds : List D} {bs : List Int} {vs : List V}, intsOf ds = some bs → Reps K bg S H ds vs → vs = bs.map V.int
  | [], bs, vs, e, h => by
    cases e
    exact h
  | d :: ds, bs, vs, e, h => by
    obtain ⟨v, r, rfl, h1, h2⟩ := h
    cases d <;> first | (cases e; done) | skip
    rename_i b
    obtain ⟨cs, e1, e2⟩ := Option.map_eq_some_iff.mp (show (intsOf ds).map (b :: ·) = some bs from e)
    subst e2
    rw [List.map_cons, ← Reps.ints e1 h2, show v = V.int b from h1]
theorem Reps.strs : ∀ {ds : List D} {bs : List (List Nat)} {vs : List V}, strsOf ds = some bs → Reps K bg S H ds vs → vs = (bs.map fun l => (⟨l.toArray⟩ : Str)).map V.str ∧ ∀ l ∈ bs, okS l = true
  | [], bs, vs, e, h => by
    cases e
    exact ⟨h, fun l z => by cases z⟩
  | d :: ds, bs, vs, e, h => by
    obtain ⟨v, r, rfl, h1, h2⟩ := h
    cases d <;> first | (cases e; done) | skip
    rename_i b
    obtain ⟨cs, e1, e2⟩ := Option.map_eq_some_iff.mp (show (strsOf ds).map (b :: ·) = some bs from e)
    subst e2
    obtain ⟨i1, i2⟩ := Reps.strs e1 h2
    refine ⟨by rw [List.map_cons, List.map_cons, ← i1, h1.1], fun l z => ?_⟩
    rcases List.mem_cons.mp z with z | z
    · rw [z]; exact h1.2
    · exact i2 l z
end
section
variable {X : Cx} {EX : D → Prop}
theorem call_len_dat : CallR X (.builtin "len") (rDc X.K EX (bcallD .len)) := by
  intro pins s σ H vs us Q I r ⟨bg, S, ds, W, rs, h⟩
  have hl := lineM
  replace h : (lenD ds).All (Rs X.K bg S H Q) EX := h
  unfold lenD at h
  split at h
  · obtain ⟨c, h⟩ := T.all_need h
    have c := of_decide_eq_true c
    obtain ⟨v, rfl, rv⟩ := rs.one
    refine call_len pins s σ H _ us Q I r ⟨_, _, rfl, ?_, h.here W rfl⟩
    rw [rv.1]
    refine ⟨?_, ?_⟩
    · show (List.toArray _).size ≤ sizeLine
      rw [List.size_toArray, ← hl]; exact c
    · show _ = (List.toArray _).size
      rw [List.size_toArray]
  · obtain ⟨v, rfl, rv⟩ := rs.one
    obtain ⟨a, xs, ea, sa, pa, ra⟩ := rv
    refine call_len pins s σ H _ us Q I r ⟨_, _, rfl, ?_, h.here W rfl⟩
    rw [ea]
    exact .inl ⟨xs, .inl pa, ra.length.symm⟩
  · obtain ⟨v, rfl, rv⟩ := rs.one
    obtain ⟨a, xs, ea, ta, ra⟩ := rv
    refine call_len pins s σ H _ us Q I r ⟨_, _, rfl, ?_, h.here W rfl⟩
    rw [ea]
    exact .inr ⟨xs, ta.sq, ra.length.symm⟩
  · obtain ⟨v, rfl, rv⟩ := rs.one
    refine call_len pins s σ H _ us Q I r ⟨_, _, rfl, ?_, h.here W rfl⟩
    rw [rv.1]
    refine .inl ⟨_, rv.2.sq, ?_⟩
    rw [List.length_map, List.length_map]
  · exact h.elim
theorem call_all_dat (hc : X.calm = true) : CallR X (.builtin "all") (rDc X.K EX (bcallD .all)) := by
  intro pins s σ H vs us Q I r ⟨bg, S, ds, W, rs, h⟩
  replace h : (allD ds).All (Rs X.K bg S H Q) EX := h
  unfold allD at h
  split at h
  · split at h
    · rename_i bs eb
      obtain ⟨v, rfl, rv⟩ := rs.one
      obtain ⟨a, xs, ea, sa, pa, ra⟩ := rv
      rw [ra.bls eb] at pa
      exact cr_all hc pins s σ H _ us Q I r ⟨a, bs, by rw [ea], .inl pa, h.here W rfl⟩
    · exact h.elim
  · exact h.elim
theorem call_any_dat (hc : X.calm = true) : CallR X (.builtin "any") (rDc X.K EX (bcallD .any)) := by
  intro pins s σ H vs us Q I r ⟨bg, S, ds, W, rs, h⟩
  replace h : (anyD ds).All (Rs X.K bg S H Q) EX := h
  unfold anyD at h
  split at h
  · split at h
    · rename_i bs eb
      obtain ⟨v, rfl, rv⟩ := rs.one
      obtain ⟨a, xs, ea, sa, pa, ra⟩ := rv
      rw [ra.bls eb] at pa
      exact cr_any hc pins s σ H _ us Q I r ⟨a, bs, by rw [ea], .inl pa, h.here W rfl⟩
    · exact h.elim
  · exact h.elim
theorem call_list_dat : CallR X (.type "list") (rDc X.K EX (bcallD .list)) := by
  intro pins s σ H vs us Q I r ⟨bg, S, ds, W, rs, h⟩
  replace h : (listD ds).All (Rs X.K bg S H Q) EX := h
  unfold listD at h
  split at h
  · obtain ⟨v, rfl, rv⟩ := rs.one
    obtain ⟨a, xs, ea, sa, pa, ra⟩ := rv
    exact call_list_of pins s σ H _ us Q I r ⟨a, xs, by rw [ea], .inl (.inl pa), h.lst W ra⟩
  · obtain ⟨v, rfl, rv⟩ := rs.one
    obtain ⟨a, xs, ea, ta, ra⟩ := rv
    exact call_list_of pins s σ H _ us Q I r ⟨a, xs, by rw [ea], .inr ta.sq, h.lst W ra⟩
  · exact h.elim
theorem call_tuple_dat : CallR X (.type "tuple") (rDc X.K EX (bcallD .tuple)) := by
  intro pins s σ H vs us Q I r ⟨bg, S, ds, W, rs, h⟩
  replace h : (tupleD ds).All (Rs X.K bg S H Q) EX := h
  unfold tupleD at h
  split at h
  · obtain ⟨v, rfl, rv⟩ := rs.one
    obtain ⟨a, xs, ea, sa, pa, ra⟩ := rv
    exact call_tuple_of pins s σ H _ us Q I r ⟨a, xs, by rw [ea], .inl ⟨.inl pa, h.tup W ra⟩⟩
  · obtain ⟨v, rfl, rv⟩ := rs.one
    obtain ⟨a, xs, ea, ta, ra⟩ := id rv
    exact call_tuple_of pins s σ H _ us Q I r ⟨a, xs, by rw [ea], .inr ⟨ta.sq, by rw [← ea]; exact h.here W rv⟩⟩
  · exact h.elim
theorem call_sum_dat (hc : X.calm = true) : CallR X (.builtin "sum") (rDc X.K EX (bcallD .sum)) := by
  intro pins s σ H vs us Q I r ⟨bg, S, ds, W, rs, h⟩
  replace h : (sumD ds).All (Rs X.K bg S H Q) EX := h
  unfold sumD at h
  split at h
  · split at h
    · rename_i bs eb
      obtain ⟨v, rfl, rv⟩ := rs.one
      obtain ⟨a, xs, ea, sa, pa, ra⟩ := rv
      rw [ra.ints eb] at pa
      exact cr_sum hc pins s σ H _ us Q I r ⟨a, bs, by rw [ea], .inl pa, h.here W rfl⟩
    · exact h.elim
  · exact h.elim
theorem call_int_dat : CallR X (.type "int") (rDc X.K EX (bcallD .int)) := by
  intro pins s σ H vs us Q I r ⟨bg, S, ds, W, rs, h⟩
  replace h : (intD ds).All (Rs X.K bg S H Q) EX := h
  unfold intD at h
  split at h
  · obtain ⟨v, rfl, rv⟩ := rs.one
    exact call_int1 pins s σ H _ us Q I r (.inl ⟨_, by rw [show v = _ from rv], h.here W rfl⟩)
  · obtain ⟨v, rfl, rv⟩ := rs.one
    exact call_int1 pins s σ H _ us Q I r (.inr ⟨_, by rw [show v = _ from rv], h.here W rfl⟩)
  · exact h.elim
theorem joinL_cons (a x : List Nat) : ∀ ys : List (List Nat), joinL a (x :: ys) = x ++ (ys.map fun y => a ++ y).flatten
  | [] => by simp [joinL]
  | y :: r => by
    show x ++ a ++ joinL a (y :: r) = _
    rw [joinL_cons a y r]
    simp
theorem glue_fold (a : List Nat) : ∀ (ys : List (List Nat)) (acc : List Nat), List.foldl (fun acc (p : Str) => acc ++ a.toArray ++ p.cps) acc.toArray (ys.map fun l => (⟨l.toArray⟩ : Str)) = (acc ++ (ys.map fun y => a ++ y).flatten).toArray
  | [], acc => by simp
  | y :: r, acc => by
    rw [List.map_cons, List.foldl_cons]
    have : acc.toArray ++ a.toArray ++ y.toArray = (acc ++ a ++ y).toArray := by simp
    rw [this, glue_fold a r]
    simp
theorem joinS (a : List Nat) (ys : List (List Nat)) : Txt.join ⟨a.toArray⟩ (ys.map fun l => (⟨l.toArray⟩ : Str)) = ⟨(joinL a ys).toArray⟩ := by
  unfold Txt.join PySem.Builtin.Str.glued
  cases ys with
  | nil => rfl
  | cons x r =>
    rw [joinL_cons]
    congr 1
    exact glue_fold a r x
theorem okS_joinL {a : List Nat} (ha : okS a = true) : ∀ {ys : List (List Nat)}, (∀ l ∈ ys, okS l = true) → okS (joinL a ys) = true
  | [], _ => rfl
  | [x], h => h x (by simp)
  | x :: y :: r, h => okS_append (okS_append (h x (by simp)) ha) (okS_joinL ha fun l z => h l (by simp at z ⊢; exact .inr z))
/-- a method on data -/
def rDm (K : PySem.W.Frag) (EX : D → Prop) (f : D → List D → T D) : V → List V → Hp → VK → Prop := fun v vs H Q => ∃ bg S d ds, Wld bg S H ∧ Rep K bg S H d v ∧ Reps K bg S H ds vs ∧ (f d ds).All (Rs K bg S H Q) EX
theorem mt_join_dat : MtR X "str.join" (rDm X.K EX (methD .join)) := by
  intro pins s σ H v vs u us Q I r rs ⟨bg, S, d, ds, W, hd, hds, h⟩
  replace h : (joinD d ds).All (Rs X.K bg S H Q) EX := h
  unfold joinD at h
  split at h
  · rename_i a xs0
    split at h
    · rename_i ys e
      obtain ⟨c, h⟩ := T.all_need h
      have c := of_decide_eq_true c
      obtain ⟨w, rfl, rw'⟩ := hds.one
      obtain ⟨p, xs, ep, sp, hp, rp⟩ := rw'
      obtain ⟨e1, e2⟩ := rp.strs e
      subst e1
      refine mt_join pins s σ H v _ u us Q I r rs ⟨⟨a.toArray⟩, p, ys.map fun l => ⟨l.toArray⟩, hd.1, by rw [ep], .inl (.inl hp), ?_, h.here W ⟨by rw [joinS], okS_joinL hd.2 e2⟩⟩
      have e3 : ((ys.map fun l => (⟨l.toArray⟩ : Str)).map (·.length)) = ys.map (·.length) := by
        rw [List.map_map]
        apply List.map_congr_left
        intro l _
        simp [Str.length]
      have e4 : (⟨a.toArray⟩ : Str).length = a.length := by simp [Str.length]
      rw [e3, e4, List.length_map]
      exact c
    · exact h.elim
  · exact h.elim
/-- a value's built-in type -/
def tyName : Ty → String
  | .none => "NoneType" | .bool => "bool" | .int => "int" | .str => "str" | .list => "list" | .tuple => "tuple"
theorem Rep.ty {K : PySem.W.Frag} {bg : Option (Addr × Addr)} {S : Addr → Prop} {H : Hp} {d : D} {v : V} {t : Ty} (h : Rep K bg S H d v) (e : tyD d = some t) : TyX K H v (.type (tyName t)) := by
  cases d with
  | non => cases e; rw [show v = .non from h]; exact .base .non
  | bl b => cases e; rw [show v = .bl b from h]; exact .base (.bl b)
  | int b => cases e; rw [show v = .int b from h]; exact .base (.int b)
  | str b => cases e; rw [h.1]; exact .base (.str _)
  | lst b =>
    cases e
    obtain ⟨a, xs, ea, sa, pa, _⟩ := h
    rw [ea]
    rcases pa with pa | ⟨o, pa⟩
    · exact .base (.lst pa)
    · exact .base (.frz pa)
  | tup b =>
    cases e
    obtain ⟨a, xs, ea, ta, _⟩ := h
    rw [ea]
    rcases ta with ⟨_, z⟩ | ⟨o, its, n, z, c, _⟩
    · exact .base (.tup z)
    · exact .kTuple z c
  | dct _ => cases e
  | ins _ _ => cases e
  | bag => cases e
  | scr _ _ => cases e
end

/-! ### expressions, by data -/
section
variable (K : PySem.W.Frag) (bg : Option (Addr × Addr)) (S0 : Addr → Prop) (H0 : Hp) (EX : D → Prop)
/-- an expression's value stands for what m comes to; it may be or hold the own objects of A -/
def EvD (A : List Nat) (m : Gam → T D) : TE := fun σ H Q => ∃ O Γ S, At K bg S0 H0 O Γ S σ H ∧ (m Γ).All (fun d => ∀ v S' H', Wld bg S' H' → Ext bg S H S' H' → Rep K bg (Gs S' O σ A) H' d v → Q v H') EX
def EvB (m : Gam → T Bool) : TT := fun σ H Q => ∃ O Γ S, At K bg S0 H0 O Γ S σ H ∧ (m Γ).All (fun b => ∀ S' H', Wld bg S' H' → Ext bg S H S' H' → Q b H') EX
def EvL (A : List Nat) (m : Gam → T (List D)) : TA := fun σ H Q => ∃ O Γ S, At K bg S0 H0 O Γ S σ H ∧ (m Γ).All (fun ds => ∀ vs S' H', Wld bg S' H' → Ext bg S H S' H' → Reps K bg (Gs S' O σ A) H' ds vs → Q vs H') EX
def EvO (m : Gam → T (Option Int)) : TO := fun σ H Q => ∃ O Γ S, At K bg S0 H0 O Γ S σ H ∧ (m Γ).All (fun o => ∀ S' H', Wld bg S' H' → Ext bg S H S' H' → Q o H') EX
end
section
variable {X : Cx} {e : Expr} {t t' : TE}
theorem pe_weak (h : PE X e t) (w : ∀ σ H Q, t' σ H Q → t σ H Q) : PE X e t' := ⟨fun pins s σ H Q I q => h.run pins s σ H Q I (w σ H Q q)⟩
theorem pt_weak {t t' : TT} (h : PT X e t) (w : ∀ σ H Q, t' σ H Q → t σ H Q) : PT X e t' := ⟨fun pins s σ H Q I q => h.run pins s σ H Q I (w σ H Q q)⟩
theorem pw_weak {t t' : TT} (h : PW X e t) (w : ∀ σ H Q, t' σ H Q → t σ H Q) : PW X e t' := ⟨fun wh pins s σ H Q I q => h.run wh pins s σ H Q I (w σ H Q q)⟩
theorem pa_weak {es : List Expr} {t t' : TA} (h : PA X es t) (w : ∀ σ H Q, t' σ H Q → t σ H Q) : PA X es t' := ⟨fun p pins s σ H Q I q => h.run p pins s σ H Q I (w σ H Q q)⟩
theorem po_weak {o : Option Expr} {t t' : TO} (h : PO X o t) (w : ∀ σ H Q, t' σ H Q → t σ H Q) : PO X o t' := ⟨fun pins s σ H Q I q => h.run pins s σ H Q I (w σ H Q q)⟩
theorem pi_weak {tg : Expr} {t t' : TI} (h : PI X tg e t) (w : ∀ σ H R, t' σ H R → t σ H R) : PI X tg e t' := ⟨fun pins s σ H R I q => h.run pins s σ H R I (w σ H R q)⟩
/-- the lists and tuples of a heap have a size -/
def LenOk (K : PySem.W.Frag) (H : Hp) : Prop := (∀ a xs, SqL K H a xs → xs.length ≤ sizeLine) ∧ (∀ a xs, SqT K H a xs → xs.length ≤ sizeLine)
theorem pe_big (h : PE X e t) : PE X e (fun σ H Q => t σ H fun v H1 => LenOk X.K H1 → Q v H1) := ⟨fun pins s σ H Q I q =>
  thn (h.run pins s σ H _ I q) fun u s1 ⟨v, H1, I1, r, q1⟩ => ⟨v, H1, I1, r, q1 ⟨fun a xs z => by
    obtain ⟨its, rv, _, hz⟩ := I1.list z
    exact hz, fun a xs z => by
    obtain ⟨its, rv, _, hz⟩ := I1.tuple z
    exact hz⟩⟩⟩
end
section
variable {K : PySem.W.Frag} {bg : Option (Addr × Addr)} {S0 S S' S2 : Addr → Prop} {H0 H H' H2 : Hp} {O : List Nat} {Γ : Gam} {σ : L2.St} {A : List Nat}
/-- what came behind the own slots of A frozen, seen without them -/
theorem At.back (a : At K bg S0 H0 O Γ S σ H) (W : Wld bg S' H') (E : Ext bg (Gs S O σ A) H S' H') : Wld bg (fun b => S b ∨ (S' b ∧ H b = none)) H' ∧ Ext bg S H (fun b => S b ∨ (S' b ∧ H b = none)) H' ∧ ∀ b, S' b → Gs (fun b => S b ∨ (S' b ∧ H b = none)) O σ A b := by
  refine ⟨⟨fun b z => ?_, fun b e => ?_⟩, ⟨fun _ h => .inl h, fun b z => ?_, E.keep, E.dom⟩, fun b z => ?_⟩
  · rcases z with z | ⟨z, _⟩
    · exact E.dom b (a.wld.dom b z)
    · exact W.dom b z
  · obtain ⟨B, n, ne⟩ := W.bag b e
    refine ⟨B, fun z => ?_, ne⟩
    rcases z with z | ⟨z, _⟩
    · exact (a.wld.bag b e).2.1 z
    · exact n z
  · rcases z with z | ⟨_, z⟩
    · exact .inl z
    · exact .inr z
  · rcases E.new b z with q | q
    · exact Gs.ext (fun _ h => .inl h) b q
    · exact .inl (.inr ⟨z, q⟩)
theorem At.rs {Q : VK} {d : D} (a : At K bg S0 H0 O Γ S2 σ H2) (E : Ext bg S H S2 H2) (h : ∀ v S' H', Wld bg S' H' → Ext bg S H S' H' → Rep K bg (Gs S' O σ A) H' d v → Q v H') : Rs K bg (Gs S2 O σ A) H2 Q d := by
  intro u S' H' W E' r
  obtain ⟨W2, E2, s2⟩ := a.back W E'
  exact h u _ H' W2 (E.trans E2) (r.mono s2 (fun _ _ _ q => q) d u)
end
end Dy

set_option linter.all false
set_option maxRecDepth 10000
set_option autoImplicit false
/-! Dy, part 5: from a text's syntax to the own one; what a body's surroundings must be. -/
namespace Dy
open PySem PySem.Spec PyProof.Rows L2

/-- what is known of the names: the slots, the defs that may be called by name, the module's constants -/
structure Cf where
  N : List Str
  fns : List ((Str × Nat × List Str) × (List Sr × List D))
  glb : List (Str × D)

def seen (sc : Scope) (x : Str) : Bool := match sc.names.lookup x with
  | some .local => true | some .cell => true | some .free => true
  | _ => false
def isLoc (sc : Scope) (x : Str) : Bool := match sc.names.lookup x with
  | some .local => true | some .cell => true
  | _ => false
def isGl (sc : Scope) (x : Str) : Bool := match sc.names.lookup x with
  | some .globalImplicit => true
  | _ => false
def okName (x : Str) : Bool := !(x == ("__debug__" : Str)) && !(x == ("__classdict__" : Str))
def isStar : Expr → Bool
  | .Starred _ _ => true
  | _ => false
/-- built-in names that are known to be free -/
def frees : List Str := ["len", "all", "any", "list", "tuple", "sum", "int", "str", "bool", "isinstance", "range", "enumerate", "zip"]
def bfOf (f : Str) : Option Bf :=
  if f = "len" then some .len else if f = "all" then some .all else if f = "any" then some .any else if f = "list" then some .list else if f = "tuple" then some .tuple
  else if f = "sum" then some .sum else if f = "int" then some .int else none
def mfOf (f : Str) : Option Mf := if f = "join" then some .join else none
def constD : Const → OE
  | .none => .const .non
  | .bool b => .const (.bl b)
  | .int i => .const (.int i)
  | .str s => if okS s.cps.toList then .const (.str s.cps.toList) else .bad
  | _ => .bad
/-- an own block's slots -/
def ownOf (N : List Str) (sc : Scope) : List (Str × Nat) := sc.names.filterMap fun p => match p.2 with
  | .local => (N.idxOf? p.1).map fun i => (p.1, i)
  | .cell => (N.idxOf? p.1).map fun i => (p.1, i)
  | _ => none
mutual
def stripG (c : Cf) (sc : Scope) : Nat → Expr → Option Tg
  | 0, _ => none
  | n + 1, e => match e with
    | .Name x _ => if isLoc sc x then (c.N.idxOf? x).map .n else none
    | .Tuple es _ _ => if es.any isStar then none else (stripGs c sc n es).map .t
    | _ => none
def stripGs (c : Cf) (sc : Scope) : Nat → List Expr → Option (List Tg)
  | _, [] => some []
  | 0, _ :: _ => none
  | n + 1, e :: es => match stripG c sc n e, stripGs c sc n es with
    | some t, some ts => some (t :: ts)
    | _, _ => none
end
def noneE : Expr → Bool
  | .Constant .none _ _ => true
  | _ => false
/-- super() .. has a rule of its own -/
def superE : Expr → Bool
  | .Call (.Name _ _) [] [] _ => true
  | _ => false
def isSetE : Expr → Bool
  | .Set _ _ _ => true
  | _ => false
def isSliceE : Expr → Bool
  | .Slice _ _ _ _ => true
  | _ => false
def tyOf (x : Str) : Option Ty := if x = "int" then some .int else if x = "str" then some .str else if x = "bool" then some .bool else if x = "list" then some .list else if x = "tuple" then some .tuple else none
def typeE (sc : Scope) : Expr → Option Ty
  | .Name x _ => if isGl sc x then tyOf x else none
  | _ => none
def typesE (sc : Scope) : List Expr → Option (List Ty)
  | [] => some []
  | e :: es => match typeE sc e, typesE sc es with
    | some t, some ts => some (t :: ts)
    | _, _ => none
mutual
def stripE (c : Cf) : Nat → Scope → Expr → OE
  | 0, _, _ => .bad
  | n + 1, sc, e => match e with
    | .Constant v _ _ => constD v
    | .Name x _ => if okName x then (if seen sc x then (match c.N.idxOf? x with | some i => .var i | none => .bad)
        else if isGl sc x then (match c.glb.lookup x with | some d => .const d | none => .bad) else .bad) else .bad
    | .Tuple es _ _ => if es.any isStar || decide (1000 < es.length) then .bad else .tup (es.map (stripE c n sc))
    | .List es _ => if es.any isStar || decide (1000 < es.length) then .bad else .lst (es.map (stripE c n sc))
    | .BinOp a op b _ => .bin op (stripE c n sc a) (stripE c n sc b)
    | .UnaryOp .Not a _ => .not_ (stripE c n sc a)
    | .UnaryOp .USub a _ => .neg (stripE c n sc a)
    | .BoolOp .And es _ => .and_ (es.map (stripE c n sc))
    | .BoolOp .Or es _ => .or_ (es.map (stripE c n sc))
    | .Compare a [op] [b] _ => match op with
      | .Is => if noneE b then .isN (stripE c n sc a) else .bad
      | .IsNot => if noneE b then .notN (stripE c n sc a) else .bad
      | _ => if isSetE b then .bad else .cmp op (stripE c n sc a) (stripE c n sc b)
    | .Compare a [op, op'] [b, d] _ => if isSetE d then .bad else .chain op op' (stripE c n sc a) (stripE c n sc b) (stripE c n sc d)
    | .IfExp t a b _ => .ifx (stripT c n sc t) (stripE c n sc a) (stripE c n sc b)
    | .Subscript a (.Slice lo hi none _) _ => .slice (stripE c n sc a) (lo.map (stripE c n sc)) (hi.map (stripE c n sc))
    | .Subscript a (.Slice _ _ (some _) _) _ => .bad
    | .Subscript a i _ => if isSliceE i then .bad else .sub (stripE c n sc a) (stripE c n sc i)
    | .Call (.Name f _) es kws _ => if !okName f || !isGl sc f || es.any isStar || !(kws.all fun q => q.arg.isSome) then .bad else (match c.fns.lookup (f, es.length, kws.filterMap (·.arg)) with
      | some (sel, dfts) => .call f (es.map (stripE c n sc)) (kws.map fun q => stripE c n sc q.value) sel dfts
      | none => if !kws.isEmpty then .bad else if f = "isinstance" then (match es with
          | [a, .Tuple ts _ _] => (match typesE sc ts with
            | some (x :: xs) => if isStar a || decide (1000 < (x :: xs).length) then .bad else .isi (stripE c n sc a) (x :: xs)
            | _ => .bad)
          | [a, t] => (match typeE sc t with
            | some x => if isStar a then .bad else .isi (stripE c n sc a) [x]
            | none => .bad)
          | _ => .bad)
        else (match bfOf f with
          | some b => .bcall b (es.map (stripE c n sc))
          | none => .bad))
    | .Call (.Attribute o m ap) es [] p => if es.any isStar || !(ap.endLine == p.line) then .bad else (match mfOf m with
      | some b => (match b, es with
        | .join, [e] => if superE o then .bad else .meth b (stripE c n sc o) [stripE c n sc e]
        | _, _ => .bad)
      | none => .bad)
    | .ListComp elt [⟨tg, it, ifs, 0⟩] sc2 _ => if blkC c.N sc sc2 (ownOf c.N sc2) then (match stripG c sc2 n tg with
      | some t => .lc (stripE c n (relS sc2 sc) elt) ((ownOf c.N sc2).map (·.2)) t (stripI c n sc tg it) (ifs.map (stripT c n (relS sc2 sc)))
      | none => .bad) else .bad
    | _ => .bad
def stripT (c : Cf) : Nat → Scope → Expr → OT
  | 0, _, _ => .e .bad
  | n + 1, sc, e => match e with
    | .UnaryOp .Not a _ => .not_ (stripT c n sc a)
    | .BoolOp .And es _ => .and_ (es.map (stripT c n sc))
    | .BoolOp .Or es _ => .or_ (es.map (stripT c n sc))
    | .IfExp _ _ _ _ => .e .bad
    | e => .e (stripE c n sc e)
/-- what a for walks -/
def stripI (c : Cf) : Nat → Scope → Expr → Expr → OI
  | 0, _, _, _ => .e .bad
  | n + 1, sc, tg, e => match e with
    | .Call (.Name f _) es [] _ => if isGl sc f && !(es.any isStar) && (c.fns.lookup (f, es.length, [])).isNone then
        (if f = "range" then (match es with | [a] => .rng1 (stripE c n sc a) | [a, b] => .rng2 (stripE c n sc a) (stripE c n sc b) | _ => .e .bad)
        else if f = "enumerate" then (match tg, es with | .Tuple _ _ _, [a] => .enum (stripE c n sc a) | _, _ => .e .bad)
        else if f = "zip" then (match tg, es with | .Tuple _ _ _, [a, b] => .zip (stripE c n sc a) (stripE c n sc b) | _, _ => .e .bad)
        else .e (stripE c n sc e)) else .e (stripE c n sc e)
    | .Set _ _ _ => .e .bad
    | e => .e (stripE c n sc e)
end

/-! ### slots of a target -/
mutual
def tgs : Tg → List Nat
  | .n i => [i]
  | .t ts => tgss ts
def tgss : List Tg → List Nat
  | [] => []
  | t :: ts => tgs t ++ tgss ts
end
mutual
/-- the own slots that stay so when a target is stored -/
def dropT : Tg → List Nat → List Nat
  | .n i, O => O.filter fun j => decide (j ≠ i)
  | .t ts, O => dropTs ts O
def dropTs : List Tg → List Nat → List Nat
  | [], O => O
  | t :: ts, O => dropTs ts (dropT t O)
end
mutual
theorem dropT_sub : ∀ (t : Tg) (O : List Nat) (i : Nat), i ∈ dropT t O → i ∈ O
  | .n _, O, i, h => by unfold dropT at h; exact (List.mem_filter.mp h).1
  | .t ts, O, i, h => by unfold dropT at h; exact dropTs_sub ts O i h
theorem dropTs_sub : ∀ (ts : List Tg) (O : List Nat) (i : Nat), i ∈ dropTs ts O → i ∈ O
  | [], O, i, h => by unfold dropTs at h; exact h
  | t :: ts, O, i, h => by unfold dropTs at h; exact dropT_sub t O i (dropTs_sub ts _ i h)
end
theorem lenTgs : ∀ (ts : List Tg) (ds : List D) (Γ Γ' : Gam), bindTgs ts ds Γ = some Γ' → ds.length = ts.length
  | [], [], _, _, _ => rfl
  | [], _ :: _, _, _, h => by cases h
  | _ :: _, [], _, _, h => by cases h
  | t :: ts, d :: ds, Γ, Γ', h => by
    unfold bindTgs at h
    obtain ⟨Γ1, h1, h2⟩ := Option.bind_eq_some_iff.mp h
    rw [List.length_cons, List.length_cons, lenTgs ts ds Γ1 Γ' h2]
theorem wipe_set {σ : L2.St} {i : Nat} {v : Option V} : ∀ {vs : List Nat}, i ∈ vs → wipe (σ.set i v) vs = wipe σ vs
  | [], h => by cases h
  | w :: vs, h => by
    show (wipe (σ.set i v) vs).set w none = (wipe σ vs).set w none
    by_cases e : i ∈ vs
    · rw [wipe_set e]
    · have : i = w := by
        rcases List.mem_cons.mp h with z | z
        · exact z
        · exact absurd z e
      subst this
      apply List.ext_getElem?
      intro j
      by_cases ij : i = j
      · subst ij
        by_cases hl : i < σ.length
        · rw [List.getElem?_set_self (by rw [wipe_length, List.length_set]; exact hl), List.getElem?_set_self (by rw [wipe_length]; exact hl)]
        · rw [List.getElem?_eq_none (by simp [wipe_length]; omega), List.getElem?_eq_none (by simp [wipe_length]; omega)]
      · rw [List.getElem?_set_ne ij, List.getElem?_set_ne ij]
        -- elsewhere the two agree
        have out : ∀ (τ : L2.St) (us : List Nat), (wipe τ us)[j]? = if j ∈ us then (if j < τ.length then some none else none) else τ[j]? := fun τ us => by
          induction us with
          | nil => simp [wipe]
          | cons u us ih =>
            show ((wipe τ us).set u none)[j]? = _
            by_cases uj : u = j
            · subst uj
              by_cases hl : u < τ.length
              · rw [List.getElem?_set_self (by rw [wipe_length]; exact hl)]
                simp [hl]
              · rw [List.getElem?_eq_none (by simp [wipe_length]; omega)]
                simp [hl]
            · rw [List.getElem?_set_ne uj, ih]
              by_cases m : j ∈ us
              · simp [m]
              · have : ¬ j = u := fun z => uj z.symm
                simp [m, this]
        rw [out, out, List.length_set, List.getElem?_set_ne ij]

/-! ### the own slots that a value may be or hold -/
mutual
def al : OE → List Nat
  | .bad => [] | .const _ => []
  | .var i => [i]
  | .tup es => als es | .lst es => als es
  | .bin _ a b => al a ++ al b
  | .neg _ => [] | .cmp _ _ _ => [] | .chain _ _ _ _ _ => [] | .isN _ => [] | .notN _ => []
  | .and_ es => als es | .or_ es => als es
  | .not_ _ => []
  | .ifx _ a b => al a ++ al b
  | .sub a _ => al a
  | .slice a _ _ => al a
  | .call _ args kws _ _ => als args ++ als kws
  | .bcall f args => match f with
    | .list => als args
    | .tuple => als args
    | _ => []
  | .meth _ _ _ => []
  | .isi _ _ => []
  | .lc elt _ _ it _ => al elt ++ alI it
def als : List OE → List Nat
  | [] => []
  | e :: es => al e ++ als es
def alI : OI → List Nat
  | .e a => al a
  | .rng1 _ => []
  | .rng2 _ _ => []
  | .enum a => al a
  | .zip a b => al a ++ al b
end

/-! ### what surrounds a body -/
/-- a value that the def gives back: its object frozen, or its caller's alone -/
def ResV (K : PySem.W.Frag) (bg : Option (Addr × Addr)) (H : Hp) (S' : Addr → Prop) (H' : Hp) (r : D × Bool) (v : V) : Prop :=
  match r.2 with
  | false => Rep K bg S' H' r.1 v
  | true => ∃ p ds xs, v = .ref p ∧ r.1 = .lst ds ∧ ¬ S' p ∧ H p = none ∧ H' p = some (.lst xs) ∧ Reps K bg S' H' ds xs
/-- an exception that lies so stands for e -/
def RepX (K : PySem.W.Frag) (bg : Option (Addr × Addr)) (S : Addr → Prop) (H : Hp) (e : D) (cls : Value) (dx : Option Addr) : Prop := False
/-- the promise of a def with m parameters, by data -/
def spD (K : PySem.W.Frag) (m : Nat) (f : List D → T (D × Bool)) : Sp := fun vs H Q E => ∃ bg S ds, ds.length = m ∧ Wld bg S H ∧ Reps K bg S H ds vs ∧
  (f ds).All (fun r => ∀ v S' H', Wld bg S' H' → Ext bg S H S' H' → ResV K bg H S' H' r v → Q v H') (fun e => ∀ cls dx S' H', Wld bg S' H' → Ext bg S H S' H' → RepX K bg S' H' e cls dx → E cls dx H')
/-- what a body wishes of exceptions, by data -/
def eX (K : PySem.W.Frag) (bg : Option (Addr × Addr)) (S0 : Addr → Prop) (H0 : Hp) (EX : D → Prop) : XK := fun cls dx H' => ∃ e S', EX e ∧ Wld bg S' H' ∧ Ext bg S0 H0 S' H' ∧ RepX K bg S' H' e cls dx
/-- how a call of that form binds -/
def Shape (K : PySem.W.Frag) (fd : FuncData) (ps : List Str) (n : Nat) (ks : List Str) (sel : List Sr) (dfts : List D) : Prop :=
  ∃ (dv : List V) (du : List Value), Vals dv du ∧ (∀ bg S H, Reps K bg S H dfts dv) ∧ ∀ (s : Shared) (us ws : List Value), K.In s.heap → us.length = n → ws.length = ks.length → BindsTo s fd ⟨us, ks.zip ws⟩ (ps.zip (selL sel us ws du))
structure Good (c : Cf) (C : Calls) (k : Nat) (sc : Scope) (X : Cx) : Prop where
  hN : X.N = c.N
  nd : c.N.Nodup
  hsc : X.env.scope = sc
  calm : X.calm = true
  room : Room k X.A
  own : PassesOwn (model X.prog X.w) X.A X.env X.xe
  glb : ∀ x d, c.glb.lookup x = some d → ∃ u v, X.mg x = some u ∧ RelV v u ∧ ∀ bg S H, Rep X.K bg S H d v
  free : ∀ x, x ∈ frees → X.mg x = none
  kind : X.env.scope.kind = .function
  fns : ∀ f n ks sel dfts, c.fns.lookup (f, n, ks) = some (sel, dfts) → ∃ a fd ps, X.mg f = some (.ref a) ∧ PySem.W.keepIn X.K (.ref a) = true ∧ FnOk X.prog X.w X.K X.mg X.base (L2.CX X.prog X.w) k a fd ps (spD X.K sel.length (C f)) ∧ Shape X.K fd ps n ks sel dfts
/-- where a name of tsc may be stored -/
def TgOk (tsc : Scope) (X : Cx) : Prop := ∀ x, isLoc tsc x = true → Loc X.env.scope x ∧ (X.fn x = true ∨ X.env.scope.names.lookup x = some .local)
theorem isLoc_loc {sc : Scope} {x : Str} (h : isLoc sc x = true) : sc.names.lookup x = some .local ∨ sc.names.lookup x = some .cell := by
  unfold isLoc at h
  split at h <;> first | exact .inl ‹_› | exact .inr ‹_› | cases h
theorem seen_vis {sc : Scope} {x : Str} (h : seen sc x = true) : Vis sc x := by
  unfold seen at h
  split at h <;> first | exact .inl ‹_› | exact .inr (.inl ‹_›) | exact .inr (.inr ‹_›) | cases h
theorem isGl_gl {sc : Scope} {x : Str} (h : isGl sc x = true) : sc.names.lookup x = some .globalImplicit := by
  unfold isGl at h
  split at h <;> first | assumption | cases h
theorem idxOf_get {N : List Str} {x : Str} {i : Nat} (h : N.idxOf? x = some i) : N[i]? = some x := by
  rw [List.idxOf?, List.findIdx?_eq_some_iff_getElem] at h
  obtain ⟨hi, h1, _⟩ := h
  rw [List.getElem?_eq_getElem hi]
  have : N[i] = x := by simpa using h1
  rw [this]
theorem starEach_cons {e : Expr} {es : List Expr} {env : Env} (h : isStar e = false) : starEach (e :: es) env = (false, eval e env) :: starEach es env := by
  cases e <;> first | rfl | cases h
theorem starEach_plain (env : Env) (pos : Pos) : ∀ {es : List Expr}, es.any isStar = false → (backTo pos (starEach es env)).any (·.1) = false
  | [], _ => rfl
  | e :: es, h => by
    rw [List.any_cons, Bool.or_eq_false_iff] at h
    rw [starEach_cons h.1]
    show (false || (backTo pos (starEach es env)).any (·.1)) = false
    rw [starEach_plain env pos h.2]
    rfl

mutual
def gOf (K : PySem.W.Frag) : Tg → TG
  | .n i => gName i
  | .t ts => gTup K ts.length (gsOf K ts)
def gsOf (K : PySem.W.Frag) : List Tg → TGs
  | [] => gNil
  | t :: ts => gCons (gOf K t) (gsOf K ts)
end
theorem assign_plain (env : Env) : ∀ {es : List Expr}, es.any isStar = false → (assignEach es env).findIdx? (·.1) = none ∧ (assignEach es env).length = es.length ∧ ∀ {e : Expr} {r : List Expr}, es = e :: r → (assignEach (e :: r) env).map (·.2) = assign e env :: (assignEach r env).map (·.2)
  | [], _ => ⟨rfl, rfl, fun h => by cases h⟩
  | e :: es, h => by
    rw [List.any_cons, Bool.or_eq_false_iff] at h
    obtain ⟨i1, i2, _⟩ := assign_plain env h.2
    have q : assignEach (e :: es) env = (false, assign e env) :: assignEach es env := by
      cases e <;> first | rfl | (cases h.1)
    refine ⟨?_, ?_, fun {e' r} z => ?_⟩
    · rw [q, List.findIdx?_cons]
      rw [i1]
      rfl
    · rw [q, List.length_cons, i2]; rfl
    · cases z
      rw [q]
      rfl
mutual
theorem pg_ok {c : Cf} {tsc : Scope} {X : Cx} (hN : X.N = c.N) (nd : c.N.Nodup) (hc : X.calm = true) (T : TgOk tsc X) : ∀ (n : Nat) (e : Expr) (t : Tg), stripG c tsc n e = some t → PG X e (gOf X.K t)
  | 0, _, _, h => by cases h
  | n + 1, e, t, h => by
    unfold stripG at h
    split at h
    · rename_i x p
      split at h
      · rename_i hl
        obtain ⟨i, hi, e⟩ := Option.map_eq_some_iff.mp h
        subst e
        obtain ⟨t1, t2⟩ := T x hl
        exact pg_name (by rw [hN]; exact nd) (by rw [hN]; exact idxOf_get hi) t1 t2
      · cases h
    · rename_i es k p
      split at h
      · cases h
      · rename_i hs
        have hs : es.any isStar = false := by simpa using hs
        obtain ⟨ts, ht, e⟩ := Option.map_eq_some_iff.mp h
        subst e
        obtain ⟨q1, q2, _⟩ := assign_plain X.env hs
        obtain ⟨r1, r2⟩ := pgs_ok hN nd hc T n es ts hs ht
        exact pg_tup hc r1 (by rw [q2, r2]) q1
    · cases h
theorem pgs_ok {c : Cf} {tsc : Scope} {X : Cx} (hN : X.N = c.N) (nd : c.N.Nodup) (hc : X.calm = true) (T : TgOk tsc X) : ∀ (n : Nat) (es : List Expr) (ts : List Tg), es.any isStar = false → stripGs c tsc n es = some ts → PGs X es (gsOf X.K ts) ∧ es.length = ts.length
  | _, [], ts, _, h => by
    unfold stripGs at h
    cases h
    exact ⟨pgs_nil, rfl⟩
  | 0, _ :: _, _, _, h => by cases h
  | n + 1, e :: es, ts, hs, h => by
    unfold stripGs at h
    cases h1 : stripG c tsc n e with
    | none => rw [h1] at h; cases h
    | some t =>
      cases h2 : stripGs c tsc n es with
      | none => rw [h1, h2] at h; cases h
      | some r =>
        rw [h1, h2] at h
        cases h
        have hs' := hs
        rw [List.any_cons, Bool.or_eq_false_iff] at hs
        obtain ⟨i1, i2⟩ := pgs_ok hN nd hc T n es r hs.2 h2
        exact ⟨pgs_cons (pg_ok hN nd hc T n e t h1) i1 ((assign_plain X.env hs').2.2 rfl), by rw [List.length_cons, List.length_cons, i2]⟩
end
section
variable {K : PySem.W.Frag} {bg : Option (Addr × Addr)} {S0 S : Addr → Prop} {H0 H : Hp}
mutual
/-- storing data in a target: the slots that lose what they owned are left out of O -/
theorem gOf_ok : ∀ (t : Tg) (d : D) (v : V) (O : List Nat) (Γ Γ' : Gam) (σ : L2.St) (Q : L2.St → Hp → Prop), At K bg S0 H0 O Γ S σ H → Rep K bg S H d v → bindTg t d Γ = some Γ' →
    (∀ σ', At K bg S0 H0 (dropT t O) Γ' S σ' H → (∀ vs : List Nat, (∀ i, i ∈ tgs t → i ∈ vs) → wipe σ' vs = wipe σ vs) → Q σ' H) → gOf K t v σ H Q
  | .n i, d, v, O, Γ, Γ', σ, Q, a, r, h, q => by
    cases h
    exact q _ (by unfold dropT; exact a.put i r) fun vs hv => wipe_set (hv i (by simp [tgs]))
  | .t ts, d, v, O, Γ, Γ', σ, Q, a, r, h, q => by
    unfold bindTg at h
    split at h
    · rename_i ds
      obtain ⟨p, xs, ev, tt, rs⟩ := r
      obtain ⟨len, z⟩ := gsOf_ok ts ds xs O Γ Γ' σ Q a rs h fun σ' s2 s3 => q σ' (by unfold dropT; exact s2) fun vs hv => s3 vs fun i hi => hv i (by unfold tgs; exact hi)
      exact ⟨p, xs, ev, tt.sq, len, z⟩
    · cases h
theorem gsOf_ok : ∀ (ts : List Tg) (ds : List D) (vs : List V) (O : List Nat) (Γ Γ' : Gam) (σ : L2.St) (Q : L2.St → Hp → Prop), At K bg S0 H0 O Γ S σ H → Reps K bg S H ds vs → bindTgs ts ds Γ = some Γ' →
    (∀ σ', At K bg S0 H0 (dropTs ts O) Γ' S σ' H → (∀ vs : List Nat, (∀ i, i ∈ tgss ts → i ∈ vs) → wipe σ' vs = wipe σ vs) → Q σ' H) → vs.length = ts.length ∧ gsOf K ts vs σ H Q
  | [], [], vs, O, Γ, Γ', σ, Q, a, r, h, q => by
    cases h
    rw [show vs = [] from r]
    exact ⟨rfl, rfl, q σ (by unfold dropTs; exact a) fun _ _ => rfl⟩
  | [], _ :: _, _, _, _, _, _, _, _, _, h, _ => by cases h
  | _ :: _, [], _, _, _, _, _, _, _, _, h, _ => by cases h
  | t :: ts, d :: ds, vs, O, Γ, Γ', σ, Q, a, r, h, q => by
    obtain ⟨x, rs, ev, r1, r2⟩ := r
    subst ev
    unfold bindTgs at h
    obtain ⟨Γ1, h1, h2⟩ := Option.bind_eq_some_iff.mp h
    have len : rs.length = ts.length := (lenTgs ts ds Γ1 Γ' h2) ▸ r2.length
    refine ⟨by rw [List.length_cons, List.length_cons, len], x, rs, rfl, ?_⟩
    refine gOf_ok t d x O Γ Γ1 σ _ a r1 h1 fun σ' s2 s3 => ?_
    exact (gsOf_ok ts ds rs _ Γ1 Γ' σ' Q s2 r2 h2 fun σ2 u2 u3 => q σ2 (by unfold dropTs; exact u2) fun vs hv => (u3 vs fun i hi => hv i (by simp [tgss]; exact .inr hi)).trans (s3 vs fun i hi => hv i (by simp [tgss]; exact .inl hi))).2
end
end
end Dy

set_option linter.all false
set_option maxRecDepth 10000
set_option autoImplicit false
/-! Dy, part 6: an expression does what its data says. -/
namespace Dy
open PySem PySem.Spec PyProof.Rows L2

/-- the frozen objects stay -/
structure Sta (S : Addr → Prop) (H : Hp) (S' : Addr → Prop) (H' : Hp) : Prop where
  sub : ∀ a, S a → S' a
  keep : ∀ a o, S a → H a = some o → H' a = some o
theorem Ext.sta {bg : Option (Addr × Addr)} {S S' : Addr → Prop} {H H' : Hp} (E : Ext bg S H S' H') (W : Wld bg S H) : Sta S H S' H' := ⟨E.sub, fun a o s h => E.keep a o h (W.nob s)⟩
theorem Sta.trans {S S' S2 : Addr → Prop} {H H' H2 : Hp} (h : Sta S H S' H') (h' : Sta S' H' S2 H2) : Sta S H S2 H2 := ⟨fun a x => h'.sub a (h.sub a x), fun a o s x => h'.keep a o (h.sub a s) (h.keep a o s x)⟩
theorem Sta.refl {S : Addr → Prop} {H : Hp} : Sta S H S H := ⟨fun _ h => h, fun _ _ _ h => h⟩
/-- the iterator J walks the data ds -/
def IterOk (K : PySem.W.Frag) (bg : Option (Addr × Addr)) (J : It) (ds : List D) (S : Addr → Prop) (H : Hp) : Prop :=
  ∀ (i : Nat) S' H', Wld bg S' H' → Sta S H S' H' → (ds.length ≤ i → J.stop i H') ∧
    ∀ d, ds[i]? = some d → J.go i H' ∧ ∀ x H'', J.yld i H' x H'' → ∃ S'', Wld bg S'' H'' ∧ Ext bg S' H' S'' H'' ∧ Rep K bg S'' H'' d x
def EvI (K : PySem.W.Frag) (bg : Option (Addr × Addr)) (S0 : Addr → Prop) (H0 : Hp) (EX : D → Prop) (A : List Nat) (m : Gam → T (List D)) : TI := fun σ H R => ∃ O Γ S, At K bg S0 H0 O Γ S σ H ∧
  (m Γ).All (fun ds => ∀ J S' H', Wld bg S' H' → Ext bg S H S' H' → IterOk K bg J ds (Gs S' O σ A) H' → ds.length ≤ sizeLine → R J H') EX
section
variable {K : PySem.W.Frag} {bg : Option (Addr × Addr)} {S : Addr → Prop} {H : Hp}
theorem iter_list {ds : List D} {v : V} (W : Wld bg S H) (r : Rep K bg S H (.lst ds) v) : ∃ a xs, v = .ref a ∧ SqL K H a xs ∧ xs.length = ds.length ∧ IterOk K bg (Itl K a) ds S H := by
  obtain ⟨a, xs, ev, sa, ha, rs⟩ := r
  refine ⟨a, xs, ev, .inl ha, rs.length, fun i S' H' W' E' => ?_⟩
  have ha' : SqL K H' a xs := .inl (ha.imp (E'.keep a _ sa) (fun ⟨o, z⟩ => ⟨o, E'.keep a _ sa z⟩))
  refine ⟨fun hi => ⟨xs, ha', by rw [rs.length]; exact hi⟩, fun d hd => ?_⟩
  obtain ⟨x, hx, rx⟩ := (rs.mono E'.sub E'.keep _ _).get hd
  refine ⟨⟨xs, x, ha', hx⟩, fun y H'' q => ?_⟩
  obtain ⟨e, q⟩ := q
  subst e
  have := q xs ha'
  rw [hx] at this
  cases this
  exact ⟨S', W', .refl, rx⟩
theorem iter_tup {ds : List D} {v : V} (W : Wld bg S H) (r : Rep K bg S H (.tup ds) v) : ∃ a xs, v = .ref a ∧ SqT K H a xs ∧ xs.length = ds.length ∧ IterOk K bg (Itt K a) ds S H := by
  obtain ⟨a, xs, ev, ta, rs⟩ := r
  refine ⟨a, xs, ev, ta.sq, rs.length, fun i S' H' W' E' => ?_⟩
  have ha' : SqT K H' a xs := (ta.mono E'.sub E'.keep).sq
  refine ⟨fun hi => ⟨xs, ha', by rw [rs.length]; exact hi⟩, fun d hd => ?_⟩
  obtain ⟨x, hx, rx⟩ := (rs.mono E'.sub E'.keep _ _).get hd
  refine ⟨⟨xs, x, ha', hx⟩, fun y H'' q => ?_⟩
  obtain ⟨e, q⟩ := q
  subst e
  have := q xs ha'
  rw [hx] at this
  cases this
  exact ⟨S', W', .refl, rx⟩
theorem iter_str {l : List Nat} (h : okS l = true) : IterOk K bg (Its ⟨l.toArray⟩) (l.map fun c => D.str [c]) S H := fun i S' H' W' E' => by
  refine ⟨fun hi => ?_, fun d hd => ?_⟩
  · rw [List.length_map] at hi
    show (List.toArray l).size ≤ i
    rw [List.size_toArray]; exact hi
  · rw [List.getElem?_map] at hd
    obtain ⟨c, hc, e⟩ := Option.map_eq_some_iff.mp hd
    subst e
    refine ⟨?_, fun y H'' q => ?_⟩
    · show i < (List.toArray l).size
      rw [List.size_toArray]; exact (List.getElem?_eq_some_iff.mp hc).1
    · obtain ⟨e, c', hc', e'⟩ := q
      subst e e'
      have : c' = c := by
        have h2 : (List.toArray l)[i]? = some c' := hc'
        rw [List.getElem?_toArray, hc] at h2
        exact (Option.some.inj h2).symm
      subst this
      refine ⟨S', W', .refl, rfl, ?_⟩
      have := List.all_eq_true.mp h c' (List.mem_of_getElem? hc)
      show (List.all [c'] _) = true
      rw [List.all_cons, this]; rfl
theorem iter_rng (lo : Int) (n : Nat) : IterOk K bg (Itr lo n) (rangeD lo n) S H := fun i S' H' W' E' => by
  have hl : (rangeD lo n).length = n := by unfold rangeD; rw [List.length_map, List.length_range]
  refine ⟨fun hi => by rw [hl] at hi; exact hi, fun d hd => ?_⟩
  have hi : i < n := by rw [← hl]; exact (List.getElem?_eq_some_iff.mp hd).1
  unfold rangeD at hd
  rw [List.getElem?_map, List.getElem?_range hi] at hd
  cases hd
  refine ⟨hi, fun y H'' q => ?_⟩
  obtain ⟨e, e'⟩ := q
  subst e e'
  exact ⟨S', W', .refl, rfl⟩
theorem enumD_get : ∀ (k : Nat) (ds : List D) (i : Nat), (enumD k ds)[i]? = (ds[i]?).map fun d => D.tup [.int ((k + i : Nat) : Int), d]
  | k, [], i => by simp [enumD]
  | k, d :: ds, 0 => by simp [enumD]
  | k, d :: ds, i + 1 => by
    show (enumD (k + 1) ds)[i]? = _
    rw [enumD_get (k + 1) ds i]
    rw [List.getElem?_cons_succ, show k + 1 + i = k + (i + 1) by omega]
theorem enumD_len : ∀ (k : Nat) (ds : List D), (enumD k ds).length = ds.length
  | _, [] => rfl
  | k, d :: ds => by rw [enumD, List.length_cons, List.length_cons, enumD_len (k + 1) ds]
theorem Rep.pair {d e : D} {x y : V} {T : Addr} (W : Wld bg S H) (hT : H T = none) (rx : Rep K bg S H d x) (ry : Rep K bg S H e y) : Rep K bg (plus S T) (upd H T (.tup [x, y])) (.tup [d, e]) (.ref T) :=
  ⟨T, [x, y], rfl, .inl ⟨.inr rfl, upd_same⟩, x, [y], rfl, (Ext.laid (bg := bg) T _ hT).rep W rx, y, [], rfl, (Ext.laid (bg := bg) T _ hT).rep W ry, rfl⟩
theorem iter_enum {ds : List D} {v : V} (W : Wld bg S H) (r : Rep K bg S H (.lst ds) v) : ∃ a xs, v = .ref a ∧ SqL K H a xs ∧ xs.length = ds.length ∧ IterOk K bg (Ite K a) (enumD 0 ds) S H := by
  obtain ⟨a, xs, ev, sa, ha, rs⟩ := r
  refine ⟨a, xs, ev, .inl ha, rs.length, fun i S' H' W' E' => ?_⟩
  have ha' : SqL K H' a xs := .inl (ha.imp (E'.keep a _ sa) (fun ⟨o, z⟩ => ⟨o, E'.keep a _ sa z⟩))
  refine ⟨fun hi => ⟨xs, ha', by rw [enumD_len] at hi; rw [rs.length]; exact hi⟩, fun d hd => ?_⟩
  rw [enumD_get] at hd
  obtain ⟨d', hd', e⟩ := Option.map_eq_some_iff.mp hd
  subst e
  obtain ⟨x, hx, rx⟩ := (rs.mono E'.sub E'.keep _ _).get hd'
  refine ⟨⟨xs, x, ha', hx⟩, fun y H'' q => ?_⟩
  obtain ⟨T, x', e1, hT, e2, q⟩ := q
  have := q xs ha'
  rw [hx] at this
  cases this
  subst e1 e2
  refine ⟨plus S' T, W'.laid hT, .laid T _ hT, ?_⟩
  have : Rep K bg S' H' (.int ((0 + i : Nat) : Int)) (.int (i : Nat)) := by rw [Nat.zero_add]; rfl
  exact Rep.pair W' hT this rx
theorem zipD_get : ∀ (as bs : List D) (i : Nat) (d : D), (zipD as bs)[i]? = some d → ∃ a b, as[i]? = some a ∧ bs[i]? = some b ∧ d = .tup [a, b]
  | [], _, i, d, h => by simp [zipD] at h
  | _ :: _, [], i, d, h => by simp [zipD] at h
  | a :: as, b :: bs, 0, d, h => by
    have : D.tup [a, b] = d := by simpa [zipD] using h
    exact ⟨a, b, rfl, rfl, this.symm⟩
  | a :: as, b :: bs, i + 1, d, h => zipD_get as bs i d (by simpa [zipD] using h)
theorem zipD_len : ∀ (as bs : List D), (zipD as bs).length = min as.length bs.length
  | [], bs => by simp [zipD]
  | _ :: _, [] => by simp [zipD]
  | a :: as, b :: bs => by
    show (zipD as bs).length + 1 = _
    rw [zipD_len as bs, List.length_cons, List.length_cons]
    omega
theorem iter_zipL {ds es : List D} {v w : V} (W : Wld bg S H) (r : Rep K bg S H (.lst ds) v) (r2 : Rep K bg S H (.lst es) w) : ∃ a b xs ys, v = .ref a ∧ w = .ref b ∧ SqL K H a xs ∧ SqL K H b ys ∧ xs.length = ds.length ∧ IterOk K bg (Itz K a b) (zipD ds es) S H := by
  obtain ⟨a, xs, ev, sa, ha, rs⟩ := r
  obtain ⟨b, ys, ew, sb, hb, rs2⟩ := r2
  refine ⟨a, b, xs, ys, ev, ew, .inl ha, .inl hb, rs.length, fun i S' H' W' E' => ?_⟩
  have ha' : SqL K H' a xs := .inl (ha.imp (E'.keep a _ sa) (fun ⟨o, z⟩ => ⟨o, E'.keep a _ sa z⟩))
  have hb' : SqL K H' b ys := .inl (hb.imp (E'.keep b _ sb) (fun ⟨o, z⟩ => ⟨o, E'.keep b _ sb z⟩))
  refine ⟨fun hi => ⟨xs, ys, ha', hb', by rw [zipD_len] at hi; rw [rs.length, rs2.length]; omega⟩, fun d hd => ?_⟩
  obtain ⟨d1, d2, h1, h2, e⟩ := zipD_get _ _ _ _ hd
  subst e
  obtain ⟨x, hx, rx⟩ := (rs.mono E'.sub E'.keep _ _).get h1
  obtain ⟨y, hy, ry⟩ := (rs2.mono E'.sub E'.keep _ _).get h2
  refine ⟨⟨xs, ys, x, y, ha', hb', hx, hy⟩, fun z H'' q => ?_⟩
  obtain ⟨T, x', y', e1, hT, e2, q1, q2⟩ := q
  have := q1 xs ha'
  rw [hx] at this
  cases this
  have := q2 ys hb'
  rw [hy] at this
  cases this
  subst e1 e2
  exact ⟨plus S' T, W'.laid hT, .laid T _ hT, Rep.pair W' hT rx ry⟩
theorem iter_zipT {ds es : List D} {v w : V} (W : Wld bg S H) (r : Rep K bg S H (.tup ds) v) (r2 : Rep K bg S H (.tup es) w) : ∃ a b xs ys, v = .ref a ∧ w = .ref b ∧ SqT K H a xs ∧ SqT K H b ys ∧ xs.length = ds.length ∧ IterOk K bg (RZ.ItzT K a b) (zipD ds es) S H := by
  obtain ⟨a, xs, ev, ta, rs⟩ := r
  obtain ⟨b, ys, ew, tb, rs2⟩ := r2
  refine ⟨a, b, xs, ys, ev, ew, ta.sq, tb.sq, rs.length, fun i S' H' W' E' => ?_⟩
  have ha' : SqT K H' a xs := (ta.mono E'.sub E'.keep).sq
  have hb' : SqT K H' b ys := (tb.mono E'.sub E'.keep).sq
  refine ⟨fun hi => ⟨xs, ys, ha', hb', by rw [zipD_len] at hi; rw [rs.length, rs2.length]; omega⟩, fun d hd => ?_⟩
  obtain ⟨d1, d2, h1, h2, e⟩ := zipD_get _ _ _ _ hd
  subst e
  obtain ⟨x, hx, rx⟩ := (rs.mono E'.sub E'.keep _ _).get h1
  obtain ⟨y, hy, ry⟩ := (rs2.mono E'.sub E'.keep _ _).get h2
  refine ⟨⟨xs, ys, x, y, ha', hb', hx, hy⟩, fun z H'' q => ?_⟩
  obtain ⟨T, x', y', e1, hT, e2, q1, q2⟩ := q
  have := q1 xs ha'
  rw [hx] at this
  cases this
  have := q2 ys hb'
  rw [hy] at this
  cases this
  subst e1 e2
  exact ⟨plus S' T, W'.laid hT, .laid T _ hT, Rep.pair W' hT rx ry⟩
/-- truth -/
theorem truth_ok {d : D} {v : V} {P : Bool → Prop} {E : D → Prop} (r : Rep K bg S H d v) (h : (truthD d).All P E) : ∃ k, TruV K v H k ∧ P k := by
  have hl := lineM
  cases d with
  | non => rw [show v = .non from r]; exact ⟨false, rfl, h⟩
  | bl b => rw [show v = .bl b from r]; exact ⟨b, rfl, h⟩
  | int i => rw [show v = .int i from r]; exact ⟨i != 0, rfl, h⟩
  | str l =>
    obtain ⟨c, h⟩ := T.all_need h
    have c := of_decide_eq_true c
    rw [r.1]
    refine ⟨!l.isEmpty, ⟨?_, ?_⟩, h⟩
    · show (List.toArray l).size ≤ sizeLine
      rw [List.size_toArray, ← hl]; exact c
    · show _ = (((List.toArray l).size : Int) != 0)
      rw [List.size_toArray]
      cases l with
      | nil => rfl
      | cons x l' =>
        have : (((x :: l').length : Int) != 0) = true := by simp; omega
        rw [this]; rfl
  | lst ds =>
    obtain ⟨a, xs, ev, sa, ha, rs⟩ := r
    rw [ev]
    refine ⟨!ds.isEmpty, .inl ⟨xs, .inl ha, ?_⟩, h⟩
    have := rs.length
    cases ds <;> cases xs <;> first | rfl | simp at this
  | tup ds =>
    obtain ⟨a, xs, ev, ta, rs⟩ := r
    rw [ev]
    refine ⟨!ds.isEmpty, .inr (.inl ⟨xs, ta.sq, ?_⟩), h⟩
    have := rs.length
    cases ds <;> cases xs <;> first | rfl | simp at this
  | dct _ => exact h.elim
  | ins _ _ => exact h.elim
  | bag => exact h.elim
  | scr _ _ => exact h.elim
end
theorem binD_ne {op : Operator} {x y : D} : True := trivial
/-- a comparison's outcomes are True and False -/
theorem blT_bl {P : D → Prop} {E : D → Prop} {o : Option Bool} (h : (blT o).All P E) : (blT o).All (fun d => P d ∧ ∃ k, d = .bl k) E := by
  cases o with
  | none => exact h
  | some b => exact ⟨h, b, rfl⟩
theorem cmpD_bl {op : CmpOp} {x y : D} {P : D → Prop} {E : D → Prop} (h : (cmpD op x y).All P E) : (cmpD op x y).All (fun d => P d ∧ ∃ k, d = .bl k) E := by
  unfold cmpD at h ⊢
  split at h <;> first | exact blT_bl h | exact ⟨h, _, rfl⟩ | exact h.elim

/-! ### values that are their caller's alone -/
/-- r.2: a list that none else knows of -/
def ResN (K : PySem.W.Frag) (bg : Option (Addr × Addr)) (G : Addr → Prop) (H H' : Hp) (r : D × Bool) (v : V) : Prop :=
  match r.2 with
  | false => Rep K bg G H' r.1 v
  | true => ∃ p ds xs, v = .ref p ∧ r.1 = .lst ds ∧ ¬ G p ∧ H p = none ∧ H' p = some (.lst xs) ∧ Reps K bg G H' ds xs
def EvN (K : PySem.W.Frag) (bg : Option (Addr × Addr)) (S0 : Addr → Prop) (H0 : Hp) (EX : D → Prop) (A : List Nat) (m : Gam → T (D × Bool)) : TE := fun σ H Q => ∃ O Γ S, At K bg S0 H0 O Γ S σ H ∧
  (m Γ).All (fun r => ∀ v S' H', Wld bg S' H' → Ext bg S H S' H' → ResN K bg (Gs S' O σ A) H H' r v → Q v H') EX
/-- frozen at last -/
theorem Wld.froze {bg : Option (Addr × Addr)} {S S' : Addr → Prop} {H H' : Hp} {p : Addr} (W0 : Wld bg S H) (W : Wld bg S' H') (h0 : H p = none) (hp : H' p ≠ none) : Wld bg (plus S' p) H' := ⟨fun b z => by
  rcases z with z | z
  · exact W.dom b z
  · rw [z]; exact hp, fun b eb => by
  obtain ⟨B, n, ne⟩ := W.bag b eb
  refine ⟨B, fun z => ?_, ne⟩
  rcases z with z | z
  · exact n z
  · exact ((W0.bag b eb).1.there).1 (z ▸ h0)⟩
theorem Ext.froze {bg : Option (Addr × Addr)} {S S' : Addr → Prop} {H H' : Hp} {p : Addr} (E : Ext bg S H S' H') (h0 : H p = none) : Ext bg S H (plus S' p) H' := ⟨fun b z => .inl (E.sub b z), fun b z => by
  rcases z with z | z
  · exact E.new b z
  · rw [z]; exact .inr h0, E.keep, E.dom⟩
theorem evN_D {K : PySem.W.Frag} {bg : Option (Addr × Addr)} {S0 : Addr → Prop} {H0 : Hp} {EX : D → Prop} {A : List Nat} {m : Gam → T (D × Bool)} {σ : L2.St} {H : Hp} {Q : VK} (h : EvD K bg S0 H0 EX A (fun Γ => (m Γ).bind fun r => .ret r.1) σ H Q) : EvN K bg S0 H0 EX A m σ H Q := by
  obtain ⟨O, Γ, S, a, q⟩ := h
  refine ⟨O, Γ, S, a, T.all_imp (T.all_bind.mp q) fun r hr v S' H' W E rv => ?_⟩
  obtain ⟨d, fr⟩ := r
  cases fr with
  | false => exact hr v S' H' W E rv
  | true =>
    obtain ⟨p, ds, xs, ev, ed, np, hp0, hp, rr⟩ := rv
    simp only at ed
    subst ev ed
    exact hr _ (plus S' p) H' (Wld.froze a.wld W hp0 (by rw [hp]; simp)) (E.froze hp0) ⟨p, xs, rfl, .inl (.inr rfl), .inl hp, rr.mono (Gs.ext fun _ h => .inl h) (fun _ _ _ z => z) ds xs⟩
theorem evD_N {K : PySem.W.Frag} {bg : Option (Addr × Addr)} {S0 : Addr → Prop} {H0 : Hp} {EX : D → Prop} {A : List Nat} {m : Gam → T D} {σ : L2.St} {H : Hp} {Q : VK} (h : EvN K bg S0 H0 EX A (fun Γ => (m Γ).bind fun d => .ret (d, false)) σ H Q) : EvD K bg S0 H0 EX A m σ H Q := by
  obtain ⟨O, Γ, S, a, q⟩ := h
  exact ⟨O, Γ, S, a, T.all_imp (T.all_bind.mp q) fun r hr v S' H' W E rv => hr v S' H' W E rv⟩
end Dy

set_option linter.all false
set_option maxRecDepth 10000
set_option autoImplicit false
/-! Dy, part 7: expressions, one construct after the other. -/
namespace Dy
open PySem PySem.Spec PyProof.Rows L2
section
variable {X : Cx} {bg : Option (Addr × Addr)} {S0 : Addr → Prop} {H0 : Hp} {EX : D → Prop} {A : List Nat}
theorem pe_false {e : Expr} {m : Gam → T D} (h : ∀ Γ, m Γ = .bad) : PE X e (EvD X.K bg S0 H0 EX A m) := ⟨fun pins s σ H Q I ⟨O, Γ, S, a, q⟩ => by rw [h] at q; exact q.elim⟩
theorem pt_false {e : Expr} {m : Gam → T Bool} (h : ∀ Γ, m Γ = .bad) : PT X e (EvB X.K bg S0 H0 EX m) := ⟨fun pins s σ H Q I ⟨O, Γ, S, a, q⟩ => by rw [h] at q; exact q.elim⟩
theorem pw_false {e : Expr} {m : Gam → T Bool} (h : ∀ Γ, m Γ = .bad) : PW X e (EvB X.K bg S0 H0 EX m) := ⟨fun wh pins s σ H Q I ⟨O, Γ, S, a, q⟩ => by rw [h] at q; exact q.elim⟩
theorem pi_false {tg e : Expr} {m : Gam → T (List D)} (h : ∀ Γ, m Γ = .bad) : PI X tg e (EvI X.K bg S0 H0 EX A m) := ⟨fun pins s σ H Q I ⟨O, Γ, S, a, q⟩ => by rw [h] at q; exact q.elim⟩
theorem ev_sub {K : PySem.W.Frag} {A' : List Nat} {m : Gam → T D} (h : ∀ i, i ∈ A' → i ∈ A) {σ : L2.St} {H : Hp} {Q : VK} (q : EvD K bg S0 H0 EX A m σ H Q) : EvD K bg S0 H0 EX A' m σ H Q := by
  obtain ⟨O, Γ, S, a, q⟩ := q
  exact ⟨O, Γ, S, a, T.all_imp q fun d k v S' H' W E r => k v S' H' W E (r.mono (Gs.sub h) (fun _ _ _ z => z) d v)⟩
/-- a flat value is in no one's objects -/
theorem ev_fun {K : PySem.W.Frag} {m m' : Gam → T D} (h : ∀ Γ, m Γ = m' Γ) {σ : L2.St} {H : Hp} {Q : VK} (q : EvD K bg S0 H0 EX A m σ H Q) : EvD K bg S0 H0 EX A m' σ H Q := by
  obtain ⟨O, Γ, S, a, q⟩ := q
  exact ⟨O, Γ, S, a, by rw [← h]; exact q⟩
theorem ev_here {K : PySem.W.Frag} {σ : L2.St} {H : Hp} {Q : VK} {d : D} {v : V} {O : List Nat} {Γ : Gam} {S : Addr → Prop} (a : At K bg S0 H0 O Γ S σ H) (k : ∀ v S' H', Wld bg S' H' → Ext bg S H S' H' → Rep K bg (Gs S' O σ A) H' d v → Q v H') (r : Rep K bg (Gs S O σ A) H d v) : Q v H := k v S H a.wld .refl r

/-! ### constants, names -/
theorem k_const {e : Expr} {v : V} {d : D} (h : PE X e (tC v)) (r : ∀ S H, Rep X.K bg S H d v) : PE X e (EvD X.K bg S0 H0 EX A fun _ => .ret d) :=
  pe_weak h fun σ H Q ⟨O, Γ, S, a, q⟩ => ev_here (d := d) a q (r _ _)
theorem k_var {x : Str} {i : Nat} {pos : Pos} {C : Calls} (hN : X.N[i]? = some x) (hv : Vis X.env.scope x) (hd : (x == ("__debug__" : Str)) = false) (hcd : (x == ("__classdict__" : Str)) = false) (hA : i ∈ A) :
    PE X (.Name x pos) (EvD X.K bg S0 H0 EX A (evE C (.var i))) := by
  refine pe_weak (pe_var hN hv hd hcd) fun σ H Q ⟨O, Γ, S, a, q⟩ => ?_
  unfold evE at q
  split at q
  · rename_i d hd
    by_cases m : i ∈ O
    · obtain ⟨d', v, g, e, p, ds, xs, ev, ed, ns, h0, hp, r⟩ := a.abs.own i m
      rw [hd] at g
      cases g
      refine ⟨v, e, ?_⟩
      subst ev ed
      exact ev_here (d := .lst ds) a q ⟨p, xs, rfl, .inr ⟨i, hA, m, e⟩, .inl hp, r.mono (fun _ h => .inl h) (fun _ _ _ z => z) ds xs⟩
    · obtain ⟨v, e, r⟩ := a.abs.dat i d m hd
      exact ⟨v, e, ev_here (d := d) a q (r.mono (fun _ h => .inl h) (fun _ _ _ z => z) d v)⟩
  · exact q.elim

/-! ### two operands -/
section
variable {K : PySem.W.Frag} {ma mb : Gam → T D} {f : D → D → T D} {σ : L2.St} {H : Hp} {Q : VK}
theorem r_two (q : EvD K bg S0 H0 EX A (fun Γ => (ma Γ).bind fun x => (mb Γ).bind fun y => f x y) σ H Q) : tOp (rD2 K EX f) (EvD K bg S0 H0 EX A ma) (EvD K bg S0 H0 EX A mb) σ H Q := by
  obtain ⟨O, Γ, S, a, q⟩ := q
  refine ⟨O, Γ, S, a, T.all_imp (T.all_bind.mp q) fun x hx v S1 H1 W1 E1 r1 => ?_⟩
  have a1 := a.later E1 W1
  refine ⟨O, Γ, S1, a1, T.all_imp (T.all_bind.mp hx) fun y hy w S2 H2 W2 E2 r2 => ?_⟩
  have a2 := a1.later E2 W2
  exact ⟨bg, Gs S2 O σ A, x, y, a2.gwld A, a1.rep E2 r1, r2, T.all_imp hy fun d hd => a2.rs (E1.trans E2) hd⟩
end
theorem k_bin {ea eb : Expr} {op : Operator} {pos : Pos} {C : Calls} {a b : OE} (ha : PE X ea (EvD X.K bg S0 H0 EX A (evE C a))) (hb : PE X eb (EvD X.K bg S0 H0 EX A (evE C b))) : PE X (.BinOp ea op eb pos) (EvD X.K bg S0 H0 EX A (evE C (.bin op a b))) :=
  pe_weak (pe_op (op_bin op) ha hb) fun σ H Q q => r_two (ev_fun (fun Γ => by rw [evE]) q)
theorem behind_none {b : Expr} (h : ∀ es k p, b ≠ .Set es k p) (op : CmpOp) : behindInMarks op b = false := by
  cases b <;> first | rfl | exact absurd rfl (h _ _ _)
theorem room65 {k : Nat} (hr : Room k X.A) : X.A.units + 65 < cLine := by
  have := hr.un
  omega
/-- a flat result: the operands may be anything -/
theorem cmpD_flat {K : PySem.W.Frag} {op : CmpOp} {A' : List Nat} {ma mb : Gam → T D} {σ : L2.St} {H : Hp} {Q : VK} (q : EvD K bg S0 H0 EX A (fun Γ => (ma Γ).bind fun x => (mb Γ).bind fun y => cmpD op x y) σ H Q) :
    EvD K bg S0 H0 EX A' (fun Γ => (ma Γ).bind fun x => (mb Γ).bind fun y => cmpD op x y) σ H Q := by
  obtain ⟨O, Γ, S, a, q⟩ := q
  refine ⟨O, Γ, S, a, T.all_bind.mpr (T.all_imp (T.all_bind.mp q) fun x hx => T.all_bind.mpr (T.all_imp (T.all_bind.mp hx) fun y hy => T.all_imp (cmpD_bl hy) fun d hd v S' H' W E r => ?_))⟩
  obtain ⟨hd, k, e⟩ := hd
  subst e
  exact hd v S' H' W E r
theorem k_cmp {ea eb : Expr} {op : CmpOp} {pos : Pos} {C : Calls} {a b : OE} {k : Nat} (hr : Room k X.A) (A' : List Nat) (hs : ∀ es k p, eb ≠ .Set es k p) (ha : PE X ea (EvD X.K bg S0 H0 EX A' (evE C a))) (hb : PE X eb (EvD X.K bg S0 H0 EX A' (evE C b))) :
    PE X (.Compare ea [op] [eb] pos) (EvD X.K bg S0 H0 EX A (evE C (.cmp op a b))) :=
  pe_weak (pe_cmpR (op_cmp op (room65 hr)) ha hb (behind_none hs op)) fun σ H Q q => r_two (cmpD_flat (ev_fun (fun Γ => by rw [evE]) q))
theorem kt_cmp {ea eb : Expr} {op : CmpOp} {pos : Pos} {C : Calls} {a b : OE} {k : Nat} (hr : Room k X.A) (A' : List Nat) (hs : ∀ es k p, eb ≠ .Set es k p) (ha : PE X ea (EvD X.K bg S0 H0 EX A' (evE C a))) (hb : PE X eb (EvD X.K bg S0 H0 EX A' (evE C b))) :
    PT X (.Compare ea [op] [eb] pos) (EvB X.K bg S0 H0 EX (evT C (.e (.cmp op a b)))) := by
  refine pt_weak (pt_cmpR (op_cmp (EX := EX) op (room65 hr)) ha hb (behind_none hs op)) fun σ H Q q => ?_
  obtain ⟨O, Γ, S, a0, q⟩ := q
  refine r_two (f := cmpD op) ⟨O, Γ, S, a0, ?_⟩
  unfold evT evE at q
  have q := T.all_bind.mp (T.all_bind.mp q)
  refine T.all_bind.mpr (T.all_imp q fun x hx => T.all_bind.mpr (T.all_imp (T.all_bind.mp hx) fun y hy => T.all_imp (cmpD_bl hy) fun d hd v S' H' W E r => ?_))
  obtain ⟨hd, kk, e⟩ := hd
  subst e
  exact ⟨kk, r, hd S' H' W E⟩
theorem isN_eq {K : PySem.W.Frag} {S : Addr → Prop} {H : Hp} {d : D} {v : V} (r : Rep K bg S H d v) : decide (v = .non) = isNonD d := by
  cases d with
  | non => rw [show v = .non from r]; rfl
  | bl b => rw [show v = .bl b from r]; rfl
  | int b => rw [show v = .int b from r]; rfl
  | str b => rw [r.1]; rfl
  | lst b => obtain ⟨a, xs, ev, _⟩ := r; rw [ev]; rfl
  | tup b => obtain ⟨a, xs, ev, _⟩ := r; rw [ev]; rfl
  | dct _ => exact r.elim
  | ins _ _ => exact r.elim
  | bag => obtain ⟨b, _, ev⟩ := r; rw [ev]; rfl
  | scr _ _ => obtain ⟨ev, _⟩ := r; rw [ev]; rfl
theorem k_isN {ea eb : Expr} {pos : Pos} {C : Calls} {a : OE} (A' : List Nat) (hb : noneE eb = true) (ha : PE X ea (EvD X.K bg S0 H0 EX A' (evE C a))) :
    PE X (.Compare ea [.Is] [eb] pos) (EvD X.K bg S0 H0 EX A (evE C (.isN a))) ∧ PE X (.Compare ea [.IsNot] [eb] pos) (EvD X.K bg S0 H0 EX A (evE C (.notN a))) := by
  unfold noneE at hb
  split at hb
  · refine ⟨pe_weak (pe_cmp (pc_isN ha) rfl) fun σ H Q ⟨O, Γ, S, a0, q⟩ => ?_, pe_weak (pe_cmp (pc_notN ha) rfl) fun σ H Q ⟨O, Γ, S, a0, q⟩ => ?_⟩
    · unfold evE at q
      refine ⟨O, Γ, S, a0, T.all_imp (T.all_bind.mp q) fun x hx v S1 H1 W1 E1 r1 => ?_⟩
      exact hx _ S1 H1 W1 E1 (by show V.bl _ = V.bl _; rw [isN_eq r1])
    · unfold evE at q
      refine ⟨O, Γ, S, a0, T.all_imp (T.all_bind.mp q) fun x hx v S1 H1 W1 E1 r1 => ?_⟩
      exact hx _ S1 H1 W1 E1 (by show V.bl _ = V.bl _; rw [isN_eq r1])
  · cases hb
theorem kt_isN {ea eb : Expr} {pos : Pos} {C : Calls} {a : OE} (A' : List Nat) (hb : noneE eb = true) (ha : PE X ea (EvD X.K bg S0 H0 EX A' (evE C a))) :
    PT X (.Compare ea [.Is] [eb] pos) (EvB X.K bg S0 H0 EX (evT C (.e (.isN a)))) ∧ PT X (.Compare ea [.IsNot] [eb] pos) (EvB X.K bg S0 H0 EX (evT C (.e (.notN a)))) := by
  unfold noneE at hb
  split at hb
  · refine ⟨pt_weak (pt_cmp (pc_isN ha) rfl) fun σ H Q ⟨O, Γ, S, a0, q⟩ => ?_, pt_weak (pt_cmp (pc_notN ha) rfl) fun σ H Q ⟨O, Γ, S, a0, q⟩ => ?_⟩
    · unfold evT evE at q
      refine ⟨O, Γ, S, a0, T.all_imp (T.all_bind.mp (T.all_bind.mp q)) fun x hx v S1 H1 W1 E1 r1 => ?_⟩
      exact ⟨_, rfl, by rw [isN_eq r1]; exact hx S1 H1 W1 E1⟩
    · unfold evT evE at q
      refine ⟨O, Γ, S, a0, T.all_imp (T.all_bind.mp (T.all_bind.mp q)) fun x hx v S1 H1 W1 E1 r1 => ?_⟩
      exact ⟨_, rfl, by rw [isN_eq r1]; exact hx S1 H1 W1 E1⟩
  · cases hb
theorem k_chain {ea eb ec : Expr} {op op' : CmpOp} {pos : Pos} {C : Calls} {a b d : OE} {k : Nat} (hr : Room k X.A) (A' : List Nat) (hs : ∀ es k p, ec ≠ .Set es k p) (ha : PE X ea (EvD X.K bg S0 H0 EX A' (evE C a))) (hb : PE X eb (EvD X.K bg S0 H0 EX A' (evE C b)))
    (hc : PE X ec (EvD X.K bg S0 H0 EX A' (evE C d))) :
    PE X (.Compare ea [op, op'] [eb, ec] pos) (EvD X.K bg S0 H0 EX A (evE C (.chain op op' a b d))) ∧ PT X (.Compare ea [op, op'] [eb, ec] pos) (EvB X.K bg S0 H0 EX (evT C (.e (.chain op op' a b d)))) := by
  have hm : lastMarks [op, op'] [eb, ec] = false := by
    show lastMarks [op'] [ec] = false
    exact behind_none hs op'
  refine ⟨pe_weak (pe_chain (op_cmp (EX := EX) op (room65 hr)) (op_cmp (EX := EX) op' (room65 hr)) ha hb hc hm) fun σ H Q ⟨O, Γ, S, a0, q⟩ => ?_, pt_weak (pt_chain (op_cmp (EX := EX) op (room65 hr)) (op_cmp (EX := EX) op' (room65 hr)) ha hb hc hm) fun σ H Q ⟨O, Γ, S, a0, q⟩ => ?_⟩
  · unfold evE at q
    refine ⟨O, Γ, S, a0, T.all_imp (T.all_bind.mp q) fun x hx v S1 H1 W1 E1 r1 => ?_⟩
    have a1 := a0.later E1 W1
    refine ⟨O, Γ, S1, a1, T.all_imp (T.all_bind.mp hx) fun y hy w S2 H2 W2 E2 r2 => ?_⟩
    have a2 := a1.later E2 W2
    refine ⟨bg, Gs S2 O σ A', x, y, a2.gwld A', a1.rep E2 r1, r2, T.all_imp (cmpD_bl (T.all_bind.mp hy)) fun z hz => ?_⟩
    obtain ⟨hz, kk, e⟩ := hz
    subst e
    refine fun u S3 H3 W3 E3 r3 => ⟨kk, r3, ?_⟩
    obtain ⟨W3', E3', s3⟩ := a2.back W3 E3
    have a3 := a2.later E3' W3'
    cases kk with
    | false => exact hz _ _ H3 W3' (E1.trans (E2.trans E3')) rfl
    | true =>
      refine ⟨O, Γ, _, a3, T.all_imp (T.all_bind.mp hz) fun w4 h4 v4 S4 H4 W4 E4 r4 => ?_⟩
      have a4 := a3.later E4 W4
      refine ⟨bg, Gs S4 O σ A', y, w4, a4.gwld A', a3.rep E4 (a2.rep E3' r2), r4, T.all_imp (cmpD_bl h4) fun d5 h5 => ?_⟩
      obtain ⟨h5, k5, e5⟩ := h5
      subst e5
      refine fun u6 S6 H6 W6 E6 r6 => ?_
      obtain ⟨W6', E6', _⟩ := a4.back W6 E6
      exact h5 u6 _ H6 W6' (E1.trans (E2.trans (E3'.trans (E4.trans E6')))) r6
  · unfold evT evE at q
    refine ⟨O, Γ, S, a0, T.all_imp (T.all_bind.mp (T.all_bind.mp q)) fun x hx v S1 H1 W1 E1 r1 => ?_⟩
    have a1 := a0.later E1 W1
    refine ⟨O, Γ, S1, a1, T.all_imp (T.all_bind.mp hx) fun y hy w S2 H2 W2 E2 r2 => ?_⟩
    have a2 := a1.later E2 W2
    refine ⟨bg, Gs S2 O σ A', x, y, a2.gwld A', a1.rep E2 r1, r2, T.all_imp (cmpD_bl (T.all_bind.mp hy)) fun z hz => ?_⟩
    obtain ⟨hz, kk, e⟩ := hz
    subst e
    refine fun u S3 H3 W3 E3 r3 => ⟨kk, r3, ?_⟩
    obtain ⟨W3', E3', s3⟩ := a2.back W3 E3
    have a3 := a2.later E3' W3'
    cases kk with
    | false => exact ⟨_, rfl, hz _ H3 W3' (E1.trans (E2.trans E3'))⟩
    | true =>
      refine ⟨O, Γ, _, a3, T.all_imp (T.all_bind.mp hz) fun w4 h4 v4 S4 H4 W4 E4 r4 => ?_⟩
      have a4 := a3.later E4 W4
      refine ⟨bg, Gs S4 O σ A', y, w4, a4.gwld A', a3.rep E4 (a2.rep E3' r2), r4, T.all_imp (cmpD_bl h4) fun d5 h5 => ?_⟩
      obtain ⟨h5, k5, e5⟩ := h5
      subst e5
      refine fun u6 S6 H6 W6 E6 r6 => ?_
      obtain ⟨W6', E6', _⟩ := a4.back W6 E6
      exact ⟨k5, r6, h5 _ H6 W6' (E1.trans (E2.trans (E3'.trans (E4.trans E6'))))⟩
end
end Dy

set_option linter.all false
set_option maxRecDepth 10000
set_option autoImplicit false
/-! Dy, part 8: displays, calls, tests, what is walked. -/
namespace Dy
open PySem PySem.Spec PyProof.Rows L2
section
variable {X : Cx} {bg : Option (Addr × Addr)} {S0 : Addr → Prop} {H0 : Hp} {EX : D → Prop} {A : List Nat} {C : Calls}
/-! ### argument lists -/
theorem k_pa : ∀ {es : List Expr} {os : List OE}, es.any isStar = false → es.length = os.length → (∀ (i : Nat) (e : Expr) (o : OE), es[i]? = some e → os[i]? = some o → PE X e (EvD X.K bg S0 H0 EX A (evE C o))) → PA X es (EvL X.K bg S0 H0 EX A (evEs C os))
  | [], [], _, _, _ => pa_weak pa_nil fun σ H Q ⟨O, Γ, S, a, q⟩ => by
    unfold evEs at q
    exact q [] S H a.wld .refl rfl
  | [], _ :: _, _, h, _ => by cases h
  | _ :: _, [], _, h, _ => by cases h
  | e :: es, o :: os, hs, hl, h => by
    rw [List.any_cons, Bool.or_eq_false_iff] at hs
    have h0 := h 0 e o rfl rfl
    have hr := k_pa (es := es) (os := os) hs.2 (by simpa using hl) fun i e' o' h1 h2 => h (i + 1) e' o' h1 h2
    refine pa_weak (pa_cons h0 hr (starEach_cons hs.1)) fun σ H Q ⟨O, Γ, S, a, q⟩ => ?_
    unfold evEs at q
    refine ⟨O, Γ, S, a, T.all_imp (T.all_bind.mp q) fun x hx v S1 H1 W1 E1 r1 => ?_⟩
    have a1 := a.later E1 W1
    refine ⟨O, Γ, S1, a1, T.all_imp (T.all_bind.mp hx) fun ds hds vs S2 H2 W2 E2 r2 => ?_⟩
    exact hds (v :: vs) S2 H2 W2 (E1.trans E2) ⟨v, vs, rfl, a1.rep E2 r1, r2⟩
theorem evL_sub {K : PySem.W.Frag} {A' : List Nat} {m : Gam → T (List D)} (h : ∀ i, i ∈ A' → i ∈ A) {σ : L2.St} {H : Hp} {Q : List V → Hp → Prop} (q : EvL K bg S0 H0 EX A m σ H Q) : EvL K bg S0 H0 EX A' m σ H Q := by
  obtain ⟨O, Γ, S, a, q⟩ := q
  exact ⟨O, Γ, S, a, T.all_imp q fun d k v S' H' W E r => k v S' H' W E (r.mono (Gs.sub h) (fun _ _ _ z => z) d v)⟩
theorem len_small {K : PySem.W.Frag} {S : Addr → Prop} {H : Hp} {ds : List D} {vs : List V} (h : Reps K bg S H ds vs) (n : ds.length ≤ 1000) : vs.length ≤ sizeLine := by
  rw [h.length]
  exact Nat.le_of_lt (small1000 n)
theorem k_tup {es : List Expr} {os : List OE} {kk : Nat} {pos : Pos} (hl : os.length ≤ 1000) (h : PA X es (EvL X.K bg S0 H0 EX A (evEs C os))) (len : ∀ Γ P E, (evEs C os Γ).All P E → (evEs C os Γ).All (fun ds => P ds ∧ ds.length = os.length) E) :
    PE X (.Tuple es kk pos) (EvD X.K bg S0 H0 EX A (evE C (.tup os))) := by
  refine pe_weak (pe_tup h) fun σ H Q ⟨O, Γ, S, a, q⟩ => ?_
  rw [evE] at q
  refine ⟨O, Γ, S, a, T.all_imp (len Γ _ _ (T.all_bind.mp q)) fun ds hds vs S1 H1 W1 E1 r1 => ?_⟩
  obtain ⟨hds, hn⟩ := hds
  have a1 := a.later E1 W1
  exact ⟨len_small r1 (by omega), (a1.rs (A := A) E1 hds).tup (a1.gwld A) r1⟩
theorem k_lstN {es : List Expr} {os : List OE} {pos : Pos} (hl : os.length ≤ 1000) (h : PA X es (EvL X.K bg S0 H0 EX A (evEs C os))) (len : ∀ Γ P E, (evEs C os Γ).All P E → (evEs C os Γ).All (fun ds => P ds ∧ ds.length = os.length) E) :
    PE X (.List es pos) (EvN X.K bg S0 H0 EX A fun Γ => (evEs C os Γ).bind fun ds => .ret (.lst ds, true)) := by
  refine pe_weak (pe_lst h) fun σ H Q ⟨O, Γ, S, a, q⟩ => ?_
  refine ⟨O, Γ, S, a, T.all_imp (len Γ _ _ (T.all_bind.mp q)) fun ds hds vs S1 H1 W1 E1 r1 => ?_⟩
  obtain ⟨hds, hn⟩ := hds
  have a1 := a.later E1 W1
  refine ⟨len_small r1 (by omega), fun p hp => hds _ S1 _ (W1.made hp) (E1.trans (.made p _ hp)) ?_⟩
  have np : ¬ Gs S1 O σ A p := fun z => (a1.gwld A).dom p z hp
  exact ⟨p, ds, vs, rfl, rfl, np, E1.unborn hp, upd_same, r1.mono (fun _ h => h) (fun b o s q => by rw [upd_ne (fun z => np (by rw [← z]; exact s))]; exact q) ds vs⟩
theorem k_lst {es : List Expr} {os : List OE} {pos : Pos} (hl : os.length ≤ 1000) (h : PA X es (EvL X.K bg S0 H0 EX A (evEs C os))) (len : ∀ Γ P E, (evEs C os Γ).All P E → (evEs C os Γ).All (fun ds => P ds ∧ ds.length = os.length) E) :
    PE X (.List es pos) (EvD X.K bg S0 H0 EX A (evE C (.lst os))) := by
  refine pe_weak (pe_lst h) fun σ H Q ⟨O, Γ, S, a, q⟩ => ?_
  rw [evE] at q
  refine ⟨O, Γ, S, a, T.all_imp (len Γ _ _ (T.all_bind.mp q)) fun ds hds vs S1 H1 W1 E1 r1 => ?_⟩
  obtain ⟨hds, hn⟩ := hds
  have a1 := a.later E1 W1
  exact ⟨len_small r1 (by omega), (a1.rs (A := A) E1 hds).lst (a1.gwld A) r1⟩
theorem evEs_len : ∀ (os : List OE) (Γ : Gam) (P : List D → Prop) (E : D → Prop), (evEs C os Γ).All P E → (evEs C os Γ).All (fun ds => P ds ∧ ds.length = os.length) E
  | [], Γ, P, E, h => by
    unfold evEs at h ⊢
    exact ⟨h, rfl⟩
  | o :: os, Γ, P, E, h => by
    unfold evEs at h ⊢
    refine T.all_bind.mpr (T.all_imp (T.all_bind.mp h) fun x hx => T.all_bind.mpr (T.all_imp (evEs_len os Γ _ E (T.all_bind.mp hx)) fun xs hxs => ?_))
    exact ⟨hxs.1, by rw [List.length_cons, List.length_cons, hxs.2]⟩

/-! ### calls -/
theorem pick_vals {vs zs dv : List V} {us ws du : List Value} (r1 : Vals vs us) (r2 : Vals zs ws) (r3 : Vals dv du) : ∀ x : Sr, (∀ v, pick vs zs dv x = some v → ∃ u, pick us ws du x = some u ∧ RelV v u) ∧ (pick vs zs dv x = none → pick us ws du x = none)
  | .pos j => ⟨fun v h => r1.get h, fun h => r1.none_of h⟩
  | .kw j => ⟨fun v h => r2.get h, fun h => r2.none_of h⟩
  | .df j => ⟨fun v h => r3.get h, fun h => r3.none_of h⟩
theorem selL_vals {vs zs dv : List V} {us ws du : List Value} (r1 : Vals vs us) (r2 : Vals zs ws) (r3 : Vals dv du) : ∀ sel : List Sr, Vals (selL sel vs zs dv) (selL sel us ws du)
  | [] => .nil
  | x :: sel => by
    have ih := selL_vals r1 r2 r3 sel
    obtain ⟨h1, h2⟩ := pick_vals r1 r2 r3 x
    unfold selL at ih ⊢
    rw [List.filterMap_cons, List.filterMap_cons]
    cases e : pick vs zs dv x with
    | none => rw [h2 e]; exact ih
    | some v =>
      obtain ⟨u, e2, r⟩ := h1 v e
      rw [e2]
      exact .cons r ih
theorem Reps.none_of {K : PySem.W.Frag} {S : Addr → Prop} {H : Hp} {ds : List D} {vs : List V} {i : Nat} (r : Reps K bg S H ds vs) (h : ds[i]? = none) : vs[i]? = none := by
  have h1 := r.length
  have h2 : ds.length ≤ i := List.getElem?_eq_none_iff.mp h
  exact List.getElem?_eq_none_iff.mpr (by omega)
theorem pick_reps {K : PySem.W.Frag} {S : Addr → Prop} {H : Hp} {vs zs dv : List V} {ds es ts : List D} (r1 : Reps K bg S H ds vs) (r2 : Reps K bg S H es zs) (r3 : Reps K bg S H ts dv) : ∀ x : Sr, (∀ d, pick ds es ts x = some d → ∃ v, pick vs zs dv x = some v ∧ Rep K bg S H d v) ∧ (pick ds es ts x = none → pick vs zs dv x = none)
  | .pos j => ⟨fun v h => r1.get h, fun h => r1.none_of h⟩
  | .kw j => ⟨fun v h => r2.get h, fun h => r2.none_of h⟩
  | .df j => ⟨fun v h => r3.get h, fun h => r3.none_of h⟩
theorem selL_reps {K : PySem.W.Frag} {S : Addr → Prop} {H : Hp} {vs zs dv : List V} {ds es ts : List D} (r1 : Reps K bg S H ds vs) (r2 : Reps K bg S H es zs) (r3 : Reps K bg S H ts dv) : ∀ sel : List Sr, Reps K bg S H (selL sel ds es ts) (selL sel vs zs dv)
  | [] => rfl
  | x :: sel => by
    have ih := selL_reps r1 r2 r3 sel
    obtain ⟨h1, h2⟩ := pick_reps r1 r2 r3 x
    unfold selL at ih ⊢
    rw [List.filterMap_cons, List.filterMap_cons]
    cases e : pick ds es ts x with
    | none => rw [h2 e]; exact ih
    | some v =>
      obtain ⟨u, e2, r⟩ := h1 v e
      rw [e2]
      exact ⟨u, _, rfl, r, ih⟩
theorem keywordEach_map (env : Env) : ∀ kws : List Keyword, keywordEach kws env = kws.map fun q => (q.arg, eval q.value env)
  | [] => rfl
  | ⟨n, v, p⟩ :: r => by
    show (n, eval v env) :: keywordEach r env = _
    rw [keywordEach_map env r]
    rfl
theorem kw_names (env : Env) (pos : Pos) (kws : List Keyword) : (backToKw pos (keywordEach kws env)).filterMap (·.1) = kws.filterMap (·.arg) := by
  rw [keywordEach_map]
  unfold backToKw
  rw [List.map_map, List.filterMap_map]
  rfl
theorem kw_all (env : Env) (pos : Pos) {kws : List Keyword} (h : (kws.all fun q => q.arg.isSome) = true) : (backToKw pos (keywordEach kws env)).all (·.1.isSome) = true ∧ (backToKw pos (keywordEach kws env)).any (·.1.isNone) = false := by
  rw [keywordEach_map]
  unfold backToKw
  rw [List.map_map]
  constructor
  · rw [List.all_map]; exact h
  · rw [List.any_map, List.any_eq_false]
    intro q hq
    have := List.all_eq_true.mp h q hq
    show ¬ q.arg.isNone = true
    cases e : q.arg <;> simp [e] at this ⊢
theorem kw_len {kws : List Keyword} (h : (kws.all fun q => q.arg.isSome) = true) : (kws.filterMap (·.arg)).length = kws.length := by
  induction kws with
  | nil => rfl
  | cons q r ih =>
    rw [List.all_cons, Bool.and_eq_true] at h
    obtain ⟨a, ha⟩ := Option.isSome_iff_exists.mp h.1
    rw [List.filterMap_cons, ha]
    show _ + 1 = _ + 1
    rw [ih h.2]
theorem k_pk : ∀ {kws : List Keyword} {os : List OE}, kws.length = os.length → (∀ (i : Nat) (q : Keyword) (o : OE), kws[i]? = some q → os[i]? = some o → PE X q.value (EvD X.K bg S0 H0 EX A (evE C o))) → PK X kws (EvL X.K bg S0 H0 EX A (evEs C os))
  | [], [], _, _ => ⟨fun p pins s σ H Q I ⟨O, Γ, S, a, q⟩ => pk_nil.run p pins s σ H Q I (by rw [evEs] at q; exact q [] S H a.wld .refl rfl)⟩
  | [], _ :: _, h, _ => by cases h
  | _ :: _, [], h, _ => by cases h
  | ⟨nm, e, kp⟩ :: es, o :: os, hl, h => by
    have h0 := h 0 ⟨nm, e, kp⟩ o rfl rfl
    have hr := k_pk (kws := es) (os := os) (by simpa using hl) fun i e' o' h1 h2 => h (i + 1) e' o' h1 h2
    refine ⟨fun p pins s σ H Q I ⟨O, Γ, S, a, q⟩ => (pk_cons h0 hr).run p pins s σ H Q I ?_⟩
    rw [evEs] at q
    refine ⟨O, Γ, S, a, T.all_imp (T.all_bind.mp q) fun x hx v S1 H1 W1 E1 r1 => ?_⟩
    have a1 := a.later E1 W1
    refine ⟨O, Γ, S1, a1, T.all_imp (T.all_bind.mp hx) fun ds hds vs S2 H2 W2 E2 r2 => ?_⟩
    exact hds (v :: vs) S2 H2 W2 (E1.trans E2) ⟨v, vs, rfl, a1.rep E2 r1, r2⟩
/-- f(a, .., k = b, ..) of a def -/
def tCallG (sp : Sp) (g : List V → List V → List V) (n m : Nat) (E : XK) (t tk : TA) : TE := fun σ H Q => t σ H fun vs H1 => tk σ H1 fun zs H2 => vs.length = n ∧ zs.length = m ∧ sp (g vs zs) H2 Q E
/-- the call itself, once its values lie there -/
theorem call_finG {es : List Expr} {kws : List Keyword} {k : Nat} {a : Addr} {fd : FuncData} {ps : List Str} {sp : Sp} {E : XK} {sel : List Sr} {dv : List V} {du : List Value} {σ : L2.St} {pins : List (Addr × Obj)} {Q : VK} (hr : Room k X.A)
    (F : FnOk X.prog X.w X.K X.mg X.base (L2.CX X.prog X.w) k a fd ps sp) (rd : Vals dv du) (hb : ∀ (s : Shared) (us ws : List Value), X.K.In s.heap → us.length = es.length → ws.length = (kws.filterMap (·.arg)).length → BindsTo s fd ⟨us, (kws.filterMap (·.arg)).zip ws⟩ (ps.zip (selL sel us ws du)))
    (hx : Passes (L2.CX X.prog X.w) X E) {us ws : List Value} {vs zs : List V} {s2 : Shared} {H2 : Hp} (I2 : L2.Inv X pins σ H2 s2) (r1 : Vals vs us) (r2 : Vals zs ws) (l1 : vs.length = es.length) (l2 : zs.length = (kws.filterMap (·.arg)).length)
    (hsp : sp (selL sel vs zs dv) H2 Q E) : wpAny (model X.prog X.w) X.A (call (.ref a) us ((kws.filterMap (·.arg)).zip ws)) (EP X pins σ Q) X.xe s2 := by
  have rr := selL_vals r1 r2 rd sel
  refine wpAny_call (codeAny_mono (F.run X.A X.stack s2 H2 _ _ _ Q E hr I2.env0 (hb s2 us ws I2.kIn (r1.length.symm.trans l1) (r2.length.symm.trans l2)) rr hsp) fun r s' hq => ?_)
  match r, hq with
  | .error e, hq => exact hx pins σ H2 s2 e s' I2 hq
  | .ok (.ret u), hq => exact I2.after hq
  | .ok .next, hq => exact hq.elim
  | .ok .brk, hq => exact hq.elim
  | .ok .cont, hq => exact hq.elim
theorem pe_callG {e : Expr} {es : List Expr} {kws : List Keyword} {f : Str} {p pos : Pos} {k : Nat} {a : Addr} {fd : FuncData} {ps : List Str} {sp : Sp} {E : XK} {t tk : TA} {sel : List Sr} {dv : List V} {du : List Value} (hr : Room k X.A) (hg : Gl X f) (hm : X.mg f = some (.ref a)) (hk : PySem.W.keepIn X.K (.ref a) = true)
    (F : FnOk X.prog X.w X.K X.mg X.base (L2.CX X.prog X.w) k a fd ps sp) (rd : Vals dv du) (hb : ∀ (s : Shared) (us ws : List Value), X.K.In s.heap → us.length = (e :: es).length → ws.length = (kws.filterMap (·.arg)).length → BindsTo s fd ⟨us, (kws.filterMap (·.arg)).zip ws⟩ (ps.zip (selL sel us ws du)))
    (hx : Passes (L2.CX X.prog X.w) X E) (hs : (e :: es).any isStar = false) (hkw : (kws.all fun q => q.arg.isSome) = true) (hdb : (f == ("__debug__" : Str)) = false) (h : PA X (e :: es) t) (hk2 : PK X kws tk) :
    PE X (.Call (.Name f p) (e :: es) kws pos) (tCallG sp (fun vs zs => selL sel vs zs dv) (e :: es).length (kws.filterMap (·.arg)).length E t tk) := by
  refine ⟨fun pins s σ H Q I q => ?_⟩
  obtain ⟨k1, k2⟩ := kw_all X.env pos hkw
  have hs' := hs
  rw [List.any_cons, Bool.or_eq_false_iff] at hs
  refine wpAny_Call_Name_kw (ld_glob I hg hm ?_ hdb)
  refine PySem.W.callWith_KW (h₀ := X.base) I.ok.mod.kin hk k1 (thn (h.run pos pins s σ H _ I q) fun us s1 ⟨vs, H1, I1, r1, q1⟩ => thn (hk2.run pos pins s1 σ H1 _ I1 q1) fun ws s2 ⟨zs, H2, I2, r2, l1, l2, q2⟩ => ⟨I2.kIn, ?_⟩) (by rw [k2, starEach_plain _ _ hs']; rfl) (starEach_cons hs.1)
  rw [kw_names]
  exact call_finG hr F rd hb hx I2 r1 r2 l1 l2 q2
/-- none before the keywords -/
def tCallG0 (sp : Sp) (g : List V → List V) (m : Nat) (E : XK) (tk : TA) : TE := fun σ H Q => tk σ H fun zs H2 => zs.length = m ∧ sp (g zs) H2 Q E
theorem pe_callG0 {kws : List Keyword} {f : Str} {p pos : Pos} {k : Nat} {a : Addr} {fd : FuncData} {ps : List Str} {sp : Sp} {E : XK} {tk : TA} {sel : List Sr} {dv : List V} {du : List Value} (hr : Room k X.A) (hg : Gl X f) (hm : X.mg f = some (.ref a)) (hk : PySem.W.keepIn X.K (.ref a) = true)
    (F : FnOk X.prog X.w X.K X.mg X.base (L2.CX X.prog X.w) k a fd ps sp) (rd : Vals dv du) (hb : ∀ (s : Shared) (us ws : List Value), X.K.In s.heap → us.length = ([] : List Expr).length → ws.length = (kws.filterMap (·.arg)).length → BindsTo s fd ⟨us, (kws.filterMap (·.arg)).zip ws⟩ (ps.zip (selL sel us ws du)))
    (hx : Passes (L2.CX X.prog X.w) X E) (hkw : (kws.all fun q => q.arg.isSome) = true) (hdb : (f == ("__debug__" : Str)) = false) (hk2 : PK X kws tk) :
    PE X (.Call (.Name f p) [] kws pos) (tCallG0 sp (fun zs => selL sel [] zs dv) (kws.filterMap (·.arg)).length E tk) := by
  refine ⟨fun pins s σ H Q I q => ?_⟩
  obtain ⟨k1, k2⟩ := kw_all X.env pos hkw
  refine wpAny_Call_Name_kw (ld_glob I hg hm ?_ hdb)
  refine PySem.W.callWith_KW0 (h₀ := X.base) I.ok.mod.kin hk k1 (thn (hk2.run pos pins s σ H _ I q) fun ws s2 ⟨zs, H2, I2, r2, l2, q2⟩ => ⟨I2.kIn, ?_⟩) (by rw [k2]; rfl)
  rw [kw_names]
  exact call_finG (es := []) hr F rd hb hx I2 .nil r2 rfl l2 q2
/-- what a call leaves, to what its reading asks -/
theorem call_res {K : PySem.W.Frag} {O : List Nat} {Γ : Gam} {S S1 : Addr → Prop} {σ : L2.St} {H H1 : Hp} {Q : VK} {g : List D → T (D × Bool)} {ds : List D} (a1 : At K bg S0 H0 O Γ S1 σ H1) (E1 : Ext bg S H S1 H1) {vs : List V} {n : Nat} (hn : ds.length = n) (r1 : Reps K bg (Gs S1 O σ A) H1 ds vs)
    (hds : (g ds).All (fun r => ∀ v S' H', Wld bg S' H' → Ext bg S H S' H' → ResN K bg (Gs S' O σ A) H H' r v → Q v H') EX) : spD K n g vs H1 Q (eX K bg S0 H0 EX) := by
  refine ⟨bg, Gs S1 O σ A, ds, hn, a1.gwld A, r1, T.all_mono (fun e he cls dx S' H' W' E' rx => ?_) hds fun r hr v S' H' W' E' rv => ?_⟩
  · refine ⟨e, S', he, W', ⟨fun b hb => E'.sub b (.inl (a1.ext.sub b hb)), fun b hb => ?_, fun b o h1 h2 => E'.keep b o (a1.ext.keep b o h1 h2) h2, fun b h1 => E'.dom b (a1.ext.dom b h1)⟩, rx⟩
    rcases E'.new b hb with z | z
    · rcases z with z | ⟨i, _, mo, ei⟩
      · exact a1.ext.new b z
      · obtain ⟨_, _, _, _, h00, _⟩ := a1.abs.at mo ei
        exact .inr h00
    · exact .inr (a1.ext.unborn z)
  · obtain ⟨W2, E2, s2⟩ := a1.back W' E'
    refine hr v _ H' W2 (E1.trans E2) ?_
    obtain ⟨d, fr⟩ := r
    cases fr with
    | false => exact Rep.mono s2 (fun _ _ _ q => q) d v rv
    | true =>
      obtain ⟨p', ds', xs', ev, ed, np, hp0, hp, rr⟩ := rv
      refine ⟨p', ds', xs', ev, ed, fun z => np ?_, E1.unborn hp0, hp, rr.mono s2 (fun _ _ _ z => z) ds' xs'⟩
      rcases z with (z | ⟨z, _⟩) | ⟨i, z1, z2, z3⟩
      · exact E'.sub _ (.inl z)
      · exact z
      · exact E'.sub _ (.inr ⟨i, z1, z2, z3⟩)
theorem k_callN {es : List Expr} {kws : List Keyword} {os kos : List OE} {f : Str} {p pos : Pos} {k : Nat} {a : Addr} {fd : FuncData} {ps : List Str} {sel : List Sr} {dfts : List D} (hr : Room k X.A) (hg : Gl X f) (hm : X.mg f = some (.ref a)) (hk : PySem.W.keepIn X.K (.ref a) = true)
    (F : FnOk X.prog X.w X.K X.mg X.base (L2.CX X.prog X.w) k a fd ps (spD X.K sel.length (C f))) (sh : Shape X.K fd ps es.length (kws.filterMap (·.arg)) sel dfts) (hx : Passes (L2.CX X.prog X.w) X (eX X.K bg S0 H0 EX)) (hs : es.any isStar = false) (hkw : (kws.all fun q => q.arg.isSome) = true)
    (hol : es.length = os.length) (hkl : kws.length = kos.length) (hdb : (f == ("__debug__" : Str)) = false) (h : PA X es (EvL X.K bg S0 H0 EX A (evEs C os))) (h2 : PK X kws (EvL X.K bg S0 H0 EX A (evEs C kos))) : PE X (.Call (.Name f p) es kws pos) (EvN X.K bg S0 H0 EX A fun Γ => (evEs C os Γ).bind fun ds => (evEs C kos Γ).bind fun zs => .need (decide ((selL sel ds zs dfts).length = sel.length)) (C f (selL sel ds zs dfts))) := by
  obtain ⟨dv, du, rd, dr, hb⟩ := sh
  have hkn := kw_len hkw
  cases es with
  | nil =>
    have e0 : os = [] := by cases os with | nil => rfl | cons _ _ => cases hol
    subst e0
    refine pe_weak (pe_callG0 hr hg hm hk F rd hb hx hkw hdb h2) fun σ H Q ⟨O, Γ, S, a0, q⟩ => ?_
    have q := T.all_bind.mp q
    rw [evEs] at q
    refine ⟨O, Γ, S, a0, T.all_imp (evEs_len kos Γ _ _ (T.all_bind.mp (show ((evEs C kos Γ).bind _).All _ EX from q))) fun zs hzs ws S2 H2 W2 E2 r2 => ?_⟩
    obtain ⟨hzs, hzn⟩ := hzs
    obtain ⟨cl, hzs⟩ := T.all_need hzs
    have cl := of_decide_eq_true cl
    have a2 := a0.later E2 W2
    exact ⟨by rw [hkn, hkl, ← hzn, r2.length], call_res a2 E2 cl (selL_reps (ds := []) (vs := []) rfl r2 (dr _ _ _) sel) hzs⟩
  | cons e es =>
    refine pe_weak (pe_callG hr hg hm hk F rd hb hx hs hkw hdb h h2) fun σ H Q ⟨O, Γ, S, a0, q⟩ => ?_
    refine ⟨O, Γ, S, a0, T.all_imp (evEs_len os Γ _ _ (T.all_bind.mp q)) fun ds hds vs S1 H1 W1 E1 r1 => ?_⟩
    obtain ⟨hds, hdn⟩ := hds
    have a1 := a0.later E1 W1
    refine ⟨O, Γ, S1, a1, T.all_imp (evEs_len kos Γ _ _ (T.all_bind.mp hds)) fun zs hzs ws S2 H2 W2 E2 r2 => ?_⟩
    obtain ⟨hzs, hzn⟩ := hzs
    obtain ⟨cl, hzs⟩ := T.all_need hzs
    have cl := of_decide_eq_true cl
    have a2 := a1.later E2 W2
    exact ⟨by rw [hol, ← hdn, r1.length], by rw [hkn, hkl, ← hzn, r2.length], call_res a2 (E1.trans E2) cl (selL_reps (a1.reps E2 r1) r2 (dr _ _ _) sel) hzs⟩
theorem k_call {es : List Expr} {kws : List Keyword} {os kos : List OE} {f : Str} {p pos : Pos} {k : Nat} {a : Addr} {fd : FuncData} {ps : List Str} {sel : List Sr} {dfts : List D} (hr : Room k X.A) (hg : Gl X f) (hm : X.mg f = some (.ref a)) (hk : PySem.W.keepIn X.K (.ref a) = true)
    (F : FnOk X.prog X.w X.K X.mg X.base (L2.CX X.prog X.w) k a fd ps (spD X.K sel.length (C f))) (sh : Shape X.K fd ps es.length (kws.filterMap (·.arg)) sel dfts) (hx : Passes (L2.CX X.prog X.w) X (eX X.K bg S0 H0 EX)) (hs : es.any isStar = false) (hkw : (kws.all fun q => q.arg.isSome) = true)
    (hol : es.length = os.length) (hkl : kws.length = kos.length) (hdb : (f == ("__debug__" : Str)) = false) (h : PA X es (EvL X.K bg S0 H0 EX A (evEs C os))) (h2 : PK X kws (EvL X.K bg S0 H0 EX A (evEs C kos))) : PE X (.Call (.Name f p) es kws pos) (EvD X.K bg S0 H0 EX A (evE C (.call f os kos sel dfts))) :=
  pe_weak (k_callN hr hg hm hk F sh hx hs hkw hol hkl hdb h h2) fun σ H Q ⟨O, Γ, S, a, q⟩ => evN_D ⟨O, Γ, S, a, by
    rw [evE] at q
    refine T.all_bind.mpr (T.all_bind.mpr (T.all_imp (T.all_bind.mp q) fun ds hds => T.all_bind.mpr (T.all_imp (T.all_bind.mp hds) fun zs hzs => ?_)))
    obtain ⟨cl, hzs⟩ := T.all_need hzs
    rw [cl]
    exact T.all_imp (T.all_bind.mp hzs) fun r hr => hr⟩
end
section
variable {X : Cx} {bg : Option (Addr × Addr)} {S0 : Addr → Prop} {H0 : Hp} {EX : D → Prop} {A : List Nat} {C : Calls}
/-- a built-in function by its name, of a value or a type -/
theorem r_dc {K : PySem.W.Frag} {os : List OE} {f : Bf} {σ : L2.St} {H : Hp} {Q : VK} (q : EvD K bg S0 H0 EX A (fun Γ => (evEs C os Γ).bind fun ds => bcallD f ds) σ H Q) : tCB (rDc K EX (bcallD f)) (EvL K bg S0 H0 EX A (evEs C os)) σ H Q := by
  obtain ⟨O, Γ, S, a, q⟩ := q
  refine ⟨O, Γ, S, a, T.all_imp (T.all_bind.mp q) fun ds hds vs S1 H1 W1 E1 r1 => ?_⟩
  have a1 := a.later E1 W1
  exact ⟨bg, Gs S1 O σ A, ds, a1.gwld A, r1, T.all_imp hds fun d hd => a1.rs E1 hd⟩
/-- flat results -/
def flatRes : Bf → Bool
  | .list => false | .tuple => false
  | _ => true
theorem need_bl {P : D → Prop} {E : D → Prop} {c : Bool} {d : D} (hd : isFlat d = true) (h : (T.need c (.ret d)).All P E) : (T.need c (.ret d)).All (fun d => P d ∧ isFlat d = true) E := by
  cases c with
  | true => exact ⟨h, hd⟩
  | false => exact h
theorem bcallD_flat {f : Bf} {ds : List D} {P : D → Prop} {E : D → Prop} (hf : flatRes f = true) (h : (bcallD f ds).All P E) : (bcallD f ds).All (fun d => P d ∧ isFlat d = true) E := by
  cases f <;> first | (exact absurd hf Bool.false_ne_true) | skip
  all_goals (unfold bcallD at h ⊢; dsimp only at h ⊢; first | unfold lenD at h ⊢ | unfold allD at h ⊢ | unfold anyD at h ⊢ | unfold sumD at h ⊢ | unfold intD at h ⊢)
  all_goals split at h <;> first | exact need_bl rfl h | exact ⟨h, rfl⟩ | exact h.elim | (exact absurd hf Bool.false_ne_true) | (split at h <;> first | exact ⟨h, rfl⟩ | exact h.elim)
theorem bcall_flat {K : PySem.W.Frag} {A' : List Nat} {os : List OE} {f : Bf} (hf : flatRes f = true) {σ : L2.St} {H : Hp} {Q : VK} (q : EvD K bg S0 H0 EX A (fun Γ => (evEs C os Γ).bind fun ds => bcallD f ds) σ H Q) :
    EvD K bg S0 H0 EX A' (fun Γ => (evEs C os Γ).bind fun ds => bcallD f ds) σ H Q := by
  obtain ⟨O, Γ, S, a, q⟩ := q
  refine ⟨O, Γ, S, a, T.all_bind.mpr (T.all_imp (T.all_bind.mp q) fun x hx => T.all_imp (bcallD_flat hf hx) fun d hd v S' H' W E r => ?_)⟩
  exact hd.1 v S' H' W E (r.flat hd.2)
/-- what stands behind a built-in's name -/
theorem bf_ok {f : Str} {b : Bf} (h : bfOf f = some b) (hc : X.calm = true) : (∃ id, CallR X (.builtin id) (rDc X.K EX (bcallD b)) ∧ bootBuiltins f = some (.builtin id)) ∨ ∃ id, CallR X (.type id) (rDc X.K EX (bcallD b)) ∧ bootBuiltins f = some (.type id) := by
  unfold bfOf at h
  split at h
  · rename_i e; subst e; cases h; exact .inl ⟨_, call_len_dat, PySem.boot_len⟩
  split at h
  · rename_i e; subst e; cases h; exact .inl ⟨_, call_all_dat hc, by decide +kernel⟩
  split at h
  · rename_i e; subst e; cases h; exact .inl ⟨_, call_any_dat hc, by decide +kernel⟩
  split at h
  · rename_i e; subst e; cases h; exact .inr ⟨_, call_list_dat, boot_list⟩
  split at h
  · rename_i e; subst e; cases h; exact .inr ⟨_, call_tuple_dat, boot_tuple⟩
  split at h
  · rename_i e; subst e; cases h; exact .inl ⟨_, call_sum_dat hc, by decide +kernel⟩
  split at h
  · rename_i e; subst e; cases h; exact .inr ⟨_, call_int_dat, boot_int⟩
  cases h
theorem bf_free {f : Str} {b : Bf} (h : bfOf f = some b) : f ∈ frees ∧ f ≠ "__name__" ∧ (f == ("__debug__" : Str)) = false := by
  unfold bfOf at h
  repeat (split at h; (rename_i e; subst e; decide +kernel))
  cases h
theorem k_bcall {es : List Expr} {os : List OE} {f : Str} {b : Bf} {p pos : Pos} (A' : List Nat) (hf : bfOf f = some b) (hg : Gl X f) (hm : X.mg f = none) (hc : X.calm = true) (hs : es.any isStar = false) (hol : es.length = os.length)
    (hA : flatRes b = true ∨ ∀ i, i ∈ A' → i ∈ A) (h : PA X es (EvL X.K bg S0 H0 EX A' (evEs C os))) : PE X (.Call (.Name f p) es [] pos) (EvD X.K bg S0 H0 EX A (evE C (.bcall b os))) := by
  have step : ∀ σ H Q, EvD X.K bg S0 H0 EX A (evE C (.bcall b os)) σ H Q → EvD X.K bg S0 H0 EX A' (fun Γ => (evEs C os Γ).bind fun ds => bcallD b ds) σ H Q := fun σ H Q q => by
    have q' := ev_fun (m' := fun Γ => (evEs C os Γ).bind fun ds => bcallD b ds) (fun Γ => by rw [evE]) q
    rcases hA with z | z
    · exact bcall_flat z q'
    · exact ev_sub z q'
  cases es with
  | nil =>
    have : os = [] := by cases os with | nil => rfl | cons _ _ => cases hol
    subst this
    refine pe_false fun Γ => ?_
    rw [evE, evEs]
    cases b <;> rfl
  | cons e es =>
    rw [List.any_cons, Bool.or_eq_false_iff] at hs
    obtain ⟨f1, f2, f3⟩ := bf_free hf
    rcases bf_ok (EX := EX) hf hc with ⟨id, hcr, hv⟩ | ⟨id, hcr, hv⟩
    · exact pe_weak (pe_callB hcr hg hm hv h f2 f3 (starEach_cons hs.1) (starEach_plain _ _ hs.2)) fun σ H Q q => r_dc (step σ H Q q)
    · exact pe_weak (pe_callTy hcr hg hm hv h f2 f3 (starEach_cons hs.1) (starEach_plain _ _ hs.2)) fun σ H Q q => r_dc (step σ H Q q)
end
end Dy

set_option linter.all false
set_option maxRecDepth 10000
set_option autoImplicit false
/-! Dy, part 9: and, or, not, if; subscripts; isinstance; methods; what is walked. -/
namespace Dy
open PySem PySem.Spec PyProof.Rows L2
section
variable {X : Cx} {bg : Option (Addr × Addr)} {S0 : Addr → Prop} {H0 : Hp} {EX : D → Prop} {A : List Nat} {C : Calls}
/-! ### as values -/
theorem k_and {pos : Pos} : ∀ {es : List Expr} {os : List OE}, es.length = os.length → (∀ (i : Nat) (e : Expr) (o : OE), es[i]? = some e → os[i]? = some o → PE X e (EvD X.K bg S0 H0 EX A (evE C o))) →
    PE X (.BoolOp .And es pos) (EvD X.K bg S0 H0 EX A (evAnd C os)) ∧ PE X (.BoolOp .Or es pos) (EvD X.K bg S0 H0 EX A (evOr C os))
  | _, [], hl, _ => ⟨pe_false fun Γ => by rw [evAnd], pe_false fun Γ => by rw [evOr]⟩
  | [], _ :: _, hl, _ => by cases hl
  | [e], [o], hl, h => ⟨pe_weak (pe_one (h 0 e o rfl rfl)) fun σ H Q q => ev_fun (fun Γ => by rw [evAnd]) q, pe_weak (pe_one (h 0 e o rfl rfl)) fun σ H Q q => ev_fun (fun Γ => by rw [evOr]) q⟩
  | [_], _ :: _ :: _, hl, _ => by cases hl
  | _ :: _ :: _, [_], hl, _ => by cases hl
  | e :: e2 :: es, o :: o2 :: os, hl, h => by
    have h0 := h 0 e o rfl rfl
    obtain ⟨i1, i2⟩ := k_and (pos := pos) (es := e2 :: es) (os := o2 :: os) (by simpa using hl) fun i e' o' h1 h2 => h (i + 1) e' o' h1 h2
    refine ⟨pe_weak (pe_andT h0 i1) fun σ H Q ⟨O, Γ, S, a, q⟩ => ?_, pe_weak (pe_orT h0 i2) fun σ H Q ⟨O, Γ, S, a, q⟩ => ?_⟩
    · rw [evAnd] at q
      refine ⟨O, Γ, S, a, T.all_imp (T.all_bind.mp q) fun x hx v S1 H1 W1 E1 r1 => ?_⟩
      have a1 := a.later E1 W1
      obtain ⟨k, tk, hk⟩ := truth_ok r1 (T.all_bind.mp hx)
      refine ⟨k, tk, ?_⟩
      cases k with
      | true => exact ⟨O, Γ, S1, a1, T.all_imp hk fun d hd w S2 H2 W2 E2 r2 => hd w S2 H2 W2 (E1.trans E2) r2⟩
      | false => exact hk v S1 H1 W1 E1 r1
    · rw [evOr] at q
      refine ⟨O, Γ, S, a, T.all_imp (T.all_bind.mp q) fun x hx v S1 H1 W1 E1 r1 => ?_⟩
      have a1 := a.later E1 W1
      obtain ⟨k, tk, hk⟩ := truth_ok r1 (T.all_bind.mp hx)
      refine ⟨k, tk, ?_⟩
      cases k with
      | false => exact ⟨O, Γ, S1, a1, T.all_imp hk fun d hd w S2 H2 W2 E2 r2 => hd w S2 H2 W2 (E1.trans E2) r2⟩
      | true => exact hk v S1 H1 W1 E1 r1
theorem k_not {e : Expr} {o : OE} {pos : Pos} (A' : List Nat) (h : PE X e (EvD X.K bg S0 H0 EX A' (evE C o))) : PE X (.UnaryOp .Not e pos) (EvD X.K bg S0 H0 EX A (evE C (.not_ o))) :=
  pe_weak (pe_notT h) fun σ H Q ⟨O, Γ, S, a, q⟩ => by
    rw [evE] at q
    refine ⟨O, Γ, S, a, T.all_imp (T.all_bind.mp q) fun x hx v S1 H1 W1 E1 r1 => ?_⟩
    obtain ⟨k, tk, hk⟩ := truth_ok r1 (T.all_bind.mp hx)
    exact ⟨k, tk, hk _ S1 H1 W1 E1 rfl⟩
theorem k_neg {e : Expr} {o : OE} {pos : Pos} (A' : List Nat) (h : PE X e (EvD X.K bg S0 H0 EX A' (evE C o))) : PE X (.UnaryOp .USub e pos) (EvD X.K bg S0 H0 EX A (evE C (.neg o))) :=
  pe_weak (pe_un un_neg h) fun σ H Q ⟨O, Γ, S, a, q⟩ => by
    rw [evE] at q
    refine ⟨O, Γ, S, a, T.all_imp (T.all_bind.mp q) fun x hx v S1 H1 W1 E1 r1 => ?_⟩
    cases x <;> first | exact hx.elim | exact ⟨_, r1, hx _ S1 H1 W1 E1 rfl⟩
theorem k_ifx {t a b : Expr} {ot : OT} {oa ob : OE} {pos : Pos} (ht : PT X t (EvB X.K bg S0 H0 EX (evT C ot))) (ha : PE X a (EvD X.K bg S0 H0 EX A (evE C oa))) (hb : PE X b (EvD X.K bg S0 H0 EX A (evE C ob))) : PE X (.IfExp t a b pos) (EvD X.K bg S0 H0 EX A (evE C (.ifx ot oa ob))) :=
  pe_weak (pe_ifExp ht ha hb) fun σ H Q ⟨O, Γ, S, a0, q⟩ => by
    rw [evE] at q
    refine ⟨O, Γ, S, a0, T.all_imp (T.all_bind.mp q) fun k hk S1 H1 W1 E1 => ?_⟩
    have a1 := a0.later E1 W1
    cases k with
    | true =>
      refine iteT ?_
      exact ⟨O, Γ, S1, a1, T.all_imp hk fun d hd w S2 H2 W2 E2 r2 => hd w S2 H2 W2 (E1.trans E2) r2⟩
    | false =>
      refine iteF ?_
      exact ⟨O, Γ, S1, a1, T.all_imp hk fun d hd w S2 H2 W2 E2 r2 => hd w S2 H2 W2 (E1.trans E2) r2⟩
/-! ### subscripts -/
theorem plain_ix {b : Expr} (h : ∀ lo hi st p, b ≠ .Slice lo hi st p) : PlainIx b := fun o i => by
  cases b <;> first | rfl | exact absurd rfl (h _ _ _ _)
theorem r_sub {K : PySem.W.Frag} {ma mb : Gam → T D} {σ : L2.St} {H : Hp} {Q : VK} {A' : List Nat} (q : EvD K bg S0 H0 EX A (fun Γ => (ma Γ).bind fun x => (mb Γ).bind fun y => subD x y) σ H Q) (hA : ∀ i, i ∈ A → i ∈ A) :
    tOp (rD2 K EX subD) (EvD K bg S0 H0 EX A ma) (EvD K bg S0 H0 EX A' mb) σ H Q := by
  obtain ⟨O, Γ, S, a, q⟩ := q
  refine ⟨O, Γ, S, a, T.all_imp (T.all_bind.mp q) fun x hx v S1 H1 W1 E1 r1 => ?_⟩
  have a1 := a.later E1 W1
  refine ⟨O, Γ, S1, a1, T.all_imp (T.all_bind.mp hx) fun y hy w S2 H2 W2 E2 r2 => ?_⟩
  have a2 := a1.later E2 W2
  refine ⟨bg, Gs S2 O σ A, x, y, a2.gwld A, a1.rep E2 r1, ?_, T.all_imp hy fun d hd => a2.rs (E1.trans E2) hd⟩
  cases y <;> first | exact r2 | (cases x <;> exact hy.elim)
theorem k_sub {a b : Expr} {oa ob : OE} {pos : Pos} (A' : List Nat) (hs : ∀ lo hi st p, b ≠ .Slice lo hi st p) (ha : PE X a (EvD X.K bg S0 H0 EX A (evE C oa))) (hb : PE X b (EvD X.K bg S0 H0 EX A' (evE C ob))) : PE X (.Subscript a b pos) (EvD X.K bg S0 H0 EX A (evE C (.sub oa ob))) :=
  pe_weak (pe_ix ix_dat ha hb (plain_ix hs)) fun σ H Q q => r_sub (ev_fun (fun Γ => by rw [evE]) q) fun _ h => h
theorem k_po {o : Option Expr} {oo : Option OE} (A' : List Nat) (h : ∀ e, o = some e → ∃ oe, oo = some oe ∧ PE X e (EvD X.K bg S0 H0 EX A' (evE C oe))) (hn : o = none → oo = none) : PO X o (EvO X.K bg S0 H0 EX (evO C oo)) := by
  cases o with
  | none =>
    rw [hn rfl]
    exact po_weak po_none fun σ H Q ⟨O, Γ, S, a, q⟩ => by
      rw [evO] at q
      exact q S H a.wld .refl
  | some e =>
    obtain ⟨oe, e1, hp⟩ := h e rfl
    subst e1
    exact po_weak (po_some hp) fun σ H Q ⟨O, Γ, S, a, q⟩ => by
      rw [evO] at q
      refine ⟨O, Γ, S, a, T.all_imp (T.all_bind.mp q) fun x hx v S1 H1 W1 E1 r1 => ?_⟩
      cases x <;> first | exact hx.elim | exact ⟨_, r1, hx S1 H1 W1 E1⟩
theorem k_slice {a : Expr} {lo hi : Option Expr} {oa : OE} {ol oh : Option OE} {pos p2 : Pos} (ha : PE X a (EvD X.K bg S0 H0 EX A (evE C oa))) (hl : PO X lo (EvO X.K bg S0 H0 EX (evO C ol))) (hh : PO X hi (EvO X.K bg S0 H0 EX (evO C oh))) :
    PE X (.Subscript a (.Slice lo hi none p2) pos) (EvD X.K bg S0 H0 EX A (evE C (.slice oa ol oh))) :=
  pe_weak (pe_slice (sl_dat (EX := EX)) ha hl hh) fun σ H Q ⟨O, Γ, S, a0, q⟩ => by
    rw [evE] at q
    refine ⟨O, Γ, S, a0, T.all_imp (T.all_bind.mp q) fun x hx v S1 H1 W1 E1 r1 => ?_⟩
    have a1 := a0.later E1 W1
    refine ⟨O, Γ, S1, a1, T.all_imp (T.all_bind.mp hx) fun l hl S2 H2 W2 E2 => ?_⟩
    have a2 := a1.later E2 W2
    refine ⟨O, Γ, S2, a2, T.all_imp (T.all_bind.mp hl) fun h hh S3 H3 W3 E3 => ?_⟩
    have a3 := a2.later E3 W3
    exact ⟨bg, Gs S3 O σ A, x, a3.gwld A, a2.rep E3 (a1.rep E2 r1), T.all_imp hh fun d hd => a3.rs (E1.trans (E2.trans E3)) hd⟩
/-! ### isinstance -/
theorem typeE_ok {sc : Scope} {e : Expr} {t : Ty} (hsc : X.env.scope = sc) (hf : ∀ x, x ∈ frees → X.mg x = none) (h : typeE sc e = some t) : PE X e (tC (.ty (tyName t))) ∧ isStar e = false := by
  unfold typeE at h
  split at h
  · rename_i x p
    split at h
    · rename_i hc
      have hg : Gl X x := by show X.env.scope.names.lookup x = _; rw [hsc]; exact isGl_gl hc
      have go : ∀ n : String, x ∈ frees → bootBuiltins x = some (.type n) → x ≠ "__name__" → (x == ("__debug__" : Str)) = false → PE X (.Name x p) (tC (.ty n)) ∧ isStar (.Name x p) = false :=
        fun n e2 e3 e4 e5 => ⟨pe_bltn hg (hf x e2) e3 rfl e4 e5, rfl⟩
      unfold tyOf at h
      split at h
      · rename_i e; subst e; cases h; exact go "int" (by decide +kernel) boot_int (by decide +kernel) (by decide +kernel)
      split at h
      · rename_i e; subst e; cases h; exact go "str" (by decide +kernel) boot_str (by decide +kernel) (by decide +kernel)
      split at h
      · rename_i e; subst e; cases h; exact go "bool" (by decide +kernel) boot_bool (by decide +kernel) (by decide +kernel)
      split at h
      · rename_i e; subst e; cases h; exact go "list" (by decide +kernel) boot_list (by decide +kernel) (by decide +kernel)
      split at h
      · rename_i e; subst e; cases h; exact go "tuple" (by decide +kernel) boot_tuple (by decide +kernel) (by decide +kernel)
      cases h
    · cases h
  · cases h
theorem kit_tys : ∀ (k t : Ty), t ≠ .none → kitB (tyName k) (tyName t) = some (subTy k t) := by
  intro k t h
  cases k <;> cases t <;> first | exact absurd rfl h | decide +kernel
theorem kit_dat {K : PySem.W.Frag} {S : Addr → Prop} {H : Hp} {d : D} {v : V} {t : Ty} {b : Bool} (r : Rep K bg S H d v) (ht : t ≠ .none) (e : isTy t d = some b) : ∃ k, tyD d = some k ∧ TyX K H v (.type (tyName k)) ∧ PySem.W.kitOne K (.type (tyName k)) (.type (tyName t)) = some b := by
  obtain ⟨k, h1, h2⟩ := Option.map_eq_some_iff.mp e
  refine ⟨k, h1, r.ty h1, kit_ty ?_⟩
  rw [← h2]
  exact kit_tys k t ht
theorem kit_any {K : PySem.W.Frag} {d : D} {k : Ty} (hk : tyD d = some k) : ∀ {ts : List Ty} {b : Bool}, (∀ t ∈ ts, t ≠ .none) → isTys d ts = some b → PySem.W.kitAny K (.type (tyName k)) (ts.map fun t => Value.type (tyName t)) = some b
  | [], b, _, h => h
  | t :: ts, b, hn, h => by
    have e : PySem.W.kitOne K (.type (tyName k)) (.type (tyName t)) = some (subTy k t) := kit_ty (kit_tys k t (hn t (by simp)))
    have e2 : isTy t d = some (subTy k t) := by unfold isTy; rw [hk]; rfl
    unfold isTys at h
    rw [e2] at h
    show (match PySem.W.kitOne K (.type (tyName k)) (.type (tyName t)) with | some true => some true | some false => PySem.W.kitAny K (.type (tyName k)) (ts.map fun t => Value.type (tyName t)) | none => none) = some b
    rw [e]
    cases q : subTy k t with
    | true => rw [q] at h; exact h
    | false =>
      rw [q] at h
      exact kit_any hk (fun t z => hn t (by simp [z])) h
theorem typeE_some {sc : Scope} {e : Expr} {t : Ty} (h : typeE sc e = some t) : t ≠ .none := by
  unfold typeE at h
  split at h
  · split at h
    · unfold tyOf at h
      repeat (split at h; (cases h; intro z; cases z))
      cases h
    · cases h
  · cases h
/-- isinstance(a, T) -/
theorem k_isi1 {sc : Scope} {a e : Expr} {o : OE} {t : Ty} {p pos : Pos} (A' : List Nat) (hsc : X.env.scope = sc) (hf : ∀ x, x ∈ frees → X.mg x = none) (hg : Gl X "isinstance") (hs : isStar a = false) (ht : typeE sc e = some t) (ha : PE X a (EvD X.K bg S0 H0 EX A' (evE C o))) :
    PE X (.Call (.Name "isinstance" p) [a, e] [] pos) (EvD X.K bg S0 H0 EX A (evE C (.isi o [t]))) := by
  obtain ⟨he, hse⟩ := typeE_ok hsc hf ht
  have hpa : PA X [a, e] (tCons (EvD X.K bg S0 H0 EX A' (evE C o)) (tCons (tC (.ty (tyName t))) tNil)) := pa_cons ha (pa_cons he pa_nil (starEach_cons hse)) (starEach_cons hs)
  refine pe_weak (pe_callB call_isi hg (hf _ (by decide +kernel)) boot_isinstance hpa (by decide +kernel) (by decide +kernel) (starEach_cons hs) (starEach_plain _ _ (by rw [List.any_cons, hse]; rfl))) fun σ H Q ⟨O, Γ, S, a0, q⟩ => ?_
  rw [evE] at q
  refine ⟨O, Γ, S, a0, T.all_imp (T.all_bind.mp q) fun x hx v S1 H1 W1 E1 r1 => ?_⟩
  obtain ⟨b, eb, hb⟩ := T.all_blT hx
  unfold isTys at eb
  cases e2 : isTy t x with
  | none => rw [e2] at eb; cases eb
  | some b' =>
    have : b' = b := by
      rw [e2] at eb
      cases b' <;> (first | exact Option.some.inj eb | (unfold isTys at eb; exact Option.some.inj eb))
    subst this
    obtain ⟨k, hk, ty, kit⟩ := kit_dat r1 (typeE_some ht) e2
    exact ⟨v, .ty (tyName t), _, _, b', rfl, .ty _, ty, kit, hb _ S1 H1 W1 E1 rfl⟩
theorem pa_types {sc : Scope} (hsc : X.env.scope = sc) (hf : ∀ x, x ∈ frees → X.mg x = none) : ∀ {es : List Expr} {ts : List Ty}, typesE sc es = some ts → PA X es (fun σ H Q => Q (ts.map fun t => V.ty (tyName t)) H) ∧ (∀ t ∈ ts, t ≠ .none) ∧ es.length = ts.length
  | [], ts, h => by
    cases h
    exact ⟨pa_weak pa_nil (fun σ H Q q => q), (fun t z => absurd z List.not_mem_nil), rfl⟩
  | e :: es, ts, h => by
    unfold typesE at h
    cases h1 : typeE sc e with
    | none => rw [h1] at h; cases h
    | some t =>
      cases h2 : typesE sc es with
      | none => rw [h1, h2] at h; cases h
      | some r =>
        rw [h1, h2] at h
        cases h
        obtain ⟨i1, i2, i3⟩ := pa_types hsc hf h2
        obtain ⟨he, hse⟩ := typeE_ok hsc hf h1
        refine ⟨pa_weak (pa_cons he i1 (starEach_cons hse)) fun σ H Q q => q, fun u z => ?_, by rw [List.length_cons, List.length_cons, i3]⟩
        rcases List.mem_cons.mp z with z | z
        · rw [z]; exact typeE_some h1
        · exact i2 u z
theorem paired_ty : ∀ ts : List Ty, Paired ClsV (ts.map fun t => V.ty (tyName t)) (ts.map fun t => Value.type (tyName t))
  | [] => .nil
  | t :: ts => .cons (.ty _) (paired_ty ts)
/-- isinstance(a, (T, ..)) -/
theorem k_isiT {sc : Scope} {a : Expr} {es : List Expr} {o : OE} {ts : List Ty} {p pos p2 : Pos} {kk : Nat} (A' : List Nat) (hsc : X.env.scope = sc) (hf : ∀ x, x ∈ frees → X.mg x = none) (hg : Gl X "isinstance") (hs : isStar a = false) (ht : typesE sc es = some ts) (hl : ts.length ≤ 1000) (hne : ts ≠ []) (ha : PE X a (EvD X.K bg S0 H0 EX A' (evE C o))) :
    PE X (.Call (.Name "isinstance" p) [a, .Tuple es kk p2] [] pos) (EvD X.K bg S0 H0 EX A (evE C (.isi o ts))) := by
  obtain ⟨i1, i2, i3⟩ := pa_types hsc hf ht
  have hpa : PA X [a, .Tuple es kk p2] (tCons (EvD X.K bg S0 H0 EX A' (evE C o)) (tCons (tTup (fun σ H Q => Q (ts.map fun t => V.ty (tyName t)) H)) tNil)) := pa_cons ha (pa_cons (pe_tup i1) pa_nil (starEach_cons rfl)) (starEach_cons hs)
  refine pe_weak (pe_callB call_isiT hg (hf _ (by decide +kernel)) boot_isinstance hpa (by decide +kernel) (by decide +kernel) (starEach_cons hs) (starEach_plain _ _ rfl)) fun σ H Q ⟨O, Γ, S, a0, q⟩ => ?_
  rw [evE] at q
  refine ⟨O, Γ, S, a0, T.all_imp (T.all_bind.mp q) fun x hx v S1 H1 W1 E1 r1 => ?_⟩
  obtain ⟨b, eb, hb⟩ := T.all_blT hx
  refine ⟨by rw [List.length_map]; exact Nat.le_of_lt (small1000 hl), fun tp htp => ?_⟩
  have a1 := a0.later E1 W1
  have r2 : Rep X.K bg (Gs S1 O σ A') (upd H1 tp (.tup (ts.map fun t => V.ty (tyName t)))) x v := (Ext.made tp _ htp).rep (a1.gwld A') r1
  have step : ∀ k, tyD x = some k → (rIsiT X.K) [v, .ref tp] (upd H1 tp (.tup (ts.map fun t => V.ty (tyName t)))) Q := fun k hk =>
    ⟨v, tp, _, _, _, b, rfl, upd_same, paired_ty ts, r2.ty hk, kit_any hk i2 eb, hb _ S1 _ (W1.made htp) (E1.trans (.made tp _ htp)) rfl⟩
  cases hk : tyD x with
  | some k => exact step k hk
  | none =>
    cases ts with
    | nil => exact absurd rfl hne
    | cons t ts =>
      unfold isTys isTy at eb
      rw [hk] at eb
      cases eb
/-! ### methods -/
theorem join_flat {d : D} {ds : List D} {P : D → Prop} {E : D → Prop} (h : (methD .join d ds).All P E) : (methD .join d ds).All (fun d => P d ∧ isFlat d = true) E := by
  unfold methD at h ⊢
  dsimp only at h ⊢
  unfold joinD at h ⊢
  split at h
  · split at h
    · exact need_bl rfl h
    · exact h.elim
  · exact h.elim
theorem k_join {o e : Expr} {oo : OE} {os : List OE} {ap pos : Pos} (A' : List Nat) (hs : isStar e = false) (hline : (ap.endLine == pos.line) = true) (hbase : attributeBase o "join" X.env (eval o X.env) = eval o X.env) (ho : PE X o (EvD X.K bg S0 H0 EX A' (evE C oo))) (ha : PA X [e] (EvL X.K bg S0 H0 EX A' (evEs C os))) :
    PE X (.Call (.Attribute o "join" ap) [e] [] pos) (EvD X.K bg S0 H0 EX A (evE C (.meth .join oo os))) := by
  refine pe_weak (pe_bm PySem.F.plainAttrs_str PySem.F.slot_str_join PySem.F.type_str_join (mt_join_dat (EX := EX)) ho ha hbase ?_ hline (starEach_cons hs) (starEach_plain _ _ rfl)) fun σ H Q ⟨O, Γ, S, a0, q⟩ => ?_
  · rw [starEach_cons hs]; rfl
  · rw [evE] at q
    refine ⟨O, Γ, S, a0, T.all_imp (T.all_bind.mp q) fun x hx v S1 H1 W1 E1 r1 => ?_⟩
    have a1 := a0.later E1 W1
    obtain ⟨c, hx⟩ := T.all_need hx
    cases x <;> first | (cases c; done) | skip
    refine ⟨by rw [r1.1]; rfl, O, Γ, S1, a1, T.all_imp (T.all_bind.mp hx) fun ds hds vs S2 H2 W2 E2 r2 => ?_⟩
    have a2 := a1.later E2 W2
    refine ⟨bg, Gs S2 O σ A', _, ds, a2.gwld A', a1.rep E2 r1, r2, T.all_imp (join_flat hds) fun d hd u S' H' W' E' r' => ?_⟩
    obtain ⟨W3, E3, s3⟩ := a2.back W' E'
    exact hd.1 u _ H' W3 (E1.trans (E2.trans E3)) (r'.flat hd.2)
end
end Dy

set_option linter.all false
set_option maxRecDepth 10000
set_option autoImplicit false
/-! Dy, part 10: tests, what is walked, list comprehensions. -/
namespace Dy
open PySem PySem.Spec PyProof.Rows L2
section
variable {X : Cx} {bg : Option (Addr × Addr)} {S0 : Addr → Prop} {H0 : Hp} {EX : D → Prop} {A : List Nat} {C : Calls}
/-! ### tests -/
theorem kt_plain {e : Expr} {o : OE} (A' : List Nat) (he : ∀ whole, isTrue e X.env whole = (do let v ← whole; standAt e.pos; holding [v] (truthy v))) (h : PE X e (EvD X.K bg S0 H0 EX A' (evE C o))) : PT X e (EvB X.K bg S0 H0 EX (evT C (.e o))) :=
  pt_weak (pt_truth h he) fun σ H Q ⟨O, Γ, S, a, q⟩ => by
    rw [evT] at q
    refine ⟨O, Γ, S, a, T.all_imp (T.all_bind.mp q) fun x hx v S1 H1 W1 E1 r1 => ?_⟩
    obtain ⟨k, tk, hk⟩ := truth_ok r1 hx
    exact ⟨k, tk, hk S1 H1 W1 E1⟩
theorem kt_not {e : Expr} {o : OT} {pos : Pos} (h : PT X e (EvB X.K bg S0 H0 EX (evT C o))) : PT X (.UnaryOp .Not e pos) (EvB X.K bg S0 H0 EX (evT C (.not_ o))) :=
  pt_weak (pt_not h) fun σ H Q ⟨O, Γ, S, a, q⟩ => by
    rw [evT] at q
    exact ⟨O, Γ, S, a, T.all_imp (T.all_bind.mp q) fun k hk S1 H1 W1 E1 => hk S1 H1 W1 E1⟩
theorem kt_and {pos : Pos} : ∀ {es : List Expr} {os : List OT}, es.length = os.length → (∀ (i : Nat) (e : Expr) (o : OT), es[i]? = some e → os[i]? = some o → PT X e (EvB X.K bg S0 H0 EX (evT C o))) →
    PW X (.BoolOp .And es pos) (EvB X.K bg S0 H0 EX (evTAnd C os)) ∧ PW X (.BoolOp .Or es pos) (EvB X.K bg S0 H0 EX (evTOr C os))
  | _, [], hl, _ => ⟨pw_false fun Γ => by rw [evTAnd], pw_false fun Γ => by rw [evTOr]⟩
  | [], _ :: _, hl, _ => by cases hl
  | [e], [o], hl, h => ⟨pw_weak (pw_and1 (h 0 e o rfl rfl)) fun σ H Q ⟨O, Γ, S, a, q⟩ => ⟨O, Γ, S, a, by rw [evTAnd] at q; exact q⟩, pw_weak (pw_or1 (h 0 e o rfl rfl)) fun σ H Q ⟨O, Γ, S, a, q⟩ => ⟨O, Γ, S, a, by rw [evTOr] at q; exact q⟩⟩
  | [_], _ :: _ :: _, hl, _ => by cases hl
  | _ :: _ :: _, [_], hl, _ => by cases hl
  | e :: e2 :: es, o :: o2 :: os, hl, h => by
    have h0 := h 0 e o rfl rfl
    obtain ⟨i1, i2⟩ := kt_and (pos := pos) (es := e2 :: es) (os := o2 :: os) (by simpa using hl) fun i e' o' h1 h2 => h (i + 1) e' o' h1 h2
    refine ⟨pw_weak (pw_and h0 i1) fun σ H Q ⟨O, Γ, S, a, q⟩ => ?_, pw_weak (pw_or h0 i2) fun σ H Q ⟨O, Γ, S, a, q⟩ => ?_⟩
    · rw [evTAnd] at q
      refine ⟨O, Γ, S, a, T.all_imp (T.all_bind.mp q) fun k hk S1 H1 W1 E1 => ?_⟩
      cases k with
      | true => exact iteT ⟨O, Γ, S1, a.later E1 W1, T.all_imp hk fun d hd S2 H2 W2 E2 => hd S2 H2 W2 (E1.trans E2)⟩
      | false => exact iteF (hk S1 H1 W1 E1)
    · rw [evTOr] at q
      refine ⟨O, Γ, S, a, T.all_imp (T.all_bind.mp q) fun k hk S1 H1 W1 E1 => ?_⟩
      cases k with
      | false => exact iteF ⟨O, Γ, S1, a.later E1 W1, T.all_imp hk fun d hd S2 H2 W2 E2 => hd S2 H2 W2 (E1.trans E2)⟩
      | true => exact iteT (hk S1 H1 W1 E1)
/-! ### what is walked -/
def iAny (K : PySem.W.Frag) (tl : TE) : TI := fun σ H R => tl σ H fun x H1 => LenOk K H1 → (∃ a, x = .ref a ∧ (∃ xs, SqL K H1 a xs) ∧ R (Itl K a) H1) ∨ (∃ a, x = .ref a ∧ (∃ xs, SqT K H1 a xs) ∧ R (Itt K a) H1) ∨ ∃ z, x = .str z ∧ R (Its z) H1
theorem pi_any {tg l : Expr} {tl : TE} (hl : PE X l tl) : PI X tg l (iAny X.K tl) := by
  refine ⟨fun pins s σ H R I h => ?_⟩
  refine thn ((pe_big hl).run pins s σ H _ I h) fun u s2 ⟨x, H2, I2, rx, cs⟩ => ?_
  rcases cs with ⟨a, e, ⟨xs, hq⟩, q⟩ | ⟨a, e, ⟨xs, hq⟩, q⟩ | ⟨z, e, q⟩
  · subst e
    cases rx
    obtain ⟨its, _, p, _⟩ := I2.list hq
    exact wpAny_pyIter_list p.isList (pi_one (tk := s2.toks) I2 _ (turn_list a _) ⟨_, Heap.get?_push_size _ rfl, rfl, rfl⟩ q)
  · subst e
    cases rx
    obtain ⟨its, _, p, _⟩ := I2.tuple hq
    exact wpAny_pyIter_tuple (show s2.heap.IsTuple a its.toArray from p) (pi_one (tk := s2.toks) I2 _ (turn_tuple a _) ⟨_, Heap.get?_push_size _ rfl, rfl, rfl⟩ q)
  · subst e
    obtain ⟨t, et⟩ := rx
    subst et
    cases ha : z.cps.all (· < 128)
    · exact wpAny_pyIter_wide ha (pi_one (tk := s2.toks) I2 _ (turn_str _ z t "str_iterator" (.inr rfl)) ⟨_, Heap.get?_push_size _ rfl, rfl, rfl⟩ q)
    · exact wpAny_pyIter_ascii ha (pi_one (tk := s2.toks) I2 _ (turn_str _ z t "str_ascii_iterator" (.inl rfl)) ⟨_, Heap.get?_push_size _ rfl, rfl, rfl⟩ q)
theorem pa_big {es : List Expr} {t : TA} (h : PA X es t) : PA X es (fun σ H Q => t σ H fun v H1 => LenOk X.K H1 → Q v H1) := ⟨fun p pins s σ H Q I q =>
  thn (h.run p pins s σ H _ I q) fun u s1 ⟨v, H1, I1, r, q1⟩ => ⟨v, H1, I1, r, q1 ⟨fun a xs z => by
    obtain ⟨its, rv, _, hz⟩ := I1.list z
    exact hz, fun a xs z => by
    obtain ⟨its, rv, _, hz⟩ := I1.tuple z
    exact hz⟩⟩⟩
theorem ki_any {tg e : Expr} {o : OE} (h : PE X e (EvD X.K bg S0 H0 EX A (evE C o))) : PI X tg e (EvI X.K bg S0 H0 EX A (evI C (.e o))) :=
  pi_weak (pi_any h) fun σ H R ⟨O, Γ, S, a, q⟩ => by
    have hl := lineM
    rw [evI] at q
    refine ⟨O, Γ, S, a, T.all_imp (T.all_bind.mp q) fun x hx v S1 H1 W1 E1 r1 len => ?_⟩
    have a1 := a.later E1 W1
    unfold itemsD at hx
    split at hx
    · obtain ⟨p, xs, e, hq, hn, it⟩ := iter_list (a1.gwld A) r1
      exact .inl ⟨p, e, ⟨xs, hq⟩, hx _ S1 H1 W1 E1 it (by rw [← hn]; exact len.1 _ _ hq)⟩
    · obtain ⟨p, xs, e, hq, hn, it⟩ := iter_tup (a1.gwld A) r1
      exact .inr (.inl ⟨p, e, ⟨xs, hq⟩, hx _ S1 H1 W1 E1 it (by rw [← hn]; exact len.2 _ _ hq)⟩)
    · obtain ⟨c, hx⟩ := T.all_need hx
      have c := of_decide_eq_true c
      exact .inr (.inr ⟨_, r1.1, hx _ S1 H1 W1 E1 (iter_str r1.2) (by rw [List.length_map, ← hl]; exact c)⟩)
    · exact hx.elim
theorem ki_rng1 {tg e : Expr} {o : OE} {p pos : Pos} (A' : List Nat) (hg : Gl X "range") (hm : X.mg "range" = none) (hs : isStar e = false) (h : PE X e (EvD X.K bg S0 H0 EX A' (evE C o))) :
    PI X tg (.Call (.Name "range" p) [e] [] pos) (EvI X.K bg S0 H0 EX A (evI C (.rng1 o))) := by
  have lr : ∀ lo n, (rangeD lo n).length = n := fun lo n => by unfold rangeD; rw [List.length_map, List.length_range]
  have hz : sizeLine = 16777216 := sizeLine_eq
  refine pi_weak (pi_range1 hg hm (pa_cons h pa_nil (starEach_cons hs)) (starEach_cons hs)) fun σ H R ⟨O, Γ, S, a, q⟩ => ?_
  rw [evI] at q
  refine ⟨O, Γ, S, a, T.all_imp (T.all_bind.mp q) fun x hx v S1 H1 W1 E1 r1 => ?_⟩
  cases x <;> first | exact hx.elim | skip
  obtain ⟨c, hds⟩ := T.all_need hx
  obtain ⟨c1, c2⟩ := of_decide_eq_true c
  exact ⟨_, by rw [show v = _ from r1], c1, by omega, hds _ S1 H1 W1 E1 (iter_rng _ _) (by rw [lr]; omega)⟩
theorem ki_rng2 {tg e e' : Expr} {o o' : OE} {p pos : Pos} (A' : List Nat) (hg : Gl X "range") (hm : X.mg "range" = none) (hs : isStar e = false) (hs' : isStar e' = false) (h : PE X e (EvD X.K bg S0 H0 EX A' (evE C o))) (h' : PE X e' (EvD X.K bg S0 H0 EX A' (evE C o'))) :
    PI X tg (.Call (.Name "range" p) [e, e'] [] pos) (EvI X.K bg S0 H0 EX A (evI C (.rng2 o o'))) := by
  have lr : ∀ lo n, (rangeD lo n).length = n := fun lo n => by unfold rangeD; rw [List.length_map, List.length_range]
  have hz : sizeLine = 16777216 := sizeLine_eq
  refine pi_weak (pi_range2 hg hm (pa_cons h (pa_cons h' pa_nil (starEach_cons hs')) (starEach_cons hs)) (by rw [starEach_cons hs, starEach_cons hs']; rfl) (starEach_cons hs')) fun σ H R ⟨O, Γ, S, a, q⟩ => ?_
  rw [evI] at q
  refine ⟨O, Γ, S, a, T.all_imp (T.all_bind.mp q) fun x hx v S1 H1 W1 E1 r1 => ?_⟩
  have a1 := a.later E1 W1
  refine ⟨O, Γ, S1, a1, T.all_imp (T.all_bind.mp hx) fun y hy v2 S2 H2 W2 E2 r2 => ?_⟩
  cases x <;> first | exact hy.elim | skip
  cases y <;> first | exact hy.elim | skip
  obtain ⟨c, hds⟩ := T.all_need hy
  obtain ⟨c1, c2, c3, c4, c5⟩ := of_decide_eq_true c
  refine ⟨_, _, by rw [show v = _ from r1, show v2 = _ from r2], ⟨c1, c2, c3, c4⟩, hds _ S2 H2 W2 (E1.trans E2) (iter_rng _ _) (by rw [lr]; omega)⟩
theorem ki_enum {e : Expr} {o : OE} {p pos tpos : Pos} {elts : List Expr} {kk : Nat} (hg : Gl X "enumerate") (hm : X.mg "enumerate" = none) (hs : isStar e = false) (h : PE X e (EvD X.K bg S0 H0 EX A (evE C o))) :
    PI X (.Tuple elts kk tpos) (.Call (.Name "enumerate" p) [e] [] pos) (EvI X.K bg S0 H0 EX A (evI C (.enum o))) := by
  refine pi_weak (pi_enum hg hm (pa_big (pa_cons h pa_nil (starEach_cons hs))) (starEach_cons hs)) fun σ H R ⟨O, Γ, S, a, q⟩ => ?_
  rw [evI] at q
  refine ⟨O, Γ, S, a, T.all_imp (T.all_bind.mp q) fun x hx v S1 H1 W1 E1 r1 len => ?_⟩
  have a1 := a.later E1 W1
  cases x <;> first | exact hx.elim | skip
  obtain ⟨p', xs, e', hq, hn, it⟩ := iter_enum (a1.gwld A) r1
  exact ⟨p', xs, by rw [e'], hq, hx _ S1 H1 W1 E1 it (by rw [enumD_len, ← hn]; exact len.1 _ _ hq)⟩
theorem ki_zip {e e2 : Expr} {o o2 : OE} {p pos tpos : Pos} {elts : List Expr} {kk : Nat} (hg : Gl X "zip") (hm : X.mg "zip" = none) (hs : isStar e = false) (hs2 : isStar e2 = false) (h : PE X e (EvD X.K bg S0 H0 EX A (evE C o))) (h2 : PE X e2 (EvD X.K bg S0 H0 EX A (evE C o2))) :
    PI X (.Tuple elts kk tpos) (.Call (.Name "zip" p) [e, e2] [] pos) (EvI X.K bg S0 H0 EX A (evI C (.zip o o2))) := by
  refine pi_weak (RZ.pi_zipA hg hm (pa_big (pa_cons h (pa_cons h2 pa_nil (starEach_cons hs2)) (starEach_cons hs))) (starEach_cons hs) (starEach_plain _ _ (by rw [List.any_cons, hs2]; rfl))) fun σ H R ⟨O, Γ, S, a, q⟩ => ?_
  rw [evI] at q
  refine ⟨O, Γ, S, a, T.all_imp (T.all_bind.mp q) fun x hx v S1 H1 W1 E1 r1 => ?_⟩
  have a1 := a.later E1 W1
  refine ⟨O, Γ, S1, a1, T.all_imp (T.all_bind.mp hx) fun y hy v2 S2 H2 W2 E2 r2 len => ?_⟩
  have a2 := a1.later E2 W2
  have r1' := a1.rep E2 r1
  split at hy
  · obtain ⟨pa, pb, xs, ys, ea, eb, ha, hb, hn, it⟩ := iter_zipL (a2.gwld A) r1' r2
    refine ⟨pa, pb, xs, ys, by rw [ea, eb], .inl ⟨ha, hb, hy _ S2 H2 W2 (E1.trans E2) it ?_⟩⟩
    have := len.1 _ _ ha
    rw [zipD_len]
    omega
  · obtain ⟨pa, pb, xs, ys, ea, eb, ha, hb, hn, it⟩ := iter_zipT (a2.gwld A) r1' r2
    refine ⟨pa, pb, xs, ys, by rw [ea, eb], .inr ⟨ha, hb, hy _ S2 H2 W2 (E1.trans E2) it ?_⟩⟩
    have := len.2 _ _ ha
    rw [zipD_len]
    omega
  · exact hy.elim
end

/-! ### an own object is written -/
section
variable {bg : Option (Addr × Addr)} {S S' : Addr → Prop} {H1 H H' : Hp} {D' : Addr} {o o' : HO}
theorem Wld.write (W0 : Wld bg S H1) (W : Wld bg S' H) (h0 : H1 D' = none) (hD : H D' = some o) : Wld bg S' (upd H D' o') := ⟨fun a h => by
  by_cases e : a = D'
  · rw [e, upd_same]; simp
  · rw [upd_ne e]; exact W.dom a h, fun b e => by
    obtain ⟨B, n, ne⟩ := W.bag b e
    obtain ⟨B0, _, _⟩ := W0.bag b e
    have n1 : b.1 ≠ D' := fun z => B0.there.1 (z ▸ h0)
    have n2 : b.2 ≠ D' := fun z => B0.there.2 (z ▸ h0)
    exact ⟨B.stay (fun o q => by rw [upd_ne n1]; exact q) (fun o q => by rw [upd_ne n2]; exact q), n, ne⟩⟩
theorem Ext.write (E : Ext bg S H1 S' H) (h0 : H1 D' = none) : Ext bg S H1 S' (upd H D' o') := ⟨E.sub, E.new, fun a u h n => by
  rw [upd_ne (ne_of_none h h0)]; exact E.keep a u h n, fun a h => by
  by_cases e : a = D'
  · rw [e, upd_same]; simp
  · rw [upd_ne e]; exact E.dom a h⟩
theorem Reps.write {K : PySem.W.Frag} {ds : List D} {vs : List V} (r : Reps K bg S H ds vs) (n : ¬ S D') : Reps K bg S (upd H D' o') ds vs :=
  r.mono (fun _ h => h) (fun a u s q => by rw [upd_ne (fun z => n (by rw [← z]; exact s))]; exact q) ds vs
theorem Rep.write {K : PySem.W.Frag} {ds : D} {vs : V} (r : Rep K bg S H ds vs) (n : ¬ S D') : Rep K bg S (upd H D' o') ds vs :=
  r.mono (fun _ h => h) (fun a u s q => by rw [upd_ne (fun z => n (by rw [← z]; exact s))]; exact q) ds vs
end
theorem wipe_at (τ : L2.St) (j : Nat) : ∀ us : List Nat, (wipe τ us)[j]? = if j ∈ us then (if j < τ.length then some none else none) else τ[j]?
  | [] => by simp [wipe]
  | u :: us => by
    show ((wipe τ us).set u none)[j]? = _
    have ih := wipe_at τ j us
    by_cases uj : u = j
    · subst uj
      by_cases hl : u < τ.length
      · rw [List.getElem?_set_self (by rw [wipe_length]; exact hl)]
        simp [hl]
      · rw [List.getElem?_eq_none (by simp [wipe_length]; omega)]
        simp [hl]
    · rw [List.getElem?_set_ne uj, ih]
      by_cases m : j ∈ us
      · simp [m]
      · have : ¬ j = u := fun z => uj z.symm
        simp [m, this]
theorem wipe_wipe (τ : L2.St) (us : List Nat) : wipe (wipe τ us) us = wipe τ us := by
  apply List.ext_getElem?
  intro j
  rw [wipe_at, wipe_at, wipe_length]
  by_cases m : j ∈ us <;> simp [m]

/-! ### list comprehensions -/
section
variable {X : Cx} {bg : Option (Addr × Addr)} {S0 : Addr → Prop} {H0 : Hp} {EX : D → Prop} {A : List Nat} {C : Calls}
/-- no exception is let out of a comprehension -/
abbrev NX : D → Prop := fun _ => False
/-- a comprehension's data -/
def lcF (C : Calls) (t : Tg) (vs : List Nat) (ot : List OT) (oe : OE) (Γ : Gam) : D → T (Option D) := fun d => ((T.ofOpt (bindTg t d (wipeG Γ vs))).bind fun Γ' => (evTs C ot Γ').bind fun b => match b with
      | true => (evE C oe Γ').bind fun x => T.ret (some x)
      | false => T.ret none).still
theorem evE_lc (oe : OE) (vs : List Nat) (t : Tg) (oi : OI) (ot : List OT) (Γ : Gam) : evE C (.lc oe vs t oi ot) Γ = (evI C oi Γ).bind fun ds => (lcLoop (lcF C t vs ot oe Γ) ds).bind fun xs => .ret (.lst xs) := by
  rw [evE]
  rfl
theorem lc_read {K : PySem.W.Frag} {vs : List Nat} {oi : OI} {oe : OE} {ot : List OT} {t : Tg} (htg : ∀ i, i ∈ tgs t → i ∈ vs) {σ : L2.St} {H : Hp} {Q : VK}
    (q : EvN K bg S0 H0 EX A (fun Γ => (evI C oi Γ).bind fun ds => (lcLoop (lcF C t vs ot oe Γ) ds).bind fun xs => .ret (.lst xs, true)) σ H Q) :
    tLc (EvI K bg S0 H0 EX A (evI C oi)) (gOf K t) (EvB K bg S0 H0 NX (evTs C ot)) (EvD K bg S0 H0 NX A (evE C oe)) vs σ H Q := by
  obtain ⟨O, Γ, S, a, q⟩ := q
  refine ⟨O, Γ, S, a, T.all_imp (T.all_bind.mp q) fun ds hds J S1 H1 W1 E1 it hlen D' hD => ?_⟩
  have a1 := a.later E1 W1
  have af := a1.freeze A
  generalize hF : lcF C t vs ot oe Γ = F at hds
  have hds := T.all_bind.mp hds
  refine ⟨fun i m H2 => m = ds.length - i ∧ i ≤ ds.length ∧ ∃ S2 acc racc, Wld bg S2 H2 ∧ Ext bg (Gs S1 O σ A) H1 S2 H2 ∧ H2 D' = some (.lst acc) ∧ ¬ S2 D' ∧ Reps K bg S2 H2 racc acc ∧ racc.length ≤ i ∧
      (lcLoop F (ds.drop i)).All (fun rs => ∀ v S' H', Wld bg S' H' → Ext bg S H S' H' → ResN K bg (Gs S' O σ A) H H' (.lst (racc ++ rs), true) v → Q v H') EX,
    ⟨ds.length, by simp, Nat.zero_le _, Gs S1 O σ A, [], [], (a1.gwld A).made hD, .made D' _ hD, upd_same, fun z => (a1.gwld A).dom D' z hD, rfl, Nat.zero_le _, hds⟩, ?_⟩
  rintro i m H2 ⟨rfl, hi, S2, acc, racc, W2, E2, hacc, nD, racc_ok, hle, rest⟩
  obtain ⟨it1, it2⟩ := it i S2 H2 W2 (E2.sta (a1.gwld A))
  by_cases hlt : i < ds.length
  · obtain ⟨d, hd⟩ : ∃ d, ds[i]? = some d := ⟨ds[i], List.getElem?_eq_getElem hlt⟩
    obtain ⟨go, yl⟩ := it2 d hd
    refine .inr ⟨go, fun H' => ∃ S2 acc racc, Wld bg S2 H' ∧ Ext bg (Gs S1 O σ A) H1 S2 H' ∧ H' D' = some (.lst acc) ∧ ¬ S2 D' ∧ Reps K bg S2 H' racc acc ∧ racc.length ≤ i + 1 ∧
      (lcLoop F (ds.drop (i + 1))).All (fun rs => ∀ v S' H', Wld bg S' H' → Ext bg S H S' H' → ResN K bg (Gs S' O σ A) H H' (.lst (racc ++ rs), true) v → Q v H') EX,
      fun H' z => ⟨ds.length - (i + 1), by omega, rfl, hlt, z⟩, fun x H3 hy => ?_⟩
    obtain ⟨S3, W3, E3, r3⟩ := yl x H3 hy
    have e_drop : ds.drop i = d :: ds.drop (i + 1) := by
      rw [List.drop_eq_getElem_cons hlt]
      rw [List.getElem?_eq_getElem hlt] at hd
      cases hd
      rfl
    rw [e_drop] at rest
    have rest := T.all_bind.mp (show ((F d).bind fun r => (lcLoop F (ds.drop (i + 1))).bind fun rs => T.ret (match r with | some x => x :: rs | none => rs)).All _ EX from rest)
    rw [← hF] at rest
    unfold lcF at rest hF
    have rest := T.all_bind.mp (T.all_still (E' := NX) rest)
    obtain ⟨Γ', eΓ, rest⟩ := T.all_ofOpt rest
    have rest := T.all_bind.mp rest
    have a3 := (af.later (E2.trans E3) W3).wiped vs
    have hD3 : H3 D' = some (.lst acc) := E3.keep D' _ hacc (fun ⟨b, eb, z⟩ => ((W1.bag b eb).1.there).1 (z ▸ hD))
    have nD3 : ¬ S3 D' := fun z => by
      rcases E3.new D' z with z | z
      · exact nD z
      · rw [hacc] at z; cases z
    refine gOf_ok t d x _ _ Γ' _ _ a3 r3 eΓ fun σ' a4 wp => ⟨(wp vs htg).trans (wipe_wipe σ vs), ?_⟩
    refine ⟨_, Γ', S3, a4, T.all_imp rest fun b hb S4 H4 W4 E4 => ?_⟩
    have hD4 : H4 D' = some (.lst acc) := E4.keep D' _ hD3 (fun ⟨b, eb, z⟩ => ((W1.bag b eb).1.there).1 (z ▸ hD))
    have nD4 : ¬ S4 D' := fun z => by
      rcases E4.new D' z with z | z
      · exact nD3 z
      · rw [hD3] at z; cases z
    have E24 := E3.trans E4
    cases b with
    | false =>
      refine iteF ⟨S4, acc, racc, W4, E2.trans E24, hD4, nD4, E24.reps W2 racc_ok, by omega, ?_⟩
      have hb := T.all_bind.mp hb
      rw [hF] at hb
      exact T.all_imp hb fun rs h v S' H' W E r => h v S' H' W E r
    | true =>
      refine iteT ?_
      have hb := T.all_bind.mp hb
      refine ⟨_, Γ', S4, a4.later E4 W4, T.all_imp hb fun y hy w S5 H5 W5 E5 r5 => ?_⟩
      have E25 := E24.trans E5
      have hD5 : H5 D' = some (.lst acc) := E5.keep D' _ hD4 (fun ⟨b, eb, z⟩ => ((W1.bag b eb).1.there).1 (z ▸ hD))
      have nD5 : ¬ S5 D' := fun z => by
        rcases E5.new D' z with z | z
        · exact nD4 z
        · rw [hD4] at z; cases z
      -- nothing of A is one's own here
      have r5' : Rep K bg S5 H5 y w := r5.mono (fun p z => by
        rcases z with z | ⟨j, jA, jO, _⟩
        · exact z
        · have := (List.mem_filter.mp (List.mem_filter.mp (dropT_sub t _ j jO)).1).2
          exact absurd jA (of_decide_eq_true this)) (fun _ _ _ z => z) y w
      have racc5 := E25.reps W2 racc_ok
      have hal := racc5.length
      refine ⟨acc, hD5, by omega, S5, acc ++ [w], racc ++ [y], Wld.write (a1.gwld A) W5 hD hD5, (E2.trans E25).write hD, upd_same, nD5, (racc5.write nD5).append ⟨w, [], rfl, r5'.write nD5, rfl⟩, by rw [List.length_append]; show racc.length + 1 ≤ i + 1; omega, ?_⟩
      have hy := T.all_bind.mp hy
      rw [hF] at hy
      refine T.all_imp hy fun rs h v S' H' W E r => h v S' H' W E (by rw [List.append_assoc] at r; exact r)
  · have ei : i = ds.length := by omega
    subst ei
    refine .inl ⟨it1 (Nat.le_refl _), ?_⟩
    rw [List.drop_length] at rest
    have rest : ∀ v S' H', Wld bg S' H' → Ext bg S H S' H' → ResN K bg (Gs S' O σ A) H H' (.lst (racc ++ []), true) v → Q v H' := rest
    rw [List.append_nil] at rest
    obtain ⟨W6, E6, s6⟩ := a1.back W2 E2
    refine rest (.ref D') _ H2 W6 (E1.trans E6) ⟨D', racc, acc, rfl, rfl, fun z => nD ?_, E1.unborn hD, hacc, racc_ok.mono s6 (fun _ _ _ z => z) racc acc⟩
    rcases z with (z | ⟨z, _⟩) | ⟨i, z1, z2, z3⟩
    · exact E2.sub _ (.inl z)
    · exact z
    · exact E2.sub _ (.inr ⟨i, z1, z2, z3⟩)
theorem k_lcN {elt tg iter : Expr} {ifs : List Expr} {scope : Scope} {own : List (Str × Nat)} {pos : Pos} {oi : OI} {oe : OE} {ot : List OT} {t : Tg} (hc : X.calm = true) (hN : X.N.Nodup) (hi : PI X tg iter (EvI X.K bg S0 H0 EX A (evI C oi))) (ok : BlkOk X.N X.env.scope scope own)
    (hg : ∀ (s : Shared) (H : Hp) (c : Addr) (cl : List (Str × Addr)) (fp : List Addr), PG (X.blk s H scope (compEnvC scope cl c X.env) fp) tg (gOf X.K t))
    (ht : ∀ (s : Shared) (H : Hp) (c : Addr) (cl : List (Str × Addr)) (fp : List Addr), PTs (X.blk s H scope (compEnvC scope cl c X.env) fp) ifs (EvB X.K bg S0 H0 NX (evTs C ot)))
    (he : ∀ (s : Shared) (H : Hp) (c : Addr) (cl : List (Str × Addr)) (fp : List Addr), PE (X.blk s H scope (compEnvC scope cl c X.env) fp) elt (EvD X.K bg S0 H0 NX A (evE C oe)))
    (hs : ∀ x, foldedSetIterable iter X.env x = pure x) (htg : ∀ i, i ∈ tgs t → i ∈ own.map (·.2)) :
    PE X (.ListComp elt [⟨tg, iter, ifs, 0⟩] scope pos) (EvN X.K bg S0 H0 EX A (fun Γ => (evI C oi Γ).bind fun ds => (lcLoop (lcF C t (own.map (·.2)) ot oe Γ) ds).bind fun xs => .ret (.lst xs, true))) :=
  pe_weak (pe_lc hc hN hi ok hg ht he hs) fun σ H Q q => lc_read htg q
theorem k_lc {elt tg iter : Expr} {ifs : List Expr} {scope : Scope} {own : List (Str × Nat)} {pos : Pos} {oi : OI} {oe : OE} {ot : List OT} {t : Tg} (h : PE X (.ListComp elt [⟨tg, iter, ifs, 0⟩] scope pos) (EvN X.K bg S0 H0 EX A (fun Γ => (evI C oi Γ).bind fun ds => (lcLoop (lcF C t (own.map (·.2)) ot oe Γ) ds).bind fun xs => .ret (.lst xs, true)))) :
    PE X (.ListComp elt [⟨tg, iter, ifs, 0⟩] scope pos) (EvD X.K bg S0 H0 EX A (evE C (.lc oe (own.map (·.2)) t oi ot))) :=
  pe_weak h fun σ H Q q => evN_D (ev_fun (fun Γ => by rw [evE_lc, T.bind_assoc]; congr 1; funext ds; rw [T.bind_assoc]; rfl) q)
end
end Dy

set_option linter.all false
set_option maxRecDepth 10000
set_option autoImplicit false
/-! Dy, part 11: every expression that has an own form does what its data says. -/
namespace Dy
open PySem PySem.Spec PyProof.Rows L2
theorem als_mem : ∀ {os : List OE} {i j : Nat} {o : OE}, os[i]? = some o → j ∈ al o → j ∈ als os
  | [], _, _, _, h, _ => by simp at h
  | o :: os, 0, j, o', h, m => by
    have : o = o' := by simpa using h
    subst this
    unfold als
    exact List.mem_append_left _ m
  | o :: os, i + 1, j, o', h, m => by
    unfold als
    exact List.mem_append_right _ (als_mem (i := i) (by simpa using h) m)
theorem super_base {o : Expr} {m : Str} {env : Env} (h : superE o = false) : attributeBase o m env (eval o env) = eval o env := by
  unfold superE at h
  split at h
  · cases h
  · rename_i hn
    unfold attributeBase
    split
    · rename_i id p pos
      exact absurd rfl (hn _ _ _)
    · rfl
theorem ownOf_mem {N : List Str} {sc : Scope} {x : Str} {i : Nat} (h : isLoc sc x = true) (hi : N.idxOf? x = some i) : i ∈ (ownOf N sc).map (·.2) := by
  rw [List.mem_map]
  refine ⟨(x, i), ?_, rfl⟩
  unfold ownOf
  rw [List.mem_filterMap]
  rcases isLoc_loc h with e | e
  · exact ⟨(x, .local), PySem.mem_of_lookup e, by show (N.idxOf? x).map _ = _; rw [hi]; rfl⟩
  · exact ⟨(x, .cell), PySem.mem_of_lookup e, by show (N.idxOf? x).map _ = _; rw [hi]; rfl⟩
mutual
theorem tgs_own {c : Cf} {sc : Scope} : ∀ (n : Nat) (e : Expr) (t : Tg), stripG c sc n e = some t → ∀ i, i ∈ tgs t → i ∈ (ownOf c.N sc).map (·.2)
  | 0, _, _, h => by cases h
  | n + 1, e, t, h => by
    unfold stripG at h
    split at h
    · split at h
      · rename_i hl
        obtain ⟨i, hi, e⟩ := Option.map_eq_some_iff.mp h
        subst e
        intro j hj
        have : j = i := by simpa [tgs] using hj
        subst this
        exact ownOf_mem hl hi
      · cases h
    · split at h
      · cases h
      · obtain ⟨ts, hts, e⟩ := Option.map_eq_some_iff.mp h
        subst e
        intro j hj
        unfold tgs at hj
        exact tgss_own n _ ts hts j hj
    · cases h
theorem tgss_own {c : Cf} {sc : Scope} : ∀ (n : Nat) (es : List Expr) (ts : List Tg), stripGs c sc n es = some ts → ∀ i, i ∈ tgss ts → i ∈ (ownOf c.N sc).map (·.2)
  | _, [], ts, h => by
    unfold stripGs at h
    cases h
    intro i hi
    simp [tgss] at hi
  | 0, _ :: _, _, h => by cases h
  | n + 1, e :: es, ts, h => by
    unfold stripGs at h
    cases h1 : stripG c sc n e with
    | none => rw [h1] at h; cases h
    | some t =>
      cases h2 : stripGs c sc n es with
      | none => rw [h1, h2] at h; cases h
      | some r =>
        rw [h1, h2] at h
        cases h
        intro i hi
        unfold tgss at hi
        rcases List.mem_append.mp hi with z | z
        · exact tgs_own n e t h1 i z
        · exact tgss_own n es r h2 i z
end
/-- a comprehension's block -/
theorem Good.blk {c : Cf} {C : Calls} {k : Nat} {sc sc2 : Scope} {X : Cx} (G : Good c C k sc X) (hk : sc2.kind = .function) (s : Shared) (H : Hp) (a : Addr) (cl : List (Str × Addr)) (fp : List Addr) : Good c C k (relS sc2 sc) (X.blk s H sc2 (compEnvC sc2 cl a X.env) fp) :=
  ⟨G.hN, G.nd, by rw [← G.hsc]; rfl, G.calm, G.room, PassesOwn.never, G.glb, G.free, hk, G.fns⟩
theorem pas0 {X : Cx} {bg : Option (Addr × Addr)} {S0 : Addr → Prop} {H0 : Hp} : Passes (L2.CX X.prog X.w) X (eX X.K bg S0 H0 NX) := fun _ _ _ _ _ _ _ h => by
  obtain ⟨_, _, _, _, _, _, _, _, _, _, _, _, z⟩ := h
  obtain ⟨_, _, z, _⟩ := z
  exact z.elim
theorem TgOk.blk {sc2 : Scope} {X : Cx} (s : Shared) (H : Hp) (a : Addr) (cl : List (Str × Addr)) (fp : List Addr) : TgOk sc2 (X.blk s H sc2 (compEnvC sc2 cl a X.env) fp) := fun x h => by
  have e : (compEnvC sc2 cl a X.env).scope = relS sc2 X.env.scope := rfl
  rcases isLoc_loc h with z | z
  · have q : (relS sc2 X.env.scope).names.lookup x = some .local := lookup_relS_keep (sc := X.env.scope) (by decide) z
    exact ⟨.inl q, .inr q⟩
  · have q : (relS sc2 X.env.scope).names.lookup x = some .cell := lookup_relS_keep (sc := X.env.scope) (by decide) z
    refine ⟨.inr q, .inl ?_⟩
    show (sc2.names.lookup x == some .cell) = true
    rw [z]
    rfl
structure Snd (c : Cf) (C : Calls) (k n : Nat) : Prop where
  e : ∀ {sc : Scope} {X : Cx} {bg : Option (Addr × Addr)} {S0 : Addr → Prop} {H0 : Hp} {EX : D → Prop} (A : List Nat) (e : Expr), Good c C k sc X → Passes (L2.CX X.prog X.w) X (eX X.K bg S0 H0 EX) → (∀ i, i ∈ al (stripE c n sc e) → i ∈ A) →
    PE X e (EvD X.K bg S0 H0 EX A (evE C (stripE c n sc e)))
  t : ∀ {sc : Scope} {X : Cx} {bg : Option (Addr × Addr)} {S0 : Addr → Prop} {H0 : Hp} {EX : D → Prop} (e : Expr), Good c C k sc X → Passes (L2.CX X.prog X.w) X (eX X.K bg S0 H0 EX) →
    PT X e (EvB X.K bg S0 H0 EX (evT C (stripT c n sc e)))
  i : ∀ {sc : Scope} {X : Cx} {bg : Option (Addr × Addr)} {S0 : Addr → Prop} {H0 : Hp} {EX : D → Prop} (A : List Nat) (tg e : Expr), Good c C k sc X → Passes (L2.CX X.prog X.w) X (eX X.K bg S0 H0 EX) → (∀ i, i ∈ alI (stripI c n sc tg e) → i ∈ A) →
    PI X tg e (EvI X.K bg S0 H0 EX A (evI C (stripI c n sc tg e)))
section
variable {c : Cf} {C : Calls} {k : Nat} {sc : Scope} {X : Cx} {bg : Option (Addr × Addr)} {S0 : Addr → Prop} {H0 : Hp} {EX : D → Prop}
/-- the parts of a list -/
theorem snd_list {n : Nat} (I : Snd c C k n) (G : Good c C k sc X) (P : Passes (L2.CX X.prog X.w) X (eX X.K bg S0 H0 EX)) (A : List Nat) (es : List Expr) (hA : ∀ i, i ∈ als (es.map (stripE c n sc)) → i ∈ A) :
    ∀ (i : Nat) (e : Expr) (o : OE), es[i]? = some e → (es.map (stripE c n sc))[i]? = some o → PE X e (EvD X.K bg S0 H0 EX A (evE C o)) := fun i e o h1 h2 => by
  have h2' := h2
  rw [List.getElem?_map, h1] at h2
  cases h2
  exact I.e A e G P fun j hj => hA j (als_mem h2' hj)
theorem not_set {e : Expr} (h : ¬ isSetE e = true) : ∀ es k p, e ≠ .Set es k p := fun es k p z => h (by rw [z]; rfl)
theorem not_slice {e : Expr} (h : ¬ isSliceE e = true) : ∀ lo hi st p, e ≠ .Slice lo hi st p := fun lo hi st p z => h (by rw [z]; rfl)
theorem isGl_Gl {f : Str} (G : Good c C k sc X) (h : isGl sc f = true) : Gl X f := by
  show X.env.scope.names.lookup f = _
  rw [G.hsc]
  exact isGl_gl h
theorem okName_of {x : Str} (h : okName x = true) : (x == ("__debug__" : Str)) = false ∧ (x == ("__classdict__" : Str)) = false := by
  unfold okName at h
  rw [Bool.and_eq_true] at h
  exact ⟨by simpa using h.1, by simpa using h.2⟩
/-- a list comprehension's parts -/
theorem lc_parts {n : Nat} {elt tg it : Expr} {ifs : List Expr} {sc2 : Scope} {t : Tg} (I : Snd c C k n) (G : Good c C k sc X) (P : Passes (L2.CX X.prog X.w) X (eX X.K bg S0 H0 EX)) (A : List Nat) (hblk : blkC c.N sc sc2 (ownOf c.N sc2) = true) (htg : stripG c sc2 n tg = some t) (hset : ¬ isSetE it = true)
    (hA1 : ∀ i, i ∈ al (stripE c n (relS sc2 sc) elt) → i ∈ A) (hA2 : ∀ i, i ∈ alI (stripI c n sc tg it) → i ∈ A) :
    PI X tg it (EvI X.K bg S0 H0 EX A (evI C (stripI c n sc tg it))) ∧ BlkOk X.N X.env.scope sc2 (ownOf c.N sc2) ∧
    (∀ (s : Shared) (H : Hp) (a : Addr) (cl : List (Str × Addr)) (fp : List Addr), PG (X.blk s H sc2 (compEnvC sc2 cl a X.env) fp) tg (gOf X.K t)) ∧
    (∀ (s : Shared) (H : Hp) (a : Addr) (cl : List (Str × Addr)) (fp : List Addr), PTs (X.blk s H sc2 (compEnvC sc2 cl a X.env) fp) ifs (EvB X.K bg S0 H0 NX (evTs C (ifs.map (stripT c n (relS sc2 sc)))))) ∧
    (∀ (s : Shared) (H : Hp) (a : Addr) (cl : List (Str × Addr)) (fp : List Addr), PE (X.blk s H sc2 (compEnvC sc2 cl a X.env) fp) elt (EvD X.K bg S0 H0 NX A (evE C (stripE c n (relS sc2 sc) elt)))) ∧
    (∀ x, foldedSetIterable it X.env x = pure x) ∧ ∀ i, i ∈ tgs t → i ∈ (ownOf c.N sc2).map (·.2) := by
  have ok : BlkOk X.N X.env.scope sc2 (ownOf c.N sc2) := by
    rw [G.hN, G.hsc]
    exact blkOk_by hblk
  refine ⟨I.i A tg it G P hA2, ok, fun s H a cl fp => ?_, fun s H a cl fp => ?_, fun s H a cl fp => ?_, fun x => ?_, tgs_own n tg t htg⟩
  · exact pg_ok (X := X.blk s H sc2 (compEnvC sc2 cl a X.env) fp) G.hN G.nd G.calm (TgOk.blk s H a cl fp) n tg t htg
  · have Gb := G.blk (sc2 := sc2) ok.kind s H a cl fp
    cases ifs with
    | nil => exact ⟨fun pins s' σ H' Q J ⟨O, Γ, S, aa, q⟩ => pts_nil.run pins s' σ H' Q J (by rw [List.map_nil, evTs] at q; exact q S H' aa.wld .refl)⟩
    | cons e r =>
      cases r with
      | nil =>
        have h1 := I.t (sc := relS sc2 sc) (bg := bg) (S0 := S0) (H0 := H0) (EX := NX) e Gb pas0
        exact ⟨fun pins s' σ H' Q J ⟨O, Γ, S, aa, q⟩ => (pts_one h1).run pins s' σ H' Q J ⟨O, Γ, S, aa, by rw [List.map_cons, List.map_nil, evTs] at q; exact q⟩⟩
      | cons e2 r => exact ⟨fun pins s' σ H' Q J ⟨O, Γ, S, aa, q⟩ => by rw [List.map_cons, List.map_cons, evTs] at q; exact q.elim⟩
  · exact I.e (sc := relS sc2 sc) (bg := bg) (S0 := S0) (H0 := H0) (EX := NX) A elt (G.blk ok.kind s H a cl fp) pas0 hA1
  · cases it <;> first | rfl | exact absurd rfl hset
theorem snd_e {n : Nat} (I : Snd c C k n) (G : Good c C k sc X) (P : Passes (L2.CX X.prog X.w) X (eX X.K bg S0 H0 EX)) (A : List Nat) (e : Expr) (hA : ∀ i, i ∈ al (stripE c (n + 1) sc e) → i ∈ A) :
    PE X e (EvD X.K bg S0 H0 EX A (evE C (stripE c (n + 1) sc e))) := by
  have bad : ∀ (e : Expr), PE X e (EvD X.K bg S0 H0 EX A (evE C .bad)) := fun e => pe_false fun Γ => by rw [evE]
  generalize ho : stripE c (n + 1) sc e = o at hA ⊢
  unfold stripE at ho
  split at ho
  · -- constants
    rename_i v kk p
    unfold constD at ho
    split at ho
    · subst ho; exact pe_weak (k_const (d := .non) pe_non fun _ _ => rfl) fun σ H Q q => ev_fun (fun Γ => by rw [evE]) q
    · subst ho; exact pe_weak (k_const (d := .bl _) pe_bl fun _ _ => rfl) fun σ H Q q => ev_fun (fun Γ => by rw [evE]) q
    · subst ho; exact pe_weak (k_const (d := .int _) pe_int fun _ _ => rfl) fun σ H Q q => ev_fun (fun Γ => by rw [evE]) q
    · split at ho
      · rename_i hs
        subst ho
        exact pe_weak (k_const (d := .str _) pe_str fun _ _ => ⟨rfl, hs⟩) fun σ H Q q => ev_fun (fun Γ => by rw [evE]) q
      · subst ho; exact bad _
    · subst ho; exact bad _
  · -- names
    rename_i x p
    split at ho
    · rename_i hok
      obtain ⟨d1, d2⟩ := okName_of hok
      split at ho
      · rename_i hv
        split at ho
        · rename_i i hi
          subst ho
          exact k_var (by rw [G.hN]; exact idxOf_get hi) (by rw [G.hsc]; exact seen_vis hv) d1 d2 (hA i (by simp [al]))
        · subst ho; exact bad _
      · split at ho
        · rename_i hg
          split at ho
          · rename_i d hd
            subst ho
            obtain ⟨u, v, h1, h2, h3⟩ := G.glb x d hd
            exact pe_weak (k_const (d := d) (pe_glob (isGl_Gl G hg) h1 h2 d1) fun S H => h3 _ S H) fun σ H Q q => ev_fun (fun Γ => by rw [evE]) q
          · subst ho; exact bad _
        · subst ho; exact bad _
    · subst ho; exact bad _
  · rename_i es kk p
    split at ho
    · subst ho; exact bad _
    · rename_i hs
      simp only [Bool.or_eq_true, not_or, Bool.not_eq_true, decide_eq_true_eq] at hs
      subst ho
      have hA' : ∀ i, i ∈ als (es.map (stripE c n sc)) → i ∈ A := fun i hi => hA i (by unfold al; exact hi)
      exact k_tup (by rw [List.length_map]; omega) (k_pa hs.1 (by rw [List.length_map]) (snd_list I G P A es hA')) fun Γ PP E h => evEs_len _ Γ PP E h
  · rename_i es p
    split at ho
    · subst ho; exact bad _
    · rename_i hs
      simp only [Bool.or_eq_true, not_or, Bool.not_eq_true, decide_eq_true_eq] at hs
      subst ho
      have hA' : ∀ i, i ∈ als (es.map (stripE c n sc)) → i ∈ A := fun i hi => hA i (by unfold al; exact hi)
      exact k_lst (by rw [List.length_map]; omega) (k_pa hs.1 (by rw [List.length_map]) (snd_list I G P A es hA')) fun Γ PP E h => evEs_len _ Γ PP E h
  · rename_i a op b p
    subst ho
    exact k_bin (I.e A a G P fun i hi => hA i (by unfold al; exact List.mem_append_left _ hi)) (I.e A b G P fun i hi => hA i (by unfold al; exact List.mem_append_right _ hi))
  · rename_i a p
    subst ho
    exact k_not _ (I.e (al (stripE c n sc a)) a G P fun i hi => hi)
  · rename_i a p
    subst ho
    exact k_neg _ (I.e (al (stripE c n sc a)) a G P fun i hi => hi)
  · rename_i es p
    subst ho
    have hA' : ∀ i, i ∈ als (es.map (stripE c n sc)) → i ∈ A := fun i hi => hA i (by unfold al; exact hi)
    exact pe_weak (k_and (by rw [List.length_map]) (snd_list I G P A es hA')).1 fun σ H Q q => ev_fun (fun Γ => by rw [evE]) q
  · rename_i es p
    subst ho
    have hA' : ∀ i, i ∈ als (es.map (stripE c n sc)) → i ∈ A := fun i hi => hA i (by unfold al; exact hi)
    exact pe_weak (k_and (by rw [List.length_map]) (snd_list I G P A es hA')).2 fun σ H Q q => ev_fun (fun Γ => by rw [evE]) q
  · rename_i a op b p
    split at ho
    · split at ho
      · rename_i hb
        subst ho
        exact (k_isN _ hb (I.e (al (stripE c n sc a)) a G P fun i hi => hi)).1
      · subst ho; exact bad _
    · split at ho
      · rename_i hb
        subst ho
        exact (k_isN _ hb (I.e (al (stripE c n sc a)) a G P fun i hi => hi)).2
      · subst ho; exact bad _
    · split at ho
      · subst ho; exact bad _
      · rename_i hse
        subst ho
        exact k_cmp G.room (al (stripE c n sc a) ++ al (stripE c n sc b)) (not_set hse) (I.e _ a G P fun i hi => List.mem_append_left _ hi) (I.e _ b G P fun i hi => List.mem_append_right _ hi)
  · rename_i a op op' b d p
    split at ho
    · subst ho; exact bad _
    · rename_i hse
      subst ho
      exact (k_chain G.room (al (stripE c n sc a) ++ (al (stripE c n sc b) ++ al (stripE c n sc d))) (not_set hse) (I.e _ a G P fun i hi => List.mem_append_left _ hi) (I.e _ b G P fun i hi => List.mem_append_right _ (List.mem_append_left _ hi))
        (I.e _ d G P fun i hi => List.mem_append_right _ (List.mem_append_right _ hi))).1
  · rename_i t a b p
    subst ho
    exact k_ifx (I.t t G P) (I.e A a G P fun i hi => hA i (by unfold al; exact List.mem_append_left _ hi)) (I.e A b G P fun i hi => hA i (by unfold al; exact List.mem_append_right _ hi))
  · rename_i a lo hi p2 p
    subst ho
    have po : ∀ o : Option Expr, PO X o (EvO X.K bg S0 H0 EX (evO C (o.map (stripE c n sc)))) := fun o => by
      cases o with
      | none => exact k_po [] (fun e h => by cases h) fun _ => rfl
      | some e => exact k_po (al (stripE c n sc e)) (fun e' h => by cases h; exact ⟨_, rfl, I.e _ e G P fun i hi => hi⟩) fun h => by cases h
    exact k_slice (I.e A a G P fun i hi => hA i (by unfold al; exact hi)) (po lo) (po hi)
  · subst ho; exact bad _
  · rename_i a i p _ _
    split at ho
    · subst ho; exact bad _
    · rename_i hse
      subst ho
      exact k_sub (al (stripE c n sc i)) (not_slice hse) (I.e A a G P fun j hj => hA j (by unfold al; exact hj)) (I.e _ i G P fun j hj => hj)
  · -- calls by name
    rename_i f p es kws pos
    split at ho
    · subst ho; exact bad _
    · rename_i hh
      simp only [Bool.or_eq_true, not_or, Bool.not_eq_true, Bool.not_eq_eq_eq_not, Bool.not_true, Bool.not_eq_false] at hh
      obtain ⟨⟨⟨h1, h2⟩, h3⟩, h4⟩ := hh
      have hg : Gl X f := isGl_Gl G h2
      split at ho
      · rename_i sel dfts hm
        subst ho
        obtain ⟨a, fd, ps, e1, e2, e3, e4⟩ := G.fns _ _ _ _ _ hm
        have hA1 : ∀ i, i ∈ als (es.map (stripE c n sc)) → i ∈ A := fun i hi => hA i (by unfold al; exact List.mem_append_left _ hi)
        have hA2 : ∀ i, i ∈ als (kws.map fun q => stripE c n sc q.value) → i ∈ A := fun i hi => hA i (by unfold al; exact List.mem_append_right _ hi)
        refine k_call G.room hg e1 e2 e3 e4 P h3 (by simpa using h4) (by rw [List.length_map]) (by rw [List.length_map]) (okName_of h1).1 (k_pa h3 (by rw [List.length_map]) (snd_list I G P A es hA1)) (k_pk (by rw [List.length_map]) fun i q o g1 g2 => ?_)
        have g2' := g2
        rw [List.getElem?_map, g1] at g2
        cases g2
        exact I.e A q.value G P fun j hj => hA2 j (als_mem g2' hj)
      · rename_i hnone
        clear hnone
        split at ho
        · subst ho; exact bad _
        rename_i hkw0
        have hkw0 : kws = [] := by simpa using hkw0
        subst hkw0
        split at ho
        · rename_i e
          subst e
          split at ho
          · rename_i a ts kk p2
            split at ho
            · rename_i t ts' hts
              split at ho
              · subst ho; exact bad _
              · rename_i hs
                simp only [Bool.or_eq_true, not_or, Bool.not_eq_true, decide_eq_true_eq] at hs
                subst ho
                exact k_isiT (al (stripE c n sc a)) G.hsc G.free hg hs.1 hts (by omega) (by simp) (I.e _ a G P fun i hi => hi)
            · subst ho; exact bad _
          · rename_i a t _
            split at ho
            · rename_i ty hty
              split at ho
              · subst ho; exact bad _
              · rename_i hs
                subst ho
                exact k_isi1 (al (stripE c n sc a)) G.hsc G.free hg (by simpa using hs) hty (I.e _ a G P fun i hi => hi)
            · subst ho; exact bad _
          · subst ho; exact bad _
        · split at ho
          · rename_i b hb
            subst ho
            have hf := bf_free hb
            have hm0 := G.free f hf.1
            by_cases hfl : flatRes b = true
            · exact k_bcall (als (es.map (stripE c n sc))) hb hg hm0 G.calm h3 (by rw [List.length_map]) (.inl hfl) (k_pa h3 (by rw [List.length_map]) (snd_list I G P _ es fun i hi => hi))
            · have hA' : ∀ i, i ∈ als (es.map (stripE c n sc)) → i ∈ A := fun i hi => hA i (by
                cases b <;> first | exact absurd rfl hfl | (unfold al; exact hi))
              exact k_bcall A hb hg hm0 G.calm h3 (by rw [List.length_map]) (.inr fun i hi => hi) (k_pa h3 (by rw [List.length_map]) (snd_list I G P A es hA'))
          · subst ho; exact bad _
  · -- methods
    rename_i o' m ap es p
    split at ho
    · subst ho; exact bad _
    · rename_i hh
      simp only [Bool.or_eq_true, not_or, Bool.not_eq_true, Bool.not_eq_eq_eq_not, Bool.not_true, Bool.not_eq_false] at hh
      obtain ⟨h1, h2⟩ := hh
      split at ho
      · rename_i b hb
        split at ho
        · rename_i e
          split at ho
          · subst ho; exact bad _
          · rename_i hs
            subst ho
            unfold mfOf at hb
            split at hb
            · rename_i em
              subst em
              have h1' : isStar e = false := by simpa using h1
              refine k_join (al (stripE c n sc o') ++ als [stripE c n sc e]) h1' h2 (super_base (by simpa using hs)) (I.e _ o' G P fun i hi => List.mem_append_left _ hi) ?_
              exact k_pa (os := [stripE c n sc e]) h1 rfl (snd_list I G P _ [e] fun i hi => List.mem_append_right _ hi)
            · cases hb
        · subst ho; exact bad _
      · subst ho; exact bad _
  · -- list comprehensions
    rename_i elt tg it ifs sc2 p
    split at ho
    · rename_i hblk
      split at ho
      · rename_i t ht
        subst ho
        have ok : BlkOk X.N X.env.scope sc2 (ownOf c.N sc2) := by
          rw [G.hN, G.hsc]
          exact blkOk_by hblk
        by_cases hset : isSetE it = true
        · refine pe_false fun Γ => ?_
          have : stripI c n sc tg it = .e .bad := by
            cases n with
            | zero => rfl
            | succ n =>
              cases it <;> first | exact absurd hset Bool.false_ne_true | rfl
          rw [evE, this, evI, evE]
          rfl
        · have hA1 : ∀ i, i ∈ al (stripE c n (relS sc2 sc) elt) → i ∈ A := fun i hi => hA i (by unfold al; exact List.mem_append_left _ hi)
          have hA2 : ∀ i, i ∈ alI (stripI c n sc tg it) → i ∈ A := fun i hi => hA i (by unfold al; exact List.mem_append_right _ hi)
          obtain ⟨p1, _, p3, p4, p5, p6, p7⟩ := lc_parts (ifs := ifs) I G P A hblk ht hset hA1 hA2
          exact k_lc (k_lcN G.calm (by rw [G.hN]; exact G.nd) p1 ok p3 p4 p5 p6 p7)
      · subst ho; exact bad _
    · subst ho; exact bad _
  · subst ho; exact bad _
theorem snd_cmp {n : Nat} (I : Snd c C k n) (G : Good c C k sc X) (P : Passes (L2.CX X.prog X.w) X (eX X.K bg S0 H0 EX)) (l : Expr) (ops : List CmpOp) (rs : List Expr) (p : Pos) :
    PT X (.Compare l ops rs p) (EvB X.K bg S0 H0 EX (evT C (.e (stripE c (n + 1) sc (.Compare l ops rs p))))) := by
  have bad : ∀ (e : Expr), PT X e (EvB X.K bg S0 H0 EX (evT C (.e .bad))) := fun e => pt_false fun Γ => by rw [evT, evE]; rfl
  generalize ho : stripE c (n + 1) sc (.Compare l ops rs p) = o
  unfold stripE at ho
  split at ho <;> first | (rename_i he; cases he; done) | skip
  · rename_i a op b p' he
    cases he
    split at ho
    · split at ho
      · rename_i hb
        subst ho
        exact (kt_isN _ hb (I.e (al (stripE c n sc l)) l G P fun i hi => hi)).1
      · subst ho; exact bad _
    · split at ho
      · rename_i hb
        subst ho
        exact (kt_isN _ hb (I.e (al (stripE c n sc l)) l G P fun i hi => hi)).2
      · subst ho; exact bad _
    · split at ho
      · subst ho; exact bad _
      · rename_i hse
        subst ho
        exact kt_cmp G.room (al (stripE c n sc l) ++ al (stripE c n sc b)) (not_set hse) (I.e _ l G P fun i hi => List.mem_append_left _ hi) (I.e _ b G P fun i hi => List.mem_append_right _ hi)
  · rename_i a op op' b d p' he
    cases he
    split at ho
    · subst ho; exact bad _
    · rename_i hse
      subst ho
      exact (k_chain (A := []) G.room (al (stripE c n sc l) ++ (al (stripE c n sc b) ++ al (stripE c n sc d))) (not_set hse) (I.e _ l G P fun i hi => List.mem_append_left _ hi) (I.e _ b G P fun i hi => List.mem_append_right _ (List.mem_append_left _ hi))
        (I.e _ d G P fun i hi => List.mem_append_right _ (List.mem_append_right _ hi))).2
  · subst ho; exact bad _
theorem snd_t {n : Nat} (I : Snd c C k n) (I' : ∀ m, n = m + 1 → Snd c C k m) (G : Good c C k sc X) (P : Passes (L2.CX X.prog X.w) X (eX X.K bg S0 H0 EX)) (e : Expr) : PT X e (EvB X.K bg S0 H0 EX (evT C (stripT c (n + 1) sc e))) := by
  have bad : ∀ (e : Expr), PT X e (EvB X.K bg S0 H0 EX (evT C (.e .bad))) := fun e => pt_false fun Γ => by rw [evT, evE]; rfl
  have pl : (∀ whole, isTrue e X.env whole = (do let v ← whole; standAt e.pos; holding [v] (truthy v))) → PT X e (EvB X.K bg S0 H0 EX (evT C (.e (stripE c n sc e)))) := fun he => kt_plain _ he (I.e (al (stripE c n sc e)) e G P fun i hi => hi)
  cases e with
  | UnaryOp op a p =>
    cases op with
    | Not => exact kt_not (I.t a G P)
    | _ => exact pl (fun _ => rfl)
  | BoolOp op es p =>
    have hpt : ∀ (i : Nat) (e : Expr) (o : OT), es[i]? = some e → (es.map (stripT c n sc))[i]? = some o → PT X e (EvB X.K bg S0 H0 EX (evT C o)) := fun i e o h1 h2 => by
      rw [List.getElem?_map, h1] at h2
      cases h2
      exact I.t e G P
    cases op with
    | And => exact (pw_weak (kt_and (pos := p) (by rw [List.length_map]) hpt).1 fun σ H Q ⟨O, Γ, S, a, q⟩ => ⟨O, Γ, S, a, by rw [stripT, evT] at q; exact q⟩).pt
    | Or => exact (pw_weak (kt_and (pos := p) (by rw [List.length_map]) hpt).2 fun σ H Q ⟨O, Γ, S, a, q⟩ => ⟨O, Γ, S, a, by rw [stripT, evT] at q; exact q⟩).pt
  | IfExp t a b p => exact bad _
  | Compare l ops rs p =>
    show PT X _ (EvB X.K bg S0 H0 EX (evT C (.e (stripE c n sc (.Compare l ops rs p)))))
    cases n with
    | zero => exact bad _
    | succ m => exact snd_cmp (I' m rfl) G P l ops rs p
  | _ => exact pl (fun _ => rfl)
theorem snd_i {n : Nat} (I : Snd c C k n) (G : Good c C k sc X) (P : Passes (L2.CX X.prog X.w) X (eX X.K bg S0 H0 EX)) (A : List Nat) (tg e : Expr) (hA : ∀ i, i ∈ alI (stripI c (n + 1) sc tg e) → i ∈ A) :
    PI X tg e (EvI X.K bg S0 H0 EX A (evI C (stripI c (n + 1) sc tg e))) := by
  have bad : ∀ (e : Expr), PI X tg e (EvI X.K bg S0 H0 EX A (evI C (.e .bad))) := fun e => pi_false fun Γ => by rw [evI, evE]; rfl
  have pl : (∀ i, i ∈ alI (.e (stripE c n sc e)) → i ∈ A) → PI X tg e (EvI X.K bg S0 H0 EX A (evI C (.e (stripE c n sc e)))) := fun h => ki_any (I.e A e G P fun i hi => h i (by unfold alI; exact hi))
  generalize ho : stripI c (n + 1) sc tg e = o at hA ⊢
  unfold stripI at ho
  split at ho
  · rename_i f p es pos
    split at ho
    · rename_i hh
      simp only [Bool.and_eq_true, Bool.not_eq_eq_eq_not, Bool.not_true] at hh
      obtain ⟨⟨h1, h2⟩, -⟩ := hh
      have hg : Gl X f := isGl_Gl G h1
      split at ho
      · rename_i ef
        subst ef
        split at ho
        · rename_i a
          subst ho
          exact ki_rng1 (al (stripE c n sc a)) hg (G.free _ (by decide +kernel)) (by simpa using h2) (I.e _ a G P fun i hi => hi)
        · rename_i a b
          subst ho
          have h2' : isStar a = false ∧ isStar b = false := by simpa using h2
          exact ki_rng2 (al (stripE c n sc a) ++ al (stripE c n sc b)) hg (G.free _ (by decide +kernel)) h2'.1 h2'.2 (I.e _ a G P fun i hi => List.mem_append_left _ hi) (I.e _ b G P fun i hi => List.mem_append_right _ hi)
        · subst ho; exact bad _
      · split at ho
        · rename_i ef
          subst ef
          split at ho
          · subst ho
            exact ki_enum hg (G.free _ (by decide +kernel)) (by simpa using h2) (I.e A _ G P fun i hi => hA i (by unfold alI; exact hi))
          · subst ho; exact bad _
        · split at ho
          · rename_i ef
            subst ef
            split at ho
            · rename_i a b
              subst ho
              have h2' : isStar a = false ∧ isStar b = false := by simpa using h2
              exact ki_zip hg (G.free _ (by decide +kernel)) h2'.1 h2'.2 (I.e A a G P fun i hi => hA i (by unfold alI; exact List.mem_append_left _ hi)) (I.e A b G P fun i hi => hA i (by unfold alI; exact List.mem_append_right _ hi))
            · subst ho; exact bad _
          · subst ho
            exact pl hA
    · subst ho
      exact pl hA
  · subst ho; exact bad _
  · subst ho
    exact pl hA
end
/-- every own form is sound -/
theorem snd (c : Cf) (C : Calls) (k : Nat) : ∀ n, Snd c C k n := by
  intro n
  induction n using Nat.strongRecOn with
  | ind n ih =>
    cases n with
    | zero =>
      refine ⟨fun {sc X bg S0 H0 EX} A e G P hA => ?_, fun {sc X bg S0 H0 EX} e G P => ?_, fun {sc X bg S0 H0 EX} A tg e G P hA => ?_⟩
      · exact pe_false fun Γ => by rw [stripE, evE]
      · exact pt_false fun Γ => by rw [stripT, evT, evE]; rfl
      · exact pi_false fun Γ => by show evI C (.e .bad) Γ = _; rw [evI, evE]; rfl
    | succ n =>
      have I := ih n (Nat.lt_succ_self n)
      exact ⟨fun A e G P hA => snd_e I G P A e hA, fun e G P => snd_t I (fun m hm => ih m (by omega)) G P e, fun A tg e G P hA => snd_i I G P A tg e hA⟩
end Dy

set_option linter.all false
set_option maxRecDepth 10000
set_option autoImplicit false
/-! Dy, part 12: statements, by data. -/
namespace Dy
open PySem PySem.Spec PyProof.Rows L2

/-- how a statement ends -/
inductive Fl where
  | nx (Γ : Gam) (O : List Nat)
  | bk (Γ : Gam) (O : List Nat)
  | ct (Γ : Gam) (O : List Nat)
  | rt (r : D × Bool) (Γ : Gam) (O : List Nat)
/-- an expression's data, and whether its object is new -/
def evX (C : Calls) : OE → Gam → T (D × Bool)
  | .lst es, Γ => (evEs C es Γ).bind fun ds => .ret (.lst ds, true)
  | .lc elt own tg it ifs, Γ => (evI C it Γ).bind fun ds => (lcLoop (lcF C tg own ifs elt Γ) ds).bind fun xs => .ret (.lst xs, true)
  | .call f args kws sel dfts, Γ => (evEs C args Γ).bind fun ds => (evEs C kws Γ).bind fun zs => .need (decide ((selL sel ds zs dfts).length = sel.length)) (C f (selL sel ds zs dfts))
  | e, Γ => (evE C e Γ).bind fun d => .ret (d, false)
def keepO (A : List Nat) (fl : Bool) (O : List Nat) : List Nat := if fl then O else O.filter fun i => decide (i ∉ A)
def gainO (b : Bool) (i : Nat) (O : List Nat) : List Nat := if b then i :: O else O
/-- a for's turns -/
def forL (f : Gam → List Nat → T Fl) (tg : Tg) : List D → Gam → List Nat → T Fl
  | [], Γ, O => .ret (.nx Γ O)
  | d :: ds, Γ, O => (T.ofOpt (bindTg tg d Γ)).bind fun Γ1 => (f Γ1 (dropT tg O)).bind fun r => match r with
    | .nx Γ2 O2 => forL f tg ds Γ2 O2
    | .ct Γ2 O2 => forL f tg ds Γ2 O2
    | .bk Γ2 O2 => .ret (.nx Γ2 O2)
    | .rt r Γ2 O2 => .ret (.rt r Γ2 O2)
def whL (t : Gam → T Bool) (f : Gam → List Nat → T Fl) : Nat → Gam → List Nat → T Fl
  | 0, _, _ => .bad
  | n + 1, Γ, O => (t Γ).bind fun c => match c with
    | false => .ret (.nx Γ O)
    | true => (f Γ O).bind fun r => match r with
      | .nx Γ2 O2 => whL t f n Γ2 O2
      | .ct Γ2 O2 => whL t f n Γ2 O2
      | .bk Γ2 O2 => .ret (.nx Γ2 O2)
      | .rt r Γ2 O2 => .ret (.rt r Γ2 O2)
mutual
def exS (C : Calls) : OS → Gam → List Nat → T Fl
  | .bad, _, _ => .bad
  | .set i e, Γ, O => (evX C e Γ).bind fun r => .need (decide (i < Γ.length)) (.ret (.nx (Γ.set i (some r.1)) (gainO r.2 i ((keepO (al e) (isFlat r.1) O).filter fun j => decide (j ≠ i)))))
  | .seti tg e, Γ, O => (evE C e Γ).bind fun d => (T.ofOpt (bindTg tg d Γ)).bind fun Γ' => .ret (.nx Γ' (dropT tg (keepO (al e) false O)))
  | .par2 i j a b, Γ, O => (evEs C [a, b] Γ).bind fun ds => match ds with
    | [x, y] => .ret (.nx ((Γ.set i (some x)).set j (some y)) (((keepO (als [a, b]) (isFlat x && isFlat y) O).filter fun l => decide (l ≠ i)).filter fun l => decide (l ≠ j)))
    | _ => .bad
  | .par3 i j l a b c, Γ, O => (evEs C [a, b, c] Γ).bind fun ds => match ds with
    | [x, y, z] => .ret (.nx (((Γ.set i (some x)).set j (some y)).set l (some z)) ((((keepO (als [a, b, c]) (isFlat x && isFlat y && isFlat z) O).filter fun l => decide (l ≠ i)).filter fun l => decide (l ≠ j)).filter fun q => decide (q ≠ l)))
    | _ => .bad
  | .app i e, Γ, O => .need (decide (i ∈ O)) <| (evE C e Γ).bind fun d => match Γ[i]? with
    | some (some (.lst xs)) => .need (decide (i ∈ keepO (al e) (isFlat d) O ∧ xs.length < most)) (.ret (.nx (Γ.set i (some (.lst (xs ++ [d])))) (keepO (al e) (isFlat d) O)))
    | _ => .bad
  | .put i ix e, Γ, O => .need (decide (i ∈ O)) <| (evE C e Γ).bind fun d => (evE C ix Γ).bind fun k => match Γ[i]?, k with
    | some (some (.lst xs)), .int j => (match ixD xs.length j with
      | some p => .need (decide (i ∈ keepO (al e) (isFlat d) O)) (.ret (.nx (Γ.set i (some (.lst (xs.set p d)))) (keepO (al e) (isFlat d) O)))
      | none => .bad)
    | _, _ => .bad
  | .expr e, Γ, O => (evE C e Γ).bind fun _ => .ret (.nx Γ O)
  | .ret e, Γ, O => match e with
    | .var i => if i ∈ O then (match Γ[i]? with | some (some d) => .ret (.rt (d, true) Γ O) | _ => .bad) else (evE C (.var i) Γ).bind fun d => .ret (.rt (d, false) Γ (keepO [i] (isFlat d) O))
    | e => (evX C e Γ).bind fun r => .ret (.rt r Γ (keepO (al e) (isFlat r.1) O))
  | .retN, Γ, O => .ret (.rt (.non, false) Γ O)
  | .if_ t a b, Γ, O => (evT C t Γ).bind fun c => match c with | true => exSs C a Γ O | false => exSs C b Γ O
  | .for_ tg it b, Γ, O => (evI C it Γ).bind fun ds => forL (exSs C b) tg ds Γ (keepO (alI it) false O)
  | .while_ n t b, Γ, O => whL (evT C t) (exSs C b) n Γ O
  | .pass, Γ, O => .ret (.nx Γ O)
  | .brk, Γ, O => .ret (.bk Γ O)
  | .cont, Γ, O => .ret (.ct Γ O)
def exSs (C : Calls) : List OS → Gam → List Nat → T Fl
  | [], Γ, O => .ret (.nx Γ O)
  | s :: r, Γ, O => (exS C s Γ O).bind fun f => match f with
    | .nx Γ' O' => exSs C r Γ' O'
    | .bk Γ' O' => .ret (.bk Γ' O')
    | .ct Γ' O' => .ret (.ct Γ' O')
    | .rt r Γ2 O2 => .ret (.rt r Γ2 O2)
end

/-! ### readings -/
mutual
/-- the slots that a statement may store in -/
def wrS : OS → List Nat
  | .bad => []
  | .set i _ => [i]
  | .seti tg _ => tgs tg
  | .par2 i j _ _ => [i, j]
  | .par3 i j l _ _ _ => [i, j, l]
  | .app _ _ => []
  | .put _ _ _ => []
  | .expr _ => []
  | .ret _ => []
  | .retN => []
  | .if_ _ a b => wrSs a ++ wrSs b
  | .for_ tg _ b => tgs tg ++ wrSs b
  | .while_ _ _ b => wrSs b
  | .pass => [] | .brk => [] | .cont => []
def wrSs : List OS → List Nat
  | [] => []
  | s :: r => wrS s ++ wrSs r
end
/-- alike but for the slots of w -/
def Agr (w : List Nat) (σ σ' : L2.St) : Prop := ∀ j, j ∉ w → σ'[j]? = σ[j]?
theorem Agr.refl {w : List Nat} {σ : L2.St} : Agr w σ σ := fun _ _ => rfl
theorem Agr.trans {w : List Nat} {σ σ' σ2 : L2.St} (h : Agr w σ σ') (h' : Agr w σ' σ2) : Agr w σ σ2 := fun j n => (h' j n).trans (h j n)
theorem Agr.mono {w w' : List Nat} {σ σ' : L2.St} (h : Agr w σ σ') (s : ∀ i, i ∈ w → i ∈ w') : Agr w' σ σ' := fun j n => h j fun z => n (s j z)
theorem Agr.set {w : List Nat} {σ : L2.St} {i : Nat} {v : Option V} (h : i ∈ w) : Agr w σ (σ.set i v) := fun j n => List.getElem?_set_ne (fun (z : i = j) => n (z ▸ h))
theorem Agr.wipe {w : List Nat} {σ σ' : L2.St} (h : L2.wipe σ' w = L2.wipe σ w) : Agr w σ σ' := fun j n => by
  have h1 : (L2.wipe σ' w)[j]? = (L2.wipe σ w)[j]? := congrArg (fun τ : L2.St => τ[j]?) h
  rw [wipe_at, wipe_at, if_neg n, if_neg n] at h1
  exact h1
def Post (K : PySem.W.Frag) (bg : Option (Addr × Addr)) (S0 : Addr → Prop) (H0 : Hp) (w : List Nat) (S : Addr → Prop) (σ : L2.St) (H : Hp) (D : Ends) : Fl → Prop
  | .nx Γ O => ∀ σ' S' H', At K bg S0 H0 O Γ S' σ' H' → Sta S H S' H' → Agr w σ σ' → D.nx σ' H'
  | .bk Γ O => ∀ σ' S' H', At K bg S0 H0 O Γ S' σ' H' → Sta S H S' H' → Agr w σ σ' → D.bk σ' H'
  | .ct Γ O => ∀ σ' S' H', At K bg S0 H0 O Γ S' σ' H' → Sta S H S' H' → Agr w σ σ' → D.ct σ' H'
  | .rt r Γ O => ∀ v σ' S' H', At K bg S0 H0 O Γ S' σ' H' → Sta S H S' H' → Agr w σ σ' → ResV K bg H0 S' H' r v → D.rt v H'
def ExS (K : PySem.W.Frag) (bg : Option (Addr × Addr)) (S0 : Addr → Prop) (H0 : Hp) (EX : D → Prop) (w : List Nat) (m : Gam → List Nat → T Fl) : TS := fun D σ H => ∃ O Γ S, At K bg S0 H0 O Γ S σ H ∧ (m Γ O).All (Post K bg S0 H0 w S σ H D) EX
section
variable {X : Cx} {bg : Option (Addr × Addr)} {S0 S S1 S' : Addr → Prop} {H0 H H1 H' : Hp} {EX : D → Prop} {A : List Nat} {C : Calls} {K : PySem.W.Frag} {w w' : List Nat} {σ σ1 : L2.St}
theorem Post.later {D : Ends} {f : Fl} (s : Sta S H S1 H1) (g : Agr w σ σ1) (sub : ∀ i, i ∈ w' → i ∈ w) (h : Post K bg S0 H0 w S σ H D f) : Post K bg S0 H0 w' S1 σ1 H1 D f := by
  cases f with
  | nx Γ O => exact fun σ' S' H' a t u => h σ' S' H' a (s.trans t) (g.trans (u.mono sub))
  | bk Γ O => exact fun σ' S' H' a t u => h σ' S' H' a (s.trans t) (g.trans (u.mono sub))
  | ct Γ O => exact fun σ' S' H' a t u => h σ' S' H' a (s.trans t) (g.trans (u.mono sub))
  | rt r Γ O => exact fun v σ' S' H' a t u => h v σ' S' H' a (s.trans t) (g.trans (u.mono sub))
theorem ps_weak {st : Stmt} {t t' : TS} (h : PS X st t) (w : ∀ D σ H, t' D σ H → t D σ H) : PS X st t' := ⟨fun pins s σ H D I q => h.run pins s σ H D I (w D σ H q)⟩
theorem pss_weak {st : List Stmt} {t t' : TS} (h : PSs X st t) (w : ∀ D σ H, t' D σ H → t D σ H) : PSs X st t' := ⟨fun pins s σ H D I q => h.run pins s σ H D I (w D σ H q)⟩
theorem ps_false {st : Stmt} {m : Gam → List Nat → T Fl} (h : ∀ Γ O, m Γ O = .bad) : PS X st (ExS K bg S0 H0 EX w m) := ⟨fun pins s σ H D I ⟨O, Γ, S, a, q⟩ => by rw [h] at q; exact q.elim⟩
/-- frozen, or flat -/
theorem keep_at {O : List Nat} {Γ : Gam} {σ : L2.St} (a : At K bg S0 H0 O Γ S σ H) (A : List Nat) (fl : Bool) : ∃ S', At K bg S0 H0 (keepO A fl O) Γ S' σ H ∧ Sta S H S' H ∧ (∀ d v, (fl = true → isFlat d = true) → Rep K bg (Gs S O σ A) H d v → Rep K bg S' H d v) := by
  cases fl with
  | true => exact ⟨S, a, .refl, fun d v h r => r.flat (h rfl)⟩
  | false => exact ⟨Gs S O σ A, a.freeze A, ⟨fun _ h => .inl h, fun _ _ _ h => h⟩, fun d v _ r => r⟩
theorem St1 (s : Sta S H S1 H1) (h : ∀ a, S1 a → S' a) : Sta S H S' H1 := ⟨fun a z => h a (s.sub a z), s.keep⟩
/-- a new list becomes one's own -/
theorem At.own_put {O : List Nat} {Γ : Gam} {σ : L2.St} {p : Addr} {ds : List D} {xs : List V} (a : At K bg S0 H0 O Γ S σ H) (i : Nat) (hi : i < Γ.length) (np : ¬ S p) (h0 : H0 p = none) (hp : H p = some (.lst xs)) (r : Reps K bg S H ds xs) (ap : ∀ j, j ∈ O → σ[j]? ≠ some (some (V.ref p))) :
    At K bg S0 H0 (i :: O.filter fun j => decide (j ≠ i)) (Γ.set i (some (.lst ds))) S (σ.set i (some (.ref p))) H := by
  have hl := a.abs.len
  refine ⟨a.wld0, a.wld, a.ext, by rw [List.length_set, List.length_set]; exact hl, fun j d' n g => ?_, fun j m => ?_, fun j k b mj mk jk e e' => ?_⟩
  · have ji : j ≠ i := fun z => n (by rw [z]; exact List.mem_cons_self)
    have jo : j ∉ O := fun z => n (List.mem_cons_of_mem _ (List.mem_filter.mpr ⟨z, decide_eq_true ji⟩))
    rw [List.getElem?_set_ne (fun z => ji z.symm)] at g ⊢
    exact a.abs.dat j d' jo g
  · rcases List.mem_cons.mp m with z | z
    · subst z
      exact ⟨_, _, List.getElem?_set_self hi, List.getElem?_set_self (by rw [hl]; exact hi), p, ds, xs, rfl, rfl, np, h0, hp, r⟩
    · obtain ⟨mo, q⟩ := List.mem_filter.mp z
      have q := of_decide_eq_true q
      obtain ⟨d', v', g, e, r'⟩ := a.abs.own j mo
      exact ⟨d', v', by rw [List.getElem?_set_ne (fun z => q z.symm)]; exact g, by rw [List.getElem?_set_ne (fun z => q z.symm)]; exact e, r'⟩
  · rcases List.mem_cons.mp mj with z | z
    · subst z
      rw [List.getElem?_set_self (by rw [hl]; exact hi)] at e
      cases e
      rcases List.mem_cons.mp mk with y | y
      · exact jk y.symm
      · obtain ⟨mo, q⟩ := List.mem_filter.mp y
        have q := of_decide_eq_true q
        rw [List.getElem?_set_ne (fun z => q z.symm)] at e'
        exact ap k mo e'
    · obtain ⟨mo, q⟩ := List.mem_filter.mp z
      have q := of_decide_eq_true q
      rw [List.getElem?_set_ne (fun z => q z.symm)] at e
      rcases List.mem_cons.mp mk with y | y
      · subst y
        rw [List.getElem?_set_self (by rw [hl]; exact hi)] at e'
        cases e'
        exact ap j mo e
      · obtain ⟨mo2, q2⟩ := List.mem_filter.mp y
        have q2 := of_decide_eq_true q2
        rw [List.getElem?_set_ne (fun z => q2 z.symm)] at e'
        exact a.abs.apart j k b mo mo2 jk e e'
/-! ### the statements -/
theorem s_set {st : Stmt} {i : Nat} {oe : OE} (h : PS X st (tAsg (EvN X.K bg S0 H0 EX (al oe) (evX C oe)) (gName i))) : PS X st (ExS X.K bg S0 H0 EX (wrS (.set i oe)) (exS C (.set i oe))) :=
  ps_weak h fun D σ H ⟨O, Γ, S, a, q⟩ => by
    rw [exS] at q
    refine ⟨O, Γ, S, a, T.all_imp (T.all_bind.mp q) fun r hr v S1 H1 W1 E1 rv => ?_⟩
    have a1 := a.later E1 W1
    obtain ⟨ci, hr⟩ := T.all_need hr
    have ci := of_decide_eq_true ci
    show D.nx (σ.set i (some v)) H1
    obtain ⟨d, fr⟩ := r
    have s1 := E1.sta a.wld
    cases fr with
    | false =>
      obtain ⟨S2, a2, s2, k2⟩ := keep_at a1 (al oe) (isFlat d)
      exact hr _ S2 H1 (a2.put i (k2 d v (fun z => z) rv)) (s1.trans s2) (.set (by simp [wrS]))
    | true =>
      obtain ⟨p, ds, xs, ev, ed, np, hp0, hp, rr⟩ := rv
      simp only at ed
      subst ev ed
      have af := a1.freeze (al oe)
      refine hr _ _ H1 (af.own_put i ci np (a.ext.unborn hp0) hp rr fun j hj e => ?_) (St1 s1 fun _ h => .inl h) (.set (by simp [wrS]))
      have hj := (List.mem_filter.mp hj).1
      obtain ⟨_, _, _, _, _, hh, _⟩ := a.abs.at hj e
      rw [hp0] at hh
      cases hh
theorem s_seti {st : Stmt} {tg : Tg} {oe : OE} (h : PS X st (tAsg (EvD X.K bg S0 H0 EX (al oe) (evE C oe)) (gOf X.K tg))) : PS X st (ExS X.K bg S0 H0 EX (wrS (.seti tg oe)) (exS C (.seti tg oe))) :=
  ps_weak h fun D σ H ⟨O, Γ, S, a, q⟩ => by
    rw [exS] at q
    refine ⟨O, Γ, S, a, T.all_imp (T.all_bind.mp q) fun d hd v S1 H1 W1 E1 rv => ?_⟩
    have a1 := a.later E1 W1
    have hd := T.all_bind.mp hd
    obtain ⟨Γ', eΓ, hd⟩ := T.all_ofOpt hd
    obtain ⟨S2, a2, s2, k2⟩ := keep_at a1 (al oe) false
    exact gOf_ok tg d v _ _ Γ' σ _ a2 (k2 d v (fun z => by cases z) rv) eΓ fun σ' a3 u => hd σ' S2 H1 a3 ((E1.sta a.wld).trans s2) (.wipe (u _ fun i h => by unfold wrS; exact h))
theorem Reps.three {x y z : D} {vs : List V} (r : Reps K bg S H [x, y, z] vs) : ∃ v w u, vs = [v, w, u] ∧ Rep K bg S H x v ∧ Rep K bg S H y w ∧ Rep K bg S H z u := by
  obtain ⟨v, r1, e, h1, h2⟩ := r
  obtain ⟨w, u, e2, h3, h4⟩ := Reps.two h2
  subst e2
  exact ⟨v, w, u, e, h1, h3, h4⟩
theorem s_par2 {st : Stmt} {i j : Nat} {oa ob : OE} (h : PS X st (tPar i j (EvL X.K bg S0 H0 EX (als [oa, ob]) (evEs C [oa, ob])))) : PS X st (ExS X.K bg S0 H0 EX (wrS (.par2 i j oa ob)) (exS C (.par2 i j oa ob))) :=
  ps_weak h fun D σ H ⟨O, Γ, S, a, q⟩ => by
    rw [exS] at q
    refine ⟨O, Γ, S, a, T.all_imp (T.all_bind.mp q) fun ds hds vs S1 H1 W1 E1 rv => ?_⟩
    have a1 := a.later E1 W1
    split at hds
    · rename_i x y
      obtain ⟨v, w, ev, r1, r2⟩ := Reps.two rv
      refine ⟨v, w, ev, ?_⟩
      obtain ⟨S2, a2, s2, k2⟩ := keep_at a1 (als [oa, ob]) (isFlat x && isFlat y)
      have f1 : (isFlat x && isFlat y) = true → isFlat x = true := fun z => (Bool.and_eq_true _ _ ▸ z).1
      have f2 : (isFlat x && isFlat y) = true → isFlat y = true := fun z => (Bool.and_eq_true _ _ ▸ z).2
      exact hds _ S2 H1 ((a2.put i (k2 x v f1 r1)).put j (k2 y w f2 r2)) ((E1.sta a.wld).trans s2) (.trans (.set (by simp [wrS])) (.set (by simp [wrS])))
    · exact hds.elim
theorem s_par3 {st : Stmt} {i j l : Nat} {oa ob oc : OE} (h : PS X st (tPar3 i j l (EvL X.K bg S0 H0 EX (als [oa, ob, oc]) (evEs C [oa, ob, oc])))) : PS X st (ExS X.K bg S0 H0 EX (wrS (.par3 i j l oa ob oc)) (exS C (.par3 i j l oa ob oc))) :=
  ps_weak h fun D σ H ⟨O, Γ, S, a, q⟩ => by
    rw [exS] at q
    refine ⟨O, Γ, S, a, T.all_imp (T.all_bind.mp q) fun ds hds vs S1 H1 W1 E1 rv => ?_⟩
    have a1 := a.later E1 W1
    split at hds
    · rename_i x y z
      obtain ⟨v, w, u, ev, r1, r2, r3⟩ := Reps.three rv
      refine ⟨v, w, u, ev, ?_⟩
      obtain ⟨S2, a2, s2, k2⟩ := keep_at a1 (als [oa, ob, oc]) (isFlat x && isFlat y && isFlat z)
      have f0 : (isFlat x && isFlat y && isFlat z) = true → (isFlat x = true ∧ isFlat y = true) ∧ isFlat z = true := fun h => by simpa using h
      exact hds _ S2 H1 (((a2.put i (k2 x v (fun h => (f0 h).1.1) r1)).put j (k2 y w (fun h => (f0 h).1.2) r2)).put l (k2 z u (fun h => (f0 h).2) r3)) ((E1.sta a.wld).trans s2) (.trans (.trans (.set (by simp [wrS])) (.set (by simp [wrS]))) (.set (by simp [wrS])))
    · exact hds.elim
theorem s_expr {st : Stmt} {oe : OE} (h : PS X st (tDrop (EvD X.K bg S0 H0 EX (al oe) (evE C oe)))) : PS X st (ExS X.K bg S0 H0 EX (wrS (.expr oe)) (exS C (.expr oe))) :=
  ps_weak h fun D σ H ⟨O, Γ, S, a, q⟩ => by
    rw [exS] at q
    exact ⟨O, Γ, S, a, T.all_imp (T.all_bind.mp q) fun d hd v S1 H1 W1 E1 rv => hd σ S1 H1 (a.later E1 W1) (E1.sta a.wld) .refl⟩
theorem At.wr {O : List Nat} {Γ : Gam} {σ : L2.St} {i : Nat} {p : Addr} {ds es : List D} {xs ys : List V} (a : At K bg S0 H0 O Γ S σ H) (hi : i ∈ O) (g : Γ[i]? = some (some (.lst ds))) (e : σ[i]? = some (some (V.ref p))) (hp : H p = some (.lst xs)) (np : ¬ S p) (h0 : H0 p = none) (r : Reps K bg S H es ys) :
    At K bg S0 H0 O (Γ.set i (some (.lst es))) S σ (upd H p (.lst ys)) := by
  have up : ∀ {e : D} {w : V}, Rep K bg S H e w → Rep K bg S (upd H p (.lst ys)) e w := fun r => Rep.write r np
  refine ⟨a.wld0, Wld.write a.wld0 a.wld h0 hp, a.ext.write h0, by rw [List.length_set]; exact a.abs.len, fun j d' n q => ?_, fun j m => ?_, a.abs.apart⟩
  · by_cases ij : i = j
    · subst ij; exact absurd hi n
    · rw [List.getElem?_set_ne ij] at q
      obtain ⟨w, z, rw'⟩ := a.abs.dat j d' n q
      exact ⟨w, z, up rw'⟩
  · by_cases ij : i = j
    · subst ij
      have hil : i < Γ.length := (List.getElem?_eq_some_iff.mp g).1
      exact ⟨_, _, List.getElem?_set_self hil, e, p, _, ys, rfl, rfl, np, h0, upd_same, r.write np⟩
    · obtain ⟨d2, v2, g2, e2, p2, ds2, xs2, ev2, ed2, np2, h02, hp2, rr2⟩ := a.abs.own j m
      subst ev2
      have pp : p2 ≠ p := fun z => a.abs.apart i j p hi m ij e (by rw [← z]; exact e2)
      exact ⟨d2, _, by rw [List.getElem?_set_ne ij]; exact g2, e2, p2, ds2, xs2, rfl, ed2, np2, h02, by rw [upd_ne pp]; exact hp2, rr2.write np⟩
theorem Sta.wr {p : Addr} {o : HO} (s : Sta S H S1 H1) (np : ¬ S1 p) : Sta S H S1 (upd H1 p o) := ⟨s.sub, fun b u z hz => by
  rw [upd_ne (fun y => np (by rw [← y]; exact s.sub b z))]
  exact s.keep b u z hz⟩
/-- an own list grows -/
theorem s_app {st : Stmt} {i : Nat} {oe : OE} (h : PS X st (tDrop (tBM X.K "list" rAppend (tVar i) (EvL X.K bg S0 H0 EX (al oe) (evEs C [oe]))))) : PS X st (ExS X.K bg S0 H0 EX (wrS (.app i oe)) (exS C (.app i oe))) :=
  ps_weak h fun Dn σ H ⟨O, Γ, S, a, q⟩ => by
    rw [exS] at q
    have key : ∀ d, (match Γ[i]? with
        | some (some (.lst xs)) => T.need (decide (i ∈ keepO (al oe) (isFlat d) O ∧ xs.length < most)) (T.ret (Fl.nx (Γ.set i (some (.lst (xs ++ [d])))) (keepO (al oe) (isFlat d) O)))
        | _ => T.bad).All (Post X.K bg S0 H0 (wrS (.app i oe)) S σ H Dn) EX → ∃ xs, Γ[i]? = some (some (.lst xs)) ∧ i ∈ keepO (al oe) (isFlat d) O ∧ xs.length < most ∧ Post X.K bg S0 H0 (wrS (.app i oe)) S σ H Dn (Fl.nx (Γ.set i (some (.lst (xs ++ [d])))) (keepO (al oe) (isFlat d) O)) := fun d h => by
      split at h
      · rename_i xs hx
        obtain ⟨c, h⟩ := T.all_need h
        have c := of_decide_eq_true c
        exact ⟨xs, hx, c.1, c.2, h⟩
      · exact h.elim
    obtain ⟨hi, q⟩ := T.all_need q
    have hi := of_decide_eq_true hi
    · obtain ⟨d0, v0, g0, e0, p, ds0, xs0, ev0, ed0, np0, h00, hp0, rr0⟩ := a.abs.own i hi
      subst ev0 ed0
      refine ⟨_, e0, .inl ⟨rfl, xs0, .inl (.inl hp0)⟩, O, Γ, S, a, ?_⟩
      show ((evEs C [oe] Γ).All _ EX)
      rw [evEs, evEs]
      refine T.all_bind.mpr (T.all_imp (T.all_bind.mp q) fun d hd => ?_)
      show ∀ vs S1 H1, Wld bg S1 H1 → Ext bg S H S1 H1 → Reps X.K bg (Gs S1 O σ (al oe)) H1 [d] vs → rAppend (.ref p) vs H1 fun _ H2 => Dn.nx σ H2
      intro vs S1 H1 W1 E1 r1
      obtain ⟨xs, gx, hk, hlen, post⟩ := key d hd
      rw [g0] at gx
      cases gx
      obtain ⟨v, rfl, rv⟩ := r1.one
      have a1 := a.later E1 W1
      obtain ⟨S2, a2, s2, k2⟩ := keep_at a1 (al oe) (isFlat d)
      obtain ⟨d1, v1, g1, e1, p1, ds1, xs1, ev1, ed1, np1, h01, hp1, rr1⟩ := a2.abs.own i hk
      rw [g0] at g1; cases g1
      rw [e0] at e1; cases e1
      cases ev1
      cases ed1
      refine ⟨p, xs1, v, rfl, rfl, hp1, by rw [rr1.length, ← lineM]; exact hlen, ?_⟩
      exact post σ S2 _ (a2.wr hk g0 e0 hp1 np1 h00 (rr1.append ⟨v, [], rfl, k2 d v (fun z => z) rv, rfl⟩)) (((E1.sta a.wld).trans s2).wr np1) .refl
theorem ixD_N {n j : Nat} {i : Int} (h : ixD n i = some j) : ixN n i = some j := by
  unfold ixD at h
  unfold ixN
  split at h
  · rename_i h0
    rw [if_pos h0]
    split at h
    · rename_i h1
      rw [if_pos h1]
      exact h
    · cases h
  · rename_i h0
    rw [if_neg h0]
    split at h
    · rename_i h1
      rw [if_pos h1]
      exact h
    · cases h
theorem Reps.set : ∀ {ds : List D} {vs : List V} {d : D} {v : V} (j : Nat), Reps K bg S H ds vs → Rep K bg S H d v → Reps K bg S H (ds.set j d) (vs.set j v)
  | [], vs, d, v, j, h, _ => by
    rw [show vs = [] from h]
    rfl
  | x :: ds, vs, d, v, j, h, r => by
    obtain ⟨y, ys, e, h1, h2⟩ := h
    subst e
    cases j with
    | zero => exact ⟨v, ys, rfl, r, h2⟩
    | succ j => exact ⟨y, ys.set j v, rfl, h1, Reps.set j h2 r⟩
/-- an own list is written at a place -/
theorem s_put {st : Stmt} {i : Nat} {oi oe : OE} (h : PS X st (tAsg (EvD X.K bg S0 H0 EX (al oe) (evE C oe)) (gSub (tVar i) (EvD X.K bg S0 H0 EX (al oi) (evE C oi)) rSetL))) : PS X st (ExS X.K bg S0 H0 EX (wrS (.put i oi oe)) (exS C (.put i oi oe))) :=
  ps_weak h fun Dn σ H ⟨O, Γ, S, a, q⟩ => by
    rw [exS] at q
    obtain ⟨hi, q⟩ := T.all_need q
    have hi := of_decide_eq_true hi
    obtain ⟨d0, v0, g0, e0, p, ds0, xs0, ev0, ed0, np0, h00, hp0, rr0⟩ := a.abs.own i hi
    subst ev0 ed0
    refine ⟨O, Γ, S, a, T.all_imp (T.all_bind.mp q) fun d hd v S1 H1 W1 E1 rv => ⟨_, e0, ?_⟩⟩
    have a1 := a.later E1 W1
    refine ⟨O, Γ, S1, a1, T.all_imp (T.all_bind.mp hd) fun k hk w S2 H2 W2 E2 rw' => ?_⟩
    have a2 := a1.later E2 W2
    rw [g0] at hk
    split at hk
    · rename_i xs j hx
      cases hx
      split at hk
      · rename_i pl hpl
        obtain ⟨hm, post⟩ := T.all_need hk
        have hm := of_decide_eq_true hm
        obtain ⟨S3, a3, s3, k3⟩ := keep_at a2 (al oe) (isFlat d)
        obtain ⟨d1, v1, g1, e1, p1, ds1, xs1, ev1, ed1, np1, h01, hp1, rr1⟩ := a3.abs.own i hm
        rw [g0] at g1; cases g1
        rw [e0] at e1; cases e1
        cases ev1
        cases ed1
        refine ⟨p, xs1, j, pl, rfl, by rw [show w = _ from rw'], hp1, by rw [rr1.length]; exact ixD_N hpl, ?_⟩
        exact post σ S3 _ (a3.wr hm g0 e0 hp1 np1 h00 (rr1.set pl (k3 d v (fun z => z) (a1.rep E2 rv)))) ((((E1.sta a.wld).trans (E2.sta a1.wld)).trans s3).wr np1) .refl
      · exact hk.elim
    · exact hk.elim
end
end Dy

set_option linter.all false
set_option maxRecDepth 10000
set_option autoImplicit false
/-! Dy, part 13: blocks, tests, loops, returns. -/
namespace Dy
open PySem PySem.Spec PyProof.Rows L2
section
variable {X : Cx} {bg : Option (Addr × Addr)} {S0 S S1 S' : Addr → Prop} {H0 H H1 H' : Hp} {EX : D → Prop} {A : List Nat} {C : Calls} {K : PySem.W.Frag} {w w' : List Nat} {σ : L2.St}
theorem s_pass {st : Stmt} (h : PS X st tNext) : PS X st (ExS X.K bg S0 H0 EX (wrS .pass) (exS C .pass)) :=
  ps_weak h fun Dn σ H ⟨O, Γ, S, a, q⟩ => by
    rw [exS] at q
    exact q σ S H a .refl .refl
theorem s_brk {st : Stmt} (h : PS X st tBreak) : PS X st (ExS X.K bg S0 H0 EX (wrS .brk) (exS C .brk)) :=
  ps_weak h fun Dn σ H ⟨O, Γ, S, a, q⟩ => by
    rw [exS] at q
    exact q σ S H a .refl .refl
theorem s_cont {st : Stmt} (h : PS X st tCont) : PS X st (ExS X.K bg S0 H0 EX (wrS .cont) (exS C .cont)) :=
  ps_weak h fun Dn σ H ⟨O, Γ, S, a, q⟩ => by
    rw [exS] at q
    exact q σ S H a .refl .refl
theorem s_retN {st : Stmt} (h : PS X st tRetN) : PS X st (ExS X.K bg S0 H0 EX (wrS .retN) (exS C .retN)) :=
  ps_weak h fun Dn σ H ⟨O, Γ, S, a, q⟩ => by
    rw [exS] at q
    exact q .non σ S H a .refl .refl rfl
/-- a value handed back -/
theorem ret_ok {O : List Nat} {Γ : Gam} {σ : L2.St} (a : At K bg S0 H0 O Γ S σ H) (A : List Nat) (W1 : Wld bg S1 H1) (E1 : Ext bg S H S1 H1) {r : D × Bool} {v : V} (rv : ResN K bg (Gs S1 O σ A) H H1 r v) {Dn : Ends} (q : Post K bg S0 H0 w S σ H Dn (.rt r Γ (keepO A (isFlat r.1) O))) : Dn.rt v H1 := by
  have a1 := a.later E1 W1
  obtain ⟨d, fr⟩ := r
  cases fr with
  | false =>
    obtain ⟨S2, a2, s2, k2⟩ := keep_at a1 A (isFlat d)
    exact q v σ S2 H1 a2 ((E1.sta a.wld).trans s2) .refl (k2 d v (fun z => z) rv)
  | true =>
    obtain ⟨p, ds, xs, ev, ed, np, hp0, hp, rr⟩ := rv
    simp only at ed
    subst ed
    exact q v σ _ H1 (a1.freeze A) (St1 (E1.sta a.wld) fun _ h => .inl h) .refl ⟨p, ds, xs, ev, rfl, np, a.ext.unborn hp0, hp, rr⟩
theorem s_ret {st : Stmt} {oe : OE} (hv : ∀ i, oe ≠ .var i) (h : PS X st (tRet (EvN X.K bg S0 H0 EX (al oe) (evX C oe)))) : PS X st (ExS X.K bg S0 H0 EX (wrS (.ret oe)) (exS C (.ret oe))) :=
  ps_weak h fun Dn σ H ⟨O, Γ, S, a, q⟩ => by
    rw [exS] at q
    · exact ⟨O, Γ, S, a, T.all_imp (T.all_bind.mp q) fun r hr v S1 H1 W1 E1 rv => ret_ok a (al oe) W1 E1 rv hr⟩
    · exact fun i z => hv i z
theorem s_retV {st : Stmt} {i : Nat} (h : PS X st (tRet (tVar i))) (h2 : PS X st (tRet (EvD X.K bg S0 H0 EX [i] (evE C (.var i))))) : PS X st (ExS X.K bg S0 H0 EX (wrS (.ret (.var i))) (exS C (.ret (.var i)))) :=
  ⟨fun pins s σ H Dn I ⟨O, Γ, S, a, q⟩ => by
    rw [exS] at q
    by_cases hi : i ∈ O
    · rw [if_pos hi] at q
      obtain ⟨d, v, g, e, own⟩ := a.abs.own i hi
      rw [g] at q
      refine h.run pins s σ H Dn I ⟨v, e, ?_⟩
      exact q v σ S H a .refl .refl own
    · rw [if_neg hi] at q
      refine h2.run pins s σ H Dn I ⟨O, Γ, S, a, T.all_imp (T.all_bind.mp q) fun d hd v S1 H1 W1 E1 rv => ?_⟩
      exact ret_ok (r := (d, false)) a [i] W1 E1 rv hd⟩
theorem s_if {c : Expr} {x y : List Stmt} {pos : Pos} {ot : OT} {oa ob : List OS} (hc : PT X c (EvB X.K bg S0 H0 EX (evT C ot))) (ha : PSs X x (ExS X.K bg S0 H0 EX (wrSs oa) (exSs C oa))) (hb : PSs X y (ExS X.K bg S0 H0 EX (wrSs ob) (exSs C ob))) :
    PS X (.If c x y pos) (ExS X.K bg S0 H0 EX (wrS (.if_ ot oa ob)) (exS C (.if_ ot oa ob))) :=
  ps_weak (ps_if hc ha hb) fun Dn σ H ⟨O, Γ, S, a, q⟩ => by
    rw [exS] at q
    refine ⟨O, Γ, S, a, T.all_imp (T.all_bind.mp q) fun b hb S1 H1 W1 E1 => ?_⟩
    have a1 := a.later E1 W1
    cases b with
    | true => exact iteT ⟨O, Γ, S1, a1, T.all_imp hb fun f hf => hf.later (E1.sta a.wld) .refl fun i h => by unfold wrS; exact List.mem_append_left _ h⟩
    | false => exact iteF ⟨O, Γ, S1, a1, T.all_imp hb fun f hf => hf.later (E1.sta a.wld) .refl fun i h => by unfold wrS; exact List.mem_append_right _ h⟩
theorem ss_nil : PSs X [] (ExS X.K bg S0 H0 EX (wrSs []) (exSs C [])) :=
  pss_weak pss_nil fun Dn σ H ⟨O, Γ, S, a, q⟩ => by
    rw [exSs] at q
    exact q σ S H a .refl .refl
theorem ss_cons {st : Stmt} {rest : List Stmt} {o : OS} {os : List OS} (h1 : PS X st (ExS X.K bg S0 H0 EX (wrS o) (exS C o))) (h2 : PSs X rest (ExS X.K bg S0 H0 EX (wrSs os) (exSs C os))) : PSs X (st :: rest) (ExS X.K bg S0 H0 EX (wrSs (o :: os)) (exSs C (o :: os))) :=
  pss_weak (pss_cons h1 h2) fun Dn σ H ⟨O, Γ, S, a, q⟩ => by
    rw [exSs] at q
    have sl : ∀ i, i ∈ wrS o → i ∈ wrSs (o :: os) := fun i h => by unfold wrSs; exact List.mem_append_left _ h
    have sr : ∀ i, i ∈ wrSs os → i ∈ wrSs (o :: os) := fun i h => by unfold wrSs; exact List.mem_append_right _ h
    refine ⟨O, Γ, S, a, T.all_imp (T.all_bind.mp q) fun f hf => ?_⟩
    cases f with
    | nx Γ' O' => exact fun σ' S' H' a' s' u => ⟨O', Γ', S', a', T.all_imp hf fun f hf => hf.later s' (u.mono sl) sr⟩
    | bk Γ' O' => exact Post.later (f := .bk Γ' O') .refl .refl sl hf
    | ct Γ' O' => exact Post.later (f := .ct Γ' O') .refl .refl sl hf
    | rt r Γ' O' => exact Post.later (f := .rt r Γ' O') .refl .refl sl hf
/-- a loop's body, seen from its turn -/
theorem turn_post {Dn : Ends} {N : L2.St → Hp → Prop} {f : Fl} {m : Gam → List Nat → T Fl} {S3 : Addr → Prop} {H3 : Hp} {σ3 : L2.St} (s : Sta S H S3 H3) (g : Agr w σ σ3) (sub : ∀ i, i ∈ w' → i ∈ w)
    (hN : ∀ σ' S' H' Γ O, At K bg S0 H0 O Γ S' σ' H' → Sta S3 H3 S' H' → Agr w σ3 σ' → (m Γ O).All (Post K bg S0 H0 w S σ H Dn) EX → N σ' H')
    (h : (match f with | .nx Γ2 O2 => m Γ2 O2 | .ct Γ2 O2 => m Γ2 O2 | .bk Γ2 O2 => .ret (.nx Γ2 O2) | .rt r Γ2 O2 => .ret (.rt r Γ2 O2) : T Fl).All (Post K bg S0 H0 w S σ H Dn) EX) : Post K bg S0 H0 w' S3 σ3 H3 { Dn with nx := N, ct := N, bk := Dn.nx } f := by
  cases f with
  | nx Γ O => exact fun σ' S' H' a t u => hN σ' S' H' Γ O a t (u.mono sub) h
  | ct Γ O => exact fun σ' S' H' a t u => hN σ' S' H' Γ O a t (u.mono sub) h
  | bk Γ O => exact fun σ' S' H' a t u => h σ' S' H' a (s.trans t) (g.trans (u.mono sub))
  | rt r Γ O => exact fun v σ' S' H' a t u => h v σ' S' H' a (s.trans t) (g.trans (u.mono sub))
theorem s_for {tg iter : Expr} {body : List Stmt} {pos : Pos} {t : Tg} {oi : OI} {ob : List OS} (hp : PassesOwn (model X.prog X.w) X.A X.env X.xe) (hc : X.calm = true) (hi : PI X tg iter (EvI X.K bg S0 H0 EX (alI oi) (evI C oi))) (hg : PG X tg (gOf X.K t)) (hb : PSs X body (ExS X.K bg S0 H0 EX (wrSs ob) (exSs C ob)))
    (hs : ∀ x, foldedSetIterable iter X.env x = pure x) : PS X (.For tg iter body [] pos) (ExS X.K bg S0 H0 EX (wrS (.for_ t oi ob)) (exS C (.for_ t oi ob))) :=
  ps_weak (ps_for hp hc hi hg hb hs) fun Dn σ H ⟨O, Γ, S, a, q⟩ => by
    rw [exS] at q
    refine ⟨O, Γ, S, a, T.all_imp (T.all_bind.mp q) fun ds hds J S1 H1 W1 E1 it hlen => ?_⟩
    have a1 := a.later E1 W1
    have af := a1.freeze (alI oi)
    have sf : Sta S H (Gs S1 O σ (alI oi)) H1 := St1 (E1.sta a.wld) fun _ h => .inl h
    refine ⟨fun i m σ' H' => m = ds.length - i ∧ i ≤ ds.length ∧ ∃ O' Γ' S', At X.K bg S0 H0 O' Γ' S' σ' H' ∧ Agr (wrS (.for_ t oi ob)) σ σ' ∧ Sta (Gs S1 O σ (alI oi)) H1 S' H' ∧ (forL (exSs C ob) t (ds.drop i) Γ' O').All (Post X.K bg S0 H0 (wrS (.for_ t oi ob)) S σ H Dn) EX,
      ⟨ds.length, by simp, Nat.zero_le _, _, Γ, _, af, .refl, .refl, hds⟩, ?_⟩
    rintro i m σ2 H2 ⟨rfl, hi, O2, Γ2, S2, a2, g2, s2, q2⟩
    obtain ⟨it1, it2⟩ := it i S2 H2 a2.wld s2
    by_cases hlt : i < ds.length
    · obtain ⟨d, hd⟩ : ∃ d, ds[i]? = some d := ⟨ds[i], List.getElem?_eq_getElem hlt⟩
      have e_drop : ds.drop i = d :: ds.drop (i + 1) := by
        rw [List.drop_eq_getElem_cons hlt]
        rw [List.getElem?_eq_getElem hlt] at hd
        cases hd
        rfl
      obtain ⟨go, yl⟩ := it2 d hd
      refine .inr ⟨go, fun σ' H' => ∃ O' Γ' S', At X.K bg S0 H0 O' Γ' S' σ' H' ∧ Agr (wrS (.for_ t oi ob)) σ σ' ∧ Sta (Gs S1 O σ (alI oi)) H1 S' H' ∧ (forL (exSs C ob) t (ds.drop (i + 1)) Γ' O').All (Post X.K bg S0 H0 (wrS (.for_ t oi ob)) S σ H Dn) EX,
        fun σ' H' z => ⟨ds.length - (i + 1), by omega, rfl, hlt, z⟩, fun x H3 hy => ?_⟩
      obtain ⟨S3, W3, E3, r3⟩ := yl x H3 hy
      rw [e_drop] at q2
      unfold forL at q2
      have q2 := T.all_bind.mp q2
      obtain ⟨Γ', eΓ, q2⟩ := T.all_ofOpt q2
      have q2 := T.all_bind.mp q2
      have s3 : Sta (Gs S1 O σ (alI oi)) H1 S3 H3 := s2.trans (E3.sta a2.wld)
      refine gOf_ok t d x _ _ Γ' _ _ (a2.later E3 W3) r3 eΓ fun σ4 a4 u4 => ⟨_, Γ', S3, a4, T.all_imp q2 fun f hf => ?_⟩
      have g4 : Agr (wrS (.for_ t oi ob)) σ σ4 := g2.trans (Agr.mono (.wipe (u4 (tgs t) fun _ h => h)) fun i h => by unfold wrS; exact List.mem_append_left _ h)
      exact turn_post (m := fun Γ O => forL (exSs C ob) t (ds.drop (i + 1)) Γ O) (sf.trans s3) g4 (fun i h => by unfold wrS; exact List.mem_append_right _ h) (fun σ' S' H' Γ O a' s' u h => ⟨O, Γ, S', a', g4.trans u, s3.trans s', h⟩) (by cases f <;> exact hf)
    · have ei : i = ds.length := by omega
      subst ei
      refine .inl ⟨it1 (Nat.le_refl _), ?_⟩
      rw [List.drop_length] at q2
      unfold forL at q2
      exact q2 σ2 S2 H2 a2 (sf.trans s2) g2
theorem s_while {c : Expr} {body : List Stmt} {pos : Pos} {ot : OT} {ob : List OS} {n : Nat} (hp : PassesOwn (model X.prog X.w) X.A X.env X.xe) (hc : PT X c (EvB X.K bg S0 H0 EX (evT C ot))) (hb : PSs X body (ExS X.K bg S0 H0 EX (wrSs ob) (exSs C ob))) :
    PS X (.While c body [] pos) (ExS X.K bg S0 H0 EX (wrS (.while_ n ot ob)) (exS C (.while_ n ot ob))) :=
  ps_weak (ps_while hp hc hb) fun Dn σ H ⟨O, Γ, S, a, q⟩ => by
    rw [exS] at q
    refine ⟨fun m σ' H' => ∃ O' Γ' S', At X.K bg S0 H0 O' Γ' S' σ' H' ∧ Agr (wrS (.while_ n ot ob)) σ σ' ∧ Sta S H S' H' ∧ (whL (evT C ot) (exSs C ob) m Γ' O').All (Post X.K bg S0 H0 (wrS (.while_ n ot ob)) S σ H Dn) EX, ⟨n, O, Γ, S, a, .refl, .refl, q⟩, ?_⟩
    rintro m σ2 H2 ⟨O2, Γ2, S2, a2, g2, s2, q2⟩
    cases m with
    | zero => exact q2.elim
    | succ m =>
      unfold whL at q2
      refine ⟨O2, Γ2, S2, a2, T.all_imp (T.all_bind.mp q2) fun b hb S3 H3 W3 E3 => ?_⟩
      have s3 := s2.trans (E3.sta a2.wld)
      cases b with
      | false => exact iteF (hb σ2 S3 H3 (a2.later E3 W3) s3 g2)
      | true =>
        refine iteT ⟨fun σ' H' => ∃ O' Γ' S', At X.K bg S0 H0 O' Γ' S' σ' H' ∧ Agr (wrS (.while_ n ot ob)) σ σ' ∧ Sta S H S' H' ∧ (whL (evT C ot) (exSs C ob) m Γ' O').All (Post X.K bg S0 H0 (wrS (.while_ n ot ob)) S σ H Dn) EX, fun σ' H' z => ⟨m, Nat.lt_succ_self m, z⟩, ?_⟩
        refine ⟨O2, Γ2, S3, a2.later E3 W3, T.all_imp (T.all_bind.mp hb) fun f hf => ?_⟩
        exact turn_post (m := fun Γ O => whL (evT C ot) (exSs C ob) m Γ O) s3 g2 (fun i h => by unfold wrS; exact h) (fun σ' S' H' Γ O a' s' u h => ⟨O, Γ, S', a', g2.trans u, s3.trans s', h⟩) (by cases f <;> exact hf)
end
end Dy

set_option linter.all false
set_option maxRecDepth 10000
set_option autoImplicit false
/-! Dy, part 14: a text's statements and their data. -/
namespace Dy
open PySem PySem.Spec PyProof.Rows L2

def isCompE : Expr → Bool
  | .ListComp _ _ _ _ => true | .SetComp _ _ _ _ => true | .DictComp _ _ _ _ _ => true
  | _ => false
def isTupE : Expr → Bool
  | .Tuple _ _ _ => true
  | _ => false
def isLcE : Expr → Bool
  | .ListComp _ _ _ _ => true
  | _ => false
/-- a pair's names: stored from the right? -/
def parOk (sc : Scope) (x y : Str) (px py : Pos) : Bool := (sc.names.lookup x == some .local) && (sc.names.lookup y == some .local) && px.line == py.line && !(x == y)
def par3Ok (sc : Scope) (x y z : Str) (px py pz : Pos) : Bool := (sc.names.lookup x == some .local) && (sc.names.lookup y == some .local) && (sc.names.lookup z == some .local) && px.line == py.line && px.line == pz.line && !(x == y) && !(x == z) && !(y == z)
mutual
def stripS (c : Cf) (sc : Scope) : Nat → Stmt → OS
  | 0, _ => .bad
  | n + 1, s => match s with
    | .Pass _ => .pass
    | .Break _ => .brk
    | .Continue _ => .cont
    | .Expr (.Constant (.str _) _ _) _ => .pass
    | .Expr (.Call (.Attribute (.Name x px) m ap) [a] [] cp) _ => if m = "append" ∧ (okName x && seen sc x && !isStar a && ap.endLine == cp.line) = true then (match c.N.idxOf? x with | some i => .app i (stripE c n sc a) | none => .bad) else .bad
    | .Expr e _ => if isCompE e then .bad else .expr (stripE c n sc e)
    | .Return (some e) _ => .ret (stripE c n sc e)
    | .Return none _ => .retN
    | .If t a b _ => .if_ (stripT c n sc t) (stripSs c sc n a) (stripSs c sc n b)
    | .For tg it b [] _ => if isSetE it then .bad else (match stripG c sc n tg with | some t => .for_ t (stripI c n sc tg it) (stripSs c sc n b) | none => .bad)
    | .While t b [] _ => .while_ 1000000 (stripT c n sc t) (stripSs c sc n b)
    | .Assign [.Name x px] e _ => if isLoc sc x then (match c.N.idxOf? x with
      | some i => if isCompE e && !isLcE e then .bad else .set i (stripE c n sc e)
      | none => .bad) else .bad
    | .Assign [.Tuple [.Name x px, .Name y py] _ _] (.Tuple [a, b] _ _) _ => if (parOk sc x y px py && !([a, b].any isStar) && !([a, b].all (foldedForSure 8)) && !([a, b].all (constantsAlone 8))) = true then
        (match c.N.idxOf? x, c.N.idxOf? y with | some i, some j => .par2 i j (stripE c n sc a) (stripE c n sc b) | _, _ => .bad) else .bad
    | .Assign [.Tuple [.Name x px, .Name y py, .Name z pz] _ _] (.Tuple [a, b, d] _ _) _ => if (par3Ok sc x y z px py pz && !([a, b, d].any isStar) && !([a, b, d].all (foldedForSure 8)) && !([a, b, d].all (constantsAlone 8))) = true then
        (match c.N.idxOf? x, c.N.idxOf? y, c.N.idxOf? z with | some i, some j, some l => .par3 i j l (stripE c n sc a) (stripE c n sc b) (stripE c n sc d) | _, _, _ => .bad) else .bad
    | .Assign [.Subscript (.Name x px) ix _] e _ => if (okName x && seen sc x && !isSliceE ix) = true then (match c.N.idxOf? x with | some i => .put i (stripE c n sc ix) (stripE c n sc e) | none => .bad) else .bad
    | .Assign [.Tuple ts k p] e _ => if isTupE e || isCompE e then .bad else (match stripG c sc n (.Tuple ts k p) with | some t => .seti t (stripE c n sc e) | none => .bad)
    | _ => .bad
def stripSs (c : Cf) (sc : Scope) : Nat → List Stmt → List OS
  | _, [] => []
  | 0, _ :: _ => [.bad]
  | n + 1, s :: r => stripS c sc n s :: stripSs c sc n r
end
def newE : OE → Bool
  | .lst _ => true
  | .lc _ _ _ _ _ => true
  | .call _ _ _ _ _ => true
  | _ => false
theorem evX_old {C : Calls} {o : OE} (h : newE o = false) (Γ : Gam) : evX C o Γ = (evE C o Γ).bind fun d => .ret (d, false) := by
  cases o <;> first | rfl | cases h
theorem new_of {c : Cf} {n : Nat} {sc : Scope} {e : Expr} (h : newE (stripE c n sc e) = true) : (∃ es p, e = .List es p) ∨ (∃ elt tg it ifs sc2 p, e = .ListComp elt [⟨tg, it, ifs, 0⟩] sc2 p) ∨ ∃ f p es kws pos, e = .Call (.Name f p) es kws pos := by
  cases n with
  | zero => cases h
  | succ n =>
    unfold stripE at h
    split at h <;> first | exact .inl ⟨_, _, rfl⟩ | exact .inr (.inl ⟨_, _, _, _, _, _, rfl⟩) | exact .inr (.inr ⟨_, _, _, _, _, rfl⟩) | (cases h; done) | skip
    · rename_i v _ _
      unfold constD at h
      split at h <;> first | (cases h; done) | (split at h <;> cases h)
    · split at h <;> first | (cases h; done) | (split at h <;> first | (split at h <;> cases h; done) | (split at h <;> first | (cases h; done) | (split at h <;> cases h)))
    · split at h <;> cases h
    · split at h <;> first | (cases h; done) | (split at h <;> cases h)
    · split at h <;> cases h
    · split at h <;> cases h
    · split at h <;> first | (cases h; done) | (split at h <;> first | (cases h; done) | (split at h <;> first | (cases h; done) | (split at h <;> cases h)))
end Dy

set_option linter.all false
set_option maxRecDepth 10000
set_option autoImplicit false
/-! Dy, part 15: every statement that has an own form does what its data says. -/
namespace Dy
open PySem PySem.Spec PyProof.Rows L2
section
variable {c : Cf} {C : Calls} {k : Nat} {sc : Scope} {X : Cx} {bg : Option (Addr × Addr)} {S0 : Addr → Prop} {H0 : Hp} {EX : D → Prop}
theorem stripE_lc {n : Nat} {elt tg it : Expr} {ifs : List Expr} {sc2 : Scope} {p : Pos} : stripE c (n + 1) sc (.ListComp elt [⟨tg, it, ifs, 0⟩] sc2 p) = (if blkC c.N sc sc2 (ownOf c.N sc2) then (match stripG c sc2 n tg with
      | some t => .lc (stripE c n (relS sc2 sc) elt) ((ownOf c.N sc2).map (·.2)) t (stripI c n sc tg it) (ifs.map (stripT c n (relS sc2 sc)))
      | none => .bad) else .bad) := rfl
theorem snd_x (I : ∀ n, Snd c C k n) (G : Good c C k sc X) (P : Passes (L2.CX X.prog X.w) X (eX X.K bg S0 H0 EX)) (n : Nat) (e : Expr) :
    PE X e (EvN X.K bg S0 H0 EX (al (stripE c n sc e)) (evX C (stripE c n sc e))) := by
  by_cases hn : newE (stripE c n sc e) = true
  · cases n with
    | zero => cases hn
    | succ n =>
      rcases new_of hn with ⟨es, p, rfl⟩ | ⟨elt, tg, it, ifs, sc2, p, rfl⟩ | ⟨f, p, es, kws, pos, rfl⟩
      · generalize ho : stripE c (n + 1) sc (.List es p) = o at hn ⊢
        unfold stripE at ho
        try dsimp only at ho
        split at ho
        · subst ho; cases hn
        · rename_i hs
          simp only [Bool.or_eq_true, not_or, Bool.not_eq_true, decide_eq_true_eq] at hs
          subst ho
          exact k_lstN (by rw [List.length_map]; omega) (k_pa hs.1 (by rw [List.length_map]) (snd_list (I n) G P _ es fun i hi => by unfold al; exact hi)) fun Γ PP E h => evEs_len _ Γ PP E h
      · generalize ho : stripE c (n + 1) sc (.ListComp elt [⟨tg, it, ifs, 0⟩] sc2 p) = o at hn ⊢
        rw [stripE_lc] at ho
        split at ho
        · rename_i hblk
          split at ho
          · rename_i t ht
            subst ho
            by_cases hset : isSetE it = true
            · have e0 : stripI c n sc tg it = .e .bad := by
                cases n with
                | zero => rfl
                | succ n => cases it <;> first | exact absurd hset Bool.false_ne_true | rfl
              refine ⟨fun pins s σ H Q J ⟨O, Γ, S, a, q⟩ => ?_⟩
              rw [e0] at q
              rw [evX, evI, evE] at q
              exact q.elim
            · obtain ⟨p1, p2, p3, p4, p5, p6, p7⟩ := lc_parts (elt := elt) (ifs := ifs) (I n) G P (al (.lc (stripE c n (relS sc2 sc) elt) ((ownOf c.N sc2).map (·.2)) t (stripI c n sc tg it) (ifs.map (stripT c n (relS sc2 sc))))) hblk ht hset (fun i hi => by unfold al; exact List.mem_append_left _ hi) (fun i hi => by unfold al; exact List.mem_append_right _ hi)
              exact k_lcN G.calm (by rw [G.hN]; exact G.nd) p1 p2 p3 p4 p5 p6 p7
          · subst ho; cases hn
        · subst ho; cases hn
      · generalize ho : stripE c (n + 1) sc (.Call (.Name f p) es kws pos) = o at hn ⊢
        unfold stripE at ho
        try dsimp only at ho
        split at ho
        · subst ho; cases hn
        · rename_i hh
          simp only [Bool.or_eq_true, not_or, Bool.not_eq_true, Bool.not_eq_eq_eq_not, Bool.not_true, Bool.not_eq_false] at hh
          obtain ⟨⟨⟨h1, h2⟩, h3⟩, h4⟩ := hh
          have hg : Gl X f := isGl_Gl G h2
          split at ho
          · rename_i sel dfts hm
            subst ho
            obtain ⟨a, fd, ps, e1, e2, e3, e4⟩ := G.fns _ _ _ _ _ hm
            refine k_callN G.room hg e1 e2 e3 e4 P h3 (by simpa using h4) (by rw [List.length_map]) (by rw [List.length_map]) (okName_of h1).1 (k_pa h3 (by rw [List.length_map]) (snd_list (I n) G P _ es fun i hi => by unfold al; exact List.mem_append_left _ hi)) (k_pk (by rw [List.length_map]) fun i q o g1 g2 => ?_)
            have g2' := g2
            rw [List.getElem?_map, g1] at g2
            cases g2
            exact (I n).e _ q.value G P fun j hj => by unfold al; exact List.mem_append_right _ (als_mem g2' hj)
          · exfalso
            split at ho
            · subst ho; cases hn
            split at ho
            · split at ho
              · split at ho
                · split at ho <;> (subst ho; cases hn)
                · subst ho; cases hn
              · split at ho
                · split at ho <;> (subst ho; cases hn)
                · subst ho; cases hn
              · subst ho; cases hn
            · split at ho <;> (subst ho; cases hn)
  · have hn : newE (stripE c n sc e) = false := by simpa using hn
    refine pe_weak ((I n).e (al (stripE c n sc e)) e G P fun i h => h) fun σ H Q ⟨O, Γ, S, a, q⟩ => evD_N ⟨O, Γ, S, a, by rw [evX_old hn] at q; exact q⟩
theorem notComp_swap {e : Expr} {t : Option Expr} {l : Nat} {env : Env} (h : isCompE e = false) : swapsWith e t l env = pure false := by
  cases e <;> first | rfl | cases h
theorem swap_tup {e : Expr} {ts : List Expr} {k : Nat} {p : Pos} {l : Nat} {env : Env} : swapsWithSole [.Tuple ts k p] e l env = pure false := by
  show swapsWith e (some (.Tuple ts k p)) l env = pure false
  cases e <;> rfl
theorem stores_none {e : Expr} {t : Expr} {env : Env} (h : isTupE e = false) : swappedStores [t] e env = pure none := by
  cases e <;> first | (cases h; done) | (cases t <;> rfl)
theorem blockF {env : Env} (h : env.scope.kind = .function) : env.blockKind = .function := by
  unfold Env.blockKind
  rw [h]
  rfl
theorem isStar_eq : (fun e : Expr => match e with | .Starred .. => true | _ => false) = isStar := by
  funext e
  cases e <;> rfl
theorem stores2 {env : Env} {x y : Str} {px py kp : Pos} {kt k2 : Nat} {pt : Pos} {a b : Expr} (hk : env.scope.kind = .function) (h : parOk env.scope x y px py = true) (hs : [a, b].any isStar = false) (hf : [a, b].all (foldedForSure 8) = false) (hc : [a, b].all (constantsAlone 8) = false) :
    swappedStores [.Tuple [.Name x px, .Name y py] kt pt] (.Tuple [a, b] k2 kp) env = pure (some [x, y]) := by
  unfold parOk at h
  simp only [Bool.and_eq_true, Bool.not_eq_true', beq_iff_eq] at h
  obtain ⟨⟨⟨h1, h2⟩, h3⟩, h4⟩ := h
  have h4 : (x == y) = false := by simpa using h4
  have hb := blockF hk
  have k1 : env.kindOf x = some .local := h1
  have k2 : env.kindOf y = some .local := h2
  have h5 : (y == x) = false := by rw [BEq.comm]; exact h4
  have sa : ∀ {e : Expr}, isStar e = false → (match e with | .Starred .. => true | _ => false) = false := fun {e} h => by cases e <;> first | rfl | cases h
  have hs0 : isStar a = false ∧ isStar b = false := by simpa using hs
  have e2 : [x, y].eraseDups.length = 2 := by
    simp [List.eraseDups_cons, h5]
  unfold swappedStores
  simp only [hb]
  simp [hf, hc, e2, Expr.pos, k1, k2, h3]
  intro h
  exfalso
  obtain ⟨s1, s2⟩ := hs0
  rcases h with h | h
  · cases a <;> first | (cases h; done) | cases s1
  · cases b <;> first | (cases h; done) | cases s2
theorem stores3 {env : Env} {x y z : Str} {px py pz kp : Pos} {kt k2 : Nat} {pt : Pos} {a b d : Expr} (hk : env.scope.kind = .function) (h : par3Ok env.scope x y z px py pz = true) (hs : [a, b, d].any isStar = false) (hf : [a, b, d].all (foldedForSure 8) = false) (hc : [a, b, d].all (constantsAlone 8) = false) :
    swappedStores [.Tuple [.Name x px, .Name y py, .Name z pz] kt pt] (.Tuple [a, b, d] k2 kp) env = pure (some [x, y, z]) := by
  unfold par3Ok at h
  simp only [Bool.and_eq_true, Bool.not_eq_true', beq_iff_eq] at h
  obtain ⟨⟨⟨⟨⟨⟨⟨h1, h2⟩, h3⟩, h4⟩, h5⟩, h6⟩, h7⟩, h8⟩ := h
  have h6 : (x == y) = false := by simpa using h6
  have h7 : (x == z) = false := by simpa using h7
  have h8 : (y == z) = false := by simpa using h8
  have hb := blockF hk
  have k1 : env.kindOf x = some .local := h1
  have k2 : env.kindOf y = some .local := h2
  have k3 : env.kindOf z = some .local := h3
  have h6' : (y == x) = false := by rw [BEq.comm]; exact h6
  have h7' : (z == x) = false := by rw [BEq.comm]; exact h7
  have h8' : (z == y) = false := by rw [BEq.comm]; exact h8
  have hs0 : isStar a = false ∧ isStar b = false ∧ isStar d = false := by simpa using hs
  have e2 : [x, y, z].eraseDups.length = 3 := by
    simp [List.eraseDups_cons, h6', h7', h8']
  have h5' : pz.line = px.line := h5.symm
  have h4' : py.line = px.line := h4.symm
  unfold swappedStores
  simp only [hb]
  simp [hf, hc, e2, Expr.pos, k1, k2, k3, h4', h5']
  intro h
  exfalso
  obtain ⟨s1, s2, s3⟩ := hs0
  rcases h with h | h | h
  · cases a <;> first | (cases h; done) | cases s1
  · cases b <;> first | (cases h; done) | cases s2
  · cases d <;> first | (cases h; done) | cases s3
/-- a comprehension's value stored in a name: exchanged or not -/
theorem swap_lc {elt : Expr} {gs : List Comprehension} {sc2 : Scope} {pos py : Pos} {y : Str} {l : Nat} {env : Env} : ∃ b, swapsWith (.ListComp elt gs sc2 pos) (some (.Name y py)) l env = pure b ∧ (b = true → env.scope.names.lookup y = some .local) := by
  refine ⟨_, rfl, fun h => ?_⟩
  simp only [Bool.and_eq_true, beq_iff_eq] at h
  exact h.1.1.2
end
end Dy

set_option linter.all false
set_option maxRecDepth 10000
set_option autoImplicit false
/-! Dy, part 16: statements, joined. -/
namespace Dy
open PySem PySem.Spec PyProof.Rows L2
theorem lc_bad {c : Cf} {sc sc2 : Scope} {n : Nat} {elt : Expr} {gs : List Comprehension} {p : Pos} (h : newE (stripE c n sc (.ListComp elt gs sc2 p)) = false) : stripE c n sc (.ListComp elt gs sc2 p) = .bad := by
  generalize ho : stripE c n sc (.ListComp elt gs sc2 p) = o at h ⊢
  generalize he : Expr.ListComp elt gs sc2 p = e at ho
  cases n with
  | zero => exact ho.symm
  | succ n =>
    unfold stripE at ho
    split at ho <;> first | (cases he; done) | (exact ho.symm) | skip
    split at ho
    · split at ho
      · subst ho; cases h
      · exact ho.symm
    · exact ho.symm
theorem var_of {c : Cf} {sc : Scope} {n i : Nat} {e : Expr} (h : stripE c n sc e = .var i) : ∃ x p, e = .Name x p ∧ okName x = true ∧ seen sc x = true ∧ c.N.idxOf? x = some i := by
  cases n with
  | zero => cases h
  | succ n =>
    unfold stripE at h
    split at h <;> first | (cases h; done) | skip
    · rename_i v _ _
      unfold constD at h
      split at h <;> first | (cases h; done) | (split at h <;> cases h)
    · rename_i x p
      split at h
      · rename_i h1
        split at h
        · rename_i h2
          split at h
          · rename_i j hj
            cases h
            exact ⟨x, p, rfl, h1, h2, hj⟩
          · cases h
        · split at h
          · split at h <;> cases h
          · cases h
      · cases h
    all_goals repeat' (first | (cases h; done) | split at h)
section
variable {c : Cf} {C : Calls} {k : Nat} {sc : Scope} {X : Cx} {bg : Option (Addr × Addr)} {S0 : Addr → Prop} {H0 : Hp} {EX : D → Prop}
theorem snd_set (I : ∀ n, Snd c C k n) (G : Good c C k sc X) (P : Passes (L2.CX X.prog X.w) X (eX X.K bg S0 H0 EX)) (Tg : TgOk sc X) (n : Nat) {x : Str} {px pos : Pos} {e : Expr} {i : Nat} (hl : isLoc sc x = true) (hi : c.N.idxOf? x = some i) (hc : (isCompE e && !isLcE e) = false) :
    PS X (.Assign [.Name x px] e pos) (ExS X.K bg S0 H0 EX (wrS (.set i (stripE c n sc e))) (exS C (.set i (stripE c n sc e)))) := by
  obtain ⟨t1, t2⟩ := Tg x hl
  have hN : X.N.Nodup := by rw [G.hN]; exact G.nd
  have hx : X.N[i]? = some x := by rw [G.hN]; exact idxOf_get hi
  by_cases hcomp : isCompE e = true
  · have hlc : isLcE e = true := by
      rw [hcomp] at hc
      simpa using hc
    cases e <;> first | (cases hlc; done) | skip
    rename_i elt gs sc2 p
    obtain ⟨b, hb, hbl⟩ := swap_lc (elt := elt) (gs := gs) (sc2 := sc2) (pos := p) (py := px) (y := x) (l := pos.line) (env := X.env)
    cases b with
    | false => exact s_set (ps_set hN hx t1 (snd_x I G P n _) hb t2)
    | true =>
      by_cases hn : newE (stripE c n sc (.ListComp elt gs sc2 p)) = true
      · rcases new_of hn with ⟨es, p', z⟩ | ⟨elt', tg, it, ifs, sc2', p', z⟩ | ⟨f, p', es, kws, pos', z⟩
        · cases z
        · cases z
          cases n with
          | zero => cases hn
          | succ n =>
            generalize ho : stripE c (n + 1) sc (.ListComp elt [⟨tg, it, ifs, 0⟩] sc2 p) = o at hn ⊢
            rw [stripE_lc] at ho
            split at ho
            · rename_i hblk
              split at ho
              · rename_i t ht
                subst ho
                by_cases hset : isSetE it = true
                · have e0 : stripI c n sc tg it = .e .bad := by
                    cases n with
                    | zero => rfl
                    | succ n => cases it <;> first | exact absurd hset Bool.false_ne_true | rfl
                  rw [e0]
                  refine ps_false fun Γ O => ?_
                  rw [exS, evX, evI, evE]
                  rfl
                · obtain ⟨p1, p2, p3, p4, p5, p6, p7⟩ := lc_parts (elt := elt) (ifs := ifs) (I n) G P (al (.lc (stripE c n (relS sc2 sc) elt) ((ownOf c.N sc2).map (·.2)) t (stripI c n sc tg it) (ifs.map (stripT c n (relS sc2 sc))))) hblk ht hset (fun i hi => by unfold al; exact List.mem_append_left _ hi) (fun i hi => by unfold al; exact List.mem_append_right _ hi)
                  exact s_set (ps_weak (ps_setLc G.calm hN hx (hbl rfl) hb p1 p2 p3 p4 p5 p6) fun Dn σ H q => lc_read p7 q)
              · subst ho; cases hn
            · subst ho; cases hn
        · cases z
      · rw [lc_bad (by simpa using hn)]
        refine ps_false fun Γ O => ?_
        rw [exS, evX, evE]
        · rfl
        all_goals (intros; rename_i z; cases z)
  · exact s_set (ps_set hN hx t1 (snd_x I G P n e) (notComp_swap (by simpa using hcomp)) t2)
theorem snd_s (I : ∀ n, Snd c C k n) (G : Good c C k sc X) (P : Passes (L2.CX X.prog X.w) X (eX X.K bg S0 H0 EX)) (Tg : TgOk sc X) : ∀ n : Nat,
    (∀ s : Stmt, PS X s (ExS X.K bg S0 H0 EX (wrS (stripS c sc n s)) (exS C (stripS c sc n s)))) ∧ ∀ ss : List Stmt, PSs X ss (ExS X.K bg S0 H0 EX (wrSs (stripSs c sc n ss)) (exSs C (stripSs c sc n ss))) := by
  have bad : ∀ s : Stmt, PS X s (ExS X.K bg S0 H0 EX (wrS .bad) (exS C .bad)) := fun s => ps_false fun Γ O => by rw [exS]
  have hN : X.N.Nodup := by rw [G.hN]; exact G.nd
  have nth : ∀ {x : Str} {i : Nat}, c.N.idxOf? x = some i → X.N[i]? = some x := fun h => by rw [G.hN]; exact idxOf_get h
  intro n
  induction n with
  | zero =>
    refine ⟨fun s => bad s, fun ss => ?_⟩
    cases ss with
    | nil => exact ss_nil
    | cons s r => exact ⟨fun pins s' σ H Dn J ⟨O, Γ, S, a, q⟩ => by
        rw [stripSs, exSs, exS] at q
        exact q.elim⟩
  | succ n ih =>
    obtain ⟨ih1, ih2⟩ := ih
    refine ⟨fun s => ?_, fun ss => ?_⟩
    · generalize ho : stripS c sc (n + 1) s = o
      unfold stripS at ho
      split at ho
      · subst ho; exact s_pass ps_pass
      · subst ho; exact s_brk ps_break
      · subst ho; exact s_cont ps_continue
      · subst ho; exact s_pass ps_doc
      · rename_i x px m ap a cp pos
        split at ho
        · rename_i hh
          obtain ⟨h1, h2⟩ := hh
          subst h1
          simp only [Bool.and_eq_true, Bool.not_eq_true'] at h2
          obtain ⟨⟨⟨h2, h3⟩, h4⟩, h5⟩ := h2
          split at ho
          · rename_i i hi
            subst ho
            have hv : Vis X.env.scope x := by rw [G.hsc]; exact seen_vis h3
            refine s_app (ps_expr (pe_bm PySem.F.plainAttrs_list slot_list_append type_list_append mt_append (pe_var (nth hi) hv (okName_of h2).1 (okName_of h2).2) (k_pa (es := [a]) (os := [stripE c n sc a]) (by simpa using h4) rfl fun j e o g1 g2 => ?_) rfl ?_ h5 (starEach_cons h4) (starEach_plain _ _ rfl)) rfl)
            · cases j with
              | zero =>
                have q1 : a = e := by simpa using g1
                have q2 : stripE c n sc a = o := by simpa using g2
                subst q1 q2
                exact (I n).e _ a G P fun i h => h
              | succ j => simp at g1
            · rw [starEach_cons h4]; rfl
          · subst ho; exact bad _
        · subst ho; exact bad _
      · rename_i e pos _ _
        split at ho
        · subst ho; exact bad _
        · rename_i hcmp
          subst ho
          exact s_expr (ps_expr ((I n).e _ e G P fun i h => h) (notComp_swap (by simpa using hcmp)))
      · rename_i e pos
        subst ho
        by_cases hv : ∃ i, stripE c n sc e = .var i
        · obtain ⟨i, hi⟩ := hv
          rw [hi]
          have h2 := (I n).e (bg := bg) (S0 := S0) (H0 := H0) (EX := EX) [i] e G P (by rw [hi]; intro j hj; simpa [al] using hj)
          rw [hi] at h2
          have h1 : ∃ x p, e = .Name x p ∧ okName x = true ∧ seen sc x = true ∧ c.N.idxOf? x = some i := var_of hi
          obtain ⟨x, p, rfl, o1, o2, o3⟩ := h1
          exact s_retV (ps_ret (pe_var (nth o3) (by rw [G.hsc]; exact seen_vis o2) (okName_of o1).1 (okName_of o1).2)) (ps_ret h2)
        · exact s_ret (fun i z => hv ⟨i, z⟩) (ps_ret (snd_x I G P n e))
      · subst ho; exact s_retN ps_retN
      · subst ho
        exact s_if ((I n).t _ G P) (ih2 _) (ih2 _)
      · rename_i tg it b pos
        split at ho
        · subst ho; exact bad _
        · rename_i hset
          split at ho
          · rename_i t ht
            subst ho
            exact s_for G.own G.calm ((I n).i _ tg it G P fun i h => h) (pg_ok G.hN G.nd G.calm Tg n tg t ht) (ih2 _) (fun x => by cases it <;> first | rfl | exact absurd rfl hset)
          · subst ho; exact bad _
      · subst ho
        exact s_while G.own ((I n).t _ G P) (ih2 _)
      · rename_i x px e pos
        split at ho
        · rename_i hl
          split at ho
          · rename_i i hi
            split at ho
            · subst ho; exact bad _
            · rename_i hc
              subst ho
              exact snd_set I G P Tg n hl hi (by simpa using hc)
          · subst ho; exact bad _
        · subst ho; exact bad _
      · rename_i x px y py kt pt a b k2 p2 pos
        split at ho
        · rename_i hh
          simp only [Bool.and_eq_true, Bool.not_eq_true'] at hh
          obtain ⟨⟨⟨h1, h2⟩, h3⟩, h4⟩ := hh
          split at ho
          · rename_i i j hi hj
            subst ho
            have h1' := h1
            unfold parOk at h1'
            simp only [Bool.and_eq_true, Bool.not_eq_true', beq_iff_eq] at h1'
            obtain ⟨⟨⟨q1, q2⟩, q3⟩, q4⟩ := h1'
            have ij : i ≠ j := fun z => by
              subst z
              have e1 := nth hi
              rw [nth hj] at e1
              cases e1
              simp at q4
            refine s_par2 (ps_par G.calm hN (nth hi) (nth hj) ij (by rw [G.hsc]; exact q1) (by rw [G.hsc]; exact q2) (k_pa (os := [stripE c n sc a, stripE c n sc b]) h2 rfl ?_) (stores2 G.kind (by rw [G.hsc]; exact h1) h2 h3 h4) swap_tup)
            exact snd_list (I n) G P _ [a, b] fun i h => h
          · subst ho; exact bad _
        · subst ho; exact bad _
      · rename_i x px y py z pz kt pt a b d k2 p2 pos
        split at ho
        · rename_i hh
          simp only [Bool.and_eq_true, Bool.not_eq_true'] at hh
          obtain ⟨⟨⟨h1, h2⟩, h3⟩, h4⟩ := hh
          split at ho
          · rename_i i j l hi hj hl
            subst ho
            have h1' := h1
            unfold par3Ok at h1'
            simp only [Bool.and_eq_true, Bool.not_eq_true', beq_iff_eq] at h1'
            obtain ⟨⟨⟨⟨⟨⟨⟨q1, q2⟩, q3⟩, _⟩, _⟩, q4⟩, q5⟩, q6⟩ := h1'
            have ne : ∀ {u w : Str} {i j : Nat}, c.N.idxOf? u = some i → c.N.idxOf? w = some j → (u == w) = false → i ≠ j := fun {u w i j} hi hj q z => by
              subst z
              have e1 := nth hi
              rw [nth hj] at e1
              cases e1
              simp at q
            refine s_par3 (ps_par3 G.calm hN (nth hi) (nth hj) (nth hl) (ne hi hj (by simpa using q4)) (ne hi hl (by simpa using q5)) (ne hj hl (by simpa using q6)) (by rw [G.hsc]; exact q1) (by rw [G.hsc]; exact q2) (by rw [G.hsc]; exact q3) (k_pa (os := [stripE c n sc a, stripE c n sc b, stripE c n sc d]) h2 rfl ?_) (stores3 G.kind (by rw [G.hsc]; exact h1) h2 h3 h4) swap_tup)
            exact snd_list (I n) G P _ [a, b, d] fun i h => h
          · subst ho; exact bad _
        · subst ho; exact bad _
      · rename_i x px ix sp e pos
        split at ho
        · rename_i hh
          simp only [Bool.and_eq_true, Bool.not_eq_true'] at hh
          obtain ⟨⟨h1, h2⟩, h3⟩ := hh
          split at ho
          · rename_i i hi
            subst ho
            have pv := pe_var (X := X) (pos := px) (nth hi) (by rw [G.hsc]; exact seen_vis h2) (okName_of h1).1 (okName_of h1).2
            refine s_put (ps_asg ((I n).e _ e G P fun i h => h) (pg_sub pv ((I n).e _ ix G P fun i h => h) set_list ?_) ?_ ?_)
            · intro v
              cases ix <;> first | rfl | cases h3
            · show swapsWith e (some ((Expr.Name x px).Subscript ix sp)) pos.line X.env = pure false
              cases e <;> rfl
            · cases e <;> rfl
          · subst ho; exact bad _
        · subst ho; exact bad _
      · rename_i ts kt p e pos _ _
        split at ho
        · subst ho; exact bad _
        · rename_i hh
          simp only [Bool.or_eq_true, not_or, Bool.not_eq_true] at hh
          split at ho
          · rename_i t ht
            subst ho
            exact s_seti (ps_asg ((I n).e _ e G P fun i h => h) (pg_ok G.hN G.nd G.calm Tg n _ t ht) swap_tup (stores_none hh.1))
          · subst ho; exact bad _
      · subst ho; exact bad _
    · cases ss with
      | nil => exact ss_nil
      | cons s r => exact ss_cons (ih1 s) (ih2 r)
end
end Dy

set_option linter.all false
set_option maxRecDepth 10000
set_option autoImplicit false
/-! Dy, part 17: defs. -/
namespace Dy
open PySem PySem.Spec PyProof.Rows L2
/-- a body's outcome -/
def runB (C : Calls) (n : Nat) (os : List OS) (ds : List D) : T (D × Bool) := (exSs C os (ds.map some ++ List.replicate (n - ds.length) none) []).bind fun f => match f with
  | .nx _ _ => .ret (.non, false)
  | .rt r _ _ => .ret r
  | _ => .bad
/-- the defs: by name, how many slots, the body -/
abbrev Tb := List (Str × Nat × List OS)
def run (tb : Tb) (hd : Str → Option (List D → T (D × Bool))) : Nat → Calls
  | 0 => fun _ _ => .bad
  | k + 1 => fun f ds => match hd f with
    | some g => g ds
    | none => match tb.lookup f with
      | some (n, os) => runB (run tb hd k) n os ds
      | none => .bad
/-- what the module holds -/
structure Mo (P : Program) (w : World) (K : PySem.W.Frag) (mg : Str → Option Value) (base : Heap) (glb : List (Str × D)) (fns : List ((Str × Nat × List Str) × (List Sr × List D))) (C : Calls) (k : Nat) : Prop where
  glb : ∀ x d, glb.lookup x = some d → ∃ u v, mg x = some u ∧ RelV v u ∧ ∀ bg S H, Rep K bg S H d v
  free : ∀ x, x ∈ frees → mg x = none
  fns : ∀ f n ks sel dfts, fns.lookup (f, n, ks) = some (sel, dfts) → ∃ a fd ps, mg f = some (.ref a) ∧ PySem.W.keepIn K (.ref a) = true ∧ FnOk P w K mg base (L2.CX P w) k a fd ps (spD K sel.length (C f)) ∧ Shape K fd ps n ks sel dfts
theorem pasX {X : Cx} {bg : Option (Addr × Addr)} {S0 : Addr → Prop} {H0 : Hp} {EX : D → Prop} : Passes (L2.CX X.prog X.w) X (eX X.K bg S0 H0 EX) := fun _ _ _ _ _ _ _ h => by
  obtain ⟨_, _, _, _, _, _, _, _, _, _, _, _, z⟩ := h
  obtain ⟨_, _, _, _, _, z⟩ := z
  exact z.elim
section
variable {P : Program} {w : World} {K : PySem.W.Frag} {mg : Str → Option Value} {base : Heap} {glb : List (Str × D)} {fns : List ((Str × Nat × List Str) × (List Sr × List D))} {C : Calls} {k : Nat}
theorem At.start {bg : Option (Addr × Addr)} {S : Addr → Prop} {H : Hp} {N : List Str} {ds : List D} {vs : List V} (W : Wld bg S H) (r : Reps K bg S H ds vs) : At K bg S H [] (ds.map some ++ List.replicate (N.length - ds.length) none) S (L2.start N vs) H := by
  have hl := r.length
  refine ⟨W, W, .refl, ?_, fun i d _ g => ?_, fun i m => (List.not_mem_nil m).elim, fun i j a m => (List.not_mem_nil m).elim⟩
  · unfold L2.start
    rw [List.length_append, List.length_append, List.length_map, List.length_map, List.length_replicate, List.length_replicate, hl]
  · unfold L2.start
    by_cases h : i < ds.length
    · rw [List.getElem?_append_left (by rw [List.length_map]; exact h), List.getElem?_map] at g
      obtain ⟨d', e, z⟩ := Option.map_eq_some_iff.mp g
      cases z
      obtain ⟨v, hv, rv⟩ := r.get e
      refine ⟨v, ?_, rv⟩
      rw [List.getElem?_append_left (by rw [List.length_map, hl]; exact h), List.getElem?_map, hv]
      rfl
    · rw [List.getElem?_append_right (by rw [List.length_map]; omega)] at g
      exfalso
      rw [List.getElem?_replicate] at g
      split at g <;> cases g
/-- a body's own context -/
theorem Mo.good (M : Mo P w K mg base glb fns C k) {N ps : List Str} {qual : Str} {sc : Scope} {f : Addr} {cdv : Value} {A : Around} {outer : List Env} {s : Shared} {H : Hp} {E : XK} (S : FnScope N ps sc) (hr : Room k (A.deeper (envOfC qual sc s.heap.objs.size f cdv))) :
    Good ⟨N, fns, glb⟩ C k sc (cxOf (L2.CX P w) P w K mg base N qual sc f cdv A outer s H E).nox :=
  ⟨rfl, S.nd, rfl, rfl, hr, PassesOwn.never, M.glb, M.free, S.kind, M.fns⟩
theorem tg_start {N : List Str} {qual : Str} {sc : Scope} {f : Addr} {cdv : Value} {A : Around} {outer : List Env} {s : Shared} {H : Hp} {E : XK} : TgOk sc (cxOf (L2.CX P w) P w K mg base N qual sc f cdv A outer s H E).nox := fun x h => ⟨by
  rcases isLoc_loc h with z | z
  · exact .inl z
  · exact .inr z, .inl rfl⟩
/-- a body does what its data says -/
theorem body_dy (M : Mo P w K mg base glb fns C k) {N ps : List Str} {qual : Str} {sc : Scope} {f : Addr} {cdv : Value} {A : Around} {outer : List Env} {s : Shared} {H : Hp} {E : XK} (S : FnScope N ps sc) (hr : Room k (A.deeper (envOfC qual sc s.heap.objs.size f cdv)))
    (body : List Stmt) (n : Nat) (bg : Option (Addr × Addr)) (S0 : Addr → Prop) (H0 : Hp) (EX : D → Prop) :
    PSs (cxOf (L2.CX P w) P w K mg base N qual sc f cdv A outer s H E) body (ExS K bg S0 H0 EX (wrSs (stripSs ⟨N, fns, glb⟩ sc n body)) (exSs C (stripSs ⟨N, fns, glb⟩ sc n body))) :=
  (((snd_s (fun n => snd _ _ _ n) (M.good S hr) pasX tg_start n).2 body)).nox
theorem fn_dy (M : Mo P w K mg base glb fns C k) {x qual : Str} {st : Stmt} {f : Addr} {fd : FuncData} {N ps : List Str} (F : L2.Fun K x qual st f fd) (S : FnScope N ps (defScope st)) (n : Nat) :
    FnOk P w K mg base (L2.CX P w) (k + 1) f fd ps (spD K ps.length (runB C N.length (stripSs ⟨N, fns, glb⟩ (defScope st) n (defBody st)))) := by
  refine F.okX S (fun vs H Q E ⟨bg, S, ds, hn, W, r, q⟩ => by rw [r.length, hn]) fun cdv A outer s H vs Q E hr ⟨bg, S0, ds, hn, W, r, q⟩ => ?_
  refine ⟨_, body_dy M S hr (defBody st) n bg S0 H _, _, _, S0, At.start W r, T.all_imp (T.all_bind.mp q) fun fl hf => ?_⟩
  cases fl with
  | nx Γ O => exact fun σ' S' H' a _ _ => hf .non S' H' a.wld a.ext rfl
  | bk Γ O => exact hf.elim
  | ct Γ O => exact hf.elim
  | rt r Γ O => exact fun v σ' S' H' a _ _ rv => hf v S' H' a.wld a.ext rv
/-- nothing is promised at the lowest level -/
theorem fn_none {a : Addr} {fd : FuncData} {ps : List Str} {m : Nat} : FnOk P w K mg base (L2.CX P w) k a fd ps (spD K m fun _ => .bad) :=
  ⟨fun vs H Q E ⟨_, _, _, _, _, _, q⟩ => q.elim, fun A outer s H args us vs Q E _ _ _ _ ⟨_, _, _, _, _, _, q⟩ => q.elim⟩
end
end Dy

set_option linter.all false
set_option maxRecDepth 10000
set_option autoImplicit false
/-! Dy, part 18: a table of defs; the draws; a law. -/
namespace Dy
open PySem PySem.Spec PyProof.Rows L2
/-- a def: its name, its statement, its slots, its parameters, its body's data -/
structure Dn where
  x : Str
  st : Stmt
  N : List Str
  ps : List Str
  os : List OS
def Dn.dd (d : Dn) : He.DefD := ⟨(d.x, none), d.x, d.x, defArgs d.st, defBody d.st, defScope d.st, [], []⟩
def Dn.FunIs (d : Dn) (K : PySem.W.Frag) (f : Addr) (fd : FuncData) : Prop := FunD K d.x d.x (defArgs d.st) (defBody d.st) (defScope d.st) [] [] f fd
section
variable {P : Program} {w : World} {K : PySem.W.Frag} {mg : Str → Option Value} {base : Heap} {glb : List (Str × D)} {fns : List ((Str × Nat × List Str) × (List Sr × List D))} {C : Calls} {k : Nat}
theorem fn_dyD (M : Mo P w K mg base glb fns C k) (d : Dn) {f : Addr} {fd : FuncData} (F : d.FunIs K f fd) (S : FnScope d.N d.ps (defScope d.st)) (n : Nat) (ht : stripSs ⟨d.N, fns, glb⟩ (defScope d.st) n (defBody d.st) = d.os) :
    FnOk P w K mg base (L2.CX P w) (k + 1) f fd d.ps (spD K d.ps.length (runB C d.N.length d.os)) := by
  refine FunD.ok F S (fun vs H Q E ⟨bg, S, ds, hn, W, r, q⟩ => by rw [r.length, hn]) fun cdv A outer s H vs Q E hr ⟨bg, S0, ds, hn, W, r, q⟩ => ?_
  refine ⟨_, body_dy M S hr (defBody d.st) n bg S0 H (fun e => ∀ (cls : Value) (dx : Option Addr) (S' : Addr → Prop) (H' : Hp), Wld bg S' H' → Ext bg S0 H S' H' → RepX K bg S' H' e cls dx → E cls dx H'), _, _, S0, At.start W r, ?_⟩
  rw [ht]
  refine T.all_imp (T.all_bind.mp q) fun fl hf => ?_
  cases fl with
  | nx Γ O => exact fun σ' S' H' a _ _ => hf .non S' H' a.wld a.ext rfl
  | bk Γ O => exact hf.elim
  | ct Γ O => exact hf.elim
  | rt r Γ O => exact fun v σ' S' H' a _ _ rv => hf v S' H' a.wld a.ext rv
/-- a draw below many -/
def pullD : List D → T (D × Bool)
  | [.bag, .int many] => .need (decide (0 < many ∧ many < 2 ^ 70)) (.draw many.toNat fun i => .ret (.int (i : Nat), false))
  | _ => .bad
/-- what the draws' body must do -/
def PullOk (C : Calls) (os : List OS) (n : Nat) : Prop := ∀ (cc : Nat) (cells : List Int) (i m st c many : Int), 0 ≤ i → 0 ≤ m → 0 ≤ st → st < 2147483399 → i ≤ cells.length → 0 < many → many < 2 ^ 70 →
  (exSs C os (some (.lst [.scr cc cells, .int i, .int m, .int st, .int c]) :: some (.int many) :: List.replicate (n - 2) none) [0]).All (fun f => ∃ (r i' m' st' c' : Int) (Γ : Gam), f = .rt (.int r, false) (some (.lst [.scr cc cells, .int i', .int m', .int st', .int c']) :: Γ) [0] ∧
    0 ≤ i' ∧ 0 ≤ m' ∧ 0 ≤ st' ∧ st' < 2147483399 ∧ i' ≤ cells.length ∧ 0 ≤ r ∧ r < many) NX
theorem fn_pull (M : Mo P w K mg base glb fns C k) (d : Dn) {f : Addr} {fd : FuncData} (F : d.FunIs K f fd) (S : FnScope d.N d.ps (defScope d.st)) (n : Nat) (ht : stripSs ⟨d.N, fns, glb⟩ (defScope d.st) n (defBody d.st) = d.os) (hp2 : d.ps.length = 2) (hN : 2 ≤ d.N.length) (w0 : 0 ∉ wrSs d.os) (hall : PullOk C d.os d.N.length) :
    FnOk P w K mg base (L2.CX P w) (k + 1) f fd d.ps (spD K d.ps.length pullD) := by
  refine FunD.ok F S (fun vs H Q E ⟨bg, S, ds, hn, W, r, q⟩ => by rw [r.length, hn]) fun cdv A outer s H vs Q E hr ⟨bg, S0, ds, hn, W, r, q⟩ => ?_
  unfold pullD at q
  split at q
  · rename_i many
    obtain ⟨c, q⟩ := T.all_need q
    obtain ⟨c1, c2⟩ := of_decide_eq_true c
    obtain ⟨v1, v2, ev, r1, r2⟩ := Reps.two r
    obtain ⟨b, eb, e1⟩ := r1
    have e2 : v2 = .int many := r2
    subst ev e1 e2
    obtain ⟨⟨cells, i, m, st, cn, h1, h2, h3, h4, h5, h6, h7⟩, nB, ne⟩ := W.bag b eb
    -- the body's own world: the draws' list is its own
    have W0 : Wld none (fun a => S0 a ∨ a = b.2) (fun a => if a = b.1 then none else H a) := ⟨fun a z => by
      rcases z with z | z
      · show (if a = b.1 then none else H a) ≠ none
        rw [if_neg (fun (y : a = b.1) => nB (y ▸ z))]
        exact W.dom a z
      · subst z
        show (if b.2 = b.1 then none else H b.2) ≠ none
        rw [if_neg ne]
        rcases h2 with h2 | ⟨o, h2⟩ <;> (rw [h2]; simp), fun b' e => by cases e⟩
    have WH : Wld none (fun a => S0 a ∨ a = b.2) H := ⟨fun a z => by
      rcases z with z | z
      · exact W.dom a z
      · subst z
        rcases h2 with h2 | ⟨o, h2⟩ <;> (rw [h2]; simp), fun b' e => by cases e⟩
    have hstart : L2.start d.N [V.ref b.1, V.int many] = some (V.ref b.1) :: some (V.int many) :: List.replicate (d.N.length - 2) none := rfl
    have a0 : At K none (fun a => S0 a ∨ a = b.2) (fun a => if a = b.1 then none else H a) [0] (some (.lst [.scr b.2 cells, .int i, .int m, .int st, .int cn]) :: some (.int many) :: List.replicate (d.N.length - 2) none) (fun a => S0 a ∨ a = b.2) (L2.start d.N [V.ref b.1, V.int many]) H := by
      rw [hstart]
      refine ⟨W0, WH, ⟨fun _ h => h, fun a h => .inl h, fun a o h _ => ?_, fun a h => ?_⟩, by simp, fun j dd nj g => ?_, fun j hj => ?_, fun j j' a hj hj' jj => ?_⟩
      · have h : (if a = b.1 then none else H a) = some o := h
        split at h
        · cases h
        · exact h
      · have h : (if a = b.1 then none else H a) ≠ none := h
        split at h
        · exact absurd rfl h
        · exact h
      · match j, g with
        | 0, _ => exact absurd (List.mem_singleton.mpr rfl) nj
        | 1, g =>
          cases g
          exact ⟨_, rfl, rfl⟩
        | j + 2, g =>
          exfalso
          have g : (List.replicate (d.N.length - 2) (none : Option D))[j]? = some (some dd) := g
          rw [List.getElem?_replicate] at g
          split at g <;> cases g
      · have : j = 0 := List.mem_singleton.mp hj
        subst this
        exact ⟨_, _, rfl, rfl, b.1, _, _, rfl, rfl, fun z => by
          rcases z with z | z
          · exact nB z
          · exact ne z.symm, if_pos rfl, h1, _, _, rfl, ⟨rfl, .inl ⟨.inr rfl, h2⟩⟩, _, _, rfl, rfl, _, _, rfl, rfl, _, _, rfl, rfl, _, _, rfl, rfl, rfl⟩
      · have z1 : j = 0 := List.mem_singleton.mp hj
        have z2 : j' = 0 := List.mem_singleton.mp hj'
        exact absurd (z1.trans z2.symm) jj
    refine ⟨_, body_dy M S hr (defBody d.st) n none _ _ NX, [0], _, _, a0, ?_⟩
    rw [ht]
    refine T.all_imp (hall b.2 cells i m st cn many h3 h4 h5 h6 h7 c1 c2) fun fl hf => ?_
    obtain ⟨rr, i', m', st', cn', Γ, efl, g1, g2, g3, g4, g5, g6, g7⟩ := hf
    subst efl
    intro v σ' S' H' a' t' u rv
    have rv : v = .int rr := rv
    subst rv
    have s0 : σ'[0]? = some (some (.ref b.1)) := u 0 w0
    obtain ⟨d', v', g, e, p, ds', xs, ev', ed, np, hz, hp, rs⟩ := a'.abs.own 0 (by simp)
    rw [s0] at e
    cases e
    cases ev'
    cases g
    cases ed
    obtain ⟨x0, xs, q0, ⟨q1, _⟩, x1, xs1, q2, q3, x2, xs2, q4, q5, x3, xs3, q6, q7, x4, xs4, q8, q9, q10⟩ := rs
    have q3 : x1 = .int i' := q3
    have q5 : x2 = .int m' := q5
    have q7 : x3 = .int st' := q7
    have q9 : x4 = .int cn' := q9
    have q10 : xs4 = [] := q10
    subst q10 q9 q8 q7 q6 q5 q4 q3 q2 q1 q0
    have stay : ∀ a o, H a = some o → a ≠ b.1 → H' a = some o := fun a o h n => a'.ext.keep a o (by show (if a = b.1 then none else H a) = some o; rw [if_neg n]; exact h) (fun ⟨_, e, _⟩ => by cases e)
    have key := q rr.toNat (by omega) (.int rr) S0 H' ⟨fun a z => ?_, fun b' e => ?_⟩ ⟨fun _ h => h, fun a h => .inl h, fun a o h nb => stay a o h (fun z => nb ⟨b, eb, z⟩), fun a h => ?_⟩ (by show V.int rr = V.int _; rw [Int.toNat_of_nonneg g6])
    · exact key
    · have := W.dom a z
      obtain ⟨o, ho⟩ := Option.ne_none_iff_exists'.mp this
      rw [stay a o ho (fun y => nB (y ▸ z))]
      simp
    · rw [eb] at e
      cases e
      refine ⟨⟨cells, i', m', st', cn', hp, h2.imp (fun z => stay _ _ z ne) (fun ⟨o, z⟩ => ⟨o, stay _ _ z ne⟩), g1, g2, g3, g4, g5⟩, nB, ne⟩
    · by_cases z : a = b.1
      · rw [z, hp]; simp
      · obtain ⟨o, ho⟩ := Option.ne_none_iff_exists'.mp h
        rw [stay a o ho z]
        simp
  · exact q.elim
end
end Dy

set_option linter.all false
set_option maxRecDepth 10000
set_option autoImplicit false
/-! Dy, part 19: all defs of a table; the law's def. -/
namespace Dy
open PySem PySem.Spec PyProof.Rows L2
theorem lk_mem {α β : Type} [BEq α] [LawfulBEq α] {k : α} {v : β} : ∀ {l : List (α × β)}, l.lookup k = some v → (k, v) ∈ l
  | [], h => by cases h
  | (a, b) :: r, h => by
    rw [List.lookup_cons] at h
    cases e : k == a with
    | true =>
      rw [e] at h
      have h : some b = some v := h
      cases h
      rw [eq_of_beq e]
      exact List.mem_cons_self
    | false =>
      rw [e] at h
      exact List.mem_cons_of_mem _ (lk_mem h)
/-- a way to call the def -/
def RowOk (d : Dn) (q : (Str × Nat × List Str) × (List Sr × List D)) : Prop := q.1.1 = d.x ∧ q.2.1.length = d.ps.length ∧ q.2.2 = [] ∧
  ∀ (kV doc pm : Value) (an : Option Addr) (cdv ct : Value) (us ws : List Value), us.length = q.1.2.1 → ws.length = q.1.2.2.length → bindArgs (PySem.W.fnOf d.x d.x (defArgs d.st) (defBody d.st) (defScope d.st) .none kV doc pm an cdv ct) ⟨us, q.1.2.2.zip ws⟩ = pure (d.ps.zip (selL q.2.1 us ws []))
section
variable {P : Program} {w : World} {K : PySem.W.Frag} {mg : Str → Option Value} {base : Heap} {glb : List (Str × D)} {fns : List ((Str × Nat × List Str) × (List Sr × List D))} {C : Calls} {k : Nat}
theorem RowOk.shape {d : Dn} {q : (Str × Nat × List Str) × (List Sr × List D)} {f : Addr} {fd : FuncData} (R : RowOk d q) (F : d.FunIs K f fd) : Shape K fd d.ps q.1.2.1 q.1.2.2 q.2.1 q.2.2 := by
  obtain ⟨_, _, r3, r4⟩ := R
  refine ⟨[], [], .nil, fun bg S H => by rw [r3]; rfl, fun s us ws _ l1 l2 => ?_⟩
  obtain ⟨oc, od, dV, kV, doc, pm, an, cdv, ct, osl, e, lk, hcd, hD, hK⟩ := F.ex
  subst e
  rcases hD with ⟨_, rfl⟩ | ⟨e, _⟩
  · exact .of_eq (r4 kV doc pm an cdv ct us ws l1 l2)
  · exact absurd rfl e
theorem mo_all {ds : List Dn} {tb : Tb} {hd : Str → Option (List D → T (D × Bool))} {n : Nat}
    (hglb : ∀ x d, glb.lookup x = some d → ∃ u v, mg x = some u ∧ RelV v u ∧ ∀ bg S H, Rep K bg S H d v) (hfree : ∀ x, x ∈ frees → mg x = none)
    (hs : ∀ d ∈ ds, FnScope d.N d.ps (defScope d.st)) (F : ∀ d ∈ ds, ∃ fd, d.FunIs K (He.ga K d.x) fd) (hmg : ∀ d ∈ ds, mg d.x = some (.ref (He.ga K d.x)))
    (ht : ∀ d ∈ ds, stripSs ⟨d.N, fns, glb⟩ (defScope d.st) n (defBody d.st) = d.os)
    (hh : ∀ d ∈ ds, ∀ g, hd d.x = some g → ∀ (k : Nat) (C : Calls) (fd : FuncData), Mo P w K mg base glb fns C k → d.FunIs K (He.ga K d.x) fd → FnOk P w K mg base (L2.CX P w) (k + 1) (He.ga K d.x) fd d.ps (spD K d.ps.length g))
    (htb : ∀ d ∈ ds, tb.lookup d.x = some (d.N.length, d.os)) (hfn : ∀ q ∈ fns, ∃ d ∈ ds, RowOk d q) : ∀ k, Mo P w K mg base glb fns (run tb hd k) k := by
  -- from the defs at a level to the module
  have up : ∀ k, (∀ d ∈ ds, ∀ fd, d.FunIs K (He.ga K d.x) fd → FnOk P w K mg base (L2.CX P w) k (He.ga K d.x) fd d.ps (spD K d.ps.length (run tb hd k d.x))) → Mo P w K mg base glb fns (run tb hd k) k := fun k h => by
    refine ⟨hglb, hfree, fun f nn ks sel dfts e => ?_⟩
    obtain ⟨d, hd1, R⟩ := hfn _ (lk_mem e)
    obtain ⟨fd, F1⟩ := F d hd1
    have sh := R.shape F1
    obtain ⟨r1, r2, r3, r4⟩ := R
    have r1 : f = d.x := r1
    have r2 : sel.length = d.ps.length := r2
    refine ⟨He.ga K d.x, fd, d.ps, by rw [r1]; exact hmg d hd1, F1.kp, ?_, sh⟩
    rw [r1, r2]
    exact h d hd1 fd F1
  intro k
  induction k with
  | zero => exact up 0 fun d _ fd _ => fn_none
  | succ k ih =>
    refine up (k + 1) fun d hd1 fd F1 => ?_
    cases e : hd d.x with
    | some g =>
      have q : run tb hd (k + 1) d.x = g := by
        funext ds
        show (match hd d.x with | some g => g ds | none => _) = _
        rw [e]
      rw [q]
      exact hh d hd1 g e k _ fd ih F1
    | none =>
      have q : run tb hd (k + 1) d.x = runB (run tb hd k) d.N.length d.os := by
        funext ds
        show (match hd d.x with | some g => g ds | none => match tb.lookup d.x with | some (n, os) => runB (run tb hd k) n os ds | none => .bad) = _
        rw [e, htb d hd1]
      rw [q]
      exact fn_dyD ih d F1 (hs d hd1) n (ht d hd1)
theorem ints_of {bg : Option (Addr × Addr)} {S : Addr → Prop} {H : Hp} : ∀ {ns : List Int} {vs : List V}, Reps K bg S H (ns.map D.int) vs → vs = ns.map V.int
  | [], vs, h => h
  | n :: ns, vs, h => by
    obtain ⟨x, r, e, h1, h2⟩ := h
    have h1 : x = .int n := h1
    rw [e, h1, ints_of h2]
    rfl
/-- the law's own promise -/
def spLaw (K : PySem.W.Frag) : Sp := fun vs H Q _ => ∃ (a : Addr) (ns : List Int), vs = [.ref a] ∧ SqL K H a (ns.map V.int) ∧ ns.length ≤ 63 ∧ ∀ H', Q (.bl true) H'
def LawBag (C : Calls) (o0 : OS) (n : Nat) : Prop := ∀ (a : Nat) (ns : List Int), ns.length ≤ 63 → (exS C o0 (some (.scr a ns) :: List.replicate (n - 1) none) []).All (fun f => ∃ (cells : List Int) (st : Int), 0 ≤ st ∧ st < 2147483399 ∧
  f = .nx (some (.scr a ns) :: some (.lst [.lst (cells.map D.int), .int 0, .int 0, .int st, .int 0]) :: List.replicate (n - 2) none) [1]) NX
structure LawRest (C : Calls) (os : List OS) (n : Nat) : Prop where
  run : (exSs C os (none :: some .bag :: List.replicate (n - 2) none) []).All (fun f => ∃ Γ O b, f = .rt (.bl true, b) Γ O) NX
theorem fn_law (M : Mo P w K mg base glb fns C k) (d : Dn) {f : Addr} {fd : FuncData} (F : d.FunIs K f fd) (S : FnScope d.N d.ps (defScope d.st)) (n : Nat) (o0 : OS) (os : List OS) (ht : stripSs ⟨d.N, fns, glb⟩ (defScope d.st) n (defBody d.st) = o0 :: os) (hp1 : d.ps.length = 1) (hN : 2 ≤ d.N.length)
    (h0 : LawBag C o0 d.N.length) (h1 : LawRest C os d.N.length) : FnOk P w K mg base (L2.CX P w) (k + 1) f fd d.ps (spLaw K) := by
  refine FunD.ok F S (fun vs H Q E ⟨a, ns, e, _⟩ => by rw [e, hp1]; rfl) fun cdv A outer s H vs Q E hr ⟨a, ns, e, hS, hl, hQ⟩ => ?_
  subst e
  cases hb : defBody d.st with
  | nil => rw [hb, stripSs] at ht; cases ht
  | cons s0 rest =>
    rw [hb] at ht
    cases n with
    | zero =>
      rw [stripSs] at ht
      cases ht
      have := h0 0 [] (by simp)
      rw [exS] at this
      exact this.elim
    | succ n =>
      rw [stripSs] at ht
      injection ht with e0 e1
      have G := M.good (cdv := cdv) (s := s) (H := H) (outer := outer) (E := E) S hr
      have p0 := fun bg S0 H0 EX => ((snd_s (fun n => snd _ _ _ n) G (pasX (bg := bg) (S0 := S0) (H0 := H0) (EX := EX)) tg_start n).1 s0)
      have p1 := fun bg S0 H0 EX => ((snd_s (fun n => snd _ _ _ n) G (pasX (bg := bg) (S0 := S0) (H0 := H0) (EX := EX)) tg_start n).2 rest)
      obtain ⟨S0, W0, sat⟩ : ∃ S0, Wld none S0 H ∧ SAt K S0 H a (ns.map V.int) := by
        rcases hS with z | z
        · exact ⟨fun b => b = a, ⟨fun b e => by
            rw [e]
            rcases z with z | ⟨o, z⟩ <;> (rw [z]; simp), fun b' e => by cases e⟩, .inl ⟨rfl, z⟩⟩
        · exact ⟨fun _ => False, ⟨fun b e => e.elim, fun b' e => by cases e⟩, .inr z⟩
      have rest' : PSs (cxOf (L2.CX P w) P w K mg base d.N d.x (defScope d.st) f cdv A outer s H E).nox rest (fun Dn σ H' => ∃ b S1 H1, ExS K (some b) S1 H1 NX (wrSs os) (exSs C os) Dn σ H') :=
        ⟨fun pins s' σ H' Dn I ⟨b, S1, H1, q⟩ => by
          have z := p1 (some b) S1 H1 NX
          rw [e1] at z
          exact z.run pins s' σ H' Dn I q⟩
      have first := p0 none S0 H NX
      rw [e0] at first
      refine ⟨_, PSs.nox (pss_cons first rest'), [], some (.scr a ns) :: List.replicate (d.N.length - 1) none, S0, At.start (ds := [.scr a ns]) W0 ⟨.ref a, [], rfl, ⟨rfl, sat⟩, rfl⟩, ?_⟩
      refine T.all_imp (h0 a ns hl) fun fl hf => ?_
      obtain ⟨cells, st, g1, g2, efl⟩ := hf
      subst efl
      intro σ' S' H' a' t' _
      obtain ⟨d', v', g, e, p, ds', xs, ev', ed, np, hz, hp, rs⟩ := a'.abs.own 1 (by simp)
      cases ev'
      cases g
      cases ed
      obtain ⟨x0, xs, q0, ⟨cc, ys, q1, sc, rd, rc⟩, x1, xs1, q2, q3, x2, xs2, q4, q5, x3, xs3, q6, q7, x4, xs4, q8, q9, q10⟩ := rs
      have q3 : x1 = .int 0 := q3
      have q5 : x2 = .int 0 := q5
      have q7 : x3 = .int st := q7
      have q9 : x4 = .int 0 := q9
      have q10 : xs4 = [] := q10
      subst q10 q9 q8 q7 q6 q5 q4 q3 q2 q1 q0
      have ey : ys = cells.map V.int := ints_of rc
      subst ey
      have ncc : cc ≠ p := fun z => np (z ▸ sc)
      have W1 : Wld (some (p, cc)) S' H' := ⟨a'.wld.dom, fun b e => by
        cases e
        exact ⟨⟨cells, 0, 0, st, 0, hp, rd, Int.le_refl _, Int.le_refl _, g1, g2, Int.natCast_nonneg _⟩, np, ncc⟩⟩
      refine ⟨(p, cc), S', H', [], none :: some .bag :: List.replicate (d.N.length - 2) none, S', ⟨W1, W1, .refl, by rw [a'.abs.len]; simp, fun i dd _ gi => ?_, fun i hi => (List.not_mem_nil hi).elim, fun i j aa hi => (List.not_mem_nil hi).elim⟩, ?_⟩
      · match i, gi with
        | 0, gi => cases gi
        | 1, gi =>
          cases gi
          exact ⟨_, e, (p, cc), rfl, rfl⟩
        | i + 2, gi =>
          exfalso
          have gi : (List.replicate (d.N.length - 2) (none : Option D))[i]? = some (some dd) := gi
          rw [List.getElem?_replicate] at gi
          split at gi <;> cases gi
      · refine T.all_imp h1.run fun fl hf => ?_
        obtain ⟨Γ, O, b, efl⟩ := hf
        subst efl
        intro v σ2 S2 H2 _ _ _ rv
        cases b with
        | false =>
          have rv : v = .bl true := rv
          rw [rv]
          exact hQ H2
        | true =>
          obtain ⟨_, _, _, _, z, _⟩ := rv
          cases z
end
end Dy

set_option linter.all false
set_option maxRecDepth 10000
set_option autoImplicit false
/-! Dy, part 20: what the law's own helpers come to: the bag, the draws. -/
namespace Dy
open PySem
def osBag : List OS := [
  .set 1 (.const (.int 12007)),
  .for_ (.n 2) (.e (.slice (.var 0) none (some (.const (.int 63))))) [
    .set 1 (.bin .Mod (.bcall .int [(.bin .Add (.bin .Add (.bin .Mult (.var 1) (.const (.int 52379))) (.bin .Mod (.bcall .int [(.var 2)]) (.const (.int 2147483423)))) (.const (.int 19)))]) (.const (.int 2147483399)))],
  .ret (.lst [(.lc (.bcall .int [(.var 2)]) [2] (.n 2) (.e (.slice (.var 0) none (some (.const (.int 63))))) []), (.const (.int 0)), (.const (.int 0)), (.var 1), (.const (.int 0))])]
def osPull : List OS := [
  .put 0 (.const (.int 4)) (.bin .Add (.sub (.var 0) (.const (.int 4))) (.const (.int 1))),
  .if_ (.and_ [(.e (.cmp .Eq (.sub (.var 0) (.const (.int 2))) (.const (.int 0)))), (.e (.cmp .Lt (.sub (.var 0) (.const (.int 1))) (.bcall .len [(.sub (.var 0) (.const (.int 0)))])))]) [
    .set 2 (.sub (.sub (.var 0) (.const (.int 0))) (.sub (.var 0) (.const (.int 1)))),
    .put 0 (.const (.int 1)) (.bin .Add (.sub (.var 0) (.const (.int 1))) (.const (.int 1))),
    .if_ (.e (.cmp .GtE (.var 2) (.bin .Pow (.const (.int 10)) (.const (.int 18))))) [
      .put 0 (.const (.int 2)) (.var 2)] [],
    .put 0 (.const (.int 3)) (.bin .Mod (.bcall .int [(.bin .Add (.bin .Add (.bin .Mult (.sub (.var 0) (.const (.int 3))) (.const (.int 43711))) (.bin .Mult (.bin .Mod (.bcall .int [(.var 2)]) (.const (.int 2147483423))) (.const (.int 38921)))) (.const (.int 97)))]) (.const (.int 2147483399)))] [],
  .if_ (.e (.cmp .Gt (.sub (.var 0) (.const (.int 2))) (.const (.int 0)))) [
    .set 3 (.bin .Mod (.bcall .int [(.sub (.var 0) (.const (.int 2)))]) (.var 1)),
    .put 0 (.const (.int 2)) (.bin .FloorDiv (.bcall .int [(.sub (.var 0) (.const (.int 2)))]) (.var 1)),
    .ret (.var 3)] [],
  .set 4 (.sub (.var 0) (.const (.int 3))),
  .put 0 (.const (.int 3)) (.bin .Mod (.bcall .int [(.bin .Add (.bin .Add (.bin .Add (.bin .Pow (.var 4) (.const (.int 3))) (.bin .Mult (.var 4) (.const (.int 41179)))) (.bin .Mult (.sub (.var 0) (.const (.int 4))) (.const (.int 1299757)))) (.const (.int 60041)))]) (.const (.int 2147483399))),
  .ret (.bin .Mod (.bcall .int [(.bin .Add (.bin .FloorDiv (.sub (.var 0) (.const (.int 3))) (.const (.int 97))) (.bin .Mult (.bin .Mod (.bcall .int [(.sub (.var 0) (.const (.int 3)))]) (.const (.int 7919))) (.const (.int 59))))]) (.var 1))]
/-! ### steps of an evaluation -/
section
variable {C : Calls} {Γ Γ' : Gam} {O O' : List Nat}
theorem seq_nx {s : OS} {r : List OS} (h : exS C s Γ O = .ret (.nx Γ' O')) : exSs C (s :: r) Γ O = exSs C r Γ' O' := by
  rw [exSs, h]
  rfl
theorem seq_rt {s : OS} {r : List OS} {d : D × Bool} (h : exS C s Γ O = .ret (.rt d Γ' O')) : exSs C (s :: r) Γ O = .ret (.rt d Γ' O') := by
  rw [exSs, h]
  rfl
theorem e_bin {op : Operator} {a b : OE} {x y z : D} (ha : evE C a Γ = .ret x) (hb : evE C b Γ = .ret y) (hz : binD op x y = .ret z) : evE C (.bin op a b) Γ = .ret z := by
  rw [evE, ha]
  show (evE C b Γ).bind _ = _
  rw [hb]
  exact hz
theorem e_sub {a b : OE} {x y z : D} (ha : evE C a Γ = .ret x) (hb : evE C b Γ = .ret y) (hz : subD x y = .ret z) : evE C (.sub a b) Γ = .ret z := by
  rw [evE, ha]
  show (evE C b Γ).bind _ = _
  rw [hb]
  exact hz
theorem e_cmp {op : CmpOp} {a b : OE} {x y z : D} (ha : evE C a Γ = .ret x) (hb : evE C b Γ = .ret y) (hz : cmpD op x y = .ret z) : evE C (.cmp op a b) Γ = .ret z := by
  rw [evE, ha]
  show (evE C b Γ).bind _ = _
  rw [hb]
  exact hz
theorem e_b1 {f : Bf} {a : OE} {x z : D} (ha : evE C a Γ = .ret x) (hz : bcallD f [x] = .ret z) : evE C (.bcall f [a]) Γ = .ret z := by
  rw [evE, evEs, evEs, ha]
  exact hz
theorem x_put {i : Nat} {ix e : OE} {d : D} {j : Int} {xs : List D} {p : Nat} (hi : i ∈ O) (he : evE C e Γ = .ret d) (hx : evE C ix Γ = .ret (.int j)) (hg : Γ[i]? = some (some (.lst xs))) (hp : ixD xs.length j = some p) (hk : i ∈ keepO (al e) (isFlat d) O) {f : Fl} (hf : Fl.nx (Γ.set i (some (.lst (xs.set p d)))) (keepO (al e) (isFlat d) O) = f) :
    exS C (.put i ix e) Γ O = .ret f := by
  rw [← hf, exS, he, hx, hg, decide_eq_true hi]
  show (match ixD xs.length j with | some p => T.need (decide (i ∈ keepO (al e) (isFlat d) O)) (.ret (Fl.nx (Γ.set i (some (.lst (xs.set p d)))) (keepO (al e) (isFlat d) O))) | none => .bad) = _
  rw [hp]
  show T.need (decide _) _ = _
  rw [decide_eq_true hk]
  rfl
theorem x_set {i : Nat} {e : OE} {d : D} (h : newE e = false) (he : evE C e Γ = .ret d) (hi : i < Γ.length) {f : Fl} (hf : Fl.nx (Γ.set i (some d)) ((keepO (al e) (isFlat d) O).filter fun j => decide (j ≠ i)) = f) : exS C (.set i e) Γ O = .ret f := by
  rw [← hf, exS, evX_old h, he]
  show T.need (decide (i < Γ.length)) _ = _
  rw [decide_eq_true hi]
  rfl
theorem x_if {t : OT} {a b : List OS} {c : Bool} (h : evT C t Γ = .ret c) : exS C (.if_ t a b) Γ O = if c = true then exSs C a Γ O else exSs C b Γ O := by
  rw [exS, h]
  cases c <;> rfl
theorem x_ret {e : OE} {d : D} (h : newE e = false) (hv : ∀ i, e ≠ .var i) (he : evE C e Γ = .ret d) : exS C (.ret e) Γ O = .ret (.rt (d, false) Γ (keepO (al e) (isFlat d) O)) := by
  rw [exS]
  · rw [evX_old h, he]
    rfl
  · exact hv
theorem exs_nil {C : Calls} {Γ : Gam} {O : List Nat} : exSs C [] Γ O = .ret (.nx Γ O) := by rw [exSs]
theorem t_and2 {a b : OT} {x y : Bool} (ha : evT C a Γ = .ret x) (hb : evT C b Γ = .ret y) : evT C (.and_ [a, b]) Γ = .ret (x && y) := by
  rw [evT, evTAnd, ha]
  show (match x with | true => evTAnd C [b] Γ | false => T.ret false) = _
  cases x with
  | true => rw [evTAnd, hb]; rfl
  | false => rfl
theorem t_or2 {a b : OT} {x y : Bool} (ha : evT C a Γ = .ret x) (hb : evT C b Γ = .ret y) : evT C (.or_ [a, b]) Γ = .ret (x || y) := by
  rw [evT, evTOr, ha]
  show (match x with | true => T.ret true | false => evTOr C [b] Γ) = _
  cases x with
  | false => rw [evTOr, hb]; rfl
  | true => rfl
theorem mulD {a b : Int} (h : a.natAbs < 2 ^ 64 ∨ b.natAbs < 2 ^ 64) : binD .Mult (.int a) (.int b) = .ret (.int (a * b)) := by
  show T.need (decide _) _ = _
  rw [decide_eq_true h]
  rfl
theorem modD {a b : Int} (h : 0 < b) : binD .Mod (.int a) (.int b) = .ret (.int (a % b)) := by
  show T.need (decide _) _ = _
  rw [decide_eq_true h]
  rfl
theorem divD {a b : Int} (h : 0 < b ∧ b < 2 ^ 200) : binD .FloorDiv (.int a) (.int b) = .ret (.int (a / b)) := by
  show T.need (decide _) _ = _
  rw [decide_eq_true h]
  rfl
theorem powD {a b : Int} (h : 0 ≤ b ∧ b ≤ 1000000 ∧ a.natAbs < 2 ^ 64) : binD .Pow (.int a) (.int b) = .ret (.int (a ^ b.toNat)) := by
  show T.need (decide _) _ = _
  rw [decide_eq_true h]
  rfl
theorem natAbs_lt {a : Int} {n : Nat} (h0 : 0 ≤ a) (h : a < n) : a.natAbs < n := by omega
end
/-! ### a draw -/
abbrev bagL (cc : Nat) (cells : List Int) (i m st c : Int) : Option D := some (.lst [.scr cc cells, .int i, .int m, .int st, .int c])
def pullEnd (cc : Nat) (cells : List Int) (many : Int) (f : Fl) : Prop := ∃ (r i' m' st' c' : Int) (Γ : Gam), f = .rt (.int r, false) (bagL cc cells i' m' st' c' :: Γ) [0] ∧ 0 ≤ i' ∧ 0 ≤ m' ∧ 0 ≤ st' ∧ st' < 2147483399 ∧ i' ≤ cells.length ∧ 0 ≤ r ∧ r < many
theorem pull_rest (C : Calls) (cc : Nat) (cells : List Int) (i m st c many : Int) (x : Option D) (h1 : 0 ≤ i) (h2 : 0 ≤ m) (h3 : 0 ≤ st) (h4 : st < 2147483399) (h5 : i ≤ cells.length) (h6 : 0 < many) (h7 : many < 2 ^ 70) :
    (exSs C (osPull.drop 2) [bagL cc cells i m st c, some (.int many), x, none, none] [0]).All (pullEnd cc cells many) NX := by
  show (exSs C (_ :: _) _ _).All _ _
  rw [exSs, x_if (c := decide (0 < m)) rfl]
  by_cases hm : 0 < m
  · rw [if_pos (decide_eq_true hm)]
    have s1 : exS C (.set 3 (.bin .Mod (.bcall .int [(.sub (.var 0) (.const (.int 2)))]) (.var 1))) [bagL cc cells i m st c, some (.int many), x, none, none] [0] = .ret (.nx [bagL cc cells i m st c, some (.int many), x, some (.int (m % many)), none] [0]) :=
      x_set rfl (e_bin rfl rfl (modD h6)) (by simp) rfl
    have s2 : exS C (.put 0 (.const (.int 2)) (.bin .FloorDiv (.bcall .int [(.sub (.var 0) (.const (.int 2)))]) (.var 1))) [bagL cc cells i m st c, some (.int many), x, some (.int (m % many)), none] [0] = .ret (.nx [bagL cc cells i (m / many) st c, some (.int many), x, some (.int (m % many)), none] [0]) :=
      x_put (O := [0]) (by decide) (e_bin rfl rfl (divD ⟨h6, Int.lt_trans h7 (by decide)⟩)) rfl rfl rfl (List.mem_singleton.mpr rfl) rfl
    rw [seq_nx s1, seq_nx s2]
    exact ⟨m % many, i, m / many, st, c, _, rfl, h1, Int.ediv_nonneg h2 (Int.le_of_lt h6), h3, h4, h5, Int.emod_nonneg _ (by omega), Int.emod_lt_of_pos _ h6⟩
  · rw [if_neg (by simpa using hm)]
    show (exSs C (_ :: _) _ _).All _ _
    have s1 : exS C (.set 4 (.sub (.var 0) (.const (.int 3)))) [bagL cc cells i m st c, some (.int many), x, none, none] [0] = .ret (.nx [bagL cc cells i m st c, some (.int many), x, none, some (.int st)] [0]) := rfl
    rw [seq_nx s1]
    have a1 : st.natAbs < 2 ^ 64 := by omega
    have s2 : exS C (.put 0 (.const (.int 3)) (.bin .Mod (.bcall .int [(.bin .Add (.bin .Add (.bin .Add (.bin .Pow (.var 4) (.const (.int 3))) (.bin .Mult (.var 4) (.const (.int 41179)))) (.bin .Mult (.sub (.var 0) (.const (.int 4))) (.const (.int 1299757)))) (.const (.int 60041)))]) (.const (.int 2147483399))))
        [bagL cc cells i m st c, some (.int many), x, none, some (.int st)] [0] = .ret (.nx [bagL cc cells i m ((st ^ (3 : Int).toNat + st * 41179 + c * 1299757 + 60041) % 2147483399) c, some (.int many), x, none, some (.int st)] [0]) :=
      x_put (O := [0]) (by decide) (e_bin (e_b1 (e_bin (e_bin (e_bin (e_bin rfl rfl (powD ⟨by decide, by decide, a1⟩)) (e_bin rfl rfl (mulD (.inl a1))) rfl) (e_bin rfl rfl (mulD (.inr (by decide)))) rfl) rfl rfl) rfl) rfl (modD (by decide))) rfl rfl rfl (List.mem_singleton.mpr rfl) rfl
    rw [seq_nx s2]
    generalize hv : (st ^ (3 : Int).toNat + st * 41179 + c * 1299757 + 60041) % 2147483399 = st'
    have b1 : 0 ≤ st' := by rw [← hv]; exact Int.emod_nonneg _ (by decide)
    have b2 : st' < 2147483399 := by rw [← hv]; exact Int.emod_lt_of_pos _ (by decide)
    have a2 : (st' % 7919).natAbs < 2 ^ 64 := by omega
    have s3 : evE C (.bin .Mod (.bcall .int [(.bin .Add (.bin .FloorDiv (.sub (.var 0) (.const (.int 3))) (.const (.int 97))) (.bin .Mult (.bin .Mod (.bcall .int [(.sub (.var 0) (.const (.int 3)))]) (.const (.int 7919))) (.const (.int 59))))]) (.var 1))
        [bagL cc cells i m st' c, some (.int many), x, none, some (.int st)] = .ret (.int ((st' / 97 + st' % 7919 * 59) % many)) :=
      e_bin (e_b1 (e_bin (e_bin rfl rfl (divD ⟨by decide, by decide⟩)) (e_bin (e_bin rfl rfl (modD (by decide))) rfl (mulD (.inl a2))) rfl) rfl) rfl (modD h6)
    have s4 := seq_rt (r := []) (x_ret (O := [0]) rfl (by intro i; intro z; cases z) s3)
    exact s4 ▸ ⟨_, i, m, st', c, _, rfl, h1, h2, b1, b2, h5, Int.emod_nonneg _ (by omega), Int.emod_lt_of_pos _ h6⟩
theorem pull_ok (C : Calls) : PullOk C osPull 5 := by
  intro cc cells i m st c many h1 h2 h3 h4 h5 h6 h7
  show (exSs C (_ :: _) [bagL cc cells i m st c, some (.int many), none, none, none] _).All (pullEnd cc cells many) _
  have s1 : exS C (.put 0 (.const (.int 4)) (.bin .Add (.sub (.var 0) (.const (.int 4))) (.const (.int 1)))) [bagL cc cells i m st c, some (.int many), none, none, none] [0] = .ret (.nx [bagL cc cells i m st (c + 1), some (.int many), none, none, none] [0]) := rfl
  rw [seq_nx s1]
  generalize c + 1 = c
  show (exSs C (_ :: osPull.drop 2) _ _).All _ _
  have t1 : evT C (.and_ [(.e (.cmp .Eq (.sub (.var 0) (.const (.int 2))) (.const (.int 0)))), (.e (.cmp .Lt (.sub (.var 0) (.const (.int 1))) (.bcall .len [(.sub (.var 0) (.const (.int 0)))])))]) [bagL cc cells i m st c, some (.int many), none, none, none] = .ret ((m == 0) && decide (i < ((cells.map D.int).length : Int))) := by
    exact t_and2 rfl rfl
  rw [List.length_map] at t1
  by_cases hc : m = 0 ∧ i < cells.length
  · obtain ⟨e0, hi⟩ := hc
    subst e0
    have t2 : ((0 : Int) == 0 && decide (i < (cells.length : Int))) = true := by simpa using hi
    rw [t2] at t1
    rw [exSs, x_if t1, if_pos rfl]
    -- a cell is taken
    obtain ⟨j, ej⟩ : ∃ j : Nat, (j : Int) = i := ⟨i.toNat, Int.toNat_of_nonneg h1⟩
    subst ej
    have hj : j < cells.length := by omega
    have ix : ixD (cells.map D.int).length (j : Int) = some j := by
      unfold ixD
      rw [if_pos (by omega), if_pos (by rw [List.length_map]; exact hi)]
      rfl
    have g1 : subD (.scr cc cells) (.int (j : Int)) = .ret (.int cells[j]) := by
      show T.ofOpt ((ixD (cells.map D.int).length (j : Int)).bind fun j => (cells.map D.int)[j]?) = _
      rw [ix]
      show T.ofOpt ((cells.map D.int)[j]?) = _
      rw [List.getElem?_map, List.getElem?_eq_getElem hj]
      rfl
    generalize cells[j] = cell at g1
    have u1 : exS C (.set 2 (.sub (.sub (.var 0) (.const (.int 0))) (.sub (.var 0) (.const (.int 1))))) [bagL cc cells j 0 st c, some (.int many), none, none, none] [0] = .ret (.nx [bagL cc cells j 0 st c, some (.int many), some (.int cell), none, none] [0]) :=
      x_set rfl (e_sub rfl rfl g1) (by simp) rfl
    have u2 : exS C (.put 0 (.const (.int 1)) (.bin .Add (.sub (.var 0) (.const (.int 1))) (.const (.int 1)))) [bagL cc cells j 0 st c, some (.int many), some (.int cell), none, none] [0] = .ret (.nx [bagL cc cells ((j : Int) + 1) 0 st c, some (.int many), some (.int cell), none, none] [0]) := rfl
    rw [seq_nx u1, seq_nx u2]
    have u3 : ∃ m', 0 ≤ m' ∧ exS C (.if_ (.e (.cmp .GtE (.var 2) (.bin .Pow (.const (.int 10)) (.const (.int 18))))) [.put 0 (.const (.int 2)) (.var 2)] []) [bagL cc cells ((j : Int) + 1) 0 st c, some (.int many), some (.int cell), none, none] [0] = .ret (.nx [bagL cc cells ((j : Int) + 1) m' st c, some (.int many), some (.int cell), none, none] [0]) := by
      have t3 : evT C (.e (.cmp .GtE (.var 2) (.bin .Pow (.const (.int 10)) (.const (.int 18))))) [bagL cc cells ((j : Int) + 1) 0 st c, some (.int many), some (.int cell), none, none] = .ret (decide ((10 : Int) ^ (18 : Int).toNat ≤ cell)) := by
        rw [evT, e_cmp rfl (e_bin rfl rfl (powD ⟨by decide, by decide, by decide⟩)) rfl]
        rfl
      by_cases hb : (10 : Int) ^ (18 : Int).toNat ≤ cell
      · refine ⟨cell, Int.le_trans (by decide) hb, ?_⟩
        rw [x_if t3, if_pos (decide_eq_true hb)]
        rfl
      · refine ⟨0, Int.le_refl _, ?_⟩
        rw [x_if t3, if_neg (by simpa using hb)]
        rfl
    obtain ⟨m', hm', u3⟩ := u3
    have a1 : st.natAbs < 2 ^ 64 := by omega
    have a2 : (cell % 2147483423).natAbs < 2 ^ 64 := by omega
    have u4 : exS C (.put 0 (.const (.int 3)) (.bin .Mod (.bcall .int [(.bin .Add (.bin .Add (.bin .Mult (.sub (.var 0) (.const (.int 3))) (.const (.int 43711))) (.bin .Mult (.bin .Mod (.bcall .int [(.var 2)]) (.const (.int 2147483423))) (.const (.int 38921)))) (.const (.int 97)))]) (.const (.int 2147483399))))
        [bagL cc cells ((j : Int) + 1) m' st c, some (.int many), some (.int cell), none, none] [0] = .ret (.nx [bagL cc cells ((j : Int) + 1) m' ((st * 43711 + cell % 2147483423 * 38921 + 97) % 2147483399) c, some (.int many), some (.int cell), none, none] [0]) :=
      x_put (O := [0]) (by decide) (e_bin (e_b1 (e_bin (e_bin (e_bin rfl rfl (mulD (.inl a1))) (e_bin (e_bin rfl rfl (modD (by decide))) rfl (mulD (.inl a2))) rfl) rfl rfl) rfl) rfl (modD (by decide))) rfl rfl rfl (List.mem_singleton.mpr rfl) rfl
    rw [seq_nx u3, seq_nx u4, exs_nil]
    exact pull_rest C cc cells ((j : Int) + 1) m' _ c many _ (by omega) hm' (Int.emod_nonneg _ (by decide)) (Int.emod_lt_of_pos _ (by decide)) (by omega) h6 h7
  · have t2 : ((m == 0) && decide (i < (cells.length : Int))) = false := by
      rw [Bool.and_eq_false_iff]
      by_cases e0 : m = 0
      · exact .inr (by simpa using fun z => hc ⟨e0, z⟩)
      · exact .inl (by simpa using e0)
    rw [t2] at t1
    rw [exSs, x_if t1, if_neg (by decide), exs_nil]
    exact pull_rest C cc cells i m st c many _ h1 h2 h3 h4 h5 h6 h7
end Dy

set_option linter.all false
set_option maxRecDepth 10000
set_option autoImplicit false
/-! Dy, part 21: the bag. -/
namespace Dy
open PySem
theorem lcLoop_map {f : D → T (Option D)} {g : Int → D} : ∀ xs : List Int, (∀ x, f (.int x) = .ret (some (g x))) → lcLoop f (xs.map D.int) = .ret (xs.map g)
  | [], _ => rfl
  | x :: xs, h => by
    show (f (.int x)).bind _ = _
    rw [h x]
    show ((lcLoop f (xs.map D.int)).bind _) = _
    rw [lcLoop_map xs h]
    rfl
abbrev stepE : OE := .bin .Mod (.bcall .int [(.bin .Add (.bin .Add (.bin .Mult (.var 1) (.const (.int 52379))) (.bin .Mod (.bcall .int [(.var 2)]) (.const (.int 2147483423)))) (.const (.int 19)))]) (.const (.int 2147483399))
theorem bag_loop (C : Calls) (s : Option D) : ∀ (xs : List Int) (st : Int) (x : Option D), 0 ≤ st → st < 2147483399 → ∃ (st' : Int) (x' : Option D), 0 ≤ st' ∧ st' < 2147483399 ∧
    forL (exSs C [.set 1 stepE]) (.n 2) (xs.map D.int) [s, some (.int st), x] [] = .ret (.nx [s, some (.int st'), x'] [])
  | [], st, x, h1, h2 => ⟨st, x, h1, h2, rfl⟩
  | v :: xs, st, x, h1, h2 => by
    obtain ⟨st', x', g1, g2, e⟩ := bag_loop C s xs ((st * 52379 + v % 2147483423 + 19) % 2147483399) (some (.int v)) (Int.emod_nonneg _ (by decide)) (Int.emod_lt_of_pos _ (by decide))
    refine ⟨st', x', g1, g2, ?_⟩
    have a1 : st.natAbs < 2 ^ 64 := by omega
    have u : exS C (.set 1 stepE) [s, some (.int st), some (.int v)] [] = .ret (.nx [s, some (.int ((st * 52379 + v % 2147483423 + 19) % 2147483399)), some (.int v)] []) :=
      x_set rfl (e_bin (e_b1 (e_bin (e_bin (e_bin rfl rfl (mulD (.inl a1))) (e_bin rfl rfl (modD (by decide))) rfl) rfl rfl) rfl) rfl (modD (by decide))) (by simp) rfl
    show ((exSs C [.set 1 stepE] [s, some (.int st), some (.int v)] []).bind _) = _
    rw [seq_nx u, exs_nil]
    exact e
theorem bag_body (C : Calls) (a : Nat) (ns : List Int) : ∃ (cells : List Int) (st : Int), 0 ≤ st ∧ st < 2147483399 ∧ runB C 3 osBag [.scr a ns] = .ret (.lst [.lst (cells.map D.int), .int 0, .int 0, .int st, .int 0], true) := by
  let cells := cutL ns none (some 63)
  obtain ⟨st, x, g1, g2, e⟩ := bag_loop C (some (.scr a ns)) cells 12007 none (by decide) (by decide)
  refine ⟨cells, st, g1, g2, ?_⟩
  show ((exSs C (_ :: _) [some (.scr a ns), none, none] []).bind _) = _
  have u1 : exS C (.set 1 (.const (.int 12007))) [some (.scr a ns), none, none] [] = .ret (.nx [some (.scr a ns), some (.int 12007), none] []) := rfl
  have u2 : exS C (.for_ (.n 2) (.e (.slice (.var 0) none (some (.const (.int 63))))) [.set 1 stepE]) [some (.scr a ns), some (.int 12007), none] [] = .ret (.nx [some (.scr a ns), some (.int st), x] []) := by
    rw [exS]
    exact e
  rw [seq_nx u1, seq_nx u2]
  have u3 : evE C (.lc (.bcall .int [(.var 2)]) [2] (.n 2) (.e (.slice (.var 0) none (some (.const (.int 63))))) []) [some (.scr a ns), some (.int st), x] = .ret (.lst (cells.map D.int)) := by
    rw [evE_lc]
    show ((lcLoop _ (cells.map D.int)).bind _) = _
    rw [lcLoop_map (g := D.int) cells (fun v => rfl)]
    rfl
  have u4 : evX C (.lst [(.lc (.bcall .int [(.var 2)]) [2] (.n 2) (.e (.slice (.var 0) none (some (.const (.int 63))))) []), (.const (.int 0)), (.const (.int 0)), (.var 1), (.const (.int 0))]) [some (.scr a ns), some (.int st), x] = .ret (.lst [.lst (cells.map D.int), .int 0, .int 0, .int st, .int 0], true) := by
    rw [evX, evEs, u3]
    rfl
  rw [exSs, exS]
  · rw [u4]
    rfl
  · intro i z
    cases z
theorem bag_ok {C C' : Calls} {n : Nat} (hn : 2 ≤ n) (h : ∀ a ns, C "_law_bag" [.scr a ns] = runB C' 3 osBag [.scr a ns]) : LawBag C (.set 1 (.call "_law_bag" [(.var 0)] [] [.pos 0] [])) n := by
  intro a ns hl
  obtain ⟨cells, st, g1, g2, e⟩ := bag_body C' a ns
  obtain ⟨m, rfl⟩ : ∃ m, n = m + 2 := ⟨n - 2, by omega⟩
  show (exS C _ (some (.scr a ns) :: none :: List.replicate m none) []).All _ _
  rw [exS]
  have u : evX C (.call "_law_bag" [(.var 0)] [] [.pos 0] []) (some (.scr a ns) :: none :: List.replicate m none) = .ret (.lst [.lst (cells.map D.int), .int 0, .int 0, .int st, .int 0], true) := by
    rw [evX]
    show C "_law_bag" [.scr a ns] = _
    rw [h, e]
  rw [u]
  exact ⟨cells, st, g1, g2, rfl⟩
end Dy

set_option linter.all false
set_option maxRecDepth 10000
set_option autoImplicit false
/-! Dy, part 22: from the head's facts to a module of defs. -/
namespace Dy
open PySem PySem.Spec PyProof.Rows L2
theorem says_mem {fa : List He.Fa} {fn : List He.DefD} {K : PySem.W.Frag} (c : He.SaysD fa fn K) {f : He.Fa} (h : f ∈ fa) : f.ok K = true := by
  obtain ⟨i, e⟩ := List.getElem?_of_mem h
  exact c.fact i e
theorem says_fun {fa : List He.Fa} {ds : List Dn} {K : PySem.W.Frag} (c : He.SaysD fa (ds.map Dn.dd) K) {d : Dn} (h : d ∈ ds) : ∃ fd, d.FunIs K (He.ga K d.x) fd := by
  obtain ⟨i, e⟩ := List.getElem?_of_mem h
  exact c.def_ i (d := d.dd) (by rw [List.getElem?_map, e]; rfl)
/-- the walk of a law whose def keeps spLaw -/
theorem walk_dy {l : PySem.W.OpenLaw} {k : Nat} {q : Program} {loose : List Str} {XP : (Str → Option Value) → Heap → Prop} {YP : World → Heap → Prop} {dr : DefRec} (h1 : l.most = some 63) (h2 : dr.params.defaults = []) (h3 : Room k callerA)
    (F : ∀ (w : World) (mg : Str → Option Value) (fa : Addr) (hp : Heap), YP w hp → hp.Ns mainGlobals mg → mg dr.name = some (.ref fa) → ∃ (K : PySem.W.Frag) (fd : FuncData), K.In hp ∧ (∀ (s : Shared) (v : Value), BindsTo s fd ⟨[v], []⟩ [("script", v)]) ∧
      ∀ base : Heap, K.In base → base.Ns mainGlobals mg → FnOk l.prog w K mg base (L2.CX l.prog w) k fa fd ["script"] (spLaw K)) : PySem.W.WalkO q loose XP YP l.row.toRowW dr [] (fun f vs => PySem.call f vs) := by
  refine Att.attach_call h1 h2 fun w sA sB mg mb fa o pm cd doc a vs ns GG YY ho hdd hcd hmg hobj hints hlen hgen => ?_
  obtain ⟨K, fd, KX, hb, hF⟩ := F w mg fa _ YY GG.T.g hmg
  refine law_call KX GG.T.g GG.T.b GG.T.builtins GG.T.nolimit hgen hobj hints (Nat.le_trans hlen (by decide)) h3 hF hb (fun H _ hS => ⟨a, ns, rfl, hS, hlen, fun _ => rfl⟩) fun H e s2 z => ?_
  obtain ⟨_, _, _, _, _, _, _, _, _, _, _, _, zz⟩ := z
  exact zz
end Dy

set_option linter.all false
set_option maxRecDepth 10000
set_option autoImplicit false
/-! Dy, part 23: rules for every outcome of an evaluation. -/
namespace Dy
open PySem
section
variable {C : Calls} {Γ Γ' : Gam} {O O' : List Nat} {E : D → Prop}
theorem a_ret {e : OE} {x : D} {P : D → Prop} (h : evE C e Γ = .ret x) (p : P x) : (evE C e Γ).All P E := by rw [h]; exact p
theorem a_bin {op : Operator} {a b : OE} {P : D → Prop} (h : (evE C a Γ).All (fun x => (evE C b Γ).All (fun y => (binD op x y).All P E) E) E) : (evE C (.bin op a b) Γ).All P E := by
  rw [evE]
  exact T.all_bind.mpr (T.all_imp h fun x hx => T.all_bind.mpr hx)
theorem a_sub {a b : OE} {P : D → Prop} (h : (evE C a Γ).All (fun x => (evE C b Γ).All (fun y => (subD x y).All P E) E) E) : (evE C (.sub a b) Γ).All P E := by
  rw [evE]
  exact T.all_bind.mpr (T.all_imp h fun x hx => T.all_bind.mpr hx)
theorem as_nil {P : List D → Prop} (p : P []) : (evEs C [] Γ).All P E := by rw [evEs]; exact p
theorem as_cons {e : OE} {es : List OE} {P : List D → Prop} (h : (evE C e Γ).All (fun x => (evEs C es Γ).All (fun xs => P (x :: xs)) E) E) : (evEs C (e :: es) Γ).All P E := by
  rw [evEs]
  exact T.all_bind.mpr (T.all_imp h fun x hx => T.all_bind.mpr (T.all_imp hx fun xs p => p))
theorem as_ret {es : List OE} {xs : List D} {P : List D → Prop} (h : evEs C es Γ = .ret xs) (p : P xs) : (evEs C es Γ).All P E := by rw [h]; exact p
/-- all positional values in their order -/
def selN (sel : List Sr) (n : Nat) : Prop := sel.length = n ∧ ∀ ds : List D, ds.length = n → selL sel ds [] [] = ds
theorem sel1 : selN [.pos 0] 1 := ⟨rfl, fun ds h => match ds, h with | [_], _ => rfl⟩
theorem sel2 : selN [.pos 0, .pos 1] 2 := ⟨rfl, fun ds h => match ds, h with | [_, _], _ => rfl⟩
theorem sel3 : selN [.pos 0, .pos 1, .pos 2] 3 := ⟨rfl, fun ds h => match ds, h with | [_, _, _], _ => rfl⟩
theorem sel4 : selN [.pos 0, .pos 1, .pos 2, .pos 3] 4 := ⟨rfl, fun ds h => match ds, h with | [_, _, _, _], _ => rfl⟩
theorem x_call {f : Str} {args : List OE} {sel : List Sr} {P : D × Bool → Prop} (hs : selN sel args.length) (h : (evEs C args Γ).All (fun ds => (C f ds).All P E) E) : (evX C (.call f args [] sel []) Γ).All P E := by
  rw [evX]
  refine T.all_bind.mpr (T.all_imp (evEs_len args Γ _ E h) fun ds hd => ?_)
  obtain ⟨hd, hl⟩ := hd
  show ((evEs C [] Γ).bind _).All P E
  rw [evEs]
  show (T.need (decide ((selL sel ds [] []).length = sel.length)) (C f (selL sel ds [] []))).All P E
  rw [hs.2 ds hl, hs.1, decide_eq_true hl]
  exact hd
theorem a_call {f : Str} {args : List OE} {sel : List Sr} {P : D → Prop} (hs : selN sel args.length) (h : (evEs C args Γ).All (fun ds => (C f ds).All (fun r => P r.1) E) E) : (evE C (.call f args [] sel []) Γ).All P E := by
  rw [evE]
  refine T.all_bind.mpr (T.all_imp (evEs_len args Γ _ E h) fun ds hd => ?_)
  obtain ⟨hd, hl⟩ := hd
  show ((evEs C [] Γ).bind _).All P E
  rw [evEs]
  show (T.need (decide ((selL sel ds [] []).length = sel.length)) ((C f (selL sel ds [] [])).bind fun r => .ret r.1)).All P E
  rw [hs.2 ds hl, hs.1, decide_eq_true hl]
  exact T.all_bind.mpr (T.all_imp hd fun r p => p)
/-- f(k = e) -/
theorem a_callK {f : Str} {e : OE} {P : D → Prop} (h : (evE C e Γ).All (fun x => (C f [x]).All (fun r => P r.1) E) E) : (evE C (.call f [] [e] [.kw 0] []) Γ).All P E := by
  rw [evE, evEs]
  show ((evEs C [e] Γ).bind _).All P E
  refine T.all_bind.mpr (as_cons (T.all_imp h fun x hx => as_nil ?_))
  exact T.all_bind.mpr (T.all_imp hx fun r p => p)
/-- a call that comes to one value -/
theorem e_call {f : Str} {args : List OE} {sel : List Sr} {ds : List D} {r : D × Bool} (hs : selN sel args.length) (h : evEs C args Γ = .ret ds) (hl : ds.length = args.length) (hc : C f ds = .ret r) : evE C (.call f args [] sel []) Γ = .ret r.1 := by
  rw [evE, h, evEs]
  show T.need (decide ((selL sel ds [] []).length = sel.length)) ((C f (selL sel ds [] [])).bind fun r => .ret r.1) = _
  rw [hs.2 ds hl, hs.1, decide_eq_true hl, hc]
  rfl
theorem e_callK {f : Str} {e : OE} {x : D} {r : D × Bool} (h : evE C e Γ = .ret x) (hc : C f [x] = .ret r) : evE C (.call f [] [e] [.kw 0] []) Γ = .ret r.1 := by
  rw [evE, evEs, evEs, h, evEs]
  show T.need true ((C f [x]).bind fun r => .ret r.1) = _
  rw [hc]
  rfl
theorem es_nil : evEs C [] Γ = .ret [] := by rw [evEs]
theorem es_cons {e : OE} {es : List OE} {x : D} {xs : List D} (h : evE C e Γ = .ret x) (hs : evEs C es Γ = .ret xs) : evEs C (e :: es) Γ = .ret (x :: xs) := by
  rw [evEs, h]
  show (evEs C es Γ).bind _ = _
  rw [hs]
  rfl
theorem x_lst {es : List OE} {P : D × Bool → Prop} (h : (evEs C es Γ).All (fun ds => P (.lst ds, true)) E) : (evX C (.lst es) Γ).All P E := by
  rw [evX]
  exact T.all_bind.mpr (T.all_imp h fun ds p => p)
theorem a_lst {es : List OE} {P : D → Prop} (h : (evEs C es Γ).All (fun ds => P (.lst ds)) E) : (evE C (.lst es) Γ).All P E := by
  rw [evE]
  exact T.all_bind.mpr (T.all_imp h fun ds p => p)
theorem x_old {e : OE} {P : D × Bool → Prop} (hn : newE e = false) (h : (evE C e Γ).All (fun d => P (d, false)) E) : (evX C e Γ).All P E := by
  rw [evX_old hn]
  exact T.all_bind.mpr (T.all_imp h fun d p => p)
theorem all_still' {α : Type} {P : α → Prop} : ∀ {x : T α}, x.All P NX → x.still.All P E
  | .ret _, h => h
  | .draw n k, h => fun i hi => all_still' (h i hi)
  | .exc _, h => h.elim
  | .bad, h => h
theorem lcLoop_all {f : D → T (Option D)} {R : D → Prop} : ∀ {ds : List D}, (∀ d ∈ ds, (f d).All (fun o => ∃ x, o = some x ∧ R x) E) → (lcLoop f ds).All (fun xs => xs.length = ds.length ∧ ∀ x ∈ xs, R x) E
  | [], _ => ⟨rfl, fun x h => by cases h⟩
  | d :: ds, h => by
    refine T.all_bind.mpr (T.all_imp (h d List.mem_cons_self) fun o ho => ?_)
    obtain ⟨x, rfl, hx⟩ := ho
    refine T.all_bind.mpr (T.all_imp (lcLoop_all fun d' h' => h d' (List.mem_cons_of_mem _ h')) fun xs hxs => ?_)
    refine ⟨by show xs.length + 1 = ds.length + 1; rw [hxs.1], fun y hy => ?_⟩
    rcases List.mem_cons.mp hy with z | z
    · rw [z]; exact hx
    · exact hxs.2 y z
/-- a comprehension without a test -/
theorem a_lc {oe : OE} {vs : List Nat} {t : Tg} {oi : OI} {P : D → Prop} (h : (evI C oi Γ).All (fun ds => (lcLoop (lcF C t vs [] oe Γ) ds).All (fun xs => P (.lst xs)) E) E) : (evE C (.lc oe vs t oi []) Γ).All P E := by
  rw [evE_lc]
  exact T.all_bind.mpr (T.all_imp h fun ds hd => T.all_bind.mpr (T.all_imp hd fun xs p => p))
theorem lcF_all {oe : OE} {vs : List Nat} {t : Tg} {d : D} {P : D → Prop} (hb : bindTg t d (wipeG Γ vs) = some Γ') (h : (evE C oe Γ').All P NX) : (lcF C t vs [] oe Γ d).All (fun o => ∃ x, o = some x ∧ P x) E := by
  unfold lcF
  refine all_still' ?_
  rw [hb]
  refine T.all_bind.mpr ?_
  show ((evTs C [] Γ').bind _).All _ NX
  rw [evTs]
  show ((evE C oe Γ').bind _).All _ NX
  exact T.all_bind.mpr (T.all_imp h fun x p => ⟨x, rfl, p⟩)
theorem i_rng1 {a : OE} {P : List D → Prop} (h : (evE C a Γ).All (fun x => ∃ j : Int, x = .int j ∧ -(2 ^ 62) ≤ j ∧ j ≤ 16777216 ∧ P (rangeD 0 j.toNat)) E) : (evI C (.rng1 a) Γ).All P E := by
  rw [evI]
  refine T.all_bind.mpr (T.all_imp h fun x hx => ?_)
  obtain ⟨j, rfl, h1, h2, p⟩ := hx
  show (T.need (decide _) _).All P E
  rw [decide_eq_true ⟨h1, h2⟩]
  exact p
/-! ### statements -/
theorem ss_set {i : Nat} {e : OE} {rest : List OS} {P : Fl → Prop} (hi : i < Γ.length) (h : (evX C e Γ).All (fun r => (exSs C rest (Γ.set i (some r.1)) (gainO r.2 i ((keepO (al e) (isFlat r.1) O).filter fun j => decide (j ≠ i)))).All P E) E) : (exSs C (.set i e :: rest) Γ O).All P E := by
  rw [exSs, exS]
  refine T.all_bind.mpr (T.all_bind.mpr (T.all_imp h fun r hr => ?_))
  rw [decide_eq_true hi]
  exact hr
theorem ss_par2 {i j : Nat} {a b : OE} {rest : List OS} {P : Fl → Prop} (h : (evE C a Γ).All (fun x => (evE C b Γ).All (fun y => (exSs C rest ((Γ.set i (some x)).set j (some y)) (((keepO (als [a, b]) (isFlat x && isFlat y) O).filter fun l => decide (l ≠ i)).filter fun l => decide (l ≠ j))).All P E) E) E) : (exSs C (.par2 i j a b :: rest) Γ O).All P E := by
  rw [exSs, exS]
  exact T.all_bind.mpr (T.all_bind.mpr (as_cons (T.all_imp h fun x hx => as_cons (T.all_imp hx fun y hy => as_nil hy))))
theorem ss_if {t : OT} {a b rest : List OS} {P : Fl → Prop} (h : (evT C t Γ).All (fun c => (if c = true then exSs C a Γ O else exSs C b Γ O).All (fun f => match f with
    | .nx Γ' O' => (exSs C rest Γ' O').All P E
    | .bk Γ' O' => P (.bk Γ' O') | .ct Γ' O' => P (.ct Γ' O') | .rt r Γ' O' => P (.rt r Γ' O')) E) E) : (exSs C (.if_ t a b :: rest) Γ O).All P E := by
  rw [exSs, exS]
  refine T.all_bind.mpr (T.all_bind.mpr (T.all_imp h fun c hc => ?_))
  cases c with
  | true => exact T.all_imp hc fun f hf => by cases f <;> exact hf
  | false => exact T.all_imp hc fun f hf => by cases f <;> exact hf
/-- a test that fails: the rest -/
theorem ss_ifF {t : OT} {a rest : List OS} {P : Fl → Prop} (h : (evT C t Γ).All (fun c => c = false ∧ (exSs C rest Γ O).All P E) E) : (exSs C (.if_ t a [] :: rest) Γ O).All P E :=
  ss_if (T.all_imp h fun c hc => by
    rw [hc.1, if_neg Bool.false_ne_true, exs_nil]
    exact hc.2)
theorem t_not {t : OT} {P : Bool → Prop} (h : (evT C t Γ).All (fun b => P (!b)) E) : (evT C (.not_ t) Γ).All P E := by
  rw [evT]
  exact T.all_bind.mpr (T.all_imp h fun b p => p)
theorem t_e {a : OE} {P : Bool → Prop} (h : (evE C a Γ).All (fun x => (truthD x).All P E) E) : (evT C (.e a) Γ).All P E := by
  rw [evT]
  exact T.all_bind.mpr h
theorem forL_all {f : Gam → List Nat → T Fl} {tg : Tg} {I : Gam → List Nat → Prop} {P : Fl → Prop} : ∀ {ds : List D}, (∀ d ∈ ds, ∀ Γ O, I Γ O → ∃ Γ1, bindTg tg d Γ = some Γ1 ∧ (f Γ1 (dropT tg O)).All (fun r => match r with
    | .nx Γ O => I Γ O | .ct Γ O => I Γ O | .bk Γ O => P (.nx Γ O) | .rt r Γ O => P (.rt r Γ O)) E) → (∀ Γ O, I Γ O → P (.nx Γ O)) → ∀ Γ O, I Γ O → (forL f tg ds Γ O).All P E
  | [], _, hp, Γ, O, i => hp Γ O i
  | d :: ds, h, hp, Γ, O, i => by
    obtain ⟨Γ1, e, q⟩ := h d List.mem_cons_self Γ O i
    unfold forL
    rw [e]
    show ((f Γ1 (dropT tg O)).bind _).All P E
    refine T.all_bind.mpr (T.all_imp q fun r hr => ?_)
    cases r with
    | nx Γ O => exact forL_all (fun d' h' => h d' (List.mem_cons_of_mem _ h')) hp Γ O hr
    | ct Γ O => exact forL_all (fun d' h' => h d' (List.mem_cons_of_mem _ h')) hp Γ O hr
    | bk Γ O => exact hr
    | rt r Γ O => exact hr
theorem ss_for {tg : Tg} {oi : OI} {b rest : List OS} {P : Fl → Prop} (h : (evI C oi Γ).All (fun ds => (forL (exSs C b) tg ds Γ (keepO (alI oi) false O)).All (fun f => match f with
    | .nx Γ' O' => (exSs C rest Γ' O').All P E
    | .bk Γ' O' => P (.bk Γ' O') | .ct Γ' O' => P (.ct Γ' O') | .rt r Γ' O' => P (.rt r Γ' O')) E) E) : (exSs C (.for_ tg oi b :: rest) Γ O).All P E := by
  rw [exSs, exS]
  refine T.all_bind.mpr (T.all_bind.mpr (T.all_imp h fun ds hd => ?_))
  exact T.all_imp hd fun f hf => by cases f <;> exact hf
/-! ### a draw, one of several -/
def osAny : List OS := [
  .ret (.sub (.var 1) (.call "_law_pull" [(.var 0), (.bcall .len [(.var 1)])] [] [.pos 0, .pos 1] []))]
theorem pull_all {C' : Calls} (hp : ∀ ds, C' "_law_pull" ds = pullD ds) {n : Int} {P : D × Bool → Prop} (h0 : 0 < n) (h1 : n < 2 ^ 70) (h : ∀ i : Nat, (i : Int) < n → P (.int i, false)) : (C' "_law_pull" [.bag, .int n]).All P E := by
  rw [hp]
  show (T.need (decide (0 < n ∧ n < 2 ^ 70)) _).All P E
  rw [decide_eq_true ⟨h0, h1⟩]
  intro i hi
  exact h i (by omega)
theorem any_all {C' : Calls} (hc : ∀ ds, C "_law_any" ds = runB C' 2 osAny ds) (hp : ∀ ds, C' "_law_pull" ds = pullD ds) {x : D} {n : Nat} {P : D × Bool → Prop} (hx : lenD [x] = .ret (.int n)) (h0 : 0 < n) (h1 : (n : Int) < 2 ^ 70) (h : ∀ i : Nat, i < n → (subD x (.int i)).All (fun d => P (d, false)) E) : (C "_law_any" [.bag, x]).All P E := by
  rw [hc]
  show ((exSs C' osAny [some .bag, some x] []).bind _).All P E
  have len : evE C' (.bcall .len [(.var 1)]) [some .bag, some x] = .ret (.int n) := e_b1 (x := x) rfl hx
  have core : (evE C' (.sub (.var 1) (.call "_law_pull" [(.var 0), (.bcall .len [(.var 1)])] [] [.pos 0, .pos 1] [])) [some .bag, some x]).All (fun d => P (d, false)) E :=
    a_sub (a_ret (x := x) rfl (a_call sel2 (as_ret (xs := [.bag, .int n]) (es_cons rfl (es_cons len es_nil)) (pull_all hp (by omega) h1 fun i hi => h i (by omega)))))
  refine T.all_bind.mpr ?_
  unfold osAny
  rw [exSs]
  refine T.all_bind.mpr ?_
  rw [exS]
  · exact T.all_bind.mpr (x_old rfl core)
  · intro i z
    cases z
theorem any_lst {C' : Calls} (hc : ∀ ds, C "_law_any" ds = runB C' 2 osAny ds) (hp : ∀ ds, C' "_law_pull" ds = pullD ds) {xs : List D} {P : D × Bool → Prop} (h0 : 0 < xs.length) (h1 : (xs.length : Int) < 2 ^ 70) (h : ∀ x ∈ xs, P (x, false)) : (C "_law_any" [.bag, .lst xs]).All P E :=
  any_all hc hp (x := .lst xs) (n := xs.length) rfl h0 h1 fun i hi => by
    have e : ixD xs.length (i : Int) = some i := by
      unfold ixD
      rw [if_pos (by omega), if_pos (by omega)]
      rfl
    show (T.ofOpt ((ixD xs.length (i : Int)).bind fun j => xs[j]?)).All _ E
    rw [e]
    show (T.ofOpt (xs[i]?)).All _ E
    rw [List.getElem?_eq_getElem hi]
    exact h _ (List.getElem_mem hi)
theorem any_str {C' : Calls} (hc : ∀ ds, C "_law_any" ds = runB C' 2 osAny ds) (hp : ∀ ds, C' "_law_pull" ds = pullD ds) {l : List Nat} {P : D × Bool → Prop} (h0 : 0 < l.length) (h1 : l.length ≤ most) (h : ∀ c ∈ l, P (.str [c], false)) : (C "_law_any" [.bag, .str l]).All P E :=
  any_all hc hp (x := .str l) (n := l.length) (by show T.need (decide _) _ = _; rw [decide_eq_true h1]; rfl) h0 (by unfold most at h1; omega) fun i hi => by
    have e : ixD l.length (i : Int) = some i := by
      unfold ixD
      rw [if_pos (by omega), if_pos (by omega)]
      rfl
    show (T.need (decide _) (T.ofOpt (((ixD l.length (i : Int)).bind fun j => l[j]?).map fun c => D.str [c]))).All _ E
    rw [decide_eq_true h1, e]
    show (T.ofOpt ((l[i]?).map fun c => D.str [c])).All _ E
    rw [List.getElem?_eq_getElem hi]
    exact h _ (List.getElem_mem hi)
end
end Dy

set_option linter.all false
set_option maxRecDepth 10000
set_option autoImplicit false
/-! Dy, part 24: more steps. -/
namespace Dy
open PySem
section
variable {C : Calls} {Γ Γ' : Gam} {O O' : List Nat} {E : D → Prop}
theorem te_bl {a : OE} {b : Bool} (h : evE C a Γ = .ret (.bl b)) : evT C (.e a) Γ = .ret b := by rw [evT, h]; rfl
theorem te_not {t : OT} {b : Bool} (h : evT C t Γ = .ret b) : evT C (.not_ t) Γ = .ret (!b) := by rw [evT, h]; rfl
theorem te_orT {a : OT} {r : List OT} (h : evT C a Γ = .ret true) : evT C (.or_ (a :: r)) Γ = .ret true := by
  rw [evT]
  cases r with
  | nil => rw [evTOr, h]
  | cons b r => rw [evTOr, h]; rfl
theorem te_andF {a : OT} {r : List OT} (h : evT C a Γ = .ret false) : evT C (.and_ (a :: r)) Γ = .ret false := by
  rw [evT]
  cases r with
  | nil => rw [evTAnd, h]
  | cons b r => rw [evTAnd, h]; rfl
theorem e_chain {op op' : CmpOp} {a b c : OE} {x y z : D} {p q : Bool} (ha : evE C a Γ = .ret x) (hb : evE C b Γ = .ret y) (h1 : cmpD op x y = .ret (.bl p)) (hc : evE C c Γ = .ret z) (h2 : cmpD op' y z = .ret (.bl q)) : evE C (.chain op op' a b c) Γ = .ret (.bl (p && q)) := by
  rw [evE, ha]
  show (evE C b Γ).bind _ = _
  rw [hb]
  show (cmpD op x y).bind _ = _
  rw [h1]
  cases p with
  | false => rfl
  | true =>
    show (evE C c Γ).bind _ = _
    rw [hc]
    exact h2
theorem e_and2 {a b : OE} {y : D} (ha : evE C a Γ = .ret (.bl true)) (hb : evE C b Γ = .ret y) : evE C (.and_ [a, b]) Γ = .ret y := by
  rw [evE, evAnd, ha]
  show evAnd C [b] Γ = _
  rw [evAnd]
  exact hb
theorem e_lst {es : List OE} {ds : List D} (h : evEs C es Γ = .ret ds) : evE C (.lst es) Γ = .ret (.lst ds) := by rw [evE, h]; rfl
theorem e_tup {es : List OE} {ds : List D} (h : evEs C es Γ = .ret ds) : evE C (.tup es) Γ = .ret (.tup ds) := by rw [evE, h]; rfl
theorem x_lstE {es : List OE} {ds : List D} (h : evEs C es Γ = .ret ds) : evX C (.lst es) Γ = .ret (.lst ds, true) := by rw [evX, h]; rfl
theorem xx_old {e : OE} {d : D} (hn : newE e = false) (h : evE C e Γ = .ret d) : evX C e Γ = .ret (d, false) := by rw [evX_old hn, h]; rfl
theorem ofOpt_bind {α β : Type} {a : α} {f : α → T β} : (T.ofOpt (some a)).bind f = f a := rfl
theorem lcF_eq {oe : OE} {vs : List Nat} {t : Tg} {d x : D} (hb : bindTg t d (wipeG Γ vs) = some Γ') (h : evE C oe Γ' = .ret x) : lcF C t vs [] oe Γ d = .ret (some x) := by
  unfold lcF
  rw [hb, ofOpt_bind, evTs]
  show ((evE C oe Γ').bind fun x => T.ret (some x)).still = _
  rw [h]
  rfl
theorem lcLoop_mapG {α : Type} {f : D → T (Option D)} {k g : α → D} : ∀ xs : List α, (∀ x ∈ xs, f (k x) = .ret (some (g x))) → lcLoop f (xs.map k) = .ret (xs.map g)
  | [], _ => rfl
  | x :: xs, h => by
    show (f (k x)).bind _ = _
    rw [h x List.mem_cons_self]
    show ((lcLoop f (xs.map k)).bind _) = _
    rw [lcLoop_mapG xs fun y hy => h y (List.mem_cons_of_mem _ hy)]
    rfl
theorem e_lc {oe : OE} {vs : List Nat} {t : Tg} {oi : OI} {ds xs : List D} (hi : evI C oi Γ = .ret ds) (hl : lcLoop (lcF C t vs [] oe Γ) ds = .ret xs) : evE C (.lc oe vs t oi []) Γ = .ret (.lst xs) := by
  rw [evE_lc, hi]
  show ((lcLoop _ ds).bind _) = _
  rw [hl]
  rfl
theorem bls_map {α : Type} (p : α → Bool) : ∀ xs : List α, blsOf (xs.map fun x => D.bl (p x)) = some (xs.map p)
  | [] => rfl
  | x :: xs => by
    show (blsOf (xs.map fun x => D.bl (p x))).map _ = _
    rw [bls_map p xs]
    rfl
theorem all_map {α : Type} (p : α → Bool) (xs : List α) : bcallD .all [.lst (xs.map fun x => D.bl (p x))] = .ret (.bl (xs.all p)) := by
  show (match blsOf (xs.map fun x => D.bl (p x)) with | some bs => T.ret (D.bl (bs.all id)) | none => .bad) = _
  rw [bls_map]
  show T.ret (D.bl ((xs.map p).all id)) = _
  rw [List.all_map]
  rfl
theorem i_str {a : OE} {l : List Nat} (h : evE C a Γ = .ret (.str l)) (hl : l.length ≤ most) : evI C (.e a) Γ = .ret (l.map fun c => D.str [c]) := by
  rw [evI, h]
  show T.need (decide _) _ = _
  rw [decide_eq_true hl]
  rfl
theorem lenS {l : List Nat} (hl : l.length ≤ most) : bcallD .len [.str l] = .ret (.int l.length) := by
  show T.need (decide _) _ = _
  rw [decide_eq_true hl]
  rfl
theorem addS {a b : List Nat} (h : a.length + b.length ≤ most) : binD .Add (.str a) (.str b) = .ret (.str (a ++ b)) := by
  show T.need (decide _) _ = _
  rw [decide_eq_true h]
  rfl
theorem addL {a b : List D} (h : a.length + b.length ≤ most) : binD .Add (.lst a) (.lst b) = .ret (.lst (a ++ b)) := by
  show T.need (decide _) _ = _
  rw [decide_eq_true h]
  rfl
theorem mulSD {a : List Nat} {b : Int} (h : a.length * b.toNat ≤ most ∧ -(2 ^ 62) ≤ b ∧ b < 2 ^ 62) : binD .Mult (.str a) (.int b) = .ret (.str (List.replicate b.toNat a).flatten) := by
  show T.need (decide _) _ = _
  rw [decide_eq_true h]
  rfl
theorem e_slice {a : OE} {lo hi : Option OE} {x z : D} {l h : Option Int} (ha : evE C a Γ = .ret x) (hl : evO C lo Γ = .ret l) (hh : evO C hi Γ = .ret h) (hz : sliceD x l h = .ret z) : evE C (.slice a lo hi) Γ = .ret z := by
  rw [evE, ha]
  show (evO C lo Γ).bind _ = _
  rw [hl]
  show (evO C hi Γ).bind _ = _
  rw [hh]
  exact hz
theorem cutS {l : List Nat} {lo hi : Option Int} (h : l.length ≤ most) : sliceD (.str l) lo hi = .ret (.str (cutL l lo hi)) := by
  show T.need (decide _) _ = _
  rw [decide_eq_true h]
  rfl
theorem a_slice {a : OE} {lo hi : Option OE} {P : D → Prop} (h : (evE C a Γ).All (fun x => (evO C lo Γ).All (fun l => (evO C hi Γ).All (fun g => (sliceD x l g).All P E) E) E) E) : (evE C (.slice a lo hi) Γ).All P E := by
  rw [evE]
  exact T.all_bind.mpr (T.all_imp h fun x hx => T.all_bind.mpr (T.all_imp hx fun l hl => T.all_bind.mpr hl))
theorem o_none {P : Option Int → Prop} (p : P none) : (evO C none Γ).All P E := by rw [evO]; exact p
theorem o_some {e : OE} {P : Option Int → Prop} (h : (evE C e Γ).All (fun x => ∃ i, x = .int i ∧ P (some i)) E) : (evO C (some e) Γ).All P E := by
  rw [evO]
  refine T.all_bind.mpr (T.all_imp h fun x hx => ?_)
  obtain ⟨i, rfl, p⟩ := hx
  exact p
theorem ss_setE {i : Nat} {e : OE} {d : D} {fr : Bool} {rest : List OS} {P : Fl → Prop} (h : evX C e Γ = .ret (d, fr)) (hi : i < Γ.length) (hΓ : Γ.set i (some d) = Γ') (hO : gainO fr i ((keepO (al e) (isFlat d) O).filter fun j => decide (j ≠ i)) = O') (k : (exSs C rest Γ' O').All P E) : (exSs C (.set i e :: rest) Γ O).All P E := by
  refine ss_set hi ?_
  rw [h]
  subst hΓ hO
  exact k
/-- with outcomes: the data is given as it comes -/
theorem ss_setA {i : Nat} {e : OE} {R : D → Prop} {rest : List OS} {P : Fl → Prop} (hn : newE e = false) (hi : i < Γ.length) (h : (evE C e Γ).All R E) (k : ∀ d, R d → (exSs C rest (Γ.set i (some d)) ((keepO (al e) (isFlat d) O).filter fun j => decide (j ≠ i))).All P E) : (exSs C (.set i e :: rest) Γ O).All P E :=
  ss_set hi (x_old hn (T.all_imp h fun d r => k d r))
theorem ss_ifE {t : OT} {a rest : List OS} {P : Fl → Prop} (h : evT C t Γ = .ret false) (k : (exSs C rest Γ O).All P E) : (exSs C (.if_ t a [] :: rest) Γ O).All P E :=
  ss_ifF (by rw [h]; exact ⟨rfl, k⟩)
theorem ss_end {P : Fl → Prop} (p : P (.nx Γ O)) : (exSs C [] Γ O).All P E := by rw [exs_nil]; exact p
theorem strs_of : ∀ {xs : List D} {p : Nat → Prop}, (∀ x ∈ xs, ∃ c, x = .str [c] ∧ p c) → ∃ l : List Nat, xs = l.map (fun c => D.str [c]) ∧ ∀ c ∈ l, p c
  | [], _, _ => ⟨[], rfl, fun c h => by cases h⟩
  | x :: xs, p, h => by
    obtain ⟨c, e, pc⟩ := h x List.mem_cons_self
    obtain ⟨l, e2, pl⟩ := strs_of (xs := xs) (p := p) fun y hy => h y (List.mem_cons_of_mem _ hy)
    refine ⟨c :: l, by rw [e, e2]; rfl, fun d hd => ?_⟩
    rcases List.mem_cons.mp hd with z | z
    · rw [z]; exact pc
    · exact pl d z
theorem strsOf_map : ∀ l : List Nat, strsOf (l.map fun c => D.str [c]) = some (l.map fun c => [c])
  | [] => rfl
  | c :: l => by
    show (strsOf (l.map fun c => D.str [c])).map _ = _
    rw [strsOf_map l]
    rfl
theorem joinL_map : ∀ l : List Nat, joinL [] (l.map fun c => [c]) = l
  | [] => rfl
  | [c] => rfl
  | c :: d :: l => by
    show [c] ++ [] ++ joinL [] ((d :: l).map fun c => [c]) = _
    rw [joinL_map (d :: l)]
    rfl
/-- ''.join of single signs -/
theorem join_map {l : List Nat} (h : l.length ≤ most) : methD .join (.str []) [.lst (l.map fun c => D.str [c])] = .ret (.str l) := by
  show (match strsOf (l.map fun c => D.str [c]) with
      | some (ys : List (List Nat)) => T.need (decide ((ys.map (fun z : List Nat => z.length)).sum + ys.length * ([] : List Nat).length ≤ 16777216)) (T.ret (D.str (joinL [] ys)))
      | none => .bad) = _
  rw [strsOf_map]
  show T.need (decide _) _ = _
  have e : ∀ l : List Nat, ((l.map fun c => [c]).map (fun z : List Nat => z.length)).sum = l.length := fun l => by
    induction l with
    | nil => rfl
    | cons c l ih =>
      show 1 + ((l.map fun c => [c]).map (fun z : List Nat => z.length)).sum = _
      rw [ih, List.length_cons]
      omega
  rw [e, joinL_map, decide_eq_true (by simpa [most] using h)]
  rfl
theorem a_join {e : OE} {P : D → Prop} (h : (evE C e Γ).All (fun d => ∃ l : List Nat, d = .lst (l.map fun c => D.str [c]) ∧ l.length ≤ most ∧ P (.str l)) E) : (evE C (.meth .join (.const (.str [])) [e]) Γ).All P E := by
  rw [evE, evE]
  show ((evEs C [e] Γ).bind _).All P E
  refine T.all_bind.mpr (as_cons (T.all_imp h fun d hd => as_nil ?_))
  obtain ⟨l, rfl, hl, p⟩ := hd
  rw [join_map hl]
  exact p
end
end Dy

set_option linter.all false
set_option maxRecDepth 10000
set_option autoImplicit false
/-! Dy, part 25: the same rules behind closed words (so that no goal is run by the elaborator). -/
namespace Dy
open PySem
structure Ot (C : Calls) (os : List OS) (Γ : Gam) (O : List Nat) (P : Fl → Prop) : Prop where
  run : (exSs C os Γ O).All P NX
structure Oe (C : Calls) (e : OE) (Γ : Gam) (P : D → Prop) : Prop where
  run : (evE C e Γ).All P NX
structure Os (C : Calls) (es : List OE) (Γ : Gam) (P : List D → Prop) : Prop where
  run : (evEs C es Γ).All P NX
structure Oc (C : Calls) (f : Str) (ds : List D) (P : D × Bool → Prop) : Prop where
  run : (C f ds).All P NX
structure Oi (C : Calls) (i : OI) (Γ : Gam) (P : List D → Prop) : Prop where
  run : (evI C i Γ).All P NX
structure Oo (C : Calls) (o : Option OE) (Γ : Gam) (P : Option Int → Prop) : Prop where
  run : (evO C o Γ).All P NX
structure Od (x : T D) (P : D → Prop) : Prop where
  run : x.All P NX
structure Ox (C : Calls) (e : OE) (Γ : Gam) (P : D × Bool → Prop) : Prop where
  run : (evX C e Γ).All P NX
section
variable {C : Calls} {Γ Γ' : Gam} {O O' : List Nat}
theorem od_ret {x : T D} {d : D} {P : D → Prop} (h : x = .ret d) (p : P d) : Od x P := ⟨by rw [h]; exact p⟩
theorem oe_ret {e : OE} {x : D} {P : D → Prop} (h : evE C e Γ = .ret x) (p : P x) : Oe C e Γ P := ⟨a_ret h p⟩
theorem oe_bin {op : Operator} {a b : OE} {P : D → Prop} (h : Oe C a Γ fun x => Oe C b Γ fun y => Od (binD op x y) P) : Oe C (.bin op a b) Γ P := ⟨a_bin (T.all_imp h.run fun x hx => T.all_imp hx.run fun y hy => hy.run)⟩
theorem oe_call {f : Str} {args : List OE} {sel : List Sr} {P : D → Prop} (hs : selN sel args.length) (h : Os C args Γ fun ds => Oc C f ds fun r => P r.1) : Oe C (.call f args [] sel []) Γ P := ⟨a_call hs (T.all_imp h.run fun ds hd => hd.run)⟩
theorem oe_callK {f : Str} {e : OE} {P : D → Prop} (h : Oe C e Γ fun x => Oc C f [x] fun r => P r.1) : Oe C (.call f [] [e] [.kw 0] []) Γ P := ⟨a_callK (T.all_imp h.run fun x hx => hx.run)⟩
theorem oc_ret {f : Str} {ds : List D} {r : D × Bool} {P : D × Bool → Prop} (h : C f ds = .ret r) (p : P r) : Oc C f ds P := ⟨by rw [h]; exact p⟩
theorem os_nil {P : List D → Prop} (p : P []) : Os C [] Γ P := ⟨as_nil p⟩
theorem os_ret {es : List OE} {xs : List D} {P : List D → Prop} (h : evEs C es Γ = .ret xs) (p : P xs) : Os C es Γ P := ⟨as_ret h p⟩
theorem os_cons {e : OE} {es : List OE} {P : List D → Prop} (h : Oe C e Γ fun x => Os C es Γ fun xs => P (x :: xs)) : Os C (e :: es) Γ P := ⟨as_cons (T.all_imp h.run fun x hx => hx.run)⟩
theorem oe_lst {es : List OE} {P : D → Prop} (h : Os C es Γ fun ds => P (.lst ds)) : Oe C (.lst es) Γ P := ⟨a_lst h.run⟩
theorem oo_none {P : Option Int → Prop} (p : P none) : Oo C none Γ P := ⟨o_none p⟩
theorem oo_some {e : OE} {P : Option Int → Prop} (h : Oe C e Γ fun x => ∃ i, x = .int i ∧ P (some i)) : Oo C (some e) Γ P := ⟨o_some h.run⟩
theorem oe_slice {a : OE} {lo hi : Option OE} {P : D → Prop} (h : Oe C a Γ fun x => Oo C lo Γ fun l => Oo C hi Γ fun g => Od (sliceD x l g) P) : Oe C (.slice a lo hi) Γ P := ⟨a_slice (T.all_imp h.run fun x hx => T.all_imp hx.run fun l hl => T.all_imp hl.run fun g hg => hg.run)⟩
theorem oe_join {e : OE} {P : D → Prop} (h : Oe C e Γ fun d => ∃ l : List Nat, d = .lst (l.map fun c => D.str [c]) ∧ l.length ≤ most ∧ P (.str l)) : Oe C (.meth .join (.const (.str [])) [e]) Γ P := ⟨a_join h.run⟩
theorem oi_rng1 {a : OE} {P : List D → Prop} (h : Oe C a Γ fun x => ∃ j : Int, x = .int j ∧ -(2 ^ 62) ≤ j ∧ j ≤ 16777216 ∧ P (rangeD 0 j.toNat)) : Oi C (.rng1 a) Γ P := ⟨i_rng1 h.run⟩
/-- a comprehension without a test: what is known of each item -/
theorem oe_lc {oe : OE} {vs : List Nat} {t : Tg} {oi : OI} {R : D → Prop} {P : D → Prop} (h : Oi C oi Γ fun ds => (∀ d ∈ ds, ∃ Γ', bindTg t d (wipeG Γ vs) = some Γ' ∧ Oe C oe Γ' R) ∧ ∀ xs : List D, xs.length = ds.length → (∀ x ∈ xs, R x) → P (.lst xs)) : Oe C (.lc oe vs t oi []) Γ P :=
  ⟨a_lc (T.all_imp h.run fun ds hd => T.all_imp (lcLoop_all (R := R) fun d hdm => by
    obtain ⟨Γ', hb, hr⟩ := hd.1 d hdm
    exact lcF_all hb hr.run) fun xs hx => hd.2 xs hx.1 hx.2)⟩
theorem oc_pull {C' : Calls} (hp : ∀ ds, C' "_law_pull" ds = pullD ds) {n : Int} {P : D × Bool → Prop} (h0 : 0 < n) (h1 : n < 2 ^ 70) (h : ∀ i : Nat, (i : Int) < n → P (.int i, false)) : Oc C' "_law_pull" [.bag, .int n] P := ⟨pull_all hp h0 h1 h⟩
theorem oc_anyL {C' : Calls} (hc : ∀ ds, C "_law_any" ds = runB C' 2 osAny ds) (hp : ∀ ds, C' "_law_pull" ds = pullD ds) {xs : List D} {P : D × Bool → Prop} (h0 : 0 < xs.length) (h1 : (xs.length : Int) < 2 ^ 70) (h : ∀ x ∈ xs, P (x, false)) : Oc C "_law_any" [.bag, .lst xs] P := ⟨any_lst hc hp h0 h1 h⟩
theorem oc_anyS {C' : Calls} (hc : ∀ ds, C "_law_any" ds = runB C' 2 osAny ds) (hp : ∀ ds, C' "_law_pull" ds = pullD ds) {l : List Nat} {P : D × Bool → Prop} (h0 : 0 < l.length) (h1 : l.length ≤ most) (h : ∀ c ∈ l, P (.str [c], false)) : Oc C "_law_any" [.bag, .str l] P := ⟨any_str hc hp h0 h1 h⟩
/-! ### statements -/
theorem ot_setE {i : Nat} {e : OE} {d : D} {fr : Bool} {rest : List OS} {P : Fl → Prop} (h : evX C e Γ = .ret (d, fr)) (hi : i < Γ.length) (hΓ : Γ.set i (some d) = Γ') (hO : gainO fr i ((keepO (al e) (isFlat d) O).filter fun j => decide (j ≠ i)) = O') (k : Ot C rest Γ' O' P) : Ot C (.set i e :: rest) Γ O P := ⟨ss_setE h hi hΓ hO k.run⟩
theorem ot_setA {i : Nat} {e : OE} {R : D → Prop} {rest : List OS} {P : Fl → Prop} (hn : newE e = false) (hi : i < Γ.length) (h : Oe C e Γ R) (k : ∀ d, R d → Ot C rest (Γ.set i (some d)) ((keepO (al e) (isFlat d) O).filter fun j => decide (j ≠ i)) P) : Ot C (.set i e :: rest) Γ O P := ⟨ss_setA hn hi h.run fun d r => (k d r).run⟩
/-- of a call: its object is not kept as one's own -/
theorem ot_setC {i : Nat} {f : Str} {args : List OE} {sel : List Sr} {R : D × Bool → Prop} {rest : List OS} {P : Fl → Prop} (hs : selN sel args.length) (hi : i < Γ.length) (h : Os C args Γ fun ds => Oc C f ds R) (k : ∀ r, R r → Ot C rest (Γ.set i (some r.1)) (gainO r.2 i ((keepO (al (.call f args [] sel [])) (isFlat r.1) O).filter fun j => decide (j ≠ i))) P) : Ot C (.set i (.call f args [] sel []) :: rest) Γ O P :=
  ⟨ss_set hi (x_call hs (T.all_imp h.run fun ds hd => T.all_imp hd.run fun r hr => (k r hr).run))⟩
theorem ot_par2 {i j : Nat} {a b : OE} {rest : List OS} {P : Fl → Prop} (h : Oe C a Γ fun x => Oe C b Γ fun y => Ot C rest ((Γ.set i (some x)).set j (some y)) (((keepO (als [a, b]) (isFlat x && isFlat y) O).filter fun l => decide (l ≠ i)).filter fun l => decide (l ≠ j)) P) : Ot C (.par2 i j a b :: rest) Γ O P :=
  ⟨ss_par2 (T.all_imp h.run fun x hx => T.all_imp hx.run fun y hy => hy.run)⟩
theorem ot_ifE {t : OT} {a rest : List OS} {P : Fl → Prop} (h : evT C t Γ = .ret false) (k : Ot C rest Γ O P) : Ot C (.if_ t a [] :: rest) Γ O P := ⟨ss_ifE h k.run⟩
/-- a test on something drawn, whose answer is known -/
theorem ot_ifN {e : OE} {a rest : List OS} {P : Fl → Prop} (h : Oe C e Γ fun x => x = .bl true) (k : Ot C rest Γ O P) : Ot C (.if_ (.not_ (.e e)) a [] :: rest) Γ O P :=
  ⟨ss_ifF (t_not (t_e (T.all_imp h.run fun x hx => by rw [hx]; exact ⟨rfl, k.run⟩)))⟩
theorem ot_imp {os : List OS} {P Q : Fl → Prop} (h : Ot C os Γ O P) (k : ∀ f, P f → Q f) : Ot C os Γ O Q := ⟨T.all_imp h.run k⟩
theorem law_of {os os' : List OS} {n : Nat} (h : Ot C os' (none :: some .bag :: List.replicate (n - 2) none) [] fun f => ∃ Γ O b, f = .rt (.bl true, b) Γ O) (e : os = os') : LawRest C os n := by
  subst e
  exact ⟨h.run⟩
theorem ot_retE {e : OE} {d : D} {P : Fl → Prop} {rest : List OS} (hn : newE e = false) (hv : ∀ i, e ≠ .var i) (h : evE C e Γ = .ret d) (p : P (.rt (d, false) Γ (keepO (al e) (isFlat d) O))) : Ot C (.ret e :: rest) Γ O P := ⟨by
  rw [seq_rt (x_ret hn hv h)]
  exact p⟩
/-- a for by what stays true: no turn leaves the def -/
theorem ot_forI {tg : Tg} {oi : OI} {b rest : List OS} {ds : List D} {I : Gam → List Nat → Prop} {P : Fl → Prop} (hi : evI C oi Γ = .ret ds) (h0 : I Γ (keepO (alI oi) false O)) (step : ∀ d ∈ ds, ∀ Γ O, I Γ O → ∃ Γ1, bindTg tg d Γ = some Γ1 ∧ Ot C b Γ1 (dropT tg O) fun f => ∃ Γ O, f = .nx Γ O ∧ I Γ O) (k : ∀ Γ O, I Γ O → Ot C rest Γ O P) : Ot C (.for_ tg oi b :: rest) Γ O P := ⟨ss_for (by
  rw [hi]
  refine forL_all (I := I) (fun d hd Γ O hI => ?_) (fun Γ O hI => (k Γ O hI).run) _ _ h0
  obtain ⟨Γ1, e, q⟩ := step d hd Γ O hI
  refine ⟨Γ1, e, T.all_imp q.run fun f hf => ?_⟩
  obtain ⟨Γ2, O2, ef, h2⟩ := hf
  subst ef
  exact h2)⟩
theorem ot_end {P : Fl → Prop} (p : P (.nx Γ O)) : Ot C [] Γ O P := ⟨ss_end p⟩
end
end Dy

set_option Elab.async false
set_option linter.all false
set_option maxRecDepth 100000
set_option maxHeartbeats 0
namespace Lw
open PySem PySem.Spec PyProof.Rows L2 Dy
def top (i : Nat) : Stmt := PySem.Challenge.pw_allcomers_k02_names_and_numbers.main.body.getD i (.Pass ⟨0, 0, 0, 0⟩)
def fns : List ((Str × Nat × List Str) × (List Sr × List D)) := [(("_law_any", 2, []), ([.pos 0, .pos 1], [])), (("_law_bag", 1, []), ([.pos 0], [])), (("_law_pull", 2, []), ([.pos 0, .pos 1], [])), (("_law_same", 2, []), ([.pos 0, .pos 1], [])), (("is_name", 0, ["value"]), ([.kw 0], [])), (("is_name", 1, []), ([.pos 0], [])), (("is_number", 0, ["value"]), ([.kw 0], [])), (("is_number", 1, []), ([.pos 0], []))]
def glb : List (Str × D) := [("MOST_LETTERS", .int 16)]
abbrev s_is_number : Stmt := top 2
def N_is_number : List Str := ["value"]
theorem sc_is_number : FnScope N_is_number ["value"] (defScope s_is_number) := ⟨rfl, rfl, rfl, by decide +kernel, rfl, by decide +kernel, by decide +kernel⟩
def os_is_number : List OS := [
  .ret (.and_ [(.isi (.var 0) [.int]), (.not_ (.isi (.var 0) [.bool]))])]
theorem st_is_number : stripSs ⟨N_is_number, fns, glb⟩ (defScope s_is_number) 400 (defBody s_is_number) = os_is_number := by rfl
def d_is_number : Dn := ⟨"is_number", s_is_number, N_is_number, ["value"], os_is_number⟩
abbrev s_is_name : Stmt := top 3
def N_is_name : List Str := ["value", "sign"]
theorem sc_is_name : FnScope N_is_name ["value"] (defScope s_is_name) := ⟨rfl, rfl, rfl, by decide +kernel, rfl, by decide +kernel, by decide +kernel⟩
def os_is_name : List OS := [
  .if_ (.or_ [(.not_ (.e (.isi (.var 0) [.str]))), (.not_ (.e (.chain .LtE .LtE (.const (.int 1)) (.bcall .len [(.var 0)]) (.const (.int 16)))))]) [
    .ret (.const (.bl false))] [],
  .ret (.bcall .all [(.lc (.chain .LtE .LtE (.const (.str [97])) (.var 1) (.const (.str [122]))) [1] (.n 1) (.e (.var 0)) [])])]
theorem st_is_name : stripSs ⟨N_is_name, fns, glb⟩ (defScope s_is_name) 400 (defBody s_is_name) = os_is_name := by rfl
def d_is_name : Dn := ⟨"is_name", s_is_name, N_is_name, ["value"], os_is_name⟩
abbrev s__law_bag : Stmt := top 5
def N__law_bag : List Str := ["script", "state", "cell"]
theorem sc__law_bag : FnScope N__law_bag ["script"] (defScope s__law_bag) := ⟨rfl, rfl, rfl, by decide +kernel, rfl, by decide +kernel, by decide +kernel⟩
def os__law_bag : List OS := [
  .set 1 (.const (.int 12007)),
  .for_ (.n 2) (.e (.slice (.var 0) none (some (.const (.int 63))))) [
    .set 1 (.bin .Mod (.bcall .int [(.bin .Add (.bin .Add (.bin .Mult (.var 1) (.const (.int 52379))) (.bin .Mod (.bcall .int [(.var 2)]) (.const (.int 2147483423)))) (.const (.int 19)))]) (.const (.int 2147483399)))],
  .ret (.lst [(.lc (.bcall .int [(.var 2)]) [2] (.n 2) (.e (.slice (.var 0) none (some (.const (.int 63))))) []), (.const (.int 0)), (.const (.int 0)), (.var 1), (.const (.int 0))])]
theorem st__law_bag : stripSs ⟨N__law_bag, fns, glb⟩ (defScope s__law_bag) 400 (defBody s__law_bag) = os__law_bag := by rfl
def d__law_bag : Dn := ⟨"_law_bag", s__law_bag, N__law_bag, ["script"], os__law_bag⟩
abbrev s__law_pull : Stmt := top 6
def N__law_pull : List Str := ["bag", "many", "cell", "digit", "state"]
theorem sc__law_pull : FnScope N__law_pull ["bag", "many"] (defScope s__law_pull) := ⟨rfl, rfl, rfl, by decide +kernel, rfl, by decide +kernel, by decide +kernel⟩
def os__law_pull : List OS := [
  .put 0 (.const (.int 4)) (.bin .Add (.sub (.var 0) (.const (.int 4))) (.const (.int 1))),
  .if_ (.and_ [(.e (.cmp .Eq (.sub (.var 0) (.const (.int 2))) (.const (.int 0)))), (.e (.cmp .Lt (.sub (.var 0) (.const (.int 1))) (.bcall .len [(.sub (.var 0) (.const (.int 0)))])))]) [
    .set 2 (.sub (.sub (.var 0) (.const (.int 0))) (.sub (.var 0) (.const (.int 1)))),
    .put 0 (.const (.int 1)) (.bin .Add (.sub (.var 0) (.const (.int 1))) (.const (.int 1))),
    .if_ (.e (.cmp .GtE (.var 2) (.bin .Pow (.const (.int 10)) (.const (.int 18))))) [
      .put 0 (.const (.int 2)) (.var 2)] [],
    .put 0 (.const (.int 3)) (.bin .Mod (.bcall .int [(.bin .Add (.bin .Add (.bin .Mult (.sub (.var 0) (.const (.int 3))) (.const (.int 43711))) (.bin .Mult (.bin .Mod (.bcall .int [(.var 2)]) (.const (.int 2147483423))) (.const (.int 38921)))) (.const (.int 97)))]) (.const (.int 2147483399)))] [],
  .if_ (.e (.cmp .Gt (.sub (.var 0) (.const (.int 2))) (.const (.int 0)))) [
    .set 3 (.bin .Mod (.bcall .int [(.sub (.var 0) (.const (.int 2)))]) (.var 1)),
    .put 0 (.const (.int 2)) (.bin .FloorDiv (.bcall .int [(.sub (.var 0) (.const (.int 2)))]) (.var 1)),
    .ret (.var 3)] [],
  .set 4 (.sub (.var 0) (.const (.int 3))),
  .put 0 (.const (.int 3)) (.bin .Mod (.bcall .int [(.bin .Add (.bin .Add (.bin .Add (.bin .Pow (.var 4) (.const (.int 3))) (.bin .Mult (.var 4) (.const (.int 41179)))) (.bin .Mult (.sub (.var 0) (.const (.int 4))) (.const (.int 1299757)))) (.const (.int 60041)))]) (.const (.int 2147483399))),
  .ret (.bin .Mod (.bcall .int [(.bin .Add (.bin .FloorDiv (.sub (.var 0) (.const (.int 3))) (.const (.int 97))) (.bin .Mult (.bin .Mod (.bcall .int [(.sub (.var 0) (.const (.int 3)))]) (.const (.int 7919))) (.const (.int 59))))]) (.var 1))]
theorem st__law_pull : stripSs ⟨N__law_pull, fns, glb⟩ (defScope s__law_pull) 400 (defBody s__law_pull) = os__law_pull := by rfl
def d__law_pull : Dn := ⟨"_law_pull", s__law_pull, N__law_pull, ["bag", "many"], os__law_pull⟩
abbrev s__law_any : Stmt := top 7
def N__law_any : List Str := ["bag", "things"]
theorem sc__law_any : FnScope N__law_any ["bag", "things"] (defScope s__law_any) := ⟨rfl, rfl, rfl, by decide +kernel, rfl, by decide +kernel, by decide +kernel⟩
def os__law_any : List OS := [
  .ret (.sub (.var 1) (.call "_law_pull" [(.var 0), (.bcall .len [(.var 1)])] [] [.pos 0, .pos 1] []))]
theorem st__law_any : stripSs ⟨N__law_any, fns, glb⟩ (defScope s__law_any) 400 (defBody s__law_any) = os__law_any := by rfl
def d__law_any : Dn := ⟨"_law_any", s__law_any, N__law_any, ["bag", "things"], os__law_any⟩
abbrev s__law_same : Stmt := top 8
def N__law_same : List Str := ["found", "due", "one_y", "two_y"]
theorem sc__law_same : FnScope N__law_same ["found", "due"] (defScope s__law_same) := ⟨rfl, rfl, rfl, by decide +kernel, rfl, by decide +kernel, by decide +kernel⟩
def os__law_same : List OS := [
  .if_ (.e (.isi (.var 1) [.list, .tuple])) [
    .if_ (.or_ [(.e (.cmp .NotEq (.isi (.var 0) [.list]) (.isi (.var 1) [.list]))), (.e (.cmp .NotEq (.isi (.var 0) [.tuple]) (.isi (.var 1) [.tuple])))]) [
      .ret (.const (.bl false))] [],
    .ret (.and_ [(.cmp .Eq (.bcall .len [(.var 0)]) (.bcall .len [(.var 1)])), (.bcall .all [(.lc (.call "_law_same" [(.var 2), (.var 3)] [] [.pos 0, .pos 1] []) [2, 3] (.t [(.n 2), (.n 3)]) (.zip (.var 0) (.var 1)) [])])])] [],
  .if_ (.or_ [(.e (.isN (.var 1))), (.e (.isN (.var 0)))]) [
    .ret (.and_ [(.isN (.var 1)), (.isN (.var 0))])] [],
  .if_ (.or_ [(.e (.cmp .NotEq (.isi (.var 1) [.bool]) (.isi (.var 0) [.bool]))), (.e (.cmp .NotEq (.isi (.var 1) [.int]) (.isi (.var 0) [.int])))]) [
    .ret (.const (.bl false))] [],
  .ret (.and_ [(.cmp .Eq (.isi (.var 1) [.str]) (.isi (.var 0) [.str])), (.cmp .Eq (.var 0) (.var 1))])]
theorem st__law_same : stripSs ⟨N__law_same, fns, glb⟩ (defScope s__law_same) 400 (defBody s__law_same) = os__law_same := by rfl
def d__law_same : Dn := ⟨"_law_same", s__law_same, N__law_same, ["found", "due"], os__law_same⟩
abbrev s_law : Stmt := top 9
def N_law : List Str := ["script", "bag", "abc", "turn", "word", "spot", "sign", "bent", "late", "found", "odd", "number", "k"]
theorem sc_law : FnScope N_law ["script"] (defScope s_law) := ⟨rfl, rfl, rfl, by decide +kernel, rfl, by decide +kernel, by decide +kernel⟩
def os_law : List OS := [
  .set 1 (.call "_law_bag" [(.var 0)] [] [.pos 0] []),
  .set 2 (.const (.str [97, 98, 99, 100, 101, 102, 103, 104, 105, 106, 107, 108, 109, 110, 111, 112, 113, 114, 115, 116, 117, 118, 119, 120, 121, 122])),
  .for_ (.n 3) (.rng1 (.const (.int 8))) [
    .set 4 (.meth .join (.const (.str [])) [(.lc (.call "_law_any" [(.var 1), (.var 2)] [] [.pos 0, .pos 1] []) [12] (.n 12) (.rng1 (.bin .Add (.const (.int 1)) (.call "_law_any" [(.var 1), (.lst [(.const (.int 0)), (.const (.int 1)), (.const (.int 6)), (.const (.int 14)), (.const (.int 15))])] [] [.pos 0, .pos 1] []))) [])]),
    .par2 5 6 (.call "_law_pull" [(.var 1), (.bin .Add (.bcall .len [(.var 4)]) (.const (.int 1)))] [] [.pos 0, .pos 1] []) (.call "_law_any" [(.var 1), (.lst [(.const (.str [65])), (.const (.str [90])), (.const (.str [32])), (.const (.str [48])), (.const (.str [45])), (.const (.str [95])), (.const (.str [46])), (.const (.str [10])), (.const (.str [123])), (.const (.str [126]))])] [] [.pos 0, .pos 1] []),
    .set 7 (.bin .Add (.bin .Add (.slice (.var 4) none (some (.var 5))) (.var 6)) (.slice (.var 4) (some (.bin .Add (.var 5) (.call "_law_pull" [(.var 1), (.const (.int 2))] [] [.pos 0, .pos 1] []))) none)),
    .set 8 (.bin .Add (.var 4) (.call "_law_any" [(.var 1), (.var 2)] [] [.pos 0, .pos 1] [])),
    .set 9 (.lst [(.call "is_name" [(.var 4)] [] [.pos 0] []), (.call "is_name" [(.var 7)] [] [.pos 0] []), (.call "is_name" [] [(.var 8)] [.kw 0] []), (.call "is_name" [(.bin .Add (.var 4) (.bin .Mult (.const (.str [97])) (.bin .Sub (.const (.int 16)) (.bcall .len [(.var 4)]))))] [] [.pos 0] []), (.call "is_name" [(.const (.str []))] [] [.pos 0] [])]),
    .if_ (.not_ (.e (.call "_law_same" [(.var 9), (.lst [(.const (.bl true)), (.const (.bl false)), (.cmp .LtE (.bcall .len [(.var 8)]) (.const (.int 16))), (.const (.bl true)), (.const (.bl false))])] [] [.pos 0, .pos 1] []))) [
      .ret (.const (.bl false))] [],
    .if_ (.not_ (.e (.call "_law_same" [(.lst [(.call "is_name" [(.slice (.bin .Mult (.var 4) (.const (.int 16))) none (some (.const (.int 16))))] [] [.pos 0] []), (.call "is_name" [(.slice (.bin .Mult (.var 4) (.const (.int 17))) none (some (.const (.int 17))))] [] [.pos 0] [])]), (.lst [(.const (.bl true)), (.const (.bl false))])] [] [.pos 0, .pos 1] []))) [
      .ret (.const (.bl false))] [],
    .set 10 (.call "_law_any" [(.var 1), (.lst [(.const .non), (.const (.bl true)), (.const (.bl false)), (.const (.int 7)), (.lst [(.var 4)]), (.tup [(.var 4)]), (.tup [])])] [] [.pos 0, .pos 1] []),
    .set 11 (.call "_law_any" [(.var 1), (.lst [(.const (.int 0)), (.bin .Sub (.const (.int 0)) (.const (.int 1))), (.bin .Pow (.const (.int 10)) (.const (.int 18))), (.call "_law_pull" [(.var 1), (.bin .Pow (.const (.int 10)) (.const (.int 20)))] [] [.pos 0, .pos 1] []), (.bin .Sub (.const (.int 0)) (.call "_law_pull" [(.var 1), (.bin .Pow (.const (.int 10)) (.const (.int 20)))] [] [.pos 0, .pos 1] []))])] [] [.pos 0, .pos 1] []),
    .set 9 (.lst [(.call "is_name" [(.var 10)] [] [.pos 0] []), (.call "is_number" [(.var 11)] [] [.pos 0] []), (.call "is_number" [] [(.var 4)] [.kw 0] []), (.call "is_number" [(.const (.bl true))] [] [.pos 0] []), (.call "is_number" [(.const (.bl false))] [] [.pos 0] [])]),
    .if_ (.not_ (.e (.call "_law_same" [(.bin .Add (.var 9) (.lst [(.call "is_number" [(.const .non)] [] [.pos 0] []), (.call "is_number" [(.lst [(.var 11)])] [] [.pos 0] [])])), (.lst [(.const (.bl false)), (.const (.bl true)), (.const (.bl false)), (.const (.bl false)), (.const (.bl false)), (.const (.bl false)), (.const (.bl false))])] [] [.pos 0, .pos 1] []))) [
      .ret (.const (.bl false))] []],
  .ret (.const (.bl true))]
theorem st_law : stripSs ⟨N_law, fns, glb⟩ (defScope s_law) 400 (defBody s_law) = os_law := by rfl
def d_law : Dn := ⟨"law", s_law, N_law, ["script"], os_law⟩
def ds : List Dn := [d_is_number, d_is_name, d__law_bag, d__law_pull, d__law_any, d__law_same]
def tb : Tb := ds.map fun d => (d.x, d.N.length, d.os)
def hd (f : Str) : Option (List D → T (D × Bool)) := if f = "_law_pull" then some pullD else none
def fn : List He.DefD := (d_law :: ds).map Dn.dd
def fa : List He.Fa := (d_law :: ds).map (fun d => He.Fa.glo d.x) ++ (frees.map He.Fa.free ++ [.int "MOST_LETTERS" 16])
theorem ds_sc : ∀ d ∈ ds, FnScope d.N d.ps (defScope d.st) := fun d h => by
  simp only [ds, List.mem_cons, List.not_mem_nil, or_false] at h
  rcases h with rfl | rfl | rfl | rfl | rfl | rfl
  · exact sc_is_number
  · exact sc_is_name
  · exact sc__law_bag
  · exact sc__law_pull
  · exact sc__law_any
  · exact sc__law_same
theorem ds_st : ∀ d ∈ ds, stripSs ⟨d.N, fns, glb⟩ (defScope d.st) 400 (defBody d.st) = d.os := fun d h => by
  simp only [ds, List.mem_cons, List.not_mem_nil, or_false] at h
  rcases h with rfl | rfl | rfl | rfl | rfl | rfl
  · exact st_is_number
  · exact st_is_name
  · exact st__law_bag
  · exact st__law_pull
  · exact st__law_any
  · exact st__law_same
theorem ds_tb : ∀ d ∈ ds, tb.lookup d.x = some (d.N.length, d.os) := fun d h => by
  simp only [ds, List.mem_cons, List.not_mem_nil, or_false] at h
  rcases h with rfl | rfl | rfl | rfl | rfl | rfl
  · rfl
  · rfl
  · rfl
  · rfl
  · rfl
  · rfl
theorem ds_fn : ∀ q ∈ fns, ∃ d ∈ ds, RowOk d q := fun q h => by
  simp only [fns, List.mem_cons, List.not_mem_nil, or_false] at h
  rcases h with rfl | rfl | rfl | rfl | rfl | rfl | rfl | rfl
  · exact ⟨d__law_any, by simp [ds], rfl, rfl, rfl, fun _ _ _ _ _ _ us ws l1 l2 => match us, ws, l1, l2 with | [_, _], [], _, _ => rfl⟩
  · exact ⟨d__law_bag, by simp [ds], rfl, rfl, rfl, fun _ _ _ _ _ _ us ws l1 l2 => match us, ws, l1, l2 with | [_], [], _, _ => rfl⟩
  · exact ⟨d__law_pull, by simp [ds], rfl, rfl, rfl, fun _ _ _ _ _ _ us ws l1 l2 => match us, ws, l1, l2 with | [_, _], [], _, _ => rfl⟩
  · exact ⟨d__law_same, by simp [ds], rfl, rfl, rfl, fun _ _ _ _ _ _ us ws l1 l2 => match us, ws, l1, l2 with | [_, _], [], _, _ => rfl⟩
  · exact ⟨d_is_name, by simp [ds], rfl, rfl, rfl, fun _ _ _ _ _ _ us ws l1 l2 => match us, ws, l1, l2 with | [], [_], _, _ => rfl⟩
  · exact ⟨d_is_name, by simp [ds], rfl, rfl, rfl, fun _ _ _ _ _ _ us ws l1 l2 => match us, ws, l1, l2 with | [_], [], _, _ => rfl⟩
  · exact ⟨d_is_number, by simp [ds], rfl, rfl, rfl, fun _ _ _ _ _ _ us ws l1 l2 => match us, ws, l1, l2 with | [], [_], _, _ => rfl⟩
  · exact ⟨d_is_number, by simp [ds], rfl, rfl, rfl, fun _ _ _ _ _ _ us ws l1 l2 => match us, ws, l1, l2 with | [_], [], _, _ => rfl⟩
theorem ds_hd {P : Program} {w : World} {K : PySem.W.Frag} {mg : Str → Option Value} {base : Heap} : ∀ d ∈ ds, ∀ g, hd d.x = some g → ∀ (k : Nat) (C : Calls) (fd : FuncData), Mo P w K mg base glb fns C k → d.FunIs K (He.ga K d.x) fd → FnOk P w K mg base (L2.CX P w) (k + 1) (He.ga K d.x) fd d.ps (spD K d.ps.length g) := fun d h g e k C fd M F => by
  simp only [ds, List.mem_cons, List.not_mem_nil, or_false] at h
  rcases h with rfl | rfl | rfl | rfl | rfl | rfl
  · rw [show hd d_is_number.x = none from rfl] at e
    cases e
  · rw [show hd d_is_name.x = none from rfl] at e
    cases e
  · rw [show hd d__law_bag.x = none from rfl] at e
    cases e
  · rw [show hd d__law_pull.x = some pullD from rfl] at e
    cases e
    exact fn_pull M d__law_pull F sc__law_pull 400 st__law_pull rfl (by decide) (by decide) (pull_ok C)
  · rw [show hd d__law_any.x = none from rfl] at e
    cases e
  · rw [show hd d__law_same.x = none from rfl] at e
    cases e
section
variable {P : Program} {w : World} {K : PySem.W.Frag} {mg : Str → Option Value} {base h : Heap}
theorem glb_ok (X : K.In h) (G : h.Ns mainGlobals mg) (c : He.SaysD fa fn K) : ∀ x d, glb.lookup x = some d → ∃ u v, mg x = some u ∧ RelV v u ∧ ∀ bg S H, Rep K bg S H d v := fun x d e => by
  have m := lk_mem e
  simp only [glb, List.mem_cons, List.not_mem_nil, or_false, Prod.mk.injEq] at m
  rcases m with ⟨rfl, rfl⟩
  · obtain ⟨t, e⟩ := He.int_ok X G (c.fact 20 (f := .int "MOST_LETTERS" 16) rfl)
    exact ⟨_, .int _, e, ⟨t, rfl⟩, fun _ _ _ => rfl⟩
theorem mo (X : K.In h) (G : h.Ns mainGlobals mg) (c : He.SaysD fa fn K) : ∀ k, Mo P w K mg base glb fns (run tb hd k) k :=
  mo_all (n := 400) (glb_ok X G c) (fun x hx => He.free_ok X G (says_mem c (List.mem_append_right _ (List.mem_append_left _ (List.mem_map.mpr ⟨x, hx, rfl⟩))))) ds_sc
    (fun d hd => says_fun (ds := d_law :: ds) c (List.mem_cons_of_mem _ hd)) (fun d hd => He.glo_ok X G (says_mem c (List.mem_append_left _ (List.mem_map.mpr ⟨d, List.mem_cons_of_mem _ hd, rfl⟩)))) ds_st ds_hd ds_tb ds_fn
abbrev R : PySem.W.OpenRow := PySem.W.OpenLaw.row PySem.Challenge.rw_allcomers_k02_names_and_numbers
abbrev hk : PySem.W.Hook := He.hookD 4 fa fn
def ob (s : PySem.W.SharedT) : He.AlD := He.obsDG 4 fa fn (HandSHeadRun.getT s)
theorem ob_eq (s : PySem.W.SharedT) : ob s = hk.obs s.abs := He.obsDG_eq (HandSHeadRun.getT_eq s)
def loose : List Str := ["__name__", "MOST_LETTERS", "is_number", "is_name", "_law_bag", "_law_pull", "_law_any", "_law_same"]
theorem run_eq (w : World) : HandSHeadRun.RunEq R (PySem.W.view R.prog [9]) hk ob 4000 loose w := by
  intro os
  kernel_rfl
theorem bag_same : osBag = os__law_bag := rfl
/-- the law's def, from what its data says -/
theorem facts (hl : LawRest (run tb hd 9) (os_law.drop 1) N_law.length) (X : K.In h) (G : h.Ns mainGlobals mg) {f : Addr} (hfa : mg ("law" : Str) = some (.ref f)) (c : He.SaysD fa fn K) :
    ∃ fd : FuncData, (∀ (s : Shared) (v : Value), BindsTo s fd ⟨[v], []⟩ [("script", v)]) ∧ ∀ base : Heap, K.In base → base.Ns mainGlobals mg → FnOk P w K mg base (L2.CX P w) (9 + 1) f fd ["script"] (spLaw K) := by
  obtain ⟨fd, F⟩ := says_fun (ds := d_law :: ds) c (List.mem_cons_self)
  have e := hfa.symm.trans (He.glo_ok X G (says_mem c (List.mem_append_left _ (List.mem_map.mpr ⟨d_law, List.mem_cons_self, rfl⟩))))
  cases e
  have b := FunD.bindsA (ps := ["script"]) F fun _ _ _ _ _ _ us hl => match us, hl with | [_], _ => rfl
  refine ⟨fd, fun s v => b s [v] rfl, fun base _ _ => fn_law (mo X G c 9) d_law F sc_law 400 _ (os_law.drop 1) st_law rfl (by decide) (bag_ok (C' := run tb hd 8) (by decide) fun a ns => rfl) hl⟩
end
end Lw

set_option linter.all false
set_option maxRecDepth 10000
set_option autoImplicit false
/-! the law k02 in plain data -/
namespace Lw
open PySem Dy
def low (c : Nat) : Bool := decide (97 ≤ c) && decide (c ≤ 122)
theorem le1 (a b : Nat) : decide (([a] : List Nat) ≤ [b]) = decide (a ≤ b) := by
  apply decide_eq_decide.mpr
  rw [List.cons_le_cons_iff]
  constructor
  · rintro (h | ⟨h, _⟩)
    · exact Nat.le_of_lt h
    · exact Nat.le_of_eq h
  · intro h
    rcases Nat.lt_or_eq_of_le h with h | h
    · exact .inl h
    · exact .inr ⟨h, Std.le_refl _⟩
def isName (l : List Nat) : Bool := decide (1 ≤ l.length) && decide (l.length ≤ 16) && l.all low
theorem name_str (C : Calls) {l : List Nat} (hl : l.length ≤ most) : runB C 2 os_is_name [.str l] = .ret (.bl (isName l), false) := by
  show ((exSs C os_is_name [some (.str l), none] []).bind _) = _
  have len : evE C (.bcall .len [(.var 0)]) [some (.str l), none] = .ret (.int l.length) := e_b1 rfl (lenS hl)
  have ch : evE C (.chain .LtE .LtE (.const (.int 1)) (.bcall .len [(.var 0)]) (.const (.int 16))) [some (.str l), none] = .ret (.bl (decide ((1 : Int) ≤ l.length) && decide ((l.length : Int) ≤ 16))) := e_chain rfl len rfl rfl rfl
  have d1 : decide ((1 : Int) ≤ l.length) = decide (1 ≤ l.length) := by apply decide_eq_decide.mpr; omega
  have d2 : decide ((l.length : Int) ≤ 16) = decide (l.length ≤ 16) := by apply decide_eq_decide.mpr; omega
  rw [d1, d2] at ch
  have t : evT C (.or_ [(.not_ (.e (.isi (.var 0) [.str]))), (.not_ (.e (.chain .LtE .LtE (.const (.int 1)) (.bcall .len [(.var 0)]) (.const (.int 16)))))]) [some (.str l), none] = .ret (!true || !(decide (1 ≤ l.length) && decide (l.length ≤ 16))) :=
    t_or2 (te_not (te_bl rfl)) (te_not (te_bl ch))
  unfold os_is_name isName
  rw [exSs, x_if t]
  cases hb : (decide (1 ≤ l.length) && decide (l.length ≤ 16)) with
  | false => rfl
  | true =>
    rw [if_neg (by decide), exs_nil]
    have it : evI C (.e (.var 0)) [some (.str l), none] = .ret (l.map fun c => D.str [c]) := i_str rfl hl
    have lp : lcLoop (lcF C (.n 1) [1] [] (.chain .LtE .LtE (.const (.str [97])) (.var 1) (.const (.str [122]))) [some (.str l), none]) (l.map fun c => D.str [c]) = .ret (l.map fun c => D.bl (low c)) :=
      lcLoop_mapG l fun c _ => by
        refine lcF_eq (Γ' := [some (.str l), some (.str [c])]) rfl ?_
        have := e_chain (C := C) (Γ := [some (.str l), some (.str [c])]) (op := .LtE) (op' := .LtE) (a := .const (.str [97])) (b := .var 1) (c := .const (.str [122])) (x := .str [97]) (y := .str [c]) (z := .str [122]) (p := decide (([97] : List Nat) ≤ [c])) (q := decide (([c] : List Nat) ≤ [122])) rfl rfl rfl rfl rfl
        rw [le1, le1] at this
        exact this
    have al : evE C (.bcall .all [(.lc (.chain .LtE .LtE (.const (.str [97])) (.var 1) (.const (.str [122]))) [1] (.n 1) (.e (.var 0)) [])]) [some (.str l), none] = .ret (.bl (l.all low)) := e_b1 (e_lc it lp) (all_map low l)
    show ((exSs C [_] [some (.str l), none] []).bind _) = _
    rw [seq_rt (x_ret rfl (fun i z => by cases z) al)]
    rfl
theorem name_not (C : Calls) {d : D} (h : isTys d [.str] = some false) : runB C 2 os_is_name [d] = .ret (.bl false, false) := by
  show ((exSs C os_is_name [some d, none] []).bind _) = _
  have i1 : evE C (.isi (.var 0) [.str]) [some d, none] = .ret (.bl false) := by
    rw [evE]
    show blT (isTys d [.str]) = _
    rw [h]
    rfl
  unfold os_is_name
  rw [exSs, x_if (te_orT (te_not (te_bl i1)))]
  rfl
theorem same_bl (C : Calls) (b : Bool) : runB C 4 os__law_same [.bl b, .bl b] = .ret (.bl true, false) := by cases b <;> rfl
theorem zip_same {α : Type} (f : α → D) : ∀ xs : List α, zipD (xs.map f) (xs.map f) = xs.map fun x => .tup [f x, f x]
  | [] => rfl
  | x :: xs => by
    show D.tup [f x, f x] :: zipD (xs.map f) (xs.map f) = _
    rw [zip_same f xs]
    rfl
theorem same_lst (C : Calls) (hC : ∀ b, C "_law_same" [.bl b, .bl b] = .ret (.bl true, false)) (bs : List Bool) : runB C 4 os__law_same [.lst (bs.map D.bl), .lst (bs.map D.bl)] = .ret (.bl true, false) := by
  have lp : lcLoop (lcF C (.t [(.n 2), (.n 3)]) [2, 3] [] (.call "_law_same" [(.var 2), (.var 3)] [] [.pos 0, .pos 1] []) [some (.lst (bs.map D.bl)), some (.lst (bs.map D.bl)), none, none]) (zipD (bs.map D.bl) (bs.map D.bl)) = .ret (bs.map fun b => D.bl ((fun _ => true) b)) := by
    rw [zip_same]
    refine lcLoop_mapG bs fun b _ => ?_
    exact lcF_eq (Γ' := [some (.lst (bs.map D.bl)), some (.lst (bs.map D.bl)), some (.bl b), some (.bl b)]) rfl (e_call (r := (.bl true, false)) sel2 (es_cons rfl (es_cons rfl es_nil)) rfl (hC b))
  have al : evE C (.bcall .all [(.lc (.call "_law_same" [(.var 2), (.var 3)] [] [.pos 0, .pos 1] []) [2, 3] (.t [(.n 2), (.n 3)]) (.zip (.var 0) (.var 1)) [])]) [some (.lst (bs.map D.bl)), some (.lst (bs.map D.bl)), none, none] = .ret (.bl (bs.all fun _ => true)) :=
    e_b1 (e_lc (by rfl) lp) (all_map (fun _ => true) bs)
  have tt : (bs.all fun _ => true) = true := by simp
  rw [tt] at al
  have eq : evE C (.cmp .Eq (.bcall .len [(.var 0)]) (.bcall .len [(.var 1)])) [some (.lst (bs.map D.bl)), some (.lst (bs.map D.bl)), none, none] = .ret (.bl true) := by
    refine e_cmp (x := .int (bs.map D.bl).length) (y := .int (bs.map D.bl).length) rfl rfl ?_
    show T.ret (D.bl (((bs.map D.bl).length : Int) == ((bs.map D.bl).length : Int))) = _
    rw [beq_self_eq_true]
  show ((exSs C os__law_same [some (.lst (bs.map D.bl)), some (.lst (bs.map D.bl)), none, none] []).bind _) = _
  unfold os__law_same
  have t1 : evT C (.e (.isi (.var 1) [.list, .tuple])) [some (.lst (bs.map D.bl)), some (.lst (bs.map D.bl)), none, none] = .ret true := rfl
  rw [exSs, x_if t1, if_pos rfl]
  have t2 : evT C (.or_ [(.e (.cmp .NotEq (.isi (.var 0) [.list]) (.isi (.var 1) [.list]))), (.e (.cmp .NotEq (.isi (.var 0) [.tuple]) (.isi (.var 1) [.tuple])))]) [some (.lst (bs.map D.bl)), some (.lst (bs.map D.bl)), none, none] = .ret false := rfl
  rw [exSs, x_if t2, if_neg (by decide), exs_nil]
  show (((exSs C [_] _ []).bind _).bind _) = _
  rw [seq_rt (x_ret rfl (fun i z => by cases z) (e_and2 eq al))]
  rfl
end Lw

set_option linter.all false
set_option maxRecDepth 10000
set_option autoImplicit false
set_option maxHeartbeats 200000
/-! the law k02 in plain data: a turn -/
namespace Lw
open PySem Dy
def tl10 : List OS := .if_ (.not_ (.e (.call "_law_same" [(.bin .Add (.var 9) (.lst [(.call "is_number" [(.const .non)] [] [.pos 0] []), (.call "is_number" [(.lst [(.var 11)])] [] [.pos 0] [])])), (.lst [(.const (.bl false)), (.const (.bl true)), (.const (.bl false)), (.const (.bl false)), (.const (.bl false)), (.const (.bl false)), (.const (.bl false))])] [] [.pos 0, .pos 1] []))) [
      .ret (.const (.bl false))] [] :: []
def tl9 : List OS := .set 9 (.lst [(.call "is_name" [(.var 10)] [] [.pos 0] []), (.call "is_number" [(.var 11)] [] [.pos 0] []), (.call "is_number" [] [(.var 4)] [.kw 0] []), (.call "is_number" [(.const (.bl true))] [] [.pos 0] []), (.call "is_number" [(.const (.bl false))] [] [.pos 0] [])]) :: tl10
def tl8 : List OS := .set 11 (.call "_law_any" [(.var 1), (.lst [(.const (.int 0)), (.bin .Sub (.const (.int 0)) (.const (.int 1))), (.bin .Pow (.const (.int 10)) (.const (.int 18))), (.call "_law_pull" [(.var 1), (.bin .Pow (.const (.int 10)) (.const (.int 20)))] [] [.pos 0, .pos 1] []), (.bin .Sub (.const (.int 0)) (.call "_law_pull" [(.var 1), (.bin .Pow (.const (.int 10)) (.const (.int 20)))] [] [.pos 0, .pos 1] []))])] [] [.pos 0, .pos 1] []) :: tl9
def tl7 : List OS := .set 10 (.call "_law_any" [(.var 1), (.lst [(.const .non), (.const (.bl true)), (.const (.bl false)), (.const (.int 7)), (.lst [(.var 4)]), (.tup [(.var 4)]), (.tup [])])] [] [.pos 0, .pos 1] []) :: tl8
def tl6 : List OS := .if_ (.not_ (.e (.call "_law_same" [(.lst [(.call "is_name" [(.slice (.bin .Mult (.var 4) (.const (.int 16))) none (some (.const (.int 16))))] [] [.pos 0] []), (.call "is_name" [(.slice (.bin .Mult (.var 4) (.const (.int 17))) none (some (.const (.int 17))))] [] [.pos 0] [])]), (.lst [(.const (.bl true)), (.const (.bl false))])] [] [.pos 0, .pos 1] []))) [
      .ret (.const (.bl false))] [] :: tl7
def tl5 : List OS := .if_ (.not_ (.e (.call "_law_same" [(.var 9), (.lst [(.const (.bl true)), (.const (.bl false)), (.cmp .LtE (.bcall .len [(.var 8)]) (.const (.int 16))), (.const (.bl true)), (.const (.bl false))])] [] [.pos 0, .pos 1] []))) [
      .ret (.const (.bl false))] [] :: tl6
def tl4 : List OS := .set 9 (.lst [(.call "is_name" [(.var 4)] [] [.pos 0] []), (.call "is_name" [(.var 7)] [] [.pos 0] []), (.call "is_name" [] [(.var 8)] [.kw 0] []), (.call "is_name" [(.bin .Add (.var 4) (.bin .Mult (.const (.str [97])) (.bin .Sub (.const (.int 16)) (.bcall .len [(.var 4)]))))] [] [.pos 0] []), (.call "is_name" [(.const (.str []))] [] [.pos 0] [])]) :: tl5
def tl3 : List OS := .set 8 (.bin .Add (.var 4) (.call "_law_any" [(.var 1), (.var 2)] [] [.pos 0, .pos 1] [])) :: tl4
def tl2 : List OS := .set 7 (.bin .Add (.bin .Add (.slice (.var 4) none (some (.var 5))) (.var 6)) (.slice (.var 4) (some (.bin .Add (.var 5) (.call "_law_pull" [(.var 1), (.const (.int 2))] [] [.pos 0, .pos 1] []))) none)) :: tl3
def tl1 : List OS := .par2 5 6 (.call "_law_pull" [(.var 1), (.bin .Add (.bcall .len [(.var 4)]) (.const (.int 1)))] [] [.pos 0, .pos 1] []) (.call "_law_any" [(.var 1), (.lst [(.const (.str [65])), (.const (.str [90])), (.const (.str [32])), (.const (.str [48])), (.const (.str [45])), (.const (.str [95])), (.const (.str [46])), (.const (.str [10])), (.const (.str [123])), (.const (.str [126]))])] [] [.pos 0, .pos 1] []) :: tl2
def tl0 : List OS := .set 4 (.meth .join (.const (.str [])) [(.lc (.call "_law_any" [(.var 1), (.var 2)] [] [.pos 0, .pos 1] []) [12] (.n 12) (.rng1 (.bin .Add (.const (.int 1)) (.call "_law_any" [(.var 1), (.lst [(.const (.int 0)), (.const (.int 1)), (.const (.int 6)), (.const (.int 14)), (.const (.int 15))])] [] [.pos 0, .pos 1] []))) [])]) :: tl1
abbrev C9 : Calls := run tb hd 9
theorem hAny (ds : List D) : C9 "_law_any" ds = runB (run tb hd 8) 2 osAny ds := rfl
theorem hPull8 (ds : List D) : run tb hd 8 "_law_pull" ds = pullD ds := rfl
theorem hPull (ds : List D) : C9 "_law_pull" ds = pullD ds := rfl
theorem nm {l : List Nat} (hl : l.length ≤ most) : C9 "is_name" [.str l] = .ret (.bl (isName l), false) := name_str (run tb hd 8) hl
theorem nn {d : D} (h : isTys d [.str] = some false) : C9 "is_name" [d] = .ret (.bl false, false) := name_not (run tb hd 8) h
theorem sm (bs : List Bool) : C9 "_law_same" [.lst (bs.map D.bl), .lst (bs.map D.bl)] = .ret (.bl true, false) := same_lst (run tb hd 8) (fun b => same_bl (run tb hd 7) b) bs
theorem isName_bad {l : List Nat} {c : Nat} (h : c ∈ l) (hc : low c = false) : isName l = false := by
  unfold isName
  have : l.all low = false := by
    rw [List.all_eq_false]
    exact ⟨c, h, by rw [hc]; exact Bool.false_ne_true⟩
  rw [this, Bool.and_false]
theorem isName_ok {l : List Nat} (h1 : 1 ≤ l.length) (h : ∀ c ∈ l, low c = true) : isName l = decide (l.length ≤ 16) := by
  unfold isName
  have : l.all low = true := List.all_eq_true.mpr h
  rw [this, decide_eq_true h1]
  simp
def abc : List Nat := [97, 98, 99, 100, 101, 102, 103, 104, 105, 106, 107, 108, 109, 110, 111, 112, 113, 114, 115, 116, 117, 118, 119, 120, 121, 122]
theorem abc_low : ∀ c ∈ abc, low c = true := by decide
def TurnEnd (f : Fl) : Prop := ∃ Γ', f = .nx (none :: some .bag :: some (.str abc) :: Γ') [9] ∧ Γ'.length = 10
theorem cut_len {α : Type} (l : List α) (a b : Option Int) : (cutL l a b).length ≤ l.length := by
  unfold cutL
  rw [List.length_take, List.length_drop]
  omega
theorem cut_pre {α : Type} (l : List α) (n : Nat) (h : n ≤ l.length) : cutL l none (some (n : Int)) = l.take n := by
  unfold cutL cutIx
  have : ¬ (n : Int) < 0 := by omega
  simp only [if_neg this, List.drop_zero, Nat.sub_zero, Int.toNat_natCast]
  rw [Nat.min_eq_left h]
theorem rep_mem {α : Type} {l : List α} {p : α → Prop} (h : ∀ x ∈ l, p x) (n : Nat) : ∀ x ∈ (List.replicate n l).flatten, p x := fun x hx => by
  obtain ⟨m, hm, hx⟩ := List.mem_flatten.mp hx
  rw [List.eq_of_mem_replicate hm] at hx
  exact h x hx
theorem rep_len {α : Type} (l : List α) (n : Nat) : (List.replicate n l).flatten.length = n * l.length := by
  rw [List.length_flatten, List.map_replicate, List.sum_replicate_nat]
theorem numOf (i : Int) : C9 "is_number" [.int i] = .ret (.bl true, false) := rfl
theorem numStr (l : List Nat) : C9 "is_number" [.str l] = .ret (.bl false, false) := rfl
theorem numBl (b : Bool) : C9 "is_number" [.bl b] = .ret (.bl false, false) := rfl
theorem numNon : C9 "is_number" [.non] = .ret (.bl false, false) := rfl
theorem numLst (xs : List D) : C9 "is_number" [.lst xs] = .ret (.bl false, false) := rfl
theorem keep9 (A : List Nat) (fl : Bool) (h : decide (9 ∉ A) = true) : keepO A fl [9] = [9] := by
  cases fl with
  | true => rfl
  | false =>
    show [9].filter (fun i => decide (i ∉ A)) = [9]
    rw [List.filter_cons, h]
    rfl
theorem keepN (A : List Nat) (fl : Bool) : keepO A fl [] = [] := by cases fl <;> rfl
/-- behind the second found -/
theorem turn4 (l : List Nat) (x3 x5 x6 x7 x8 x9 x12 : Option D) (odd : D) (num : Int) (h : isTys odd [.str] = some false) :
    Ot C9 tl9 [none, some .bag, some (.str abc), x3, some (.str l), x5, x6, x7, x8, x9, some odd, some (.int num), x12] [9] TurnEnd := by
  have e1 : evEs C9 [(.call "is_name" [(.var 10)] [] [.pos 0] []), (.call "is_number" [(.var 11)] [] [.pos 0] []), (.call "is_number" [] [(.var 4)] [.kw 0] []), (.call "is_number" [(.const (.bl true))] [] [.pos 0] []), (.call "is_number" [(.const (.bl false))] [] [.pos 0] [])]
      [none, some .bag, some (.str abc), x3, some (.str l), x5, x6, x7, x8, x9, some odd, some (.int num), x12] = .ret [.bl false, .bl true, .bl false, .bl false, .bl false] :=
    es_cons (e_call sel1 (es_cons rfl es_nil) rfl (nn h)) (es_cons (e_call sel1 (es_cons rfl es_nil) rfl (numOf num)) (es_cons (e_callK rfl (numStr l)) (es_cons (e_call sel1 (es_cons rfl es_nil) rfl (numBl true)) (es_cons (e_call sel1 (es_cons rfl es_nil) rfl (numBl false)) es_nil))))
  unfold tl9
  refine ot_setE (Γ' := [none, some .bag, some (.str abc), x3, some (.str l), x5, x6, x7, x8, some (.lst [.bl false, .bl true, .bl false, .bl false, .bl false]), some odd, some (.int num), x12]) (O' := [9]) (x_lstE e1) (by simp) rfl rfl ?_
  have e2 : evEs C9 [(.call "is_number" [(.const .non)] [] [.pos 0] []), (.call "is_number" [(.lst [(.var 11)])] [] [.pos 0] [])] [none, some .bag, some (.str abc), x3, some (.str l), x5, x6, x7, x8, some (.lst [.bl false, .bl true, .bl false, .bl false, .bl false]), some odd, some (.int num), x12] = .ret [.bl false, .bl false] :=
    es_cons (e_call sel1 (es_cons rfl es_nil) rfl numNon) (es_cons (e_call sel1 (es_cons (e_lst (es_cons rfl es_nil)) es_nil) rfl (numLst [.int num])) es_nil)
  have s7 : C9 "_law_same" [.lst [.bl false, .bl true, .bl false, .bl false, .bl false, .bl false, .bl false], .lst [.bl false, .bl true, .bl false, .bl false, .bl false, .bl false, .bl false]] = .ret (.bl true, false) := sm [false, true, false, false, false, false, false]
  have q1 : evE C9 (.bin .Add (.var 9) (.lst [(.call "is_number" [(.const .non)] [] [.pos 0] []), (.call "is_number" [(.lst [(.var 11)])] [] [.pos 0] [])])) [none, some .bag, some (.str abc), x3, some (.str l), x5, x6, x7, x8, some (.lst [.bl false, .bl true, .bl false, .bl false, .bl false]), some odd, some (.int num), x12] = .ret (.lst [.bl false, .bl true, .bl false, .bl false, .bl false, .bl false, .bl false]) :=
    e_bin rfl (e_lst e2) (addL (a := [.bl false, .bl true, .bl false, .bl false, .bl false]) (b := [.bl false, .bl false]) (by simp [most]))
  have q2 : evE C9 (.lst [(.const (.bl false)), (.const (.bl true)), (.const (.bl false)), (.const (.bl false)), (.const (.bl false)), (.const (.bl false)), (.const (.bl false))]) [none, some .bag, some (.str abc), x3, some (.str l), x5, x6, x7, x8, some (.lst [.bl false, .bl true, .bl false, .bl false, .bl false]), some odd, some (.int num), x12] = .ret (.lst [.bl false, .bl true, .bl false, .bl false, .bl false, .bl false, .bl false]) := rfl
  unfold tl10
  exact ot_ifE (te_not (te_bl (b := true) (e_call sel2 (es_cons q1 (es_cons q2 es_nil)) rfl s7))) (ot_end ⟨_, rfl, rfl⟩)
end Lw

set_option linter.all false
set_option maxRecDepth 10000
set_option autoImplicit false
/-! the law k02 in plain data: the whole turn -/
namespace Lw
open PySem Dy
theorem turn3b (l : List Nat) (x3 x5 x6 x7 x8 x9 x11 x12 : Option D) (odd : D) (h : isTys odd [.str] = some false) :
    Ot C9 tl8 [none, some .bag, some (.str abc), x3, some (.str l), x5, x6, x7, x8, x9, some odd, x11, x12] [9] TurnEnd := by
  unfold tl8
  have p18 : evE C9 (.bin .Pow (.const (.int 10)) (.const (.int 18))) [none, some .bag, some (.str abc), x3, some (.str l), x5, x6, x7, x8, x9, some odd, x11, x12] = .ret (.int ((10 : Int) ^ (18 : Int).toNat)) := e_bin rfl rfl (powD ⟨by decide, by decide, by decide⟩)
  have p20 : evE C9 (.bin .Pow (.const (.int 10)) (.const (.int 20))) [none, some .bag, some (.str abc), x3, some (.str l), x5, x6, x7, x8, x9, some odd, x11, x12] = .ret (.int ((10 : Int) ^ (20 : Int).toNat)) := e_bin rfl rfl (powD ⟨by decide, by decide, by decide⟩)
  have pu : ∀ P : D → Prop, (∀ i : Nat, P (.int i)) → Oe C9 (.call "_law_pull" [(.var 1), (.bin .Pow (.const (.int 10)) (.const (.int 20)))] [] [.pos 0, .pos 1] []) [none, some .bag, some (.str abc), x3, some (.str l), x5, x6, x7, x8, x9, some odd, x11, x12] P := fun P hP =>
    oe_call sel2 (os_ret (es_cons rfl (es_cons p20 es_nil)) (oc_pull hPull (by decide +kernel) (by decide +kernel) fun i _ => hP i))
  refine ot_setC (R := fun r => r.2 = false ∧ ∃ n, r.1 = .int n) sel2 (by simp) ?_ ?_
  · refine os_cons (oe_ret (x := .bag) rfl (os_cons (oe_lst ?_)))
    refine os_cons (oe_ret (x := .int 0) rfl (os_cons (oe_ret (x := .int (0 - 1)) rfl (os_cons (oe_ret p18 (os_cons (pu _ fun a => ?_)))))))
    refine os_cons (oe_bin (oe_ret (x := .int 0) rfl (pu _ fun b => od_ret (d := .int (0 - (b : Int))) rfl (os_nil (os_nil ?_)))))
    refine oc_anyL hAny hPull8 (by simp) (by simp) fun x hx => ?_
    simp only [List.mem_cons, List.not_mem_nil, or_false] at hx
    rcases hx with rfl | rfl | rfl | rfl | rfl <;> exact ⟨rfl, _, rfl⟩
  · rintro ⟨x, fr⟩ ⟨h1, n, h2⟩
    dsimp only at h1 h2
    subst h1 h2
    exact turn4 l x3 x5 x6 x7 x8 x9 x12 odd n h
theorem turn3 (l : List Nat) (x3 x5 x6 x7 x8 x9 x10 x11 x12 : Option D) :
    Ot C9 tl7 [none, some .bag, some (.str abc), x3, some (.str l), x5, x6, x7, x8, x9, x10, x11, x12] [9] TurnEnd := by
  unfold tl7
  refine ot_setC (R := fun r => r.2 = false ∧ isTys r.1 [.str] = some false) sel2 (by simp) (os_ret (xs := [.bag, .lst [.non, .bl true, .bl false, .int 7, .lst [.str l], .tup [.str l], .tup []]]) rfl (oc_anyL hAny hPull8 (by simp) (by simp) fun x hx => ?_)) ?_
  · simp only [List.mem_cons, List.not_mem_nil, or_false] at hx
    rcases hx with rfl | rfl | rfl | rfl | rfl | rfl | rfl <;> exact ⟨rfl, rfl⟩
  · rintro ⟨x, fr⟩ ⟨h1, h2⟩
    dsimp only at h1 h2
    subst h1
    have e : gainO false 10 ((keepO (al (.call "_law_any" [(.var 1), (.lst [(.const .non), (.const (.bl true)), (.const (.bl false)), (.const (.int 7)), (.lst [(.var 4)]), (.tup [(.var 4)]), (.tup [])])] [] [.pos 0, .pos 1] [])) (isFlat x) [9]).filter fun j => decide (j ≠ 10)) = [9] := by
      rw [keep9 _ _ (by decide)]
      rfl
    rw [e]
    exact turn3b l x3 x5 x6 x7 x8 x9 x11 x12 x h2
theorem most16 {n : Nat} (h : n ≤ 1000) : n ≤ most := by unfold most; omega
/-- behind bent and late -/
theorem turn2b (l bent late : List Nat) (x3 x5 x6 x9 x10 x11 x12 : Option D) (O : List Nat) (hO : O = [] ∨ O = [9]) (h1 : 1 ≤ l.length) (h2 : l.length ≤ 16) (hl : ∀ c ∈ l, low c = true) (hb : isName bent = false) (hb2 : bent.length ≤ 1000) (ha : late.length ≤ 1000) (hn : isName late = decide (late.length ≤ 16)) :
    Ot C9 tl4 [none, some .bag, some (.str abc), x3, some (.str l), x5, x6, some (.str bent), some (.str late), x9, x10, x11, x12] O TurnEnd := by
  have hm : l.length ≤ most := most16 (by omega)
  have hz : ((16 : Int) - l.length).toNat = 16 - l.length := by omega
  have hp : (l ++ (List.replicate ((16 : Int) - l.length).toNat [97]).flatten).length = 16 := by rw [List.length_append, rep_len, hz]; simp; omega
  have n1 : C9 "is_name" [.str l] = .ret (.bl true, false) := by rw [nm hm, isName_ok h1 hl, decide_eq_true h2]
  have n2 : C9 "is_name" [.str bent] = .ret (.bl false, false) := by rw [nm (most16 hb2), hb]
  have n3 : C9 "is_name" [.str late] = .ret (.bl (decide ((late.length : Int) ≤ 16)), false) := by
    rw [nm (most16 ha), hn]
    congr 3
    apply decide_eq_decide.mpr
    omega
  have n4 : C9 "is_name" [.str (l ++ (List.replicate ((16 : Int) - l.length).toNat [97]).flatten)] = .ret (.bl true, false) := by
    rw [nm (most16 (by omega)), isName_ok (by omega) (fun c hc => by
      rcases List.mem_append.mp hc with z | z
      · exact hl c z
      · exact rep_mem (p := fun c => low c = true) (fun x hx => by rw [List.mem_singleton.mp hx]; rfl) _ c z), hp]
    rfl
  have n5 : C9 "is_name" [.str []] = .ret (.bl false, false) := nm (l := []) (by simp [most])
  have pad : ∀ Γ : Gam, Γ[4]? = some (some (.str l)) → evE C9 (.bin .Add (.var 4) (.bin .Mult (.const (.str [97])) (.bin .Sub (.const (.int 16)) (.bcall .len [(.var 4)])))) Γ = .ret (.str (l ++ (List.replicate ((16 : Int) - l.length).toNat [97]).flatten)) := fun Γ g => by
    have v4 : evE C9 (.var 4) Γ = .ret (.str l) := by rw [evE, g]
    exact e_bin v4 (e_bin (x := .str [97]) (y := .int (16 - l.length)) (by rw [evE]) (e_bin (x := .int 16) (y := .int l.length) (by rw [evE]) (e_b1 v4 (lenS hm)) rfl) (mulSD ⟨by rw [hz]; exact most16 (by simp; omega), by omega, by omega⟩)) (addS (by rw [← List.length_append, hp]; exact most16 (by omega)))
  have e1 : evEs C9 [(.call "is_name" [(.var 4)] [] [.pos 0] []), (.call "is_name" [(.var 7)] [] [.pos 0] []), (.call "is_name" [] [(.var 8)] [.kw 0] []), (.call "is_name" [(.bin .Add (.var 4) (.bin .Mult (.const (.str [97])) (.bin .Sub (.const (.int 16)) (.bcall .len [(.var 4)]))))] [] [.pos 0] []), (.call "is_name" [(.const (.str []))] [] [.pos 0] [])]
      [none, some .bag, some (.str abc), x3, some (.str l), x5, x6, some (.str bent), some (.str late), x9, x10, x11, x12] = .ret [.bl true, .bl false, .bl (decide ((late.length : Int) ≤ 16)), .bl true, .bl false] :=
    es_cons (e_call sel1 (es_cons rfl es_nil) rfl n1) (es_cons (e_call sel1 (es_cons rfl es_nil) rfl n2) (es_cons (e_callK rfl n3) (es_cons (e_call sel1 (es_cons (pad _ rfl) es_nil) rfl n4) (es_cons (e_call sel1 (es_cons rfl es_nil) rfl n5) es_nil))))
  unfold tl4
  refine ot_setE (Γ' := [none, some .bag, some (.str abc), x3, some (.str l), x5, x6, some (.str bent), some (.str late), some (.lst [.bl true, .bl false, .bl (decide ((late.length : Int) ≤ 16)), .bl true, .bl false]), x10, x11, x12]) (O' := [9]) (x_lstE e1) (by simp) rfl (by rcases hO with rfl | rfl <;> rfl) ?_
  have len8 : evE C9 (.bcall .len [(.var 8)]) [none, some .bag, some (.str abc), x3, some (.str l), x5, x6, some (.str bent), some (.str late), some (.lst [.bl true, .bl false, .bl (decide ((late.length : Int) ≤ 16)), .bl true, .bl false]), x10, x11, x12] = .ret (.int late.length) := e_b1 (x := .str late) rfl (lenS (most16 ha))
  have q2 : evE C9 (.lst [(.const (.bl true)), (.const (.bl false)), (.cmp .LtE (.bcall .len [(.var 8)]) (.const (.int 16))), (.const (.bl true)), (.const (.bl false))]) [none, some .bag, some (.str abc), x3, some (.str l), x5, x6, some (.str bent), some (.str late), some (.lst [.bl true, .bl false, .bl (decide ((late.length : Int) ≤ 16)), .bl true, .bl false]), x10, x11, x12] = .ret (.lst [.bl true, .bl false, .bl (decide ((late.length : Int) ≤ 16)), .bl true, .bl false]) :=
    e_lst (es_cons rfl (es_cons rfl (es_cons (e_cmp len8 rfl rfl) (es_cons rfl (es_cons rfl es_nil)))))
  have s5 : C9 "_law_same" [.lst [.bl true, .bl false, .bl (decide ((late.length : Int) ≤ 16)), .bl true, .bl false], .lst [.bl true, .bl false, .bl (decide ((late.length : Int) ≤ 16)), .bl true, .bl false]] = .ret (.bl true, false) := sm [true, false, decide ((late.length : Int) ≤ 16), true, false]
  unfold tl5
  refine ot_ifE (te_not (te_bl (b := true) (e_call sel2 (es_cons rfl (es_cons q2 es_nil)) rfl s5))) ?_
  -- the long ones
  have r16 : (List.replicate (16 : Int).toNat l).flatten.length = 16 * l.length := rep_len l 16
  have r17 : (List.replicate (17 : Int).toNat l).flatten.length = 17 * l.length := rep_len l 17
  have c16 : cutL (List.replicate (16 : Int).toNat l).flatten none (some 16) = (List.replicate (16 : Int).toNat l).flatten.take 16 := cut_pre _ 16 (by rw [r16]; omega)
  have c17 : cutL (List.replicate (17 : Int).toNat l).flatten none (some 17) = (List.replicate (17 : Int).toNat l).flatten.take 17 := cut_pre _ 17 (by rw [r17]; omega)
  have k16 : ((List.replicate (16 : Int).toNat l).flatten.take 16).length = 16 := by rw [List.length_take, r16]; omega
  have k17 : ((List.replicate (17 : Int).toNat l).flatten.take 17).length = 17 := by rw [List.length_take, r17]; omega
  have m16 : C9 "is_name" [.str (cutL (List.replicate (16 : Int).toNat l).flatten none (some 16))] = .ret (.bl true, false) := by
    rw [c16, nm (most16 (by rw [k16]; omega)), isName_ok (by rw [k16]; omega) (fun c hc => rep_mem (p := fun c => low c = true) hl _ c (List.mem_of_mem_take hc)), k16]
    rfl
  have m17 : C9 "is_name" [.str (cutL (List.replicate (17 : Int).toNat l).flatten none (some 17))] = .ret (.bl false, false) := by
    rw [c17, nm (most16 (by rw [k17]; omega)), isName_ok (by rw [k17]; omega) (fun c hc => rep_mem (p := fun c => low c = true) hl _ c (List.mem_of_mem_take hc)), k17]
    rfl
  have q3 : evEs C9 [(.call "is_name" [(.slice (.bin .Mult (.var 4) (.const (.int 16))) none (some (.const (.int 16))))] [] [.pos 0] []), (.call "is_name" [(.slice (.bin .Mult (.var 4) (.const (.int 17))) none (some (.const (.int 17))))] [] [.pos 0] [])] [none, some .bag, some (.str abc), x3, some (.str l), x5, x6, some (.str bent), some (.str late), some (.lst [.bl true, .bl false, .bl (decide ((late.length : Int) ≤ 16)), .bl true, .bl false]), x10, x11, x12] = .ret [.bl true, .bl false] :=
    es_cons (e_call sel1 (es_cons (e_slice (e_bin (x := .str l) rfl rfl (mulSD ⟨by show l.length * 16 ≤ most; unfold most; omega, by decide, by decide⟩)) rfl rfl (cutS (by rw [r16]; unfold most; omega))) es_nil) rfl m16)
      (es_cons (e_call sel1 (es_cons (e_slice (e_bin (x := .str l) rfl rfl (mulSD ⟨by show l.length * 17 ≤ most; unfold most; omega, by decide, by decide⟩)) rfl rfl (cutS (by rw [r17]; unfold most; omega))) es_nil) rfl m17) es_nil)
  unfold tl6
  refine ot_ifE (te_not (te_bl (b := true) (e_call sel2 (ds := [.lst [.bl true, .bl false], .lst [.bl true, .bl false]]) (r := (.bl true, false)) (es_cons (e_lst q3) (es_cons rfl es_nil)) rfl (sm [true, false])))) ?_
  exact turn3 l x3 x5 x6 _ _ _ x10 x11 x12
end Lw

set_option linter.all false
set_option maxRecDepth 10000
set_option autoImplicit false
/-! the law k02 in plain data: the law -/
namespace Lw
open PySem Dy
theorem keepT (A O : List Nat) : keepO A true O = O := rfl
theorem no8 {O : List Nat} (h : O = [] ∨ O = [9]) {i : Nat} (hi : i ≠ 9) : O.filter (fun j => decide (j ≠ i)) = O := by
  rcases h with rfl | rfl
  · rfl
  · refine List.filter_eq_self.mpr fun j hj => ?_
    rw [List.mem_singleton.mp hj]
    simpa using fun z : 9 = i => hi z.symm
theorem turn2a (l bent : List Nat) (x3 x5 x6 x8 x9 x10 x11 x12 : Option D) (O : List Nat) (hO : O = [] ∨ O = [9]) (h1 : 1 ≤ l.length) (h2 : l.length ≤ 16) (hl : ∀ c ∈ l, low c = true) (hb : isName bent = false) (hb2 : bent.length ≤ 1000) :
    Ot C9 tl3 [none, some .bag, some (.str abc), x3, some (.str l), x5, x6, some (.str bent), x8, x9, x10, x11, x12] O TurnEnd := by
  unfold tl3
  refine ot_setA (R := fun d => ∃ a, d = .str (l ++ [a]) ∧ low a = true) rfl (by simp) (oe_bin (oe_ret (x := .str l) rfl (oe_call sel2 (os_ret (xs := [.bag, .str abc]) rfl (oc_anyS hAny hPull8 (by decide) (by decide) fun a ha => od_ret (addS (most16 (by show l.length + 1 ≤ 1000; omega))) ⟨a, rfl, abc_low a ha⟩))))) ?_
  rintro d ⟨a, rfl, ha⟩
  have e : (keepO (al (.bin .Add (.var 4) (.call "_law_any" [(.var 1), (.var 2)] [] [.pos 0, .pos 1] []))) (isFlat (.str (l ++ [a]))) O).filter (fun j => decide (j ≠ 8)) = O := no8 hO (by decide)
  rw [e]
  have hall : ∀ c ∈ l ++ [a], low c = true := fun c hc => by
    rcases List.mem_append.mp hc with z | z
    · exact hl c z
    · rw [List.mem_singleton.mp z]; exact ha
  have hlen : (l ++ [a]).length = l.length + 1 := by simp
  exact turn2b l bent (l ++ [a]) x3 x5 x6 x9 x10 x11 x12 O hO h1 h2 hl hb hb2 (by omega) (isName_ok (by omega) hall)
theorem turn2 (l : List Nat) (s c : Nat) (x3 x7 x8 x9 x10 x11 x12 : Option D) (O : List Nat) (hO : O = [] ∨ O = [9]) (h1 : 1 ≤ l.length) (h2 : l.length ≤ 16) (hl : ∀ c ∈ l, low c = true) (hs : s ≤ l.length) (hc : low c = false) :
    Ot C9 tl2 [none, some .bag, some (.str abc), x3, some (.str l), some (.int s), some (.str [c]), x7, x8, x9, x10, x11, x12] O TurnEnd := by
  have hm : l.length ≤ most := most16 (by omega)
  have pre : evE C9 (.bin .Add (.slice (.var 4) none (some (.var 5))) (.var 6)) [none, some .bag, some (.str abc), x3, some (.str l), some (.int s), some (.str [c]), x7, x8, x9, x10, x11, x12] = .ret (.str (cutL l none (some (s : Int)) ++ [c])) :=
    e_bin (e_slice (x := .str l) rfl rfl rfl (cutS hm)) rfl (addS (most16 (by have := cut_len l none (some (s : Int)); show _ + 1 ≤ _; omega)))
  unfold tl2
  refine ot_setA (R := fun d => ∃ b : List Nat, d = .str b ∧ isName b = false ∧ b.length ≤ 1000) rfl (by simp) ?_ ?_
  rotate_left 1
  · rintro d ⟨b, rfl, hb, hb2⟩
    refine Eq.mp ?_ (turn2a l b x3 (some (.int s)) (some (.str [c])) x8 x9 x10 x11 x12 O hO h1 h2 hl hb hb2)
    congr 1
    exact (no8 hO (by decide)).symm
  refine oe_bin (oe_ret pre (oe_slice (oe_ret (x := .str l) rfl (oo_some (oe_bin (oe_ret (x := .int s) rfl (oe_call sel2 (os_ret (xs := [.bag, .int 2]) rfl (oc_pull hPull (by decide) (by decide) fun p hp => ?_)))))))))
  refine od_ret (d := .int ((s : Int) + (p : Nat))) rfl ⟨_, rfl, oo_none (od_ret (cutS hm) (od_ret (addS ?_) ⟨_, rfl, ?_, ?_⟩))⟩
  · have q1 := cut_len l none (some (s : Int))
    have q2 := cut_len l (some ((s : Int) + (p : Nat))) none
    refine most16 ?_
    rw [List.length_append]
    show _ + 1 + _ ≤ _
    omega
  · exact isName_bad (c := c) (by simp) hc
  · have q1 := cut_len l none (some (s : Int))
    have q2 := cut_len l (some ((s : Int) + (p : Nat))) none
    rw [List.length_append, List.length_append]
    show _ + 1 + _ ≤ _
    omega
theorem turn1 (l : List Nat) (x3 x5 x6 x7 x8 x9 x10 x11 x12 : Option D) (O : List Nat) (hO : O = [] ∨ O = [9]) (h1 : 1 ≤ l.length) (h2 : l.length ≤ 16) (hl : ∀ c ∈ l, low c = true) :
    Ot C9 tl1 [none, some .bag, some (.str abc), x3, some (.str l), x5, x6, x7, x8, x9, x10, x11, x12] O TurnEnd := by
  have hm : l.length ≤ most := most16 (by omega)
  have len : evE C9 (.bcall .len [(.var 4)]) [none, some .bag, some (.str abc), x3, some (.str l), x5, x6, x7, x8, x9, x10, x11, x12] = .ret (.int l.length) := e_b1 (x := .str l) rfl (lenS hm)
  unfold tl1
  refine ot_par2 (oe_call sel2 (os_ret (xs := [.bag, .int ((l.length : Int) + 1)]) (es_cons rfl (es_cons (e_bin len rfl rfl) es_nil)) (oc_pull hPull (by omega) (by omega) fun s hs => oe_call sel2 (os_ret (xs := [.bag, .lst [.str [65], .str [90], .str [32], .str [48], .str [45], .str [95], .str [46], .str [10], .str [123], .str [126]]]) rfl (oc_anyL hAny hPull8 (by simp) (by simp) fun y hy => ?_)))))
  have : ∃ c, y = .str [c] ∧ low c = false := by
    simp only [List.mem_cons, List.not_mem_nil, or_false] at hy
    rcases hy with rfl | rfl | rfl | rfl | rfl | rfl | rfl | rfl | rfl | rfl <;> exact ⟨_, rfl, rfl⟩
  obtain ⟨c, rfl, hc⟩ := this
  refine Eq.mp ?_ (turn2 l s c x3 x7 x8 x9 x10 x11 x12 O hO h1 h2 hl (by omega) hc)
  congr 1
  show O = (O.filter fun l => decide (l ≠ 5)).filter fun l => decide (l ≠ 6)
  rw [no8 hO (by decide), no8 hO (by decide)]
theorem turn0 (t : Int) (x4 x5 x6 x7 x8 x9 x10 x11 x12 : Option D) (O : List Nat) (hO : O = [] ∨ O = [9]) :
    Ot C9 tl0 [none, some .bag, some (.str abc), some (.int t), x4, x5, x6, x7, x8, x9, x10, x11, x12] O TurnEnd := by
  unfold tl0
  refine ot_setA (R := fun d => ∃ l : List Nat, d = .str l ∧ 1 ≤ l.length ∧ l.length ≤ 16 ∧ ∀ c ∈ l, low c = true) rfl (by simp) ?_ ?_
  · refine oe_join (oe_lc (R := fun x => ∃ c, x = .str [c] ∧ low c = true) (oi_rng1 (oe_bin (oe_ret (x := .int 1) rfl (oe_call sel2 (os_ret (xs := [.bag, .lst [.int 0, .int 1, .int 6, .int 14, .int 15]]) rfl (oc_anyL hAny hPull8 (by simp) (by simp) fun y hy => ?_)))))))
    have : ∃ n : Nat, n ≤ 15 ∧ y = .int n := by
      simp only [List.mem_cons, List.not_mem_nil, or_false] at hy
      rcases hy with rfl | rfl | rfl | rfl | rfl
      · exact ⟨0, by omega, rfl⟩
      · exact ⟨1, by omega, rfl⟩
      · exact ⟨6, by omega, rfl⟩
      · exact ⟨14, by omega, rfl⟩
      · exact ⟨15, by omega, rfl⟩
    obtain ⟨n, hn, rfl⟩ := this
    refine od_ret (d := .int (1 + (n : Int))) rfl ⟨_, rfl, by omega, by omega, fun d hd => ?_, fun xs hx hR => ?_⟩
    · exact ⟨_, rfl, oe_call sel2 (os_ret (xs := [.bag, .str abc]) rfl (oc_anyS hAny hPull8 (by decide) (by decide) fun a ha => ⟨a, rfl, abc_low a ha⟩))⟩
    · obtain ⟨l, e, hl⟩ := strs_of hR
      have hlen : l.length = 1 + n := by
        have q1 : xs.length = l.length := by rw [e, List.length_map]
        have q2 : (rangeD 0 (1 + (n : Int)).toNat).length = 1 + n := by
          unfold rangeD
          rw [List.length_map, List.length_range]
          omega
        omega
      exact ⟨l, by rw [e], most16 (by omega), l, rfl, by omega, by omega, hl⟩
  · rintro d ⟨l, rfl, h1, h2, hl⟩
    refine Eq.mp ?_ (turn1 l (some (.int t)) x5 x6 x7 x8 x9 x10 x11 x12 O hO h1 h2 hl)
    congr 1
    exact (no8 hO (by decide)).symm
end Lw

set_option linter.all false
set_option maxRecDepth 10000
set_option autoImplicit false
/-! the law k02 in plain data: all turns -/
namespace Lw
open PySem Dy
def LawI (Γ : Gam) (O : List Nat) : Prop := (∃ Γ', Γ = none :: some .bag :: some (.str abc) :: Γ' ∧ Γ'.length = 10) ∧ (O = [] ∨ O = [9])
theorem ten {Γ' : Gam} (h : Γ'.length = 10) : ∃ x0 x1 x2 x3 x4 x5 x6 x7 x8 x9, Γ' = [x0, x1, x2, x3, x4, x5, x6, x7, x8, x9] :=
  match Γ', h with
  | [x0, x1, x2, x3, x4, x5, x6, x7, x8, x9], _ => ⟨x0, x1, x2, x3, x4, x5, x6, x7, x8, x9, rfl⟩
theorem law_eq : os_law.drop 1 = [.set 2 (.const (.str abc)), .for_ (.n 3) (.rng1 (.const (.int 8))) tl0, .ret (.const (.bl true))] := rfl
theorem law_run : Ot C9 [.set 2 (.const (.str abc)), .for_ (.n 3) (.rng1 (.const (.int 8))) tl0, .ret (.const (.bl true))] (none :: some .bag :: List.replicate 11 none) [] (fun f => ∃ Γ O b, f = .rt (.bl true, b) Γ O) := by
  refine ot_setE (Γ' := none :: some .bag :: some (.str abc) :: List.replicate 10 none) (O' := []) (d := .str abc) (fr := false) (xx_old rfl (by rw [evE])) (by decide) rfl rfl ?_
  have it : evI C9 (.rng1 (.const (.int 8))) (none :: some .bag :: some (.str abc) :: List.replicate 10 none) = .ret (rangeD 0 8) := by
    rw [evI, evE]
    rfl
  refine ot_forI (I := LawI) it ⟨⟨_, rfl, rfl⟩, .inl rfl⟩ (fun d hd Γ O hI => ?_) (fun Γ O hI => ?_)
  · obtain ⟨⟨Γ', rfl, h10⟩, hO⟩ := hI
    obtain ⟨x0, x1, x2, x3, x4, x5, x6, x7, x8, x9, rfl⟩ := ten h10
    obtain ⟨t, ht⟩ : ∃ t : Int, d = .int t := by
      unfold rangeD at hd
      obtain ⟨i, _, e⟩ := List.mem_map.mp hd
      exact ⟨_, e.symm⟩
    subst ht
    refine ⟨_, rfl, ?_⟩
    have e : dropT (.n 3) O = O := by
      unfold dropT
      exact no8 hO (by decide)
    rw [e]
    refine ot_imp (turn0 t x1 x2 x3 x4 x5 x6 x7 x8 x9 O hO) fun f hf => ?_
    obtain ⟨Γ', ef, hl⟩ := hf
    exact ⟨_, _, ef, ⟨Γ', rfl, hl⟩, .inr rfl⟩
  · exact ot_retE (d := .bl true) rfl (fun i z => by cases z) (by rw [evE]) ⟨_, _, _, rfl⟩
theorem law_rest : LawRest (run tb hd 9) (os_law.drop 1) N_law.length := law_of (n := 13) law_run law_eq
end Lw

open PySem PySem.W PySem.Calls PyProof.Rows
set_option maxRecDepth 100000 in
set_option maxHeartbeats 0 in
theorem PySem.Challenge.cw_allcomers_k02_names_and_numbers_holds : PySem.Challenge.rw_allcomers_k02_names_and_numbers.Holds := by
  w_on; o_law
  refine HandSHeadRun.head_any (r := OpenLaw.row PySem.Challenge.rw_allcomers_k02_names_and_numbers) (q := view (OpenLaw.row PySem.Challenge.rw_allcomers_k02_names_and_numbers).prog [9]) (H := Lw.hk) (ob := Lw.ob) (M := 4000) (loose := Lw.loose) (d := HandSHeadRun.topDef (OpenLaw.row PySem.Challenge.rw_allcomers_k02_names_and_numbers).prog 9) (kwd := []) Lw.ob_eq
    (by kernel_rfl) (fun s => by kernel_rfl) Lw.run_eq (by kernel_rfl) (by kernel_rfl) (by kernel_rfl) (by rfl) (by first | assumption | decide +kernel) (by decide +kernel) ⟨rfl, rfl, rfl, rfl, rfl, by decide +kernel⟩ ?hw ?hc
  case hw => w_witness2
  case hc =>
    refine Dy.walk_dy (l := PySem.Challenge.rw_allcomers_k02_names_and_numbers) (k := 10) rfl (by kernel_rfl) ⟨rfl, by decide, by decide⟩ ?F
    intro w mg fa h Y G hmg0
    obtain ⟨K, KX, c⟩ := Y
    have hmg : mg ("law" : PySem.Str) = some (.ref fa) := by
      have e : (HandSHeadRun.topDef (OpenLaw.row PySem.Challenge.rw_allcomers_k02_names_and_numbers).prog 9).name = ("law" : PySem.Str) := by kernel_rfl
      rw [← e]
      exact hmg0
    obtain ⟨fd, hb, hF⟩ := Lw.facts (P := (PySem.Challenge.rw_allcomers_k02_names_and_numbers).prog) (w := w) Lw.law_rest KX G hmg c
    exact ⟨K, fd, KX, hb, hF⟩
