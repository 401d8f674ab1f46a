import PyProof.Rows.All
import Wide.All
import OpenK.AllK
import Wide.FinOn
import KE.SortData
import KE.DataMinMax
import HandS.ForMost
import HandS.ForExc
import HandS.Flow
import HandS.Deep
import HandS.TupAny
import HandS.TupMul
import HandS.Defaults
import HandS.Zip
import HandS.HeadHook1
import HandS.IsInst
import HandS.Style
import HandS.Wide
import HandS.TupLen
import HandS.Conv
import HandS.ClsMeth
import HandS.MakeKw
import HandS.TupSets
import HandS.DictComp
import HandS.SetBool
import HandS.SetFor
import HandS.SetKeys
import HandS.HeadNt
import HandS.HeadHook2
import HandS.Head0
import HandS.Head1
import HandS.Head2
import HandS.HeadEnd
import PySem.Challenge.RW_allcomers_k10_named_tables
set_option Elab.async false
set_option linter.all false
/-! Dy, part 1: data without a heap, a tree of outcomes, an own syntax without places, and what it comes to. -/
namespace Dy
open PySem

/-- a value as data -/
inductive D where
  | non | bl (b : Bool) | int (i : Int) | str (s : List Nat)
  | lst (xs : List D) | tup (xs : List D)
  /-- a dict (t: its keys are tuples), its keys, its values -/
  | dct (t : Bool) (ks vs : List D)
  /-- an instance of the class c, its attributes by name -/
  | ins (c : Str) (ns : List Str) (vs : List D)
  | bag
  | scr (a : Nat) (ns : List Int)
deriving Inhabited
mutual
/-- alike -/
def beqD : D → D → Bool
  | .non, .non => true
  | .bl a, .bl b => a == b
  | .int a, .int b => decide (a = b)
  | .str a, .str b => decide (a = b)
  | .lst xs, .lst ys => beqDs xs ys
  | .tup xs, .tup ys => beqDs xs ys
  | .dct t ks vs, .dct t' ks' vs' => t == t' && (beqDs ks ks' && beqDs vs vs')
  | .ins c ns vs, .ins c' ns' vs' => decide (c = c') && (decide (ns = ns') && beqDs vs vs')
  | .bag, .bag => true
  | .scr a ns, .scr b ms => decide (a = b) && decide (ns = ms)
  | _, _ => false
def beqDs : List D → List D → Bool
  | [], [] => true
  | a :: as, b :: bs => beqD a b && beqDs as bs
  | _, _ => false
end
mutual
theorem beqD_eq : ∀ a b : D, beqD a b = true → a = b
  | .non, b, h => by cases b <;> first | rfl | (unfold beqD at h; cases h)
  | .bl a, b, h => by
    cases b <;> first | (unfold beqD at h; cases h; done) | skip
    unfold beqD at h
    rw [eq_of_beq h]
  | .int a, b, h => by
    cases b <;> first | (unfold beqD at h; cases h; done) | skip
    unfold beqD at h
    rw [of_decide_eq_true h]
  | .str a, b, h => by
    cases b <;> first | (unfold beqD at h; cases h; done) | skip
    unfold beqD at h
    rw [of_decide_eq_true h]
  | .lst xs, b, h => by
    cases b <;> first | (unfold beqD at h; cases h; done) | skip
    unfold beqD at h
    rw [beqDs_eq _ _ h]
  | .tup xs, b, h => by
    cases b <;> first | (unfold beqD at h; cases h; done) | skip
    unfold beqD at h
    rw [beqDs_eq _ _ h]
  | .dct t ks vs, b, h => by
    cases b <;> first | (unfold beqD at h; cases h; done) | skip
    unfold beqD at h
    simp only [Bool.and_eq_true] at h
    rw [eq_of_beq h.1, beqDs_eq _ _ h.2.1, beqDs_eq _ _ h.2.2]
  | .ins c ns vs, b, h => by
    cases b <;> first | (unfold beqD at h; cases h; done) | skip
    unfold beqD at h
    simp only [Bool.and_eq_true] at h
    rw [of_decide_eq_true h.1, of_decide_eq_true h.2.1, beqDs_eq _ _ h.2.2]
  | .bag, b, h => by cases b <;> first | rfl | (unfold beqD at h; cases h)
  | .scr a ns, b, h => by
    cases b <;> first | (unfold beqD at h; cases h; done) | skip
    unfold beqD at h
    simp only [Bool.and_eq_true] at h
    rw [of_decide_eq_true h.1, of_decide_eq_true h.2]
theorem beqDs_eq : ∀ a b : List D, beqDs a b = true → a = b
  | [], b, h => by cases b <;> first | rfl | (unfold beqDs at h; cases h)
  | a :: as, b, h => by
    cases b <;> first | (unfold beqDs at h; cases h; done) | skip
    unfold beqDs at h
    simp only [Bool.and_eq_true] at h
    rw [beqD_eq _ _ h.1, beqDs_eq _ _ h.2]
end
mutual
theorem beqD_refl : ∀ a : D, beqD a a = true
  | .non => by rw [beqD]
  | .bl a => by rw [beqD]; exact beq_self_eq_true a
  | .int a => by rw [beqD]; exact decide_eq_true rfl
  | .str a => by rw [beqD]; exact decide_eq_true rfl
  | .lst xs => by rw [beqD]; exact beqDs_refl xs
  | .tup xs => by rw [beqD]; exact beqDs_refl xs
  | .dct t ks vs => by rw [beqD, beqDs_refl, beqDs_refl]; cases t <;> rfl
  | .ins c ns vs => by rw [beqD, beqDs_refl, decide_eq_true rfl, decide_eq_true rfl]; rfl
  | .bag => by rw [beqD]
  | .scr a ns => by rw [beqD, decide_eq_true rfl, decide_eq_true rfl]; rfl
theorem beqDs_refl : ∀ a : List D, beqDs a a = true
  | [] => by rw [beqDs]
  | a :: as => by rw [beqDs, beqD_refl, beqDs_refl]; rfl
end
theorem beqD_iff {a b : D} : beqD a b = true ↔ a = b := ⟨beqD_eq a b, fun e => e ▸ beqD_refl a⟩
instance : DecidableEq D := fun a b => decidable_of_iff _ beqD_iff
/-- a text's signs -/
def okS (l : List Nat) : Bool := l.all (· < 0x110000)
/-- may be a key of a dict -/
def isKey : D → Bool
  | .int _ => true
  | .str l => okS l
  | _ => false
def isKeyT (t : Bool) (d : D) : Bool := match t with
  | false => isKey d
  | true => match d with
    | .tup ds => ds.all isKey
    | _ => false
/-- a dict's entry -/
def kvGet (ks vs : List D) (k : D) : Option D := ((ks.zip vs).find? fun p => beqD p.1 k).map (·.2)
def kvHas (ks : List D) (k : D) : Bool := ks.any fun j => beqD j k
def kvPut (ks vs : List D) (k v : D) : List D × List D := if kvHas ks k then (ks, (ks.zip vs).map fun p => if beqD p.1 k then v else p.2) else (ks ++ [k], vs ++ [v])
/-- an attribute is stored -/
def insF (f : Str) (d : D) : List Str → List D → List Str × List D
  | g :: ns, x :: xs => if g = f then (g :: ns, d :: xs) else (g :: (insF f d ns xs).1, x :: (insF f d ns xs).2)
  | _, _ => ([f], [d])

/-- outcomes: a value, a drawn number below n, an exception, no rule -/
inductive T (α : Type) where
  | ret (a : α) | draw (n : Nat) (k : Nat → T α) | exc (e : D) | bad

namespace T
variable {α β γ : Type}
def bind : T α → (α → T β) → T β
  | ret a, f => f a
  | draw n k, f => draw n fun i => bind (k i) f
  | exc e, _ => exc e
  | bad, _ => bad
instance : Monad T where
  pure := ret
  bind := bind
/-- every outcome -/
def All (P : α → Prop) (E : D → Prop) : T α → Prop
  | ret a => P a
  | draw n k => ∀ i, i < n → All P E (k i)
  | exc e => E e
  | bad => False
theorem all_bind {P : β → Prop} {E : D → Prop} {f : α → T β} : ∀ {x : T α}, (x.bind f).All P E ↔ x.All (fun a => (f a).All P E) E
  | ret a => Iff.rfl
  | draw n k => by
    show (∀ i, i < n → ((k i).bind f).All P E) ↔ ∀ i, i < n → (k i).All _ E
    exact ⟨fun h i hi => all_bind.mp (h i hi), fun h i hi => all_bind.mpr (h i hi)⟩
  | exc e => Iff.rfl
  | bad => Iff.rfl
theorem all_mono {P P' : α → Prop} {E E' : D → Prop} (hE : ∀ e, E e → E' e) : ∀ {x : T α}, x.All P E → (∀ a, P a → P' a) → x.All P' E'
  | ret a, h, k => k a h
  | draw n f, h, k => fun i hi => all_mono hE (h i hi) k
  | exc e, h, _ => hE e h
  | bad, h, _ => h
theorem all_imp {P P' : α → Prop} {E : D → Prop} {x : T α} (h : x.All P E) (k : ∀ a, P a → P' a) : x.All P' E := all_mono (fun _ z => z) h k
theorem bind_assoc (f : α → T β) (g : β → T γ) : ∀ x : T α, (x.bind f).bind g = x.bind fun a => (f a).bind g
  | ret a => rfl
  | draw n k => by
    show draw n _ = draw n _
    congr 1
    funext i
    exact bind_assoc f g (k i)
  | exc e => rfl
  | bad => rfl
theorem bind_ret : ∀ x : T α, x.bind ret = x
  | ret a => rfl
  | draw n k => by
    show draw n _ = draw n _
    congr 1
    funext i
    exact bind_ret (k i)
  | exc e => rfl
  | bad => rfl
@[simp] theorem ret_bind (a : α) (f : α → T β) : (ret a).bind f = f a := rfl
@[simp] theorem pure_bind' (a : α) (f : α → T β) : ((pure a : T α) >>= f) = f a := rfl
@[simp] theorem bind_eq (x : T α) (f : α → T β) : (x >>= f) = x.bind f := rfl
@[simp] theorem pure_eq (a : α) : (pure a : T α) = ret a := rfl
@[simp] theorem exc_bind (e : D) (f : α → T β) : (exc e : T α).bind f = exc e := rfl
@[simp] theorem bad_bind (f : α → T β) : (bad : T α).bind f = bad := rfl
def need (c : Bool) (k : T α) : T α := match c with | true => k | false => bad
/-- no exception -/
def still : T α → T α
  | ret a => ret a
  | draw n k => draw n fun i => still (k i)
  | exc _ => bad
  | bad => bad
theorem all_still {P : α → Prop} {E E' : D → Prop} : ∀ {x : T α}, x.still.All P E → x.All P E'
  | ret a, h => h
  | draw n k, h => fun i hi => all_still (h i hi)
  | exc _, h => h.elim
  | bad, h => h.elim
theorem all_need {P : α → Prop} {E : D → Prop} {c : Bool} {k : T α} (h : (need c k).All P E) : c = true ∧ k.All P E := by
  cases c with
  | true => exact ⟨rfl, h⟩
  | false => exact h.elim
def ofOpt : Option α → T α
  | some a => ret a
  | none => bad
theorem all_ofOpt {P : α → Prop} {E : D → Prop} {o : Option α} (h : (ofOpt o).All P E) : ∃ a, o = some a ∧ P a := by
  cases o with
  | some a => exact ⟨a, rfl, h⟩
  | none => exact h.elim
end T

/-! ### the own syntax -/
/-- where a parameter's value comes from: a place, a keyword, a default -/
inductive Sr where
  | pos (j : Nat) | kw (j : Nat) | df (j : Nat)
deriving DecidableEq
def Sr.up : Sr → Sr
  | .pos q => .pos (q + 1)
  | s => s
def pick {α : Type} (us ws ds : List α) : Sr → Option α
  | .pos j => us[j]?
  | .kw j => ws[j]?
  | .df j => ds[j]?
def selL {α : Type} (sel : List Sr) (us ws ds : List α) : List α := sel.filterMap (pick us ws ds)
inductive Bf where
  | len | all | any | list | tuple | sum | int | sorted | min | dict
inductive Ty where
  | none | bool | int | str | list | tuple
inductive Mf where
  | join | count

inductive Tg where
  | n (i : Nat) | t (ts : List Tg)
mutual
inductive OE where
  | bad
  | const (d : D)
  | var (i : Nat)
  | tup (es : List OE) | lst (es : List OE)
  | bin (op : Operator) (a b : OE)
  | neg (a : OE)
  | cmp (op : CmpOp) (a b : OE)
  | chain (op op' : CmpOp) (a b c : OE)
  | isN (a : OE) | notN (a : OE)
  | and_ (es : List OE) | or_ (es : List OE)
  | not_ (a : OE)
  | ifx (t : OT) (a b : OE)
  | sub (a i : OE)
  | slice (a : OE) (lo hi : Option OE)
  | call (f : Str) (args kws : List OE) (sel : List Sr) (dfts : List D)
  | bcall (f : Bf) (args : List OE)
  | meth (m : Mf) (o : OE) (args : List OE)
  | isi (a : OE) (ts : List Ty)
  | lc (elt : OE) (own : List Nat) (tg : Tg) (it : OI) (ifs : List OT)
  | fld (a : OE) (f : Str) (cs : List Str)
  | mcall (m : Str) (o : OE) (args kws : List OE) (rows : List (Str × Str × List Sr × List D))
  | dnew (t : Bool)
  | srt (elt : OE) (own : List Nat) (tg : Tg) (it : OI) (ifs : List OT)
  | lc2 (elt : OE) (own : List Nat) (tg : Tg) (it : OI) (ifs : List OT) (tg1 : Tg) (it1 : OI) (ifs1 : List OT)
  | dc (t : Bool) (k v : OE) (own : List Nat) (tg : Tg) (it : OI) (ifs : List OT)
  | dc2 (t : Bool) (k v : OE) (own : List Nat) (tg : Tg) (it : OI) (ifs : List OT) (tg1 : Tg) (it1 : OI) (ifs1 : List OT)
  | lenset (a : OE)
  | lenm (a : OE) (rows : List (Str × Str))
  | step (a : OE) (k : Nat)
inductive OT where
  | e (a : OE) | and_ (ts : List OT) | or_ (ts : List OT) | not_ (t : OT)
inductive OI where
  | e (a : OE) | rng1 (a : OE) | rng2 (a b : OE) | enum (a : OE) | zip (a b : OE)
end
inductive OS where
  | bad
  | set (i : Nat) (e : OE)
  | seti (tg : Tg) (e : OE)
  | par2 (i j : Nat) (a b : OE)
  | par3 (i j l : Nat) (a b c : OE)
  | app (i : Nat) (e : OE)
  | put (i : Nat) (ix e : OE)
  | fset (i : Nat) (f : Str) (cs : List Str) (e : OE)
  | pop (i j : Nat) (ix : Option OE)
  | popA (i j : Nat) (ix : Option OE)
  | popC (i : Nat) (t : OT) (j : Nat) (e : OE)
  | expr (e : OE)
  | ret (e : OE)
  | retN
  | if_ (t : OT) (a b : List OS)
  | for_ (tg : Tg) (it : OI) (b : List OS)
  | while_ (n : Nat) (t : OT) (b : List OS)
  | pass | brk | cont

/-- the slots' data -/
abbrev Gam := List (Option D)
def wipeG (Γ : Gam) : List Nat → Gam
  | [] => Γ
  | v :: vs => (wipeG Γ vs).set v none

/-! ### operations on data -/
def most : Nat := 16777216
def binD : Operator → D → D → T D
  | .Add, .int a, .int b => .ret (.int (a + b))
  | .Add, .str a, .str b => .need (decide (a.length + b.length ≤ most)) (.ret (.str (a ++ b)))
  | .Add, .lst a, .lst b => .need (decide (a.length + b.length ≤ most)) (.ret (.lst (a ++ b)))
  | .Add, .tup a, .tup b => .need (decide (a.length + b.length ≤ most)) (.ret (.tup (a ++ b)))
  | .Sub, .int a, .int b => .ret (.int (a - b))
  | .Mult, .int a, .int b => .need (decide (a.natAbs < 2 ^ 64 ∨ b.natAbs < 2 ^ 64)) (.ret (.int (a * b)))
  | .Mult, .str a, .int b => .need (decide (a.length * b.toNat ≤ most ∧ -(2 ^ 62) ≤ b ∧ b < 2 ^ 62)) (.ret (.str (List.replicate b.toNat a).flatten))
  | .Mult, .lst a, .int b => .need (decide (a.length * b.toNat ≤ most ∧ -(2 ^ 62) ≤ b ∧ b < 2 ^ 62)) (.ret (.lst (List.replicate b.toNat a).flatten))
  | .Mult, .tup a, .int b => .need (decide (0 < a.length ∧ a.length ≤ 1000 ∧ 2 ≤ b ∧ b ≤ 1000)) (.ret (.tup (List.replicate b.toNat a).flatten))
  | .FloorDiv, .int a, .int b => .need (decide (0 < b ∧ b < 2 ^ 200)) (.ret (.int (a / b)))
  | .Mod, .int a, .int b => .need (decide (0 < b)) (.ret (.int (a % b)))
  | .Pow, .int a, .int b => .need (decide (0 ≤ b ∧ b ≤ 1000000 ∧ a.natAbs < 2 ^ 64)) (.ret (.int (a ^ b.toNat)))
  | _, _, _ => .bad

def natsLt : List Nat → List Nat → Bool
  | [], [] => false
  | [], _ :: _ => true
  | _ :: _, [] => false
  | x :: xs, y :: ys => if x = y then natsLt xs ys else decide (x < y)

mutual
/-- as plain data of the library: no dicts, no instances -/
def toPy : D → Option PyData
  | .non => some .none
  | .bl b => some (.bool b)
  | .int i => some (.int i)
  | .str l => some (.str ⟨l.toArray⟩)
  | .lst xs => (toPys xs).map .list
  | .tup xs => (toPys xs).map .tuple
  | .dct _ _ _ => none
  | .ins _ _ _ => none
  | .bag => none
  | .scr _ _ => none
def toPys : List D → Option (List PyData)
  | [] => some []
  | d :: ds => match toPy d, toPys ds with
    | some x, some xs => some (x :: xs)
    | _, _ => none
end
/-- == of plain data -/
def eqD (a b : D) : Option Bool := match toPy a, toPy b with
  | some x, some y => if x.depth ≤ 64 ∧ y.depth ≤ 64 then some (PyData.eqv x y) else none
  | _, _ => none
def notO : Option Bool → Option Bool := Option.map (!·)
def blT : Option Bool → T D
  | some b => .ret (.bl b)
  | none => .bad
def inD (a : D) (xs : List D) : Option Bool := match toPy a, toPys xs with
  | some x, some ys => if x.depth ≤ 64 ∧ PyData.depthAll ys ≤ 63 then some (ys.any fun z => PyData.eqv z x) else none
  | _, _ => none
def isFlat : D → Bool
  | .non => true | .bl _ => true | .int _ => true | .str _ => true
  | _ => false
/-- in a tuple: flat items alone -/
def inT (a : D) (xs : List D) : Option Bool := if isFlat a && xs.all isFlat then inD a xs else none
/-- c in s, a sign in a text -/
def cmpD : CmpOp → D → D → T D
  | .Eq, a, b => blT (eqD a b)
  | .NotEq, a, b => blT (notO (eqD a b))
  | .Lt, .int a, .int b => .ret (.bl (decide (a < b)))
  | .LtE, .int a, .int b => .ret (.bl (decide (a ≤ b)))
  | .Gt, .int a, .int b => .ret (.bl (decide (b < a)))
  | .GtE, .int a, .int b => .ret (.bl (decide (b ≤ a)))
  | .Lt, .str a, .str b => .ret (.bl (decide (a < b)))
  | .LtE, .str a, .str b => .ret (.bl (decide (a ≤ b)))
  | .Gt, .str a, .str b => .ret (.bl (decide (b < a)))
  | .GtE, .str a, .str b => .ret (.bl (decide (b ≤ a)))
  | .In, a, .lst xs => blT (inD a xs)
  | .In, a, .tup xs => blT (inT a xs)
  | .In, a, .dct t ks _ => .need (isKeyT t a) (.ret (.bl (kvHas ks a)))
  | .NotIn, a, .lst xs => blT (notO (inD a xs))
  | .NotIn, a, .tup xs => blT (notO (inT a xs))
  | .NotIn, a, .dct t ks _ => .need (isKeyT t a) (.ret (.bl (!kvHas ks a)))
  | _, _, _ => .bad
def truthD : D → T Bool
  | .non => .ret false
  | .bl b => .ret b
  | .int i => .ret (i != 0)
  | .str l => .need (decide (l.length ≤ most)) (.ret (!l.isEmpty))
  | .lst xs => .ret (!xs.isEmpty)
  | .tup xs => .ret (!xs.isEmpty)
  | _ => .bad
/-- the place that an index means -/
def ixD (n : Nat) (i : Int) : Option Nat := if 0 ≤ i then (if i < n then some i.toNat else none) else if -(n : Int) ≤ i then some (i + n).toNat else none
def subD : D → D → T D
  | .lst xs, .int i => .ofOpt ((ixD xs.length i).bind fun j => xs[j]?)
  | .tup xs, .int i => .ofOpt ((ixD xs.length i).bind fun j => xs[j]?)
  | .str l, .int i => .need (decide (l.length ≤ most)) (.ofOpt (((ixD l.length i).bind fun j => l[j]?).map fun c => .str [c]))
  | .scr _ ns, .int i => .ofOpt ((ixD (ns.map D.int).length i).bind fun j => (ns.map D.int)[j]?)
  | .dct t ks vs, k => .need (isKeyT t k) (.ofOpt (kvGet ks vs k))
  | _, _ => .bad
def cutIx (n d : Nat) : Option Int → Nat
  | none => d
  | some i => if i < 0 then (i + n).toNat else min i.toNat n
def cutL {α : Type} (xs : List α) (lo hi : Option Int) : List α := (xs.drop (cutIx xs.length 0 lo)).take (cutIx xs.length xs.length hi - cutIx xs.length 0 lo)
def sliceD : D → Option Int → Option Int → T D
  | .lst xs, lo, hi => .ret (.lst (cutL xs lo hi))
  | .tup xs, lo, hi => .ret (.tup (cutL xs lo hi))
  | .str l, lo, hi => .need (decide (l.length ≤ most)) (.ret (.str (cutL l lo hi)))
  | .scr _ ns, lo, hi => .ret (.lst ((cutL ns lo hi).map D.int))
  | _, _, _ => .bad
/-- the built-in type of a value -/
def tyD : D → Option Ty
  | .non => some .none | .bl _ => some .bool | .int _ => some .int | .str _ => some .str | .lst _ => some .list | .tup _ => some .tuple
  | _ => none
def subTy : Ty → Ty → Bool
  | .bool, .int => true
  | .bool, .bool => true | .int, .int => true | .str, .str => true | .list, .list => true | .tuple, .tuple => true
  | _, _ => false
def isTy (t : Ty) (d : D) : Option Bool := (tyD d).map fun k => subTy k t
def isTys (d : D) : List Ty → Option Bool
  | [] => some false
  | t :: ts => match isTy t d with
    | some true => some true
    | some false => isTys d ts
    | none => none
def intsOf : List D → Option (List Int)
  | [] => some []
  | .int i :: r => (intsOf r).map (i :: ·)
  | _ => none
def strsOf : List D → Option (List (List Nat))
  | [] => some []
  | .str l :: r => (strsOf r).map (l :: ·)
  | _ => none
def blsOf : List D → Option (List Bool)
  | [] => some []
  | .bl b :: r => (blsOf r).map (b :: ·)
  | _ => none
def joinL (a : List Nat) : List (List Nat) → List Nat
  | [] => []
  | [x] => x
  | x :: y :: r => x ++ a ++ joinL a (y :: r)
def lenD : List D → T D
  | [.str l] => .need (decide (l.length ≤ most)) (.ret (.int l.length))
  | [.lst xs] => .ret (.int xs.length)
  | [.tup xs] => .ret (.int xs.length)
  | [.scr _ ns] => .ret (.int (ns.map D.int).length)
  | [.dct _ ks _] => .ret (.int ks.length)
  | _ => .bad
def allD : List D → T D
  | [.lst xs] => (match blsOf xs with | some bs => .ret (.bl (bs.all id)) | none => .bad)
  | _ => .bad
def anyD : List D → T D
  | [.lst xs] => (match blsOf xs with | some bs => .ret (.bl (bs.any id)) | none => .bad)
  | _ => .bad
def listD : List D → T D
  | [.lst xs] => .ret (.lst xs)
  | [.tup xs] => .ret (.lst xs)
  | [.dct _ ks _] => .ret (.lst ks)
  | _ => .bad
/-- pairs of keys and values -/
def pairsD : List D → Option (List D × List D)
  | [] => some ([], [])
  | .tup [k, v] :: r => if isKey k then (pairsD r).map fun q => (k :: q.1, v :: q.2) else none
  | _ => none
def kvMerge : List D → List D → List D × List D → List D × List D
  | k :: ks, v :: vs, acc => kvMerge ks vs (kvPut acc.1 acc.2 k v)
  | _, _, acc => acc
def dictD : List D → T D
  | [.lst ps] => (match pairsD ps with | some q => .ret (.dct false (kvMerge q.1 q.2 ([], [])).1 (kvMerge q.1 q.2 ([], [])).2) | none => .bad)
  | _ => .bad
def tupleD : List D → T D
  | [.lst xs] => .ret (.tup xs)
  | [.tup xs] => .ret (.tup xs)
  | _ => .bad
def sumD : List D → T D
  | [.lst xs] => (match intsOf xs with | some ns => .ret (.int ns.sum) | none => .bad)
  | _ => .bad
def intD : List D → T D
  | [.int i] => .ret (.int i)
  | [.bl b] => .ret (.int (if b then 1 else 0))
  | _ => .bad
def pyOf (d : D) : PyData := (toPy d).getD .none
def alikeL (xs : List D) : Bool := xs.all fun x => (toPy x).isSome && decide ((pyOf x).depth ≤ 64) && xs.all fun y => PySem.W.alike (pyOf x) (pyOf y)
def tupNE : D → Bool
  | .tup (_ :: _) => true
  | _ => false
def oneK : D → Bool
  | .tup _ => false
  | .non => false
  | _ => true
/-- sorted, by putting one in after another -/
def insD (a : D) : List D → List D
  | [] => [a]
  | b :: bs => if PySem.W.dataLe false pyOf a b = true then a :: b :: bs else b :: insD a bs
def isortD : List D → List D
  | [] => []
  | a :: as => insD a (isortD as)
def sortD : List D → T D
  | [.lst xs] => .need (alikeL xs && (xs.all tupNE || xs.all oneK) && decide (xs.length ≤ most)) (.ret (.lst (isortD xs)))
  | _ => .bad
def minDD (x : D) (xs : List D) : D := xs.foldl (fun a y => if PySem.W.dataLt (pyOf y) (pyOf a) then y else a) x
def isNon : D → Bool
  | .non => true
  | _ => false
def minF : List D → T D
  | [.lst (x :: xs)] => .need (alikeL (x :: xs) && (x :: xs).all fun d => !isNon d) (.ret (minDD x xs))
  | _ => .bad
def listL : List D → T (List D)
  | [.lst xs] => .ret xs
  | [.tup xs] => .ret xs
  | [.dct _ ks _] => .ret ks
  | _ => .bad
def sortL : List D → T (List D)
  | [.lst xs] => .need (alikeL xs && (xs.all tupNE || xs.all oneK) && decide (xs.length ≤ most)) (.ret (isortD xs))
  | _ => .bad
/-- which built-ins make a list that none else knows -/
def newL : Bf → Option (List D → T (List D))
  | .list => some listL
  | .sorted => some sortL
  | _ => none
/-- built-in functions -/
def bcallD : Bf → List D → T D
  | .len, ds => lenD ds
  | .all, ds => allD ds
  | .any, ds => anyD ds
  | .list, ds => listD ds
  | .tuple, ds => tupleD ds
  | .sum, ds => sumD ds
  | .int, ds => intD ds
  | .sorted, ds => sortD ds
  | .min, ds => minF ds
  | .dict, ds => dictD ds
/-- an attribute of an instance -/
def fldD : D → Str → List Str → Option D
  | .ins c ns vs, f, cs => if cs.contains c then (ns.zip vs).lookup f else none
  | _, _, _ => none
/-- how many different keys a tuple has -/
def setAdd1 (acc : List D) (x : D) : List D := if kvHas acc x then acc else acc ++ [x]
def manyD (xs : List D) : Nat := (xs.foldl setAdd1 []).length
def lensetD : D → T D
  | .tup xs => .need (xs.all isKey && decide (xs.length < 64)) (.ret (.int (manyD xs)))
  | _ => .bad
/-- every other item -/
def everyL {α : Type} : Nat → List α → List α
  | _, [] => []
  | 0, x :: xs => x :: everyL 1 xs
  | k + 1, _ :: xs => everyL k xs
def stepD : D → Nat → T D
  | .tup xs, k => .need (decide (k ≤ 1 ∧ xs.length ≤ 1000)) (.ret (.tup (everyL k xs)))
  | _, _ => .bad
def joinD : D → List D → T D
  | .str a, [.lst xs] => (match strsOf xs with
      | some ys => .need (decide ((ys.map (·.length)).sum + ys.length * a.length ≤ 16777216)) (.ret (.str (joinL a ys)))
      | none => .bad)
  | _, _ => .bad
/-- how often a text is in a list of texts -/
def countD : D → List D → T D
  | .lst xs, [.str l] => (match strsOf xs with
      | some ys => .need (okS l) (.ret (.int (ys.filter fun y => decide (y = l)).length))
      | none => .bad)
  | _, _ => .bad
/-- what has such a method -/
def recvD : Mf → D → Bool
  | .join, .str _ => true
  | .count, .lst _ => true
  | _, _ => false
/-- methods of the built-in types -/
def methD : Mf → D → List D → T D
  | .join, d, ds => joinD d ds
  | .count, d, ds => countD d ds

/-! ### what an expression comes to -/
/-- what a call of a def of the program comes to: its data, and whether the object is its caller's alone -/
abbrev Calls := Str → List D → T (D × Bool)
/-- len(x) of an instance -/
def lenR (r : D × Bool) : T D := match r.1 with
  | .int n => .need (decide (0 ≤ n ∧ n < 2 ^ 63)) (.ret (.int n))
  | _ => .bad
def lenmD (C : Calls) (rows : List (Str × Str)) : D → T D
  | .ins c ns vs => match rows.lookup c with
    | some key => (C key [.ins c ns vs]).bind lenR
    | none => .bad
  | _ => .bad
mutual
def bindTg : Tg → D → Gam → Option Gam
  | .n i, d, Γ => some (Γ.set i (some d))
  | .t ts, d, Γ => match d with
    | .tup ds => bindTgs ts ds Γ
    | _ => none
def bindTgs : List Tg → List D → Gam → Option Gam
  | [], [], Γ => some Γ
  | t :: ts, d :: ds, Γ => (bindTg t d Γ).bind fun Γ' => bindTgs ts ds Γ'
  | _, _, _ => none
end
def enumD : Nat → List D → List D
  | _, [] => []
  | i, d :: ds => .tup [.int i, d] :: enumD (i + 1) ds
def zipD : List D → List D → List D
  | a :: as, b :: bs => .tup [a, b] :: zipD as bs
  | _, _ => []
def rangeD (lo : Int) (n : Nat) : List D := (List.range n).map fun (i : Nat) => D.int (lo + (i : Int))
def itemsD : D → T (List D)
  | .lst xs => .ret xs
  | .tup xs => .ret xs
  | .str l => .need (decide (l.length ≤ most)) (.ret (l.map fun c => .str [c]))
  | _ => .bad
def isNonD : D → Bool
  | .non => true
  | _ => false
mutual
def tgs : Tg → List Nat
  | .n i => [i]
  | .t ts => tgss ts
def tgss : List Tg → List Nat
  | [] => []
  | t :: ts => tgs t ++ tgss ts
end
/-- a row of steps over data -/
def foldT {α β : Type} (F : β → α → T β) : β → List α → T β
  | b, [] => .ret b
  | b, a :: as => (F b a).bind fun c => foldT F c as
/-- a set of tuples, sorted -/
def totD (xs : List D) : Bool := xs.all fun x => xs.all fun y => beqD x y || (PySem.W.dataLt (pyOf x) (pyOf y) || PySem.W.dataLt (pyOf y) (pyOf x))
def sortSet (xs : List D) : T (List D) := .need (alikeL xs && xs.all tupNE && totD xs) (.ret (isortD xs))
/-- what a comprehension does with an item -/
def sinkL (x : D) (acc : List D) : T (List D) := .need (decide (acc.length < most)) (.ret (acc ++ [x]))
def sinkS (x : D) (acc : List D) : T (List D) := .need (isKeyT true x && decide (acc.length < 62)) (.ret (setAdd1 acc x))
def sinkD (t : Bool) (x y : D) (acc : List D × List D) : T (List D × List D) := .need (isKeyT t x && decide (acc.1.length < most)) (.ret (kvPut acc.1 acc.2 x y))
/-- a clause by data: bind the item, the tests, the body -/
def clG {β : Type} (bt : T Gam) (ts : Gam → T Bool) (G : Gam → β → T β) (acc : β) : T β := bt.bind fun Γ' => (ts Γ').bind fun b => match b with
  | true => G Γ' acc
  | false => .ret acc
/-- a comprehension's turns -/
def lcLoop (f : D → T (Option D)) : List D → T (List D)
  | [] => .ret []
  | d :: ds => (f d).bind fun r => (lcLoop f ds).bind fun rs => .ret (match r with | some x => x :: rs | none => rs)
variable (C : Calls)
mutual
def evE : OE → Gam → T D
  | .bad, _ => .bad
  | .const d, _ => .ret d
  | .var i, Γ => match Γ[i]? with
    | some (some d) => .ret d
    | _ => .bad
  | .tup es, Γ => (evEs es Γ).bind fun ds => .ret (.tup ds)
  | .lst es, Γ => (evEs es Γ).bind fun ds => .ret (.lst ds)
  | .bin op a b, Γ => (evE a Γ).bind fun x => (evE b Γ).bind fun y => binD op x y
  | .neg a, Γ => (evE a Γ).bind fun x => match x with | .int i => .ret (.int (-i)) | _ => .bad
  | .cmp op a b, Γ => (evE a Γ).bind fun x => (evE b Γ).bind fun y => cmpD op x y
  | .chain op op' a b c, Γ => (evE a Γ).bind fun x => (evE b Γ).bind fun y => (cmpD op x y).bind fun z => match z with
    | .bl true => (evE c Γ).bind fun w => cmpD op' y w
    | .bl false => .ret (.bl false)
    | _ => .bad
  | .isN a, Γ => (evE a Γ).bind fun x => .ret (.bl (isNonD x))
  | .notN a, Γ => (evE a Γ).bind fun x => .ret (.bl (!isNonD x))
  | .and_ es, Γ => evAnd es Γ
  | .or_ es, Γ => evOr es Γ
  | .not_ a, Γ => (evE a Γ).bind fun x => (truthD x).bind fun b => .ret (.bl (!b))
  | .ifx t a b, Γ => (evT t Γ).bind fun c => match c with | true => evE a Γ | false => evE b Γ
  | .sub a i, Γ => (evE a Γ).bind fun x => (evE i Γ).bind fun y => subD x y
  | .slice a lo hi, Γ => (evE a Γ).bind fun x => (evO lo Γ).bind fun l => (evO hi Γ).bind fun h => sliceD x l h
  | .call f args kws sel dfts, Γ => (evEs args Γ).bind fun ds => (evEs kws Γ).bind fun zs => .need (decide ((selL sel ds zs dfts).length = sel.length)) ((C f (selL sel ds zs dfts)).bind fun r => .ret r.1)
  | .bcall f args, Γ => (evEs args Γ).bind fun ds => bcallD f ds
  | .meth m o args, Γ => (evE o Γ).bind fun x => .need (recvD m x) ((evEs args Γ).bind fun ds => methD m x ds)
  | .isi a ts, Γ => (evE a Γ).bind fun x => blT (isTys x ts)
  | .lc elt own tg it ifs, Γ => (evI it Γ).bind fun ds => (lcLoop (fun d => ((T.ofOpt (bindTg tg d (wipeG Γ own))).bind fun Γ' => (evTs ifs Γ').bind fun b => match b with
      | true => (evE elt Γ').bind fun x => .ret (some x)
      | false => .ret none).still) ds).bind fun xs => .ret (.lst xs)
  | .fld a f cs, Γ => (evE a Γ).bind fun x => .ofOpt (fldD x f cs)
  | .mcall m o args kws rows, Γ => (evE o Γ).bind fun x => match x with
    | .ins c ns vs => (match rows.lookup c with
      | some (key, sel, dfts) => .need (!ns.contains m) ((evEs args Γ).bind fun ds => (evEs kws Γ).bind fun zs => .need (decide ((selL sel (x :: ds) zs dfts).length = sel.length)) ((C key (selL sel (x :: ds) zs dfts)).bind fun r => .ret r.1))
      | none => .bad)
    | _ => .bad
  | .dnew t, _ => .ret (.dct t [] [])
  | .srt elt own tg it ifs, Γ => (evI it Γ).bind fun ds => ((foldT (fun acc d => clG (T.ofOpt (bindTg tg d (wipeG Γ own))) (fun Γ' => evTs ifs Γ') (fun Γ' acc => (evE elt Γ').bind fun x => sinkS x acc) acc) [] ds).still).bind fun xs => (sortSet xs).bind fun es => .ret (.lst es)
  | .lc2 elt own tg it ifs tg1 it1 ifs1, Γ => (evI it Γ).bind fun ds => ((foldT (fun acc d => clG (T.ofOpt (bindTg tg d (wipeG Γ own))) (fun Γ' => evTs ifs Γ') (fun Γ' acc => (evI it1 Γ').bind fun ds1 =>
      foldT (fun acc d => clG (T.ofOpt (bindTg tg1 d (wipeG Γ' (tgs tg1)))) (fun Γ' => evTs ifs1 Γ') (fun Γ' acc => (evE elt Γ').bind fun x => sinkL x acc) acc) acc ds1) acc) [] ds).still).bind fun xs => .ret (.lst xs)
  | .dc t k v own tg it ifs, Γ => (evI it Γ).bind fun ds => ((foldT (fun acc d => clG (T.ofOpt (bindTg tg d (wipeG Γ own))) (fun Γ' => evTs ifs Γ') (fun Γ' acc => (evE k Γ').bind fun x => (evE v Γ').bind fun y => sinkD t x y acc) acc) ([], []) ds).still).bind fun q => .ret (.dct t q.1 q.2)
  | .dc2 t k v own tg it ifs tg1 it1 ifs1, Γ => (evI it Γ).bind fun ds => ((foldT (fun acc d => clG (T.ofOpt (bindTg tg d (wipeG Γ own))) (fun Γ' => evTs ifs Γ') (fun Γ' acc => (evI it1 Γ').bind fun ds1 =>
      foldT (fun acc d => clG (T.ofOpt (bindTg tg1 d (wipeG Γ' (tgs tg1)))) (fun Γ' => evTs ifs1 Γ') (fun Γ' acc => (evE k Γ').bind fun x => (evE v Γ').bind fun y => sinkD t x y acc) acc) acc ds1) acc) ([], []) ds).still).bind fun q => .ret (.dct t q.1 q.2)
  | .lenset a, Γ => (evE a Γ).bind lensetD
  | .lenm a rows, Γ => (evE a Γ).bind (lenmD C rows)
  | .step a k, Γ => (evE a Γ).bind fun x => stepD x k
def evEs : List OE → Gam → T (List D)
  | [], _ => .ret []
  | e :: es, Γ => (evE e Γ).bind fun x => (evEs es Γ).bind fun xs => .ret (x :: xs)
def evO : Option OE → Gam → T (Option Int)
  | none, _ => .ret none
  | some e, Γ => (evE e Γ).bind fun x => match x with | .int i => .ret (some i) | _ => .bad
/-- and, or as values -/
def evAnd : List OE → Gam → T D
  | [], _ => .bad
  | e :: es, Γ => match es with
    | [] => evE e Γ
    | _ :: _ => (evE e Γ).bind fun x => (truthD x).bind fun c => match c with
      | true => evAnd es Γ
      | false => .ret x
def evOr : List OE → Gam → T D
  | [], _ => .bad
  | e :: es, Γ => match es with
    | [] => evE e Γ
    | _ :: _ => (evE e Γ).bind fun x => (truthD x).bind fun c => match c with
      | true => .ret x
      | false => evOr es Γ
/-- as a test -/
def evT : OT → Gam → T Bool
  | .e a, Γ => (evE a Γ).bind truthD
  | .and_ es, Γ => evTAnd es Γ
  | .or_ es, Γ => evTOr es Γ
  | .not_ a, Γ => (evT a Γ).bind fun b => .ret (!b)
def evTAnd : List OT → Gam → T Bool
  | [], _ => .bad
  | e :: es, Γ => match es with
    | [] => evT e Γ
    | _ :: _ => (evT e Γ).bind fun c => match c with | true => evTAnd es Γ | false => .ret false
def evTOr : List OT → Gam → T Bool
  | [], _ => .bad
  | e :: es, Γ => match es with
    | [] => evT e Γ
    | _ :: _ => (evT e Γ).bind fun c => match c with | true => .ret true | false => evTOr es Γ
def evTs : List OT → Gam → T Bool
  | [], _ => .ret true
  | e :: es, Γ => match es with
    | [] => evT e Γ
    | _ :: _ => .bad
def evI : OI → Gam → T (List D)
  | .e a, Γ => (evE a Γ).bind itemsD
  | .rng1 a, Γ => (evE a Γ).bind fun x => match x with
    | .int j => .need (decide (-(2 ^ 62) ≤ j ∧ j ≤ 16777216)) (.ret (rangeD 0 j.toNat))
    | _ => .bad
  | .rng2 a b, Γ => (evE a Γ).bind fun x => (evE b Γ).bind fun y => match x, y with
    | .int i, .int j => .need (decide (-(2 ^ 62) ≤ i ∧ i < 2 ^ 62 ∧ -(2 ^ 62) ≤ j ∧ j < 2 ^ 62 ∧ j - i ≤ 16777216)) (.ret (rangeD i (j - i).toNat))
    | _, _ => .bad
  | .enum a, Γ => (evE a Γ).bind fun x => match x with | .lst xs => .ret (enumD 0 xs) | _ => .bad
  | .zip a b, Γ => (evE a Γ).bind fun x => (evE b Γ).bind fun y => match x, y with
    | .lst xs, .lst ys => .ret (zipD xs ys)
    | .tup xs, .tup ys => .ret (zipD xs ys)
    | _, _ => .bad
end
end Dy

set_option linter.all false
set_option maxRecDepth 10000
set_option autoImplicit false
/-! Dy, part 2: data in the heap. -/
namespace Dy
open PySem PySem.Spec PyProof.Rows L2

/-- a tuple is frozen -/
def TAt (K : PySem.W.Frag) (S : Addr → Prop) (H : Hp) (a : Addr) (xs : List V) : Prop := S a ∧ H a = some (.tup xs)
theorem TAt.sq {K : PySem.W.Frag} {S : Addr → Prop} {H : Hp} {a : Addr} {xs : List V} (h : TAt K S H a xs) : SqT K H a xs := .inl (.inl h.2)
/-- a list of the module's own -/
def KList (K : PySem.W.Frag) (a : Addr) (xs : List V) : Prop := ∃ (o : Obj) (its : Array Value) (n : Nat), K.lookup a = some o ∧ o.cls = .type "list" ∧ o.dict = none ∧ o.data = .seq its n ∧ its.size ≤ sizeLine ∧ Vals xs its.toList
def SAt (K : PySem.W.Frag) (S : Addr → Prop) (H : Hp) (a : Addr) (xs : List V) : Prop := (S a ∧ Rd H a (.lst xs)) ∨ KList K a xs
theorem SAt.sq {K : PySem.W.Frag} {S : Addr → Prop} {H : Hp} {a : Addr} {xs : List V} (h : SAt K S H a xs) : SqL K H a xs := by
  rcases h with ⟨_, h⟩ | h
  · exact .inl h
  · exact .inr h
theorem SAt.mono {K : PySem.W.Frag} {S S' : Addr → Prop} {H H' : Hp} {a : Addr} {xs : List V} (hS : ∀ a, S a → S' a) (hH : ∀ a o, S a → H a = some o → H' a = some o) (h : SAt K S H a xs) : SAt K S' H' a xs :=
  h.imp (fun ⟨s, p⟩ => ⟨hS _ s, p.imp (hH _ _ s) (fun ⟨o, z⟩ => ⟨o, hH _ _ s z⟩)⟩) fun z => z
/-- as a key of a dict -/
def keyD : D → Option Key
  | .int i => some (.inl i)
  | .str l => if okS l then some (.inr ⟨l.toArray⟩) else none
  | _ => none
def keysD : List D → Option (List Key)
  | [] => some []
  | d :: ds => match keyD d, keysD ds with
    | some k, some ks => some (k :: ks)
    | _, _ => none
def tkeyD : D → Option (List Key)
  | .tup ds => keysD ds
  | _ => none
/-- a dict's object -/
def DctO (t : Bool) (ks : List D) (xs : List V) (o : HO) : Prop := match t with
  | false => ∃ kk : List Key, ks.map keyD = kk.map some ∧ kk.length = xs.length ∧ o = .dK (kk.zip xs)
  | true => ∃ kk : List (List Key), ks.map tkeyD = kk.map some ∧ kk.length = xs.length ∧ o = .dT (kk.zip xs)
theorem DctO.notup {t : Bool} {ks : List D} {xs : List V} {o : HO} (h : DctO t ks xs o) (ys : List V) : o ≠ .tup ys := by
  cases t with
  | false => obtain ⟨_, _, _, e⟩ := h; rw [e]; intro z; cases z
  | true => obtain ⟨_, _, _, e⟩ := h; rw [e]; intro z; cases z
section
variable (K : PySem.W.Frag) (bg : Option (Addr × Addr))
mutual
/-- the value v stands for d; its objects lie in S -/
def Rep (S : Addr → Prop) (H : Hp) : D → V → Prop
  | .non, v => v = .non
  | .bl b, v => v = .bl b
  | .int i, v => v = .int i
  | .str l, v => v = .str ⟨l.toArray⟩ ∧ okS l = true
  | .lst ds, v => ∃ a xs, v = .ref a ∧ S a ∧ Rd H a (.lst xs) ∧ Reps S H ds xs
  | .tup ds, v => ∃ a xs, v = .ref a ∧ TAt K S H a xs ∧ Reps S H ds xs
  | .dct t ks vs, v => ∃ a o xs, v = .ref a ∧ S a ∧ H a = some o ∧ DctO t ks xs o ∧ Reps S H vs xs
  | .ins c ns vs, v => ∃ a dx xs, v = .ref a ∧ S a ∧ H a = some (.ins (He.ga K c) dx (ns.zip xs)) ∧ ns.length = vs.length ∧ Reps S H vs xs
  | .bag, v => ∃ b, bg = some b ∧ v = .ref b.1
  | .scr a ns, v => v = .ref a ∧ SAt K S H a (ns.map V.int)
def Reps (S : Addr → Prop) (H : Hp) : List D → List V → Prop
  | [], xs => xs = []
  | d :: ds, xs => ∃ x r, xs = x :: r ∧ Rep S H d x ∧ Reps S H ds r
end
end
section
variable {K : PySem.W.Frag} {bg : Option (Addr × Addr)} {S S' : Addr → Prop} {H H' : Hp}
theorem TAt.mono {a : Addr} {xs : List V} (hS : ∀ a, S a → S' a) (hH : ∀ a o, S a → H a = some o → H' a = some o) (h : TAt K S H a xs) : TAt K S' H' a xs := ⟨hS _ h.1, hH _ _ h.1 h.2⟩
mutual
theorem Rep.mono (hS : ∀ a, S a → S' a) (hH : ∀ a o, S a → H a = some o → H' a = some o) : ∀ (d : D) (v : V), Rep K bg S H d v → Rep K bg S' H' d v
  | .non, _, h => h
  | .bl _, _, h => h
  | .int _, _, h => h
  | .str _, _, h => h
  | .lst ds, v, h => by
    obtain ⟨a, xs, e, s, p, r⟩ := h
    exact ⟨a, xs, e, hS _ s, p.imp (hH _ _ s) (fun ⟨o, z⟩ => ⟨o, hH _ _ s z⟩), Reps.mono hS hH ds xs r⟩
  | .tup ds, v, h => by
    obtain ⟨a, xs, e, t, r⟩ := h
    exact ⟨a, xs, e, t.mono hS hH, Reps.mono hS hH ds xs r⟩
  | .dct t ks vs, v, h => by
    obtain ⟨a, o, xs, e, s, p, q, r⟩ := h
    exact ⟨a, o, xs, e, hS _ s, hH _ _ s p, q, Reps.mono hS hH vs xs r⟩
  | .ins c ns vs, v, h => by
    obtain ⟨a, dx, xs, e, s, p, q, r⟩ := h
    exact ⟨a, dx, xs, e, hS _ s, hH _ _ s p, q, Reps.mono hS hH vs xs r⟩
  | .bag, _, h => h
  | .scr a ns, v, h => ⟨h.1, h.2.mono hS hH⟩
theorem Reps.mono (hS : ∀ a, S a → S' a) (hH : ∀ a o, S a → H a = some o → H' a = some o) : ∀ (ds : List D) (vs : List V), Reps K bg S H ds vs → Reps K bg S' H' ds vs
  | [], _, h => h
  | d :: ds, vs, h => by
    obtain ⟨x, r, e, h1, h2⟩ := h
    exact ⟨x, r, e, Rep.mono hS hH d x h1, Reps.mono hS hH ds r h2⟩
end
theorem Reps.length : ∀ {ds : List D} {vs : List V}, Reps K bg S H ds vs → vs.length = ds.length
  | [], _, h => by rw [show _ = [] from h]; rfl
  | d :: ds, vs, h => by
    obtain ⟨x, r, e, _, h2⟩ := h
    rw [e, List.length_cons, List.length_cons, Reps.length h2]
theorem Reps.get : ∀ {ds : List D} {vs : List V} {i : Nat} {d : D}, Reps K bg S H ds vs → ds[i]? = some d → ∃ v, vs[i]? = some v ∧ Rep K bg S H d v
  | [], _, _, _, h, e => by simp at e
  | d :: ds, vs, i, d', h, e => by
    obtain ⟨x, r, e2, h1, h2⟩ := h
    subst e2
    cases i with
    | zero =>
      have : d = d' := by simpa using e
      subst this
      exact ⟨x, rfl, h1⟩
    | succ i => exact Reps.get (i := i) h2 (by simpa using e)
theorem Reps.append : ∀ {as bs : List D} {xs ys : List V}, Reps K bg S H as xs → Reps K bg S H bs ys → Reps K bg S H (as ++ bs) (xs ++ ys)
  | [], bs, xs, ys, h, h' => by
    rw [show xs = [] from h]
    exact h'
  | d :: ds, bs, xs, ys, h, h' => by
    obtain ⟨x, r, e2, h1, h2⟩ := h
    subst e2
    exact ⟨x, r ++ ys, rfl, h1, Reps.append h2 h'⟩
theorem Reps.drop : ∀ {ds : List D} {vs : List V} (n : Nat), Reps K bg S H ds vs → Reps K bg S H (ds.drop n) (vs.drop n)
  | [], vs, n, h => by
    rw [show vs = [] from h]
    simp [Reps]
  | d :: ds, vs, 0, h => h
  | d :: ds, vs, n + 1, h => by
    obtain ⟨x, r, e2, h1, h2⟩ := h
    subst e2
    exact Reps.drop n h2
theorem Reps.take : ∀ {ds : List D} {vs : List V} (n : Nat), Reps K bg S H ds vs → Reps K bg S H (ds.take n) (vs.take n)
  | [], vs, n, h => by
    rw [show vs = [] from h]
    simp [Reps]
  | d :: ds, vs, 0, h => by simp [Reps]
  | d :: ds, vs, n + 1, h => by
    obtain ⟨x, r, e2, h1, h2⟩ := h
    subst e2
    exact ⟨x, r.take n, rfl, h1, Reps.take n h2⟩
theorem Rep.flat {d : D} {v : V} (f : isFlat d = true) (h : Rep K bg S H d v) : Rep K bg S' H' d v := by
  cases d <;> first | exact h | cases f
end
/-- the object o holds d -/
def ObjR (K : PySem.W.Frag) (bg : Option (Addr × Addr)) (S : Addr → Prop) (H : Hp) (d : D) (o : HO) : Prop := match d with
  | .lst ds => ∃ xs, o = .lst xs ∧ Reps K bg S H ds xs
  | .dct t ks vs => ∃ xs, DctO t ks xs o ∧ Reps K bg S H vs xs
  | .ins c ns vs => ∃ dx xs, o = .ins (He.ga K c) dx (ns.zip xs) ∧ ns.length = vs.length ∧ Reps K bg S H vs xs
  | _ => False
section
variable {K : PySem.W.Frag} {bg : Option (Addr × Addr)} {S S' : Addr → Prop} {H H' : Hp} {d : D} {o : HO} {p : Addr}
theorem ObjR.rep (h : ObjR K bg S H d o) (s : S p) (hp : H p = some o) : Rep K bg S H d (.ref p) := by
  cases d <;> first | exact h.elim | skip
  · obtain ⟨xs, e, r⟩ := h
    subst e
    exact ⟨p, xs, rfl, s, .inl hp, r⟩
  · obtain ⟨xs, q, r⟩ := h
    exact ⟨p, o, xs, rfl, s, hp, q, r⟩
  · obtain ⟨dx, xs, e, q, r⟩ := h
    subst e
    exact ⟨p, dx, xs, rfl, s, hp, q, r⟩
theorem ObjR.mono (hS : ∀ a, S a → S' a) (hH : ∀ a o, S a → H a = some o → H' a = some o) (h : ObjR K bg S H d o) : ObjR K bg S' H' d o := by
  cases d <;> first | exact h.elim | skip
  · obtain ⟨xs, e, r⟩ := h
    exact ⟨xs, e, r.mono hS hH _ _⟩
  · obtain ⟨xs, q, r⟩ := h
    exact ⟨xs, q, r.mono hS hH _ _⟩
  · obtain ⟨dx, xs, e, q, r⟩ := h
    exact ⟨dx, xs, e, q, r.mono hS hH _ _⟩
theorem ObjR.notup (h : ObjR K bg S H d o) (ys : List V) : o ≠ .tup ys := by
  cases d <;> first | exact h.elim | skip
  · obtain ⟨xs, e, r⟩ := h
    rw [e]; intro z; cases z
  · obtain ⟨xs, q, r⟩ := h
    exact q.notup ys
  · obtain ⟨dx, xs, e, q, r⟩ := h
    rw [e]; intro z; cases z
theorem ObjR.lst {ds : List D} {xs : List V} (r : Reps K bg S H ds xs) : ObjR K bg S H (.lst ds) (.lst xs) := ⟨xs, rfl, r⟩
/-- only lists, dicts and instances are objects of one's own -/
theorem ObjR.unflat (h : ObjR K bg S H d o) : isFlat d = false := by
  cases d <;> first | exact h.elim | rfl
end

/-! ### worlds -/
/-- the draws: cells, the next one, what is left of a great one, a mixed number, how many -/
def BagAt (H : Hp) (b : Addr × Addr) : Prop := ∃ (ns : List Int) (i m st n : Int), H b.1 = some (.lst [.ref b.2, .int i, .int m, .int st, .int n]) ∧ Rd H b.2 (.lst (ns.map V.int)) ∧ 0 ≤ i ∧ 0 ≤ m ∧ 0 ≤ st ∧ st < 2147483399 ∧ i ≤ ns.length
structure Wld (bg : Option (Addr × Addr)) (S : Addr → Prop) (H : Hp) : Prop where
  dom : ∀ a, S a → H a ≠ none
  bag : ∀ b, bg = some b → BagAt H b ∧ ¬ S b.1 ∧ b.2 ≠ b.1
  /-- every tuple is frozen -/
  tup : ∀ a xs, H a = some (.tup xs) → S a
def isBag (bg : Option (Addr × Addr)) (a : Addr) : Prop := ∃ b, bg = some b ∧ a = b.1
/-- more is frozen; what was there stands, but for the draws -/
structure Ext (bg : Option (Addr × Addr)) (S : Addr → Prop) (H : Hp) (S' : Addr → Prop) (H' : Hp) : Prop where
  sub : ∀ a, S a → S' a
  new : ∀ a, S' a → S a ∨ H a = none
  keep : ∀ a o, H a = some o → ¬ isBag bg a → H' a = some o
  dom : ∀ a, H a ≠ none → H' a ≠ none
section
variable {bg : Option (Addr × Addr)} {S S' S1 S2 : Addr → Prop} {H H' H1 H2 : Hp}
theorem Ext.refl : Ext bg S H S H := ⟨fun _ h => h, fun _ h => .inl h, fun _ _ h _ => h, fun _ h => h⟩
theorem Ext.unborn (h : Ext bg S H S1 H1) {a : Addr} (e : H1 a = none) : H a = none := by
  cases q : H a with
  | none => rfl
  | some o => exact absurd e (h.dom a (by rw [q]; simp))
theorem Ext.trans (h : Ext bg S H S1 H1) (h' : Ext bg S1 H1 S2 H2) : Ext bg S H S2 H2 := ⟨fun a x => h'.sub a (h.sub a x), fun a x => by
  rcases h'.new a x with y | y
  · exact h.new a y
  · exact .inr (h.unborn y), fun a o x n => h'.keep a o (h.keep a o x n) n, fun a x => h'.dom a (h.dom a x)⟩
theorem Wld.nob (W : Wld bg S H) {a : Addr} (h : S a) : ¬ isBag bg a := fun ⟨b, e, z⟩ => (W.bag b e).2.1 (z ▸ h)
theorem Ext.rep {K : PySem.W.Frag} (E : Ext bg S H S' H') (W : Wld bg S H) {d : D} {v : V} (h : Rep K bg S H d v) : Rep K bg S' H' d v :=
  h.mono E.sub (fun a o s e => E.keep a o e (W.nob s)) d v
theorem Ext.reps {K : PySem.W.Frag} (E : Ext bg S H S' H') (W : Wld bg S H) {ds : List D} {vs : List V} (h : Reps K bg S H ds vs) : Reps K bg S' H' ds vs :=
  h.mono E.sub (fun a o s e => E.keep a o e (W.nob s)) ds vs
/-- a new object, frozen at once -/
def plus (S : Addr → Prop) (p : Addr) : Addr → Prop := fun a => S a ∨ a = p
theorem Ext.laid (p : Addr) (o : HO) (hp : H p = none) : Ext bg S H (plus S p) (upd H p o) := ⟨fun _ h => .inl h, fun a h => by
  rcases h with h | h
  · exact .inl h
  · rw [h]; exact .inr hp, fun a u h _ => by rw [upd_ne (ne_of_none h hp)]; exact h, fun a h => by
    by_cases e : a = p
    · rw [e, upd_same]; simp
    · rw [upd_ne e]; exact h⟩
/-- a new object, not frozen -/
theorem Ext.made (p : Addr) (o : HO) (hp : H p = none) : Ext bg S H S (upd H p o) := ⟨fun _ h => h, fun a h => .inl h, fun a u h _ => by rw [upd_ne (ne_of_none h hp)]; exact h, fun a h => by
    by_cases e : a = p
    · rw [e, upd_same]; simp
    · rw [upd_ne e]; exact h⟩
theorem BagAt.stay {b : Addr × Addr} (h : BagAt H b) (k1 : ∀ o, H b.1 = some o → H' b.1 = some o) (k2 : ∀ o, H b.2 = some o → H' b.2 = some o) : BagAt H' b := by
  obtain ⟨ns, i, m, st, n, e1, e2, r⟩ := h
  exact ⟨ns, i, m, st, n, k1 _ e1, e2.imp (k2 _) (fun ⟨o, z⟩ => ⟨o, k2 _ z⟩), r⟩
theorem BagAt.there {b : Addr × Addr} (h : BagAt H b) : H b.1 ≠ none ∧ H b.2 ≠ none := by
  obtain ⟨ns, i, m, st, n, e1, e2, r⟩ := h
  refine ⟨by rw [e1]; simp, ?_⟩
  rcases e2 with e2 | ⟨o, e2⟩ <;> (rw [e2]; simp)
theorem Wld.made (W : Wld bg S H) {p : Addr} {o : HO} (hp : H p = none) (nt : ∀ ys, o ≠ .tup ys) : Wld bg S (upd H p o) := ⟨fun a h => by
  by_cases e : a = p
  · rw [e, upd_same]; simp
  · rw [upd_ne e]; exact W.dom a h, fun b e => by
    obtain ⟨B, n, ne⟩ := W.bag b e
    exact ⟨B.stay (fun o q => by rw [upd_ne (ne_of_none q hp)]; exact q) (fun o q => by rw [upd_ne (ne_of_none q hp)]; exact q), n, ne⟩, fun a xs z => by
    by_cases e : a = p
    · rw [e, upd_same] at z
      exact absurd (Option.some.inj z) (nt xs)
    · rw [upd_ne e] at z
      exact W.tup a xs z⟩
theorem Wld.laid (W : Wld bg S H) {p : Addr} {o : HO} (hp : H p = none) : Wld bg (plus S p) (upd H p o) := ⟨fun a h => by
  by_cases e : a = p
  · rw [e, upd_same]; simp
  · rw [upd_ne e]
    rcases h with h | h
    · exact W.dom a h
    · exact absurd h e, fun b e => by
    obtain ⟨B, n, ne⟩ := W.bag b e
    refine ⟨B.stay (fun o q => by rw [upd_ne (ne_of_none q hp)]; exact q) (fun o q => by rw [upd_ne (ne_of_none q hp)]; exact q), fun z => ?_, ne⟩
    rcases z with z | z
    · exact n z
    · exact (B.there).1 (by rw [z]; exact hp), fun a xs z => by
    by_cases e : a = p
    · exact .inr e
    · rw [upd_ne e] at z
      exact .inl (W.tup a xs z)⟩
end

/-! ### slots -/
/-- what a slot of one's own holds -/
def Own (K : PySem.W.Frag) (bg : Option (Addr × Addr)) (S : Addr → Prop) (H0 H : Hp) (d : D) (v : V) : Prop :=
  ∃ p o, v = .ref p ∧ ¬ S p ∧ H0 p = none ∧ H p = some o ∧ ObjR K bg S H d o
/-- O: the slots that own their object -/
structure Abs (K : PySem.W.Frag) (bg : Option (Addr × Addr)) (H0 : Hp) (O : List Nat) (Γ : Gam) (S : Addr → Prop) (σ : L2.St) (H : Hp) : Prop where
  len : σ.length = Γ.length
  dat : ∀ (i : Nat) (d : D), i ∉ O → Γ[i]? = some (some d) → ∃ v, σ[i]? = some (some v) ∧ Rep K bg S H d v
  own : ∀ (i : Nat), i ∈ O → ∃ d v, Γ[i]? = some (some d) ∧ σ[i]? = some (some v) ∧ Own K bg S H0 H d v
  apart : ∀ (i j : Nat) (a : Addr), i ∈ O → j ∈ O → i ≠ j → σ[i]? = some (some (V.ref a)) → σ[j]? ≠ some (some (V.ref a))
/-- a function's body at work: S0, H0 the entry -/
structure At (K : PySem.W.Frag) (bg : Option (Addr × Addr)) (S0 : Addr → Prop) (H0 : Hp) (O : List Nat) (Γ : Gam) (S : Addr → Prop) (σ : L2.St) (H : Hp) : Prop where
  wld0 : Wld bg S0 H0
  wld : Wld bg S H
  ext : Ext bg S0 H0 S H
  abs : Abs K bg H0 O Γ S σ H
/-- frozen, or the object of an own slot of A -/
def Gs (S : Addr → Prop) (O : List Nat) (σ : L2.St) (A : List Nat) : Addr → Prop := fun a => S a ∨ ∃ (i : Nat), i ∈ A ∧ i ∈ O ∧ σ[i]? = some (some (V.ref a))
section
variable {K : PySem.W.Frag} {bg : Option (Addr × Addr)} {S0 S S' : Addr → Prop} {H0 H H' : Hp} {O : List Nat} {Γ : Gam} {σ : L2.St} {A A' : List Nat}
theorem Own.nobag {d : D} {v : V} {p : Addr} (W0 : Wld bg S0 H0) (h : Own K bg S H0 H d v) (e : v = .ref p) : ¬ isBag bg p ∧ H0 p = none := by
  obtain ⟨q, o, e1, _, h0, _⟩ := h
  subst e1
  injection e with e
  subst e
  refine ⟨fun ⟨b, e, z⟩ => ?_, h0⟩
  exact ((W0.bag b e).1.there).1 (z ▸ h0)
/-- the object of an own slot -/
theorem Abs.at (h : Abs K bg H0 O Γ S σ H) {i : Nat} {a : Addr} (hi : i ∈ O) (e : σ[i]? = some (some (V.ref a))) : ∃ d o, Γ[i]? = some (some d) ∧ ¬ S a ∧ H0 a = none ∧ H a = some o ∧ ObjR K bg S H d o := by
  obtain ⟨d, v, g, e', p, o, ev, r⟩ := h.own i hi
  rw [e] at e'
  cases e'
  injection ev with ev
  subst ev
  exact ⟨d, o, g, r⟩
/-- the world with the own slots of A frozen for the time -/
theorem At.gwld (h : At K bg S0 H0 O Γ S σ H) (A : List Nat) : Wld bg (Gs S O σ A) H := ⟨fun a z => by
  rcases z with z | ⟨i, _, m, e⟩
  · exact h.wld.dom a z
  · obtain ⟨ds, xs, g, n, h0, hp, _⟩ := h.abs.at m e
    rw [hp]; simp, fun b e => by
    obtain ⟨B, n, ne⟩ := h.wld.bag b e
    refine ⟨B, fun z => ?_, ne⟩
    rcases z with z | ⟨i, _, m, e'⟩
    · exact n z
    · obtain ⟨ds, xs, g, n, h0, hp, _⟩ := h.abs.at m e'
      exact ((h.wld0.bag b e).1.there).1 h0, fun a xs z => .inl (h.wld.tup a xs z)⟩
theorem Gs.sub (h : ∀ i, i ∈ A → i ∈ A') : ∀ a, Gs S O σ A a → Gs S O σ A' a := fun a z => by
  rcases z with z | ⟨i, m, g, e⟩
  · exact .inl z
  · exact .inr ⟨i, h i m, g, e⟩
theorem Gs.ext (h : ∀ a, S a → S' a) : ∀ a, Gs S O σ A a → Gs S' O σ A a := fun a z => by
  rcases z with z | z
  · exact .inl (h a z)
  · exact .inr z
/-- from one state of an expression's evaluation to a later one -/
theorem At.rep (h : At K bg S0 H0 O Γ S σ H) (E : Ext bg S H S' H') {d : D} {v : V} (r : Rep K bg (Gs S O σ A) H d v) : Rep K bg (Gs S' O σ A) H' d v :=
  r.mono (Gs.ext E.sub) (fun a o s e => E.keep a o e ((h.gwld A).nob s)) d v
theorem At.reps (h : At K bg S0 H0 O Γ S σ H) (E : Ext bg S H S' H') {d : List D} {v : List V} (r : Reps K bg (Gs S O σ A) H d v) : Reps K bg (Gs S' O σ A) H' d v :=
  r.mono (Gs.ext E.sub) (fun a o s e => E.keep a o e ((h.gwld A).nob s)) d v
/-- a later state: more is frozen, none of it one's own -/
theorem At.later (h : At K bg S0 H0 O Γ S σ H) (E : Ext bg S H S' H') (W : Wld bg S' H') : At K bg S0 H0 O Γ S' σ H' := by
  refine ⟨h.wld0, W, h.ext.trans E, h.abs.len, fun i d n g => ?_, fun i m => ?_, h.abs.apart⟩
  · obtain ⟨v, e, r⟩ := h.abs.dat i d n g
    exact ⟨v, e, E.rep h.wld r⟩
  · obtain ⟨d, v, g, e, p, o, ev, ns, h0, hp, r⟩ := h.abs.own i m
    refine ⟨d, v, g, e, p, o, ev, fun z => ?_, h0, E.keep p _ hp ?_, r.mono E.sub (fun a o s e => E.keep a o e (h.wld.nob s))⟩
    · rcases E.new p z with z | z
      · exact ns z
      · rw [hp] at z; cases z
    · rintro ⟨b, e, z⟩
      exact ((h.wld0.bag b e).1.there).1 (z ▸ h0)
/-- own slots of A are frozen -/
theorem At.freeze (h : At K bg S0 H0 O Γ S σ H) (A : List Nat) : At K bg S0 H0 (O.filter fun i => decide (i ∉ A)) Γ (Gs S O σ A) σ H := by
  have up : ∀ a, S a → Gs S O σ A a := fun _ h => .inl h
  refine ⟨h.wld0, h.gwld A, ⟨fun a z => up a (h.ext.sub a z), fun a z => ?_, h.ext.keep, h.ext.dom⟩, h.abs.len, fun i d n g => ?_, fun i m => ?_, fun i j a mi mj => h.abs.apart i j a (List.mem_filter.mp mi).1 (List.mem_filter.mp mj).1⟩
  · rcases z with z | ⟨i, _, m, e⟩
    · exact h.ext.new a z
    · obtain ⟨ds, xs, g, n, h0, hp, _⟩ := h.abs.at m e
      exact .inr h0
  · by_cases mo : i ∈ O
    · have ma : i ∈ A := by
        by_cases q : i ∈ A
        · exact q
        · exact absurd (List.mem_filter.mpr ⟨mo, decide_eq_true q⟩) n
      obtain ⟨d', v, g', e, p, o, ev, ns, h0, hp, r⟩ := h.abs.own i mo
      rw [g] at g'
      cases g'
      subst ev
      exact ⟨_, e, (r.mono up (fun _ _ _ q => q)).rep (.inr ⟨i, ma, mo, e⟩) hp⟩
    · obtain ⟨v, e, r⟩ := h.abs.dat i d mo g
      exact ⟨v, e, r.mono up (fun _ _ _ q => q) d v⟩
  · obtain ⟨mo, q⟩ := List.mem_filter.mp m
    have q := of_decide_eq_true q
    obtain ⟨d, v, g, e, p, o, ev, ns, h0, hp, r⟩ := h.abs.own i mo
    refine ⟨d, v, g, e, p, o, ev, fun z => ?_, h0, hp, r.mono up (fun _ _ _ q => q)⟩
    rcases z with z | ⟨j, mj, moj, ej⟩
    · exact ns z
    · subst ev
      by_cases ij : i = j
      · subst ij; exact q mj
      · exact h.abs.apart i j p mo moj ij e ej
/-- slots forgotten -/
theorem wipeG_length (Γ : Gam) : ∀ vs : List Nat, (wipeG Γ vs).length = Γ.length
  | [] => rfl
  | v :: vs => by unfold wipeG; rw [List.length_set, wipeG_length Γ vs]
theorem wipe_get {α : Type} {Γ : List (Option α)} {i : Nat} {x : α} : ∀ {vs : List Nat} {w : List Nat → List (Option α)}, (w [] = Γ) → (∀ v vs, w (v :: vs) = (w vs).set v none) → ((w vs)[i]? = some (some x) ↔ Γ[i]? = some (some x) ∧ i ∉ vs)
  | [], w, h0, _ => by rw [h0]; simp
  | v :: vs, w, h0, h1 => by
    rw [h1]
    by_cases e : v = i
    · subst e
      constructor
      · intro h
        by_cases hv : v < (w vs).length
        · rw [List.getElem?_set_self hv] at h; cases h
        · rw [List.getElem?_eq_none (by simpa using hv)] at h; cases h
      · rintro ⟨_, h⟩
        exact absurd (by simp) h
    · rw [List.getElem?_set_ne e, wipe_get h0 h1]
      constructor
      · rintro ⟨a, b⟩
        exact ⟨a, by simp only [List.mem_cons, not_or]; exact ⟨fun z => e z.symm, b⟩⟩
      · rintro ⟨a, b⟩
        simp only [List.mem_cons, not_or] at b
        exact ⟨a, b.2⟩
theorem wipeG_get {i : Nat} {d : D} {vs : List Nat} : (wipeG Γ vs)[i]? = some (some d) ↔ Γ[i]? = some (some d) ∧ i ∉ vs := wipe_get (w := wipeG Γ) rfl fun _ _ => rfl
theorem wipeS_get {i : Nat} {v : V} {vs : List Nat} : (wipe σ vs)[i]? = some (some v) ↔ σ[i]? = some (some v) ∧ i ∉ vs := wipe_get (w := wipe σ) rfl fun _ _ => rfl
theorem At.wiped (h : At K bg S0 H0 O Γ S σ H) (vs : List Nat) : At K bg S0 H0 (O.filter fun i => decide (i ∉ vs)) (wipeG Γ vs) S (wipe σ vs) H := by
  refine ⟨h.wld0, h.wld, h.ext, by rw [wipeG_length, wipe_length]; exact h.abs.len, fun i d n g => ?_, fun i m => ?_, fun i j a mi mj ij e e' => ?_⟩
  · obtain ⟨g, nv⟩ := wipeG_get.mp g
    obtain ⟨v, e, r⟩ := h.abs.dat i d (fun mo => n (List.mem_filter.mpr ⟨mo, decide_eq_true nv⟩)) g
    exact ⟨v, wipeS_get.mpr ⟨e, nv⟩, r⟩
  · obtain ⟨mo, q⟩ := List.mem_filter.mp m
    have q := of_decide_eq_true q
    obtain ⟨d, v, g, e, r⟩ := h.abs.own i mo
    exact ⟨d, v, wipeG_get.mpr ⟨g, q⟩, wipeS_get.mpr ⟨e, q⟩, r⟩
  · exact h.abs.apart i j a (List.mem_filter.mp mi).1 (List.mem_filter.mp mj).1 ij (wipeS_get.mp e).1 (wipeS_get.mp e').1
/-- data is stored in a slot -/
theorem At.put (h : At K bg S0 H0 O Γ S σ H) {d : D} {v : V} (i : Nat) (r : Rep K bg S H d v) : At K bg S0 H0 (O.filter fun j => decide (j ≠ i)) (Γ.set i (some d)) S (σ.set i (some v)) H := by
  refine ⟨h.wld0, h.wld, h.ext, by rw [List.length_set, List.length_set]; exact h.abs.len, fun j d' n g => ?_, fun j m => ?_, fun j k a mj mk jk e e' => ?_⟩
  · by_cases ij : i = j
    · subst ij
      have hi : i < Γ.length := by
        have := (List.getElem?_eq_some_iff.mp g).1
        rw [List.length_set] at this
        exact this
      rw [List.getElem?_set_self hi] at g
      cases g
      exact ⟨v, List.getElem?_set_self (by rw [h.abs.len]; exact hi), r⟩
    · rw [List.getElem?_set_ne ij] at g ⊢
      exact h.abs.dat j d' (fun mo => n (List.mem_filter.mpr ⟨mo, decide_eq_true fun z => ij z.symm⟩)) g
  · obtain ⟨mo, q⟩ := List.mem_filter.mp m
    have q := of_decide_eq_true q
    obtain ⟨d', v', g, e, r'⟩ := h.abs.own j mo
    exact ⟨d', v', by rw [List.getElem?_set_ne (fun z => q z.symm)]; exact g, by rw [List.getElem?_set_ne (fun z => q z.symm)]; exact e, r'⟩
  · have qj := of_decide_eq_true (List.mem_filter.mp mj).2
    have qk := of_decide_eq_true (List.mem_filter.mp mk).2
    rw [List.getElem?_set_ne (fun z => qj z.symm)] at e
    rw [List.getElem?_set_ne (fun z => qk z.symm)] at e'
    exact h.abs.apart j k a (List.mem_filter.mp mj).1 (List.mem_filter.mp mk).1 jk e e'
end
end Dy

set_option linter.all false
set_option maxRecDepth 10000
set_option autoImplicit false
/-! Dy, part 3: the operations on data are those on values. -/
namespace Dy
open PySem PySem.Spec PyProof.Rows L2

/-- what is wanted of a value that stands for d -/
def Rs (K : PySem.W.Frag) (bg : Option (Addr × Addr)) (S : Addr → Prop) (H : Hp) (Q : VK) (d : D) : Prop :=
  ∀ u S' H', Wld bg S' H' → Ext bg S H S' H' → Rep K bg S' H' d u → Q u H'
section
variable {K : PySem.W.Frag} {bg : Option (Addr × Addr)} {S : Addr → Prop} {H : Hp} {Q : VK}
theorem Rs.here {d : D} {u : V} (h : Rs K bg S H Q d) (W : Wld bg S H) (r : Rep K bg S H d u) : Q u H := h u S H W .refl r
theorem Rs.lst {ds : List D} {xs : List V} (h : Rs K bg S H Q (.lst ds)) (W : Wld bg S H) (r : Reps K bg S H ds xs) : ∀ p, H p = none → Q (.ref p) (upd H p (.lst xs)) := fun p hp =>
  h _ (plus S p) _ (W.laid hp) (.laid p _ hp) ⟨p, xs, rfl, .inr rfl, .inl upd_same, (Ext.laid (bg := bg) p _ hp).reps W r⟩
theorem Rs.tup {ds : List D} {xs : List V} (h : Rs K bg S H Q (.tup ds)) (W : Wld bg S H) (r : Reps K bg S H ds xs) : ∀ p, H p = none → Q (.ref p) (upd H p (.tup xs)) := fun p hp =>
  h _ (plus S p) _ (W.laid hp) (.laid p _ hp) ⟨p, xs, rfl, ⟨.inr rfl, upd_same⟩, (Ext.laid (bg := bg) p _ hp).reps W r⟩
theorem Rs.obj {d : D} {o : HO} (h : Rs K bg S H Q d) (W : Wld bg S H) (r : ObjR K bg S H d o) : ∀ p, H p = none → Q (.ref p) (upd H p o) := fun p hp =>
  h _ (plus S p) _ (W.laid hp) (.laid p _ hp) (ObjR.rep (r.mono (fun _ z => .inl z) fun a u s e => (Ext.laid (S := S) (bg := bg) p o hp).keep a u e (W.nob s)) (.inr rfl) upd_same)
end
/-! ### lists that may be frozen -/
theorem rd_list {X : Cx} {pins : List (Addr × Obj)} {σ : L2.St} {H : Hp} {s : Shared} {a : Addr} {xs : List V} (I : L2.Inv X pins σ H s) (h : Rd H a (.lst xs)) : ∃ (ws : List Value) (m : Nat), Vals xs ws ∧ xs.length = ws.length ∧ xs.length ≤ sizeLine ∧ s.heap.get? a = some { cls := .type "list", data := .seq ws.toArray m } := by
  obtain ⟨z, ws, m, r, e⟩ := h.ok I.hok
  exact ⟨ws, m, r, r.length, z, e⟩
theorem op_catR {X : Cx} : OpR X (binaryOp .Add) (fun v w H Q => ∃ a b xs zs, v = .ref a ∧ w = .ref b ∧ Rd H a (.lst xs) ∧ Rd H b (.lst zs) ∧ xs.length + zs.length ≤ sizeLine ∧ ∀ p, H p = none → Q (.ref p) (upd H p (.lst (xs ++ zs)))) := by
  intro pins s σ H v w u1 u2 Q I r1 r2 ⟨a, b, xs, zs, ev, ew, ha, hb, hz, q⟩
  subst ev ew
  cases r1
  cases r2
  obtain ⟨ws, m, t1, l1, _, e1⟩ := rd_list I ha
  obtain ⟨ws2, m2, t2, l2, _, e2⟩ := rd_list I hb
  refine PySem.P.add_list e1 e2 ?_ (by rw [List.size_toArray, List.size_toArray, ← l1, ← l2]; exact hz)
  have cat : ws.toArray ++ ws2.toArray = (ws ++ ws2).toArray := by simp
  rw [cat]
  exact ⟨V.ref _, _, I.lnew (t' := s.toks) (t1.append t2) (by rw [List.length_append]; exact hz), rfl, q _ I.fresh⟩
theorem op_repR {X : Cx} : OpR X (binaryOp .Mult) (fun v w H Q => ∃ a k xs, v = .ref a ∧ w = .int k ∧ Rd H a (.lst xs) ∧ -(2 ^ 63) ≤ k ∧ k < 2 ^ 63 ∧ xs.length * k.toNat ≤ sizeLine ∧ ∀ p, H p = none → Q (.ref p) (upd H p (.lst (List.replicate k.toNat xs).flatten))) := by
  intro pins s σ H v w u1 u2 Q I r1 r2 ⟨a, k, xs, ev, ew, ha, k1, k2, hz, q⟩
  subst ev ew
  cases r1
  obtain ⟨t, rfl⟩ := r2
  obtain ⟨ws, m, t1, l1, _, e⟩ := rd_list I ha
  have small : ws.toArray.size * k.toNat ≤ sizeLine := by rw [List.size_toArray, ← l1]; exact hz
  have capOk : ¬ ws.toArray.size * k.toNat > (2 ^ 63 - 1) / 8 := by
    have hh : (sizeLine : Nat) ≤ (2 ^ 63 - 1) / 8 := by decide
    omega
  have fitOk : ¬ (!Builtin.List.listFitsIndex k) = true := by rw [fitsIndex_both k1 k2]; exact Bool.false_ne_true
  have longOk : ¬ Builtin.List.listTooLong (ws.toArray.size * k.toNat) = true := by rw [notLongL small]; exact Bool.false_ne_true
  have made : List.foldl (fun x1 x2 => x1 ++ x2) #[] (List.replicate (if ws.toArray.isEmpty = true then 0 else k.toNat) ws.toArray) = (List.replicate k.toNat ws).flatten.toArray := by
    have go : ∀ m : Nat, List.foldl (fun x1 x2 => x1 ++ x2) #[] (List.replicate m ws.toArray) = (List.replicate m ws).flatten.toArray := fun m => (L2.foldl_rep ws m []).trans (by rw [List.nil_append])
    rw [go]
    cases ws with
    | nil => simp
    | cons y ys => rw [if_neg (by simp)]
  refine wpAny_binaryOp_repeat_ref (T := "list") (U := "int") (by decide) ⟨_, e, rfl⟩ (fun s2 => typeIs_int s2 k t) noFill_list_mul F.fills_int_mul F.slot_int_rmul repeat_list F.slot_int_index.lookup ?_
  refine call_meets F.slot_int_rmul (typeIs_int s k t) F.entry_int_rmul (F.args_int_rmul_2 _ _) (int___rmul___int_list k t a ws.toArray m) ⟨e, rfl, ⟨_, e, rfl⟩, ?_⟩
  refine call_meets F.slot_list_mul ⟨_, e, rfl⟩ F.entry_list_mul (F.args_list_mul_2 _ _) (AutoListH.list___mul___list_int_3 a ws.toArray m k t fitOk capOk longOk) ⟨e, ?_⟩
  rw [made]
  exact ⟨V.ref _, _, I.lnew (t' := s.toks) (t1.rep k.toNat) (by rw [PyProof.Rows.lm_len_rep_flat, Nat.mul_comm]; exact hz), rfl, q _ I.fresh⟩
theorem natLt {b : Int} {n : Nat} (h0 : 0 < b) (h : b < 2 ^ n) : b.natAbs < 2 ^ n := by
  have e : ((b.natAbs : Nat) : Int) = b := Int.natAbs_of_nonneg (Int.le_of_lt h0)
  have : ((b.natAbs : Nat) : Int) < ((2 ^ n : Nat) : Int) := by
    rw [e]
    simpa using h
  exact Int.ofNat_lt.mp this
/-- a two-place operation on data -/
def rD2 (K : PySem.W.Frag) (EX : D → Prop) (f : D → D → T D) : R2 := fun v w H Q => ∃ bg S x y, Wld bg S H ∧ Rep K bg S H x v ∧ Rep K bg S H y w ∧ (f x y).All (Rs K bg S H Q) EX
theorem okS_append {a b : List Nat} (ha : okS a = true) (hb : okS b = true) : okS (a ++ b) = true := by
  unfold okS at *
  rw [List.all_append, ha, hb]; rfl
theorem okS_take {a : List Nat} (n : Nat) (h : okS a = true) : okS (a.take n) = true := List.all_eq_true.mpr fun x hx => List.all_eq_true.mp h x (List.mem_of_mem_take hx)
theorem okS_drop {a : List Nat} (n : Nat) (h : okS a = true) : okS (a.drop n) = true := List.all_eq_true.mpr fun x hx => List.all_eq_true.mp h x (List.mem_of_mem_drop hx)
theorem okS_rep {a : List Nat} (h : okS a = true) : ∀ n, okS (List.replicate n a).flatten = true
  | 0 => rfl
  | n + 1 => by
    rw [List.replicate_succ, List.flatten_cons]
    exact okS_append h (okS_rep h n)
theorem foldl_rep (a : List Nat) : ∀ (n : Nat) (acc : Array Nat), List.foldl (· ++ ·) acc (List.replicate n a.toArray) = acc ++ ((List.replicate n a).flatten).toArray
  | 0, acc => by simp
  | n + 1, acc => by
    rw [List.replicate_succ, List.foldl_cons, foldl_rep a n]
    simp [List.replicate_succ, Array.append_assoc]
theorem mulS (a : List Nat) (b : Int) : Txt.mul ⟨a.toArray⟩ b = ⟨((List.replicate b.toNat a).flatten).toArray⟩ := by
  unfold Txt.mul
  by_cases h : b < 1
  · rw [if_pos h, show b.toNat = 0 by omega]; rfl
  · rw [if_neg h]
    split
    · rename_i h2
      rw [Bool.or_eq_true] at h2
      rcases h2 with h2 | h2
      · have : b = 1 := by simpa using h2
        subst this
        simp
      · have : a = [] := by simpa [Str.length] using h2
        subst this
        simp
    · congr 1
      rw [foldl_rep]
      simp
theorem lineM : most = sizeLine := by rw [sizeLine_eq]; rfl
theorem reps_ints {K : PySem.W.Frag} {bg : Option (Addr × Addr)} {S : Addr → Prop} {H : Hp} : ∀ ns : List Int, Reps K bg S H (ns.map D.int) (ns.map V.int)
  | [] => rfl
  | n :: ns => ⟨V.int n, ns.map V.int, rfl, rfl, reps_ints ns⟩
theorem reps_rep {K : PySem.W.Frag} {bg : Option (Addr × Addr)} {S : Addr → Prop} {H : Hp} {ds : List D} {xs : List V} (h : Reps K bg S H ds xs) : ∀ n, Reps K bg S H (List.replicate n ds).flatten (List.replicate n xs).flatten
  | 0 => rfl
  | n + 1 => by
    rw [List.replicate_succ, List.replicate_succ, List.flatten_cons, List.flatten_cons]
    exact h.append (reps_rep h n)

section
variable {X : Cx} {EX : D → Prop}
theorem op_mul_str : OpR X (binaryOp .Mult) (fun x y H Q => ∃ (a : List Nat) (b : Int), x = .str ⟨a.toArray⟩ ∧ y = .int b ∧ a.length * b.toNat ≤ most ∧ -(2 ^ 62) ≤ b ∧ b < 2 ^ 62 ∧ Q (.str ⟨((List.replicate b.toNat a).flatten).toArray⟩) H) := by
  intro pins s σ H x y v u Q I rx ry h
  obtain ⟨a, b, rfl, rfl, hz, h1, h2, q⟩ := h
  obtain ⟨t, rfl⟩ := rx
  obtain ⟨t', rfl⟩ := ry
  refine SB.mul ⟨?_, fun hb _ hz' => ?_, fun hb _ => ?_⟩ fun t' k => ⟨.str _, H, I.tok _, ⟨_, by rw [mulS]⟩, q⟩
  · rw [decide_eq_false (by omega), decide_eq_false (by omega)]; rfl
  · have e : (⟨a.toArray⟩ : Str).length = a.length := by simp [Str.length]
    rw [e] at hz'
    have hm : a.length * b.toNat ≤ 16777216 := hz
    have h3 : (a.length : Int) * b ≤ 16777216 := by
      have : ((a.length * b.toNat : Nat) : Int) ≤ 16777216 := Int.ofNat_le.mpr hm
      rw [Int.natCast_mul, Int.toNat_of_nonneg (by omega)] at this
      exact this
    have h4 : (a.length : Int) ≤ (2 ^ 63 - 1) / b := by
      rw [Int.le_ediv_iff_mul_le (by omega)]
      omega
    omega
  · have e : (⟨a.toArray⟩ : Str).length = a.length := by simp [Str.length]
    rw [e]
    unfold PySem.Builtin.Str.tooLong
    have := lineM
    simp only [decide_eq_false_iff_not]
    omega
theorem op_bin (op : Operator) : OpR X (binaryOp op) (rD2 X.K EX (binD op)) := by
  intro pins s σ H v w u1 u2 Q I r1 r2 ⟨bg, S, x, y, W, hx, hy, h⟩
  have hl := lineM
  unfold binD at h
  split at h
  · exact op_add pins s σ H v w u1 u2 Q I r1 r2 ⟨_, _, hx, hy, h.here W rfl⟩
  · obtain ⟨c, h⟩ := T.all_need h
    have c := of_decide_eq_true c
    refine op_add_str pins s σ H v w u1 u2 Q I r1 r2 ⟨_, _, hx.1, hy.1, ?_, h.here W ⟨?_, okS_append hx.2 hy.2⟩⟩
    · show (List.toArray _).size + (List.toArray _).size ≤ sizeLine
      rw [List.size_toArray, List.size_toArray, ← hl]
      exact c
    · show V.str ⟨_⟩ = _
      simp
  · obtain ⟨c, h⟩ := T.all_need h
    have c := of_decide_eq_true c
    obtain ⟨a1, xs1, e1, s1, p1, q1⟩ := hx
    obtain ⟨a2, xs2, e2, s2, p2, q2⟩ := hy
    have l1 := q1.length
    have l2 := q2.length
    exact op_catR pins s σ H v w u1 u2 Q I r1 r2 ⟨_, _, _, _, e1, e2, p1, p2, by omega, h.lst W (q1.append q2)⟩
  · obtain ⟨c, h⟩ := T.all_need h
    have c := of_decide_eq_true c
    obtain ⟨a1, xs1, e1, p1, q1⟩ := id hx
    obtain ⟨a2, xs2, e2, p2, q2⟩ := id hy
    have l1 := q1.length
    have l2 := q2.length
    refine op_catA pins s σ H v w u1 u2 Q I r1 r2 ⟨_, _, _, _, e1, e2, p1.sq, p2.sq, by omega, fun z => ?_, fun z z' => ?_, fun _ _ => h.tup W (q1.append q2)⟩
    · subst z
      have : _ = [] := List.eq_nil_of_length_eq_zero l1.symm
      subst this
      rw [← e2]
      exact h.here W hy
    · subst z'
      have : _ = [] := List.eq_nil_of_length_eq_zero l2.symm
      subst this
      rw [List.append_nil] at h
      rw [← e1]
      exact h.here W hx
  · exact op_sub pins s σ H v w u1 u2 Q I r1 r2 ⟨_, _, hx, hy, h.here W rfl⟩
  · obtain ⟨c, h⟩ := T.all_need h
    have c := of_decide_eq_true c
    exact op_mul pins s σ H v w u1 u2 Q I r1 r2 ⟨_, _, hx, hy, c.imp (fun c => ⟨by omega, by omega⟩) (fun c => ⟨by omega, by omega⟩), h.here W rfl⟩
  · obtain ⟨c, h⟩ := T.all_need h
    obtain ⟨c1, c2, c3⟩ := of_decide_eq_true c
    exact op_mul_str pins s σ H v w u1 u2 Q I r1 r2 ⟨_, _, hx.1, hy, c1, c2, c3, h.here W ⟨rfl, okS_rep hx.2 _⟩⟩
  · obtain ⟨c, h⟩ := T.all_need h
    obtain ⟨c1, c2, c3⟩ := of_decide_eq_true c
    obtain ⟨a1, xs1, e1, s1, p1, q1⟩ := hx
    have l1 := q1.length
    refine op_repR pins s σ H v w u1 u2 Q I r1 r2 ⟨_, _, _, e1, hy, p1, by omega, by omega, by rw [l1, ← hl]; exact c1, h.lst W (reps_rep q1 _)⟩
  · obtain ⟨c, h⟩ := T.all_need h
    obtain ⟨c1, c2, c3, c4⟩ := of_decide_eq_true c
    obtain ⟨a1, xs1, e1, p1, q1⟩ := hx
    have l1 := q1.length
    refine op_repT pins s σ H v w u1 u2 Q I r1 r2 ⟨_, _, _, e1, hy, p1.sq, fun z => ?_, c3, c4, by omega, h.tup W (reps_rep q1 _)⟩
    subst z
    rw [List.length_nil] at l1
    omega
  · obtain ⟨c, h⟩ := T.all_need h
    obtain ⟨c1, c2⟩ := of_decide_eq_true c
    exact op_fdivW pins s σ H v w u1 u2 Q I r1 r2 ⟨_, _, hx, hy, wide_div (b := 200) c1 (natLt c1 c2) (by decide) (by decide), h.here W rfl⟩
  · obtain ⟨c, h⟩ := T.all_need h
    have c := of_decide_eq_true c
    exact op_mod pins s σ H v w u1 u2 Q I r1 r2 ⟨_, _, hx, hy, c, h.here W rfl⟩
  · obtain ⟨c, h⟩ := T.all_need h
    obtain ⟨c1, c2, c3⟩ := of_decide_eq_true c
    exact op_pow pins s σ H v w u1 u2 Q I r1 r2 ⟨_, _, hx, hy, ⟨c1, c2, c3⟩, h.here W rfl⟩
  · exact h.elim
end

/-! ### comparisons -/
section
variable {K : PySem.W.Frag} {bg : Option (Addr × Addr)} {S : Addr → Prop} {H : Hp}
theorem TAt.sqT {a : Addr} {xs : List V} (h : TAt K S H a xs) : SqT K H a xs := h.sq
mutual
theorem Rep.dp : ∀ (d : D) (p : PyData) (v : V), toPy d = some p → Rep K bg S H d v → Dp K H v p ∧ p.canLay0 = true
  | .non, p, v, e, h => by
    cases e
    rw [show v = .non from h]
    exact ⟨.non, rfl⟩
  | .bl b, p, v, e, h => by
    cases e
    rw [show v = .bl b from h]
    exact ⟨.bl b, rfl⟩
  | .int i, p, v, e, h => by
    cases e
    rw [show v = .int i from h]
    exact ⟨.int i, rfl⟩
  | .str l, p, v, e, h => by
    cases e
    obtain ⟨h1, h2⟩ := h
    rw [h1]
    refine ⟨.str _, ?_⟩
    show PyData.strOk _ = true
    unfold PyData.strOk
    rw [← Array.all_toList]
    exact h2
  | .lst ds, p, v, e, h => by
    unfold toPy at e
    obtain ⟨ps, e1, e2⟩ := Option.map_eq_some_iff.mp e
    subst e2
    obtain ⟨a, xs, ev, s, hp, r⟩ := h
    obtain ⟨q1, q2⟩ := Reps.dp ds ps xs e1 r
    rw [ev]
    exact ⟨.lst (.inl hp) q1, q2⟩
  | .tup ds, p, v, e, h => by
    unfold toPy at e
    obtain ⟨ps, e1, e2⟩ := Option.map_eq_some_iff.mp e
    subst e2
    obtain ⟨a, xs, ev, t, r⟩ := h
    obtain ⟨q1, q2⟩ := Reps.dp ds ps xs e1 r
    rw [ev]
    exact ⟨.tup t.sq q1, q2⟩
  | .dct _ _ _, _, _, e, _ => by cases e
  | .ins _ _ _, _, _, e, _ => by cases e
  | .bag, _, _, e, _ => by cases e
  | .scr _ _, _, _, e, _ => by cases e
theorem Reps.dp : ∀ (ds : List D) (ps : List PyData) (vs : List V), toPys ds = some ps → Reps K bg S H ds vs → DpAll K H vs ps ∧ PyData.canLayAll0 ps = true
  | [], ps, vs, e, h => by
    cases e
    rw [show vs = [] from h]
    exact ⟨.nil, rfl⟩
  | d :: ds, ps, vs, e, h => by
    unfold toPys at e
    obtain ⟨x, r, ev, h1, h2⟩ := h
    subst ev
    cases e1 : toPy d with
    | none => rw [e1] at e; cases e
    | some q =>
      cases e2 : toPys ds with
      | none => rw [e1, e2] at e; cases e
      | some qs =>
        rw [e1, e2] at e
        cases e
        obtain ⟨a1, a2⟩ := Rep.dp d q x e1 h1
        obtain ⟨b1, b2⟩ := Reps.dp ds qs r e2 h2
        refine ⟨.cons a1 b1, ?_⟩
        show (q.canLay0 && PyData.canLayAll0 qs) = true
        rw [a2, b2]
        rfl
end
theorem eqD_some {a b : D} {k : Bool} (h : eqD a b = some k) : ∃ x y, toPy a = some x ∧ toPy b = some y ∧ x.depth ≤ 64 ∧ y.depth ≤ 64 ∧ PyData.eqv x y = k := by
  unfold eqD at h
  cases e1 : toPy a with
  | none => rw [e1] at h; cases h
  | some x =>
    cases e2 : toPy b with
    | none => rw [e1, e2] at h; cases h
    | some y =>
      rw [e1, e2] at h
      dsimp only at h
      split at h
      · rename_i c
        exact ⟨x, y, rfl, rfl, c.1, c.2, Option.some.inj h⟩
      · cases h
theorem shaped_of {p : PyData} (h : p.canLay0 = true) (d : p.depth ≤ 64) : SeqAt.shaped p = true := by
  unfold SeqAt.shaped
  rw [h, decide_eq_true d]
  rfl
end
theorem inD_some {a : D} {xs : List D} {k : Bool} (h : inD a xs = some k) : ∃ x ys, toPy a = some x ∧ toPys xs = some ys ∧ x.depth ≤ 64 ∧ PyData.depthAll ys ≤ 63 ∧ (ys.any fun z => PyData.eqv z x) = k := by
  unfold inD at h
  cases e1 : toPy a with
  | none => rw [e1] at h; cases h
  | some x =>
    cases e2 : toPys xs with
    | none => rw [e1, e2] at h; cases h
    | some y =>
      rw [e1, e2] at h
      dsimp only at h
      split at h
      · rename_i c
        exact ⟨x, y, rfl, rfl, c.1, c.2, Option.some.inj h⟩
      · cases h
theorem flat_eqv {K : PySem.W.Frag} {bg : Option (Addr × Addr)} {S : Addr → Prop} {H : Hp} {a b : D} {v w : V} {x y : PyData} (fa : isFlat a = true) (fb : isFlat b = true) (ra : Rep K bg S H a v) (rb : Rep K bg S H b w)
    (ea : toPy a = some x) (eb : toPy b = some y) : flatV v = true ∧ flatV w = true ∧ eqV v w = PyData.eqv x y := by
  cases a <;> first | (exfalso; revert fa; simp [isFlat]; done) | (cases b <;> first | (exfalso; revert fb; simp [isFlat]; done) | (cases ea; cases eb; simp only [Rep] at ra rb; (first | subst ra | (obtain ⟨ra, _⟩ := ra; subst ra)); (first | subst rb | (obtain ⟨rb, _⟩ := rb; subst rb)); exact ⟨rfl, rfl, rfl⟩))
theorem reps_in {K : PySem.W.Frag} {bg : Option (Addr × Addr)} {S : Addr → Prop} {H : Hp} {a : D} {v : V} {x : PyData} (fa : isFlat a = true) (ra : Rep K bg S H a v) (ea : toPy a = some x) : ∀ {ds : List D} {ws : List V} {ys : List PyData},
    ds.all isFlat = true → Reps K bg S H ds ws → toPys ds = some ys → ws.all flatV = true ∧ inV v ws = ys.any fun z => PyData.eqv z x
  | [], ws, ys, _, r, e => by
    cases e
    rw [show ws = [] from r]
    exact ⟨rfl, rfl⟩
  | d :: ds, ws, ys, f, r, e => by
    obtain ⟨w, rs, ew, r1, r2⟩ := r
    subst ew
    rw [List.all_cons, Bool.and_eq_true] at f
    unfold toPys at e
    cases e1 : toPy d with
    | none => rw [e1] at e; cases e
    | some q =>
      cases e2 : toPys ds with
      | none => rw [e1, e2] at e; cases e
      | some qs =>
        rw [e1, e2] at e
        cases e
        obtain ⟨i1, i2⟩ := reps_in fa ra ea f.2 r2 e2
        obtain ⟨j1, j2, j3⟩ := flat_eqv f.1 fa r1 ra e1 ea
        refine ⟨by rw [List.all_cons, j1, i1]; rfl, ?_⟩
        show (eqV w v || inV v rs) = _
        rw [i2, j3, List.any_cons]
theorem T.all_blT {P : D → Prop} {E : D → Prop} {o : Option Bool} (h : (blT o).All P E) : ∃ b, o = some b ∧ P (.bl b) := by
  cases o with
  | some b => exact ⟨b, rfl, h⟩
  | none => exact h.elim

section
variable {X : Cx} {EX : D → Prop}
theorem not_lt_le (a b : List Nat) : decide (a ≤ b) = !decide (b < a) := by
  by_cases h : b < a
  · rw [decide_eq_true h, decide_eq_false (List.not_le.mpr h)]; rfl
  · rw [decide_eq_false h, decide_eq_true (List.not_lt.mp h)]; rfl
theorem op_eqDD (hu : X.A.units + 64 < cLine) : OpR X (compareOp .Eq) (rD2 X.K EX fun a b => blT (eqD a b)) := by
  intro pins s σ H v w u1 u2 Q I r1 r2 ⟨bg, S, x, y, W, hx, hy, h⟩
  obtain ⟨k, ek, h⟩ := T.all_blT h
  obtain ⟨p, q, ep, eq, dp, dq, e⟩ := eqD_some ek
  obtain ⟨p1, p2⟩ := Rep.dp x p v ep hx
  obtain ⟨q1, q2⟩ := Rep.dp y q w eq hy
  exact op_eqD hu pins s σ H v w u1 u2 Q I r1 r2 ⟨p, q, p1, q1, shaped_of p2 dp, shaped_of q2 dq, h.here W (by rw [e]; rfl)⟩
theorem op_neDD (hu : X.A.units + 64 < cLine) : OpR X (compareOp .NotEq) (rD2 X.K EX fun a b => blT (notO (eqD a b))) := by
  intro pins s σ H v w u1 u2 Q I r1 r2 ⟨bg, S, x, y, W, hx, hy, h⟩
  obtain ⟨k, ek, h⟩ := T.all_blT h
  obtain ⟨k', ek', e'⟩ := Option.map_eq_some_iff.mp ek
  obtain ⟨p, q, ep, eq, dp, dq, e⟩ := eqD_some ek'
  obtain ⟨p1, p2⟩ := Rep.dp x p v ep hx
  obtain ⟨q1, q2⟩ := Rep.dp y q w eq hy
  exact op_neD hu pins s σ H v w u1 u2 Q I r1 r2 ⟨p, q, p1, q1, shaped_of p2 dp, shaped_of q2 dq, h.here W (by rw [e, e']; rfl)⟩
theorem shaped_lst {ys : List PyData} (h : PyData.canLayAll0 ys = true) (d : PyData.depthAll ys ≤ 63) : SeqAt.shaped (.list ys) = true :=
  shaped_of (by exact h) (by show PyData.depthAll ys + 1 ≤ 64; omega)
/-! ### dicts -/
section
variable {K : PySem.W.Frag} {bg : Option (Addr × Addr)} {S : Addr → Prop} {H : Hp}
theorem keyD_str {l : List Nat} : keyD (.str l) = if okS l then some (.inr ⟨l.toArray⟩) else none := rfl
theorem keyD_inv {d : D} {k : Key} (h : keyD d = some k) : (∃ i, d = .int i ∧ k = .inl i) ∨ ∃ l, d = .str l ∧ okS l = true ∧ k = .inr ⟨l.toArray⟩ := by
  cases d <;> first | (cases h; done) | skip
  · cases h
    exact .inl ⟨_, rfl, rfl⟩
  · rename_i l
    rw [keyD_str] at h
    by_cases c : okS l = true
    · rw [if_pos c] at h
      exact .inr ⟨_, rfl, c, (Option.some.inj h).symm⟩
    · rw [if_neg c] at h
      cases h
theorem isKey_some {d : D} (h : isKey d = true) : ∃ k, keyD d = some k := by
  cases d <;> first | (cases h; done) | skip
  · exact ⟨_, rfl⟩
  · have h : okS _ = true := h
    exact ⟨_, by rw [keyD_str, if_pos h]⟩
theorem some_isKey {d : D} {k : Key} (h : keyD d = some k) : isKey d = true := by
  rcases keyD_inv h with ⟨i, rfl, _⟩ | ⟨l, rfl, c, _⟩
  · rfl
  · exact c
theorem keyD_inj {a b : D} {k : Key} (h : keyD a = some k) (h' : keyD b = some k) : a = b := by
  rcases keyD_inv h with ⟨i, rfl, e⟩ | ⟨l, rfl, c, e⟩
  · rcases keyD_inv h' with ⟨i', rfl, e'⟩ | ⟨l', rfl, c', e'⟩
    · rw [e] at e'
      cases e'
      rfl
    · rw [e] at e'
      cases e'
  · rcases keyD_inv h' with ⟨i', rfl, e'⟩ | ⟨l', rfl, c', e'⟩
    · rw [e] at e'
      cases e'
    · rw [e] at e'
      injection e' with e'
      injection e' with e'
      have q : _ = _ := congrArg Array.toList e'
      simp only [List.toList_toArray] at q
      rw [q]
theorem keyD_rep {d : D} {v : V} {k : Key} (e : keyD d = some k) (r : Rep K bg S H d v) : v = kV k := by
  rcases keyD_inv e with ⟨i, rfl, z⟩ | ⟨l, rfl, c, z⟩
  · subst z
    exact r
  · subst z
    exact r.1
theorem rep_keyD {d : D} {k : Key} (e : keyD d = some k) : Rep K bg S H d (kV k) := by
  rcases keyD_inv e with ⟨i, rfl, z⟩ | ⟨l, rfl, c, z⟩
  · subst z
    rfl
  · subst z
    exact ⟨rfl, c⟩
theorem keysD_of : ∀ {ds : List D}, ds.all isKey = true → ∃ kk, keysD ds = some kk
  | [], _ => ⟨[], rfl⟩
  | d :: ds, h => by
    rw [List.all_cons, Bool.and_eq_true] at h
    obtain ⟨k, e⟩ := isKey_some h.1
    obtain ⟨kk, e2⟩ := keysD_of h.2
    exact ⟨k :: kk, by unfold keysD; rw [e, e2]⟩
theorem keysD_cons {d : D} {ds : List D} {kk : List Key} (h : keysD (d :: ds) = some kk) : ∃ k r, keyD d = some k ∧ keysD ds = some r ∧ kk = k :: r := by
  unfold keysD at h
  split at h
  · rename_i k r e1 e2
    exact ⟨k, r, e1, e2, (Option.some.inj h).symm⟩
  · cases h
theorem keysD_inj : ∀ {as bs : List D} {kk : List Key}, keysD as = some kk → keysD bs = some kk → as = bs
  | [], [], _, _, _ => rfl
  | [], _ :: _, kk, h, h' => by
    cases h
    obtain ⟨_, _, _, _, e⟩ := keysD_cons h'
    cases e
  | _ :: _, [], kk, h, h' => by
    cases h'
    obtain ⟨_, _, _, _, e⟩ := keysD_cons h
    cases e
  | a :: as, b :: bs, kk, h, h' => by
    obtain ⟨k, r, e1, e2, e3⟩ := keysD_cons h
    obtain ⟨k', r', e1', e2', e3'⟩ := keysD_cons h'
    rw [e3] at e3'
    cases e3'
    rw [keyD_inj e1 e1', keysD_inj e2 e2']
theorem keysD_reps : ∀ {ds : List D} {xs : List V} {kk : List Key}, keysD ds = some kk → Reps K bg S H ds xs → xs = kk.map kV
  | [], xs, kk, e, r => by
    cases e
    exact r
  | d :: ds, xs, kk, e, r => by
    obtain ⟨k, q, e1, e2, e3⟩ := keysD_cons e
    obtain ⟨x, ys, ex, r1, r2⟩ := r
    subst ex e3
    rw [List.map_cons, ← keysD_reps e2 r2, keyD_rep e1 r1]
theorem reps_keysD : ∀ {ds : List D} {kk : List Key}, keysD ds = some kk → Reps K bg S H ds (kk.map kV)
  | [], kk, e => by
    cases e
    rfl
  | d :: ds, kk, e => by
    obtain ⟨k, q, e1, e2, e3⟩ := keysD_cons e
    subst e3
    exact ⟨kV k, q.map kV, rfl, rep_keyD e1, reps_keysD e2⟩
theorem tkeyD_inj {a b : D} {k : List Key} (h : tkeyD a = some k) (h' : tkeyD b = some k) : a = b := by
  cases a <;> first | (cases h; done) | skip
  cases b <;> first | (cases h'; done) | skip
  rw [keysD_inj h h']
theorem tkey_some {d : D} (h : isKeyT true d = true) : ∃ k, tkeyD d = some k := by
  unfold isKeyT at h
  dsimp only at h
  split at h
  · obtain ⟨kk, e⟩ := keysD_of h
    exact ⟨kk, e⟩
  · cases h
theorem keysD_all : ∀ {ds : List D} {k : List Key}, keysD ds = some k → ds.all isKey = true
  | [], _, _ => rfl
  | d :: ds, k, h => by
    obtain ⟨j, r, e1, e2, _⟩ := keysD_cons h
    rw [List.all_cons, some_isKey e1, keysD_all e2]
    rfl
theorem some_tkey {d : D} {k : List Key} (h : tkeyD d = some k) : isKeyT true d = true := by
  cases d <;> first | (cases h; done) | skip
  exact keysD_all h
theorem tkey_rep {d : D} {v : V} {k : List Key} (e : tkeyD d = some k) (r : Rep K bg S H d v) : ∃ b, v = .ref b ∧ S b ∧ H b = some (.tup (k.map kV)) := by
  cases d <;> first | (cases e; done) | skip
  rename_i ds
  have e : keysD ds = some k := e
  obtain ⟨a, xs, ev, t, rs⟩ := r
  rw [keysD_reps e rs] at t
  exact ⟨a, ev, t.1, t.2⟩
theorem rep_tkey {d : D} {b : Addr} {k : List Key} (e : tkeyD d = some k) (s : S b) (h : H b = some (.tup (k.map kV))) : Rep K bg S H d (.ref b) := by
  cases d <;> first | (cases e; done) | skip
  exact ⟨b, _, rfl, ⟨s, h⟩, reps_keysD e⟩
section
variable {κ : Type} [DecidableEq κ] {f : D → Option κ} (inj : ∀ (a b : D) (k : κ), f a = some k → f b = some k → a = b)
include inj
theorem beq_key {a b : D} {j k : κ} (ha : f a = some j) (hb : f b = some k) : beqD a b = decide (j = k) := by
  by_cases e : j = k
  · subst e
    rw [inj a b j ha hb, beqD_refl]
    simp
  · rw [decide_eq_false e]
    cases q : beqD a b with
    | false => rfl
    | true =>
      have := beqD_eq a b q
      subst this
      rw [ha] at hb
      exact absurd (Option.some.inj hb) e
theorem get_rel {k : D} {j : κ} (hk : f k = some j) : ∀ {ks vs : List D} {kk : List κ} {xs : List V}, ks.map f = kk.map some → kk.length = xs.length → Reps K bg S H vs xs →
    (∀ d, kvGet ks vs k = some d → ∃ x, valV (kk.zip xs) j = some x ∧ Rep K bg S H d x) ∧ (valV (kk.zip xs) j).isSome = kvHas ks k
  | [], vs, kk, xs, e, l, r => by
    have : kk = [] := by
      cases kk with
      | nil => rfl
      | cons _ _ => cases e
    subst this
    exact ⟨fun d h => by simp [kvGet] at h, rfl⟩
  | k0 :: ks, vs, [], xs, e, l, r => by cases e
  | k0 :: ks, vs, j0 :: kk, xs, e, l, r => by
    rw [List.map_cons, List.map_cons, List.cons.injEq] at e
    cases xs with
    | nil => cases l
    | cons x xs =>
      have hv := r.length
      cases vs with
      | nil => cases hv
      | cons v vs =>
        obtain ⟨x', xs', ex, r1, r2⟩ := r
        cases ex
        obtain ⟨i1, i2⟩ := get_rel hk (ks := ks) (vs := vs) (kk := kk) (xs := xs) e.2 (by simpa using l) r2
        have hb := beq_key inj e.1 hk
        unfold kvGet at i1 ⊢
        rw [List.zip_cons_cons, List.zip_cons_cons, List.find?_cons]
        unfold kvHas at i2 ⊢
        rw [List.any_cons, hb]
        by_cases q : j0 = j
        · rw [decide_eq_true q]
          refine ⟨fun d h => ?_, ?_⟩
          · have h : some v = some d := h
            cases h
            exact ⟨x, valV_pos (p := (j0, x)) q, r1⟩
          · rw [valV_pos (p := (j0, x)) q]
            rfl
        · rw [decide_eq_false q, valV_neg (p := (j0, x)) q]
          exact ⟨i1, by rw [i2]; rfl⟩
theorem put_rel {k : D} {j : κ} {v : D} {w : V} (hk : f k = some j) (hv : Rep K bg S H v w) {ks vs : List D} {kk : List κ} {xs : List V} (e : ks.map f = kk.map some) (l : kk.length = xs.length) (r : Reps K bg S H vs xs) :
    ∃ (kk' : List κ) (xs' : List V), putK (kk.zip xs) j w = kk'.zip xs' ∧ (kvPut ks vs k v).1.map f = kk'.map some ∧ kk'.length = xs'.length ∧ Reps K bg S H (kvPut ks vs k v).2 xs' := by
  have hl := r.length
  have hkl : ks.length = kk.length := by
    have := congrArg List.length e
    simpa using this
  have hh := (get_rel (K := K) (bg := bg) (S := S) (H := H) inj hk e l r).2
  unfold putK kvPut
  rw [valV_any, hh]
  by_cases c : kvHas ks k = true
  · rw [if_pos c, if_pos c]
    have core : ∀ (ks vs : List D) (kk : List κ) (xs : List V), ks.map f = kk.map some → kk.length = xs.length → Reps K bg S H vs xs → ∃ xs', ((kk.zip xs).map fun kv => if kv.1 = j then (kv.1, w) else kv) = kk.zip xs' ∧ kk.length = xs'.length ∧ Reps K bg S H ((ks.zip vs).map fun p => if beqD p.1 k then v else p.2) xs' := by
      intro ks
      induction ks with
      | nil =>
        intro vs kk xs e l r
        have : kk = [] := by
          cases kk with
          | nil => rfl
          | cons _ _ => cases e
        subst this
        have : xs = [] := List.eq_nil_of_length_eq_zero l.symm
        subst this
        exact ⟨[], rfl, rfl, rfl⟩
      | cons k0 ks ih =>
        intro vs kk xs e l r
        cases kk with
        | nil => cases e
        | cons j0 kk =>
          rw [List.map_cons, List.map_cons, List.cons.injEq] at e
          cases xs with
          | nil => cases l
          | cons x xs =>
            have hv' := r.length
            cases vs with
            | nil => cases hv'
            | cons v0 vs =>
              obtain ⟨x', xs2, ex, r1, r2⟩ := r
              cases ex
              obtain ⟨xs', a1, a2, a3⟩ := ih vs kk xs e.2 (by simpa using l) r2
              have hb := beq_key inj e.1 hk
              refine ⟨(if j0 = j then w else x) :: xs', ?_, by simp [a2], ?_⟩
              · rw [List.zip_cons_cons, List.map_cons, a1, List.zip_cons_cons]
                by_cases q : j0 = j
                · rw [if_pos q, if_pos q]
                · rw [if_neg q, if_neg q]
              · rw [List.zip_cons_cons, List.map_cons]
                refine ⟨_, _, rfl, ?_, a3⟩
                dsimp only
                rw [hb]
                by_cases q : j0 = j
                · rw [decide_eq_true q, if_pos q]
                  exact hv
                · rw [decide_eq_false q, if_neg q]
                  exact r1
    obtain ⟨xs', a1, a2, a3⟩ := core ks vs kk xs e l r
    exact ⟨kk, xs', a1, e, a2, a3⟩
  · rw [if_neg c, if_neg c]
    refine ⟨kk ++ [j], xs ++ [w], ?_, ?_, by simp [l], r.append ⟨w, [], rfl, hv, rfl⟩⟩
    · rw [List.zip_append l]
      rfl
    · rw [List.map_append, List.map_append, e]
      show _ ++ [f k] = _
      rw [hk]
      rfl
end
/-- what a dict holds -/
theorem dct_get {t : Bool} {ks vs : List D} {k : D} {v w : V} (r : Rep K bg S H (.dct t ks vs) v) (rk : Rep K bg S H k w) (hk : isKeyT t k = true) : ∃ a o, v = .ref a ∧ DGet H a w o ∧ o.isSome = kvHas ks k ∧ ∀ d, kvGet ks vs k = some d → ∃ x, o = some x ∧ Rep K bg S H d x := by
  obtain ⟨a, o, xs, ev, s, p, q, rs⟩ := r
  cases t with
  | false =>
    obtain ⟨kk, e1, e2, e3⟩ := q
    obtain ⟨j, ej⟩ := isKey_some hk
    obtain ⟨g1, g2⟩ := get_rel (fun a b k h h' => keyD_inj h h') ej e1 e2 rs
    subst e3
    refine ⟨a, _, ev, ?_, g2, g1⟩
    rw [keyD_rep ej rk]
    exact DGet.k p
  | true =>
    obtain ⟨kk, e1, e2, e3⟩ := q
    obtain ⟨j, ej⟩ := tkey_some hk
    obtain ⟨g1, g2⟩ := get_rel (fun a b k h h' => tkeyD_inj h h') ej e1 e2 rs
    subst e3
    obtain ⟨b, eb, sb, hb⟩ := tkey_rep ej rk
    refine ⟨a, _, ev, ?_, g2, g1⟩
    rw [eb]
    exact DGet.t p hb
theorem dct_put {t : Bool} {ks vs : List D} {k v : D} {w y : V} {o : HO} {a : Addr} (ha : H a = some o) (r : ObjR K bg S H (.dct t ks vs) o) (rk : Rep K bg S H k w) (hk : isKeyT t k = true) (rv : Rep K bg S H v y) (hl : ks.length < sizeLine) :
    ∃ o', DPut H a w y (upd H a o') ∧ ObjR K bg S H (.dct t (kvPut ks vs k v).1 (kvPut ks vs k v).2) o' := by
  obtain ⟨xs, q, rs⟩ := r
  cases t with
  | false =>
    obtain ⟨kk, e1, e2, e3⟩ := q
    obtain ⟨j, ej⟩ := isKey_some hk
    obtain ⟨kk', xs', p1, p2, p3, p4⟩ := put_rel (fun a b k h h' => keyD_inj h h') ej rv e1 e2 rs
    subst e3
    have hkl : ks.length = kk.length := by simpa using congrArg List.length e1
    refine ⟨.dK (kk'.zip xs'), ?_, xs', ⟨kk', p2, p3, rfl⟩, p4⟩
    rw [keyD_rep ej rk, ← p1]
    exact DPut.k ha (by rw [List.length_zip]; omega)
  | true =>
    obtain ⟨kk, e1, e2, e3⟩ := q
    obtain ⟨j, ej⟩ := tkey_some hk
    obtain ⟨kk', xs', p1, p2, p3, p4⟩ := put_rel (fun a b k h h' => tkeyD_inj h h') ej rv e1 e2 rs
    subst e3
    have hkl : ks.length = kk.length := by simpa using congrArg List.length e1
    obtain ⟨b, eb, sb, hb⟩ := tkey_rep ej rk
    refine ⟨.dT (kk'.zip xs'), ?_, xs', ⟨kk', p2, p3, rfl⟩, p4⟩
    rw [eb, ← p1]
    exact DPut.t ha hb (by rw [List.length_zip]; omega)
end
theorem op_cmp (op : CmpOp) (hr : X.A.units + 65 < cLine) : OpR X (compareOp op) (rD2 X.K EX (cmpD op)) := by
  intro pins s σ H v w u1 u2 Q I r1 r2 ⟨bg, S, x, y, W, hx, hy, h⟩
  have hl := lineM
  unfold cmpD at h
  split at h
  · exact op_eqDD (EX := EX) (by omega) pins s σ H v w u1 u2 Q I r1 r2 ⟨bg, S, _, _, W, hx, hy, h⟩
  · exact op_neDD (EX := EX) (by omega) pins s σ H v w u1 u2 Q I r1 r2 ⟨bg, S, _, _, W, hx, hy, h⟩
  · exact op_lt pins s σ H v w u1 u2 Q I r1 r2 ⟨_, _, hx, hy, h.here W rfl⟩
  · exact op_le pins s σ H v w u1 u2 Q I r1 r2 ⟨_, _, hx, hy, h.here W rfl⟩
  · exact op_gt pins s σ H v w u1 u2 Q I r1 r2 ⟨_, _, hx, hy, h.here W rfl⟩
  · exact op_ge pins s σ H v w u1 u2 Q I r1 r2 ⟨_, _, hx, hy, h.here W rfl⟩
  · exact op_lt_str pins s σ H v w u1 u2 Q I r1 r2 ⟨_, _, hx.1, hy.1, h.here W rfl⟩
  · exact op_le_str pins s σ H v w u1 u2 Q I r1 r2 ⟨_, _, hx.1, hy.1, h.here W (by rw [not_lt_le]; rfl)⟩
  · exact op_gt_str pins s σ H v w u1 u2 Q I r1 r2 ⟨_, _, hx.1, hy.1, h.here W rfl⟩
  · exact op_ge_str pins s σ H v w u1 u2 Q I r1 r2 ⟨_, _, hx.1, hy.1, h.here W (by rw [not_lt_le]; rfl)⟩
  · obtain ⟨k, ek, h⟩ := T.all_blT h
    obtain ⟨p, ys, ep, eys, dp, dys, e⟩ := inD_some ek
    obtain ⟨p1, p2⟩ := Rep.dp _ p v ep hx
    obtain ⟨q1, q2⟩ := Rep.dp (.lst _) (.list ys) w (by unfold toPy; rw [eys]; rfl) hy
    exact op_inD hr pins s σ H v w u1 u2 Q I r1 r2 ⟨p, ys, p1, q1, shaped_of p2 dp, shaped_lst q2 dys, h.here W (by rw [e]; rfl)⟩
  · obtain ⟨k, ek, h⟩ := T.all_blT h
    unfold inT at ek
    split at ek
    · rename_i f
      rw [Bool.and_eq_true] at f
      obtain ⟨p, ys, ep, eys, dp, dys, e⟩ := inD_some ek
      obtain ⟨a, xs, ea, t, rs⟩ := hy
      obtain ⟨i1, i2⟩ := reps_in f.1 hx ep f.2 rs eys
      have fv : flatV v = true := (flat_eqv f.1 f.1 hx hx ep ep).1
      exact op_in_seq pins s σ H v w u1 u2 Q I r1 r2 ⟨a, xs, ea, .inr t.sq, fv, i1, h.here W (by rw [if_neg Bool.false_ne_true, i2, e]; rfl)⟩
    · cases ek
  · obtain ⟨c, h⟩ := T.all_need h
    obtain ⟨a, o, ew, g, hs, _⟩ := dct_get hy hx c
    subst ew
    cases r2
    exact d_in (by omega) I g r1 fun s2 I2 => ⟨.bl o.isSome, H, I2, rfl, h.here W (by rw [hs]; rfl)⟩
  · obtain ⟨k, ek, h⟩ := T.all_blT h
    obtain ⟨k', ek, ekk⟩ := Option.map_eq_some_iff.mp ek
    obtain ⟨p, ys, ep, eys, dp, dys, e⟩ := inD_some ek
    obtain ⟨p1, p2⟩ := Rep.dp _ p v ep hx
    obtain ⟨q1, q2⟩ := Rep.dp (.lst _) (.list ys) w (by unfold toPy; rw [eys]; rfl) hy
    exact op_notInD hr pins s σ H v w u1 u2 Q I r1 r2 ⟨p, ys, p1, q1, shaped_of p2 dp, shaped_lst q2 dys, h.here W (by rw [e, ekk]; rfl)⟩
  · obtain ⟨k, ek, h⟩ := T.all_blT h
    obtain ⟨k', ek, ekk⟩ := Option.map_eq_some_iff.mp ek
    unfold inT at ek
    split at ek
    · rename_i f
      rw [Bool.and_eq_true] at f
      obtain ⟨p, ys, ep, eys, dp, dys, e⟩ := inD_some ek
      obtain ⟨a, xs, ea, t, rs⟩ := hy
      obtain ⟨i1, i2⟩ := reps_in f.1 hx ep f.2 rs eys
      have fv : flatV v = true := (flat_eqv f.1 f.1 hx hx ep ep).1
      exact op_notIn_seq pins s σ H v w u1 u2 Q I r1 r2 ⟨a, xs, ea, .inr t.sq, fv, i1, h.here W (by rw [if_pos rfl, i2, e, ekk]; rfl)⟩
    · cases ek
  · obtain ⟨c, h⟩ := T.all_need h
    obtain ⟨a, o, ew, g, hs, _⟩ := dct_get hy hx c
    subst ew
    cases r2
    exact d_notIn (by omega) I g r1 fun s2 I2 => ⟨.bl (!o.isSome), H, I2, rfl, h.here W (by rw [hs]; rfl)⟩
  · exact h.elim
theorem reps_ix {K : PySem.W.Frag} {bg : Option (Addr × Addr)} {S : Addr → Prop} {H : Hp} {ds : List D} {xs : List V} {i : Int} {d : D} (r : Reps K bg S H ds xs) (e : ((ixD ds.length i).bind fun j => ds[j]?) = some d) :
    ∃ v, atI xs i = some v ∧ Rep K bg S H d v := by
  obtain ⟨j, e1, e2⟩ := Option.bind_eq_some_iff.mp e
  obtain ⟨v, e3, r3⟩ := r.get e2
  refine ⟨v, ?_, r3⟩
  have : ixN xs.length i = some j := by rw [r.length]; exact e1
  unfold atI
  rw [this]
  exact e3
theorem ix_dat (hr : X.A.units + 65 < cLine) : IxR X (rD2 X.K EX subD) := by
  intro value slice pins s σ H v w u1 u2 Q I r1 r2 ⟨bg, S, x, y, W, hx, hy, h⟩ hs
  have hl := lineM
  unfold subD at h
  split at h
  · obtain ⟨d, e, h⟩ := T.all_ofOpt h
    obtain ⟨a, xs, ea, sa, pa, ra⟩ := hx
    obtain ⟨z, ez, rz⟩ := reps_ix ra e
    exact ix_list value slice pins s σ H v w u1 u2 Q I r1 r2 ⟨a, xs, _, z, ea, hy, .inl pa, ez, h.here W rz⟩ hs
  · obtain ⟨d, e, h⟩ := T.all_ofOpt h
    obtain ⟨a, xs, ea, ta, ra⟩ := hx
    obtain ⟨z, ez, rz⟩ := reps_ix ra e
    exact ix_tup value slice pins s σ H v w u1 u2 Q I r1 r2 ⟨a, xs, _, z, ea, hy, ta.sq, ez, h.here W rz⟩ hs
  · obtain ⟨c, h⟩ := T.all_need h
    have c := of_decide_eq_true c
    obtain ⟨d, e, h⟩ := T.all_ofOpt h
    obtain ⟨z, e1, e2⟩ := Option.map_eq_some_iff.mp e
    obtain ⟨j, e3, e4⟩ := Option.bind_eq_some_iff.mp e1
    refine ix_str value slice pins s σ H v w u1 u2 Q I r1 r2 ⟨_, _, z, hx.1, hy, ?_, ?_, h.here W ?_⟩ hs
    · show (List.toArray _).size ≤ sizeLine
      rw [List.size_toArray, ← hl]; exact c
    · exact e1
    · subst e2
      refine ⟨rfl, ?_⟩
      have := List.all_eq_true.mp hx.2 z (List.mem_of_getElem? e4)
      show (List.all [z] _) = true
      rw [List.all_cons, this]; rfl
  · obtain ⟨d, e, h⟩ := T.all_ofOpt h
    obtain ⟨ea, la⟩ := hx
    obtain ⟨z, ez, rz⟩ := reps_ix (reps_ints (K := X.K) (bg := bg) (S := S) (H := H) _) e
    exact ix_list value slice pins s σ H v w u1 u2 Q I r1 r2 ⟨_, _, _, z, ea, hy, la.sq, ez, h.here W rz⟩ hs
  · obtain ⟨c, h⟩ := T.all_need h
    obtain ⟨d, e, h⟩ := T.all_ofOpt h
    obtain ⟨a, o, ew, g, _, hd⟩ := dct_get hx hy c
    obtain ⟨x, eo, rx⟩ := hd d e
    subst ew eo
    cases r1
    exact tail_any (dict_typeIs I g) PySem.F.slot_dict_getitem.lookup (d_getItem (by omega) I g r2 fun w' s2 I2 rw' => ⟨x, H, I2, rw', h.here W rx⟩) hs
  · exact h.elim
/-- a slice of data -/
def rSlD (K : PySem.W.Frag) (EX : D → Prop) : V → Option Int → Option Int → Hp → VK → Prop := fun v lo hi H Q => ∃ bg S x, Wld bg S H ∧ Rep K bg S H x v ∧ (sliceD x lo hi).All (Rs K bg S H Q) EX
theorem cutIx_eq (n d : Nat) (o : Option Int) : cutIx n d o = HT.sIx n d o := by cases o <;> rfl
theorem reps_cut {K : PySem.W.Frag} {bg : Option (Addr × Addr)} {S : Addr → Prop} {H : Hp} {ds : List D} {xs : List V} (r : Reps K bg S H ds xs) (lo hi : Option Int) : Reps K bg S H (cutL ds lo hi) (cutV xs lo hi) := by
  unfold cutL cutV
  rw [r.length, cutIx_eq, cutIx_eq]
  exact (r.drop _).take _
theorem cutL_whole {α : Type} (xs : List α) (lo hi : Option Int) (h : HT.sIx xs.length 0 lo = 0 ∧ HT.sIx xs.length xs.length hi = xs.length) : cutL xs lo hi = xs := by
  unfold cutL
  rw [cutIx_eq, cutIx_eq, h.1, h.2]
  simp
theorem sl_dat : SlR X (rSlD X.K EX) := by
  intro pins s σ H v w vl vu lo hi sl Q I rx hs pl pu ⟨bg, S, x, W, hx, h⟩
  have hl := lineM
  unfold sliceD at h
  split at h
  · obtain ⟨a, xs, ea, sa, pa, ra⟩ := hx
    exact sl_list pins s σ H v w vl vu lo hi sl Q I rx hs pl pu ⟨a, xs, ea, .inl pa, h.lst W (reps_cut ra lo hi)⟩
  · obtain ⟨a, xs, ea, ta, ra⟩ := id hx
    have len := ra.length
    refine sl_tupA pins s σ H v w vl vu lo hi sl Q I rx hs pl pu ⟨a, xs, ea, ta.sq, fun z => ?_, fun _ => h.tup W (reps_cut ra lo hi)⟩
    rw [len] at z
    rw [cutL_whole _ lo hi z] at h
    rw [← ea]
    exact h.here W hx
  · obtain ⟨c, h⟩ := T.all_need h
    have c := of_decide_eq_true c
    refine sl_str pins s σ H v w vl vu lo hi sl Q I rx hs pl pu ⟨_, hx.1, ?_, h.here W ⟨?_, okS_take _ (okS_drop _ hx.2)⟩⟩
    · show (List.toArray _).size ≤ sizeLine
      rw [List.size_toArray, ← hl]; exact c
    · show V.str (cutS _ _ _) = _
      unfold cutS cutL
      rw [cutIx_eq, cutIx_eq]
      simp [Str.length]
  · rename_i a ns
    obtain ⟨ea, la⟩ := hx
    have sq := la.sq
    have ra : Reps X.K bg S H (ns.map D.int) (ns.map V.int) := reps_ints ns
    refine sl_list pins s σ H v w vl vu lo hi sl Q I rx hs pl pu ⟨a, _, ea, sq, ?_⟩
    have e1 : (cutL ns lo hi).map D.int = cutL (ns.map D.int) lo hi := by
      unfold cutL
      rw [List.map_take, List.map_drop, List.length_map]
    rw [e1] at h
    exact h.lst W (reps_cut ra lo hi)
  · exact h.elim
end
end Dy

set_option linter.all false
set_option maxRecDepth 10000
set_option autoImplicit false
/-! Dy, part 4: built-ins by data; what an expression asks; the own syntax of a text. -/
namespace Dy
open PySem PySem.Spec PyProof.Rows L2

/-! ### the order of data -/
theorem dle (a b : D) : PySem.W.dataLe false pyOf a b = !PySem.W.dataLt (pyOf b) (pyOf a) := rfl
theorem dlt_asym {x y : PyData} (h : PySem.W.dataLt x y = true) : PySem.W.dataLt y x = false := by
  cases e : PySem.W.dataLt y x with
  | false => rfl
  | true =>
    have := lex_trans _ _ _ h e
    rw [lex_irrefl] at this
    cases this
theorem dle_trans : ∀ a b c : D, PySem.W.dataLe false pyOf a b = true → PySem.W.dataLe false pyOf b c = true → PySem.W.dataLe false pyOf a c = true := fun a b c h1 h2 => by
  rw [dle] at h1 h2 ⊢
  cases e : PySem.W.dataLt (pyOf c) (pyOf a) with
  | false => rfl
  | true =>
    rcases lex_negTrans (O := PyProof.Rows.itemOrd) _ (PySem.W.keyToks (pyOf b)) _ e with z | z
    · rw [show PySem.W.dataLt (pyOf c) (pyOf b) = true from z] at h2; cases h2
    · rw [show PySem.W.dataLt (pyOf b) (pyOf a) = true from z] at h1; cases h1
theorem dle_total : ∀ a b : D, (PySem.W.dataLe false pyOf a b || PySem.W.dataLe false pyOf b a) = true := fun a b => by
  rw [dle, dle]
  cases e : PySem.W.dataLt (pyOf b) (pyOf a) with
  | false => rfl
  | true => rw [dlt_asym e]; rfl
theorem insD_app (a : D) (l2 : List D) : ∀ l1 : List D, (∀ b ∈ l1, (!PySem.W.dataLe false pyOf a b) = true) → insD a (l1 ++ l2) = l1 ++ insD a l2
  | [], _ => rfl
  | b :: l1, h => by
    have h0 := h b List.mem_cons_self
    rw [List.cons_append, insD, if_neg (by simpa using h0), insD_app a l2 l1 fun c hc => h c (List.mem_cons_of_mem _ hc)]
    rfl
theorem isort_eq : ∀ xs : List D, xs.mergeSort (PySem.W.dataLe false pyOf) = isortD xs
  | [] => by rw [List.mergeSort]; rfl
  | a :: xs => by
    obtain ⟨l1, l2, e1, e2, e3⟩ := List.mergeSort_cons dle_trans dle_total a xs
    have pw := List.pairwise_mergeSort dle_trans dle_total (a :: xs)
    rw [e1] at pw
    have pw2 := (List.pairwise_cons.mp (List.pairwise_append.mp pw).2.1).1
    rw [e1]
    show _ = insD a (isortD xs)
    rw [← isort_eq xs, e2, insD_app a l2 l1 e3]
    congr 1
    cases l2 with
    | nil => rfl
    | cons b l2 => rw [insD, if_pos (pw2 b List.mem_cons_self)]
/-! ### built-in functions -/
/-- a call on data -/
def rDc (K : PySem.W.Frag) (EX : D → Prop) (f : List D → T D) : List V → Hp → VK → Prop := fun vs H Q => ∃ bg S ds, Wld bg S H ∧ Reps K bg S H ds vs ∧ (f ds).All (Rs K bg S H Q) EX
section
variable {K : PySem.W.Frag} {bg : Option (Addr × Addr)} {S : Addr → Prop} {H : Hp}
theorem Reps.one {d : D} {vs : List V} (h : Reps K bg S H [d] vs) : ∃ v, vs = [v] ∧ Rep K bg S H d v := by
  obtain ⟨v, r, e, h1, h2⟩ := h
  rw [show r = [] from h2] at e
  exact ⟨v, e, h1⟩
theorem Reps.two {d e : D} {vs : List V} (h : Reps K bg S H [d, e] vs) : ∃ v w, vs = [v, w] ∧ Rep K bg S H d v ∧ Rep K bg S H e w := by
  obtain ⟨v, r, e, h1, h2⟩ := h
  obtain ⟨w, rfl, h3⟩ := Reps.one h2
  exact ⟨v, w, e, h1, h3⟩
theorem Reps.bls : ∀ {ds : List D} {bs : List Bool} {vs : List V}, blsOf ds = some bs → Reps K bg S H ds vs → vs = bs.map V.bl
  | [], bs, vs, e, h => by
    cases e
    exact h
  | d :: ds, bs, vs, e, h => by
    obtain ⟨v, r, rfl, h1, h2⟩ := h
    cases d <;> first | (cases e; done) | skip
    rename_i b
    obtain ⟨cs, e1, e2⟩ := Option.map_eq_some_iff.mp (show (blsOf ds).map (b :: ·) = some bs from e)
    subst e2
    rw [List.map_cons, ← Reps.bls e1 h2, show v = V.bl b from h1]
theorem Reps.ints : ∀ {ds : List D} {bs : List Int} {vs : List V}, intsOf ds = some bs → Reps K bg S H ds vs → vs = bs.map V.int
  | [], bs, vs, e, h => by
    cases e
    exact h
  | d :: ds, bs, vs, e, h => by
    obtain ⟨v, r, rfl, h1, h2⟩ := h
    cases d <;> first | (cases e; done) | skip
    rename_i b
    obtain ⟨cs, e1, e2⟩ := Option.map_eq_some_iff.mp (show (intsOf ds).map (b :: ·) = some bs from e)
    subst e2
    rw [List.map_cons, ← Reps.ints e1 h2, show v = V.int b from h1]
theorem Reps.strs : ∀ {ds : List D} {bs : List (List Nat)} {vs : List V}, strsOf ds = some bs → Reps K bg S H ds vs → vs = (bs.map fun l => (⟨l.toArray⟩ : Str)).map V.str ∧ ∀ l ∈ bs, okS l = true
  | [], bs, vs, e, h => by
    cases e
    exact ⟨h, fun l z => by cases z⟩
  | d :: ds, bs, vs, e, h => by
    obtain ⟨v, r, rfl, h1, h2⟩ := h
    cases d <;> first | (cases e; done) | skip
    rename_i b
    obtain ⟨cs, e1, e2⟩ := Option.map_eq_some_iff.mp (show (strsOf ds).map (b :: ·) = some bs from e)
    subst e2
    obtain ⟨i1, i2⟩ := Reps.strs e1 h2
    refine ⟨by rw [List.map_cons, List.map_cons, ← i1, h1.1], fun l z => ?_⟩
    rcases List.mem_cons.mp z with z | z
    · rw [z]; exact h1.2
    · exact i2 l z
end
mutual
theorem toPy_inj : ∀ (d d' : D) (p : PyData), toPy d = some p → toPy d' = some p → d = d'
  | .non, d', p, h, h' => by
    cases h
    cases d' <;> first | rfl | (cases h'; done) | (obtain ⟨q, _, e⟩ := Option.map_eq_some_iff.mp h'; cases e; done)
  | .bl b, d', p, h, h' => by
    cases h
    cases d' <;> first | (cases h'; done) | (cases h'; rfl) | (obtain ⟨q, _, e⟩ := Option.map_eq_some_iff.mp h'; cases e; done)
  | .int i, d', p, h, h' => by
    cases h
    cases d' <;> first | (cases h'; done) | (cases h'; rfl) | (obtain ⟨q, _, e⟩ := Option.map_eq_some_iff.mp h'; cases e; done)
  | .str l, d', p, h, h' => by
    cases h
    cases d' <;> first | (cases h'; done) | (obtain ⟨q, _, e⟩ := Option.map_eq_some_iff.mp h'; cases e; done) | skip
    rename_i l'
    have e : l'.toArray = l.toArray := by
      have := Option.some.inj h'
      injection this with this
      injection this
    have : l' = l := by simpa using e
    rw [this]
  | .lst xs, d', p, h, h' => by
    unfold toPy at h
    obtain ⟨q, eq, e⟩ := Option.map_eq_some_iff.mp h
    subst e
    cases d' <;> first | (cases h'; done) | skip
    · rename_i ys
      unfold toPy at h'
      obtain ⟨q', eq', e'⟩ := Option.map_eq_some_iff.mp h'
      cases e'
      rw [toPys_inj xs ys q eq eq']
    · unfold toPy at h'
      obtain ⟨q', eq', e'⟩ := Option.map_eq_some_iff.mp h'
      cases e'
  | .tup xs, d', p, h, h' => by
    unfold toPy at h
    obtain ⟨q, eq, e⟩ := Option.map_eq_some_iff.mp h
    subst e
    cases d' <;> first | (cases h'; done) | skip
    · unfold toPy at h'
      obtain ⟨q', eq', e'⟩ := Option.map_eq_some_iff.mp h'
      cases e'
    · rename_i ys
      unfold toPy at h'
      obtain ⟨q', eq', e'⟩ := Option.map_eq_some_iff.mp h'
      cases e'
      rw [toPys_inj xs ys q eq eq']
  | .dct _ _ _, _, _, h, _ => by cases h
  | .ins _ _ _, _, _, h, _ => by cases h
  | .bag, _, _, h, _ => by cases h
  | .scr _ _, _, _, h, _ => by cases h
theorem toPys_inj : ∀ (ds es : List D) (ps : List PyData), toPys ds = some ps → toPys es = some ps → ds = es
  | [], es, ps, h, h' => by
    cases h
    cases es with
    | nil => rfl
    | cons e es =>
      unfold toPys at h'
      split at h' <;> cases h'
  | d :: ds, es, ps, h, h' => by
    unfold toPys at h
    split at h
    · rename_i x xs ex exs
      cases h
      cases es with
      | nil => cases h'
      | cons e es =>
        unfold toPys at h'
        split at h'
        · rename_i y ys ey eys
          cases h'
          rw [toPy_inj d e _ ex ey, toPys_inj ds es _ exs eys]
        · cases h'
    · cases h
end
section
variable {X : Cx} {EX : D → Prop} {pins : List (Addr × Obj)} {σ : L2.St} {s : Shared} {bg : Option (Addr × Addr)} {S : Addr → Prop} {H : Hp}
theorem each_of : ∀ {xs : List D} {ys : List V} {us : List Value}, Reps X.K bg S H xs ys → Vals ys us → PySem.W.EachIs (fun u d => ∃ v, RelV v u ∧ Rep X.K bg S H d v) us xs
  | [], ys, us, h, r => by
    rw [show ys = [] from h] at r
    cases r
    exact .nil
  | x :: xs, ys, us, h, r => by
    obtain ⟨v, ys, e, h1, h2⟩ := h
    subst e
    cases r with
    | cons r1 r2 => exact .cons ⟨v, r1, h1⟩ (each_of h2 r2)
theorem each_rd (I : L2.Inv X pins σ H s) : ∀ {xs : List D} {ys : List V} {us : List Value}, (∀ d ∈ xs, (toPy d).isSome = true) → Reps X.K bg S H xs ys → Vals ys us → PySem.W.EachIs (fun u d => ∃ as, Reads s.heap u (pyOf d) as) us xs
  | [], ys, us, _, h, r => by
    rw [show ys = [] from h] at r
    cases r
    exact .nil
  | x :: xs, ys, us, hp, h, r => by
    obtain ⟨v, ys, e, h1, h2⟩ := h
    subst e
    cases r with
    | cons r1 r2 =>
      obtain ⟨p, ep⟩ := Option.isSome_iff_exists.mp (hp x List.mem_cons_self)
      refine .cons ?_ (each_rd I (fun d hd => hp d (List.mem_cons_of_mem _ hd)) h2 r2)
      have e1 : pyOf x = p := by unfold pyOf; rw [ep]; rfl
      rw [e1]
      exact Dp.reads I p v _ (Rep.dp x p v ep h1).1 r1
theorem each_back : ∀ {xs : List D} {us : List Value}, PySem.W.EachIs (fun u d => ∃ v, RelV v u ∧ Rep X.K bg S H d v) us xs → ∃ ys, Vals ys us ∧ Reps X.K bg S H xs ys
  | [], us, h => by
    cases h
    exact ⟨[], .nil, rfl⟩
  | x :: xs, us, h => by
    cases h with
    | cons h1 h2 =>
      obtain ⟨v, r1, q1⟩ := h1
      obtain ⟨ys, r2, q2⟩ := each_back h2
      exact ⟨v :: ys, .cons r1 r2, v, ys, rfl, q1, q2⟩
theorem call_sorted_dat (hu : X.A.units + 70 < cLine) : CallR X (.builtin "sorted") (rDc X.K EX sortD) := by
  intro pins s σ H vs us Q I r ⟨bg, S, ds, W, rs, h⟩
  unfold sortD at h
  split at h
  · rename_i xs
    obtain ⟨c, h⟩ := T.all_need h
    simp only [Bool.and_eq_true, Bool.or_eq_true, decide_eq_true_eq] at c
    obtain ⟨⟨c1, c2⟩, c3⟩ := c
    obtain ⟨v, rfl, rv⟩ := rs.one
    obtain ⟨a, ys, ea, sa, pa, ra⟩ := rv
    subst ea
    obtain ⟨its, rv, hl, hz⟩ := I.list (xs := ys) (.inl pa)
    rw [Vals.ref1 r]
    have al := List.all_eq_true.mp c1
    have sm : ∀ d ∈ xs, (toPy d).isSome = true := fun d hd => by
      have := al d hd
      simp only [Bool.and_eq_true] at this
      exact this.1.1
    have dp : ∀ d ∈ xs, (pyOf d).depth ≤ 64 := fun d hd => by
      have := al d hd
      simp only [Bool.and_eq_true, decide_eq_true_eq] at this
      exact this.1.2
    have lk : PySem.W.AllAlike (xs.map pyOf) := fun d hd d' hd' => by
      obtain ⟨x, hx, rfl⟩ := List.mem_map.mp hd
      obtain ⟨y, hy, rfl⟩ := List.mem_map.mp hd'
      have := al x hx
      simp only [Bool.and_eq_true] at this
      exact List.all_eq_true.mp this.2 y hy
    have so : PySem.W.Sortable (xs.map pyOf) := by
      rcases c2 with c2 | c2
      · refine .inl fun d hd => ?_
        obtain ⟨x, hx, rfl⟩ := List.mem_map.mp hd
        have t := List.all_eq_true.mp c2 x hx
        obtain ⟨p, ep⟩ := Option.isSome_iff_exists.mp (sm x hx)
        cases x <;> first | (cases t; done) | skip
        rename_i zs
        cases zs with
        | nil => cases t
        | cons z zs =>
          have e1 : pyOf (.tup (z :: zs)) = p := by unfold pyOf; rw [ep]; rfl
          unfold toPy toPys at ep
          obtain ⟨q, eq, e2⟩ := Option.map_eq_some_iff.mp ep
          split at eq
          · cases eq
            exact ⟨_, _, by rw [e1, ← e2]⟩
          · cases eq
      · refine .inr fun d hd => ?_
        obtain ⟨x, hx, rfl⟩ := List.mem_map.mp hd
        have t := List.all_eq_true.mp c2 x hx
        obtain ⟨p, ep⟩ := Option.isSome_iff_exists.mp (sm x hx)
        have e1 : pyOf x = p := by unfold pyOf; rw [ep]; rfl
        rw [e1]
        cases x <;> first | (cases t; done) | skip
        all_goals unfold toPy at ep
        all_goals first | (cases ep; done) | (cases ep; exact ⟨(fun z => by cases z), (fun zs z => by cases z)⟩) | (obtain ⟨q, _, e2⟩ := Option.map_eq_some_iff.mp ep; subst e2; exact ⟨(fun z => by cases z), (fun zs z => by cases z)⟩)
    refine PySem.W.sorted_data (enc := pyOf) hl.isList (each_of (X := X) ra rv) (each_rd I sm ra rv) lk so (by rw [← lineM]; exact c3) (fun d hd => by have := dp d hd; omega) fun out ho er => ?_
    obtain ⟨zs, rz, qz⟩ := each_back er
    rw [isort_eq] at qz
    obtain ⟨ep, he⟩ := PyProof.Rows.sortedAll_at s.heap its out.toArray
    have hlen : zs.length ≤ sizeLine := by
      rw [rz.length, ho, ← lineM]
      exact c3
    exact ⟨.ref _, upd H (s.heap.objs.size + 1) (.lst zs), I.laid (t' := s.toks) (fun _ _ => PyProof.Rows.sortedAll_old) (Nat.le_succ _) ⟨hlen, out, ep, rz, he⟩, rfl, h.lst W qz _ (I.hok.fresh (Nat.le_succ _))⟩
  · exact h.elim
end
theorem minDD_mem : ∀ (xs : List D) (x : D), minDD x xs ∈ x :: xs
  | [], x => List.mem_cons_self
  | y :: ys, x => by
    show minDD (if PySem.W.dataLt (pyOf y) (pyOf x) then y else x) ys ∈ _
    have := minDD_mem ys (if PySem.W.dataLt (pyOf y) (pyOf x) then y else x)
    rcases List.mem_cons.mp this with z | z
    · rw [z]
      split
      · exact List.mem_cons_of_mem _ List.mem_cons_self
      · exact List.mem_cons_self
    · exact List.mem_cons_of_mem _ (List.mem_cons_of_mem _ z)
theorem minDD_py : ∀ (xs : List D) (x : D), pyOf (minDD x xs) = PySem.W.minD (pyOf x) (xs.map pyOf)
  | [], x => rfl
  | y :: ys, x => by
    show pyOf (minDD (if PySem.W.dataLt (pyOf y) (pyOf x) then y else x) ys) = PySem.W.minD (if PySem.W.dataLt (pyOf y) (pyOf x) then pyOf y else pyOf x) (ys.map pyOf)
    rw [minDD_py ys]
    split <;> rfl
section
variable {X : Cx} {EX : D → Prop} {bg : Option (Addr × Addr)} {S : Addr → Prop} {H : Hp}
theorem toPys_of : ∀ {xs : List D}, (∀ d ∈ xs, (toPy d).isSome = true) → toPys xs = some (xs.map pyOf)
  | [], _ => rfl
  | x :: xs, h => by
    obtain ⟨p, ep⟩ := Option.isSome_iff_exists.mp (h x List.mem_cons_self)
    unfold toPys
    rw [ep, toPys_of fun d hd => h d (List.mem_cons_of_mem _ hd)]
    have : pyOf x = p := by unfold pyOf; rw [ep]; rfl
    rw [List.map_cons, this]
theorem depth_le : ∀ {xs : List D}, (∀ d ∈ xs, (pyOf d).depth ≤ 64) → PyData.depthAll (xs.map pyOf) ≤ 64
  | [], _ => by simp [PyData.depthAll]
  | x :: xs, h => by
    rw [List.map_cons, PyData.depthAll]
    have h1 := h x List.mem_cons_self
    have h2 := depth_le fun d hd => h d (List.mem_cons_of_mem _ hd)
    omega
theorem call_min_dat (hc : X.calm = true) (hu : X.A.units + 70 < cLine) : CallR X (.builtin "min") (rDc X.K EX minF) := by
  intro pins s σ H vs us Q I r ⟨bg, S, ds, W, rs, h⟩
  unfold minF at h
  split at h
  · rename_i x xs
    obtain ⟨c, h⟩ := T.all_need h
    simp only [Bool.and_eq_true] at c
    obtain ⟨c1, c2⟩ := c
    obtain ⟨v, rfl, rv⟩ := rs.one
    obtain ⟨a, ys, ea, sa, pa, ra⟩ := rv
    subst ea
    obtain ⟨its, rv, hl, hz⟩ := I.list (xs := ys) (.inl pa)
    rw [Vals.ref1 r]
    have al := List.all_eq_true.mp c1
    have sm : ∀ d ∈ x :: xs, (toPy d).isSome = true := fun d hd => by
      have := al d hd
      simp only [Bool.and_eq_true] at this
      exact this.1.1
    have dp : ∀ d ∈ x :: xs, (pyOf d).depth ≤ 64 := fun d hd => by
      have := al d hd
      simp only [Bool.and_eq_true, decide_eq_true_eq] at this
      exact this.1.2
    have py : ∀ d ∈ x :: xs, toPy d = some (pyOf d) := fun d hd => by
      obtain ⟨p, ep⟩ := Option.isSome_iff_exists.mp (sm d hd)
      unfold pyOf
      rw [ep]; rfl
    have lk : PySem.W.AlikeAll (pyOf x :: xs.map pyOf) := ⟨fun d hd d' hd' => by
      obtain ⟨y, hy, rfl⟩ := List.mem_map.mp (show d ∈ (x :: xs).map pyOf from hd)
      obtain ⟨z, hz, rfl⟩ := List.mem_map.mp (show d' ∈ (x :: xs).map pyOf from hd')
      have := al y hy
      simp only [Bool.and_eq_true] at this
      exact List.all_eq_true.mp this.2 z hz, fun d hd e => by
      obtain ⟨y, hy, rfl⟩ := List.mem_map.mp (show d ∈ (x :: xs).map pyOf from hd)
      have t := List.all_eq_true.mp c2 y hy
      have ey : y = .non := toPy_inj y .non .none (by rw [py y hy, e]) rfl
      subst ey
      cases t⟩
    obtain ⟨as, hr⟩ := Dp.readsAll I _ ys its (Reps.dp (x :: xs) _ ys (toPys_of sm) ra).1 rv
    refine PySem.W.min_list_data (as := as) (I.ok.hd hc) hl.isList (by simpa using hr) lk (by have := depth_le dp; show _ + 1 + PyData.depthAll ((x :: xs).map pyOf) < _; omega) fun i v h' tk bs hv hrd hk => ?_
    have hv : its[i]? = some v := by simpa using hv
    obtain ⟨y, hy, ry⟩ : ∃ y, ys[i]? = some y ∧ RelV y v := by
      have hlt : i < ys.length := by
        have := (List.getElem?_eq_some_iff.mp hv).1
        rw [rv.length]
        exact this
      obtain ⟨u, e1, e2⟩ := rv.get (List.getElem?_eq_getElem hlt)
      rw [hv] at e1
      cases e1
      exact ⟨_, List.getElem?_eq_getElem hlt, e2⟩
    have hi : i < (x :: xs).length := by
      have := (List.getElem?_eq_some_iff.mp hy).1
      rw [ra.length] at this
      exact this
    obtain ⟨y', hy', rep⟩ := ra.get (List.getElem?_eq_getElem hi)
    rw [hy] at hy'
    cases hy'
    have mem : (x :: xs)[i] ∈ x :: xs := List.getElem_mem hi
    obtain ⟨as2, hr2⟩ := Dp.reads I _ y v (Rep.dp _ _ y (py _ mem) rep).1 ry
    have mm := minDD_mem xs x
    have e : pyOf (x :: xs)[i] = PySem.W.minD (pyOf x) (xs.map pyOf) := by
      refine PySem.W.alike_unique _ _ v as2 bs ?_ (PySem.W.reads_keeps hk hr2) hrd
      rw [← minDD_py]
      have := al _ mem
      simp only [Bool.and_eq_true] at this
      exact List.all_eq_true.mp this.2 _ mm
    have e2 : (x :: xs)[i] = minDD x xs := toPy_inj _ _ (pyOf (x :: xs)[i]) (py _ mem) (by rw [py _ mm, e, minDD_py])
    rw [e2] at rep
    exact ⟨y, H, I.kept (t' := tk) hk, ry, h.here W rep⟩
  · exact h.elim
end
section
variable {X : Cx} {EX : D → Prop}
theorem call_len_dat : CallR X (.builtin "len") (rDc X.K EX (bcallD .len)) := by
  intro pins s σ H vs us Q I r ⟨bg, S, ds, W, rs, h⟩
  have hl := lineM
  replace h : (lenD ds).All (Rs X.K bg S H Q) EX := h
  unfold lenD at h
  split at h
  · obtain ⟨c, h⟩ := T.all_need h
    have c := of_decide_eq_true c
    obtain ⟨v, rfl, rv⟩ := rs.one
    refine call_len pins s σ H _ us Q I r ⟨_, _, rfl, ?_, h.here W rfl⟩
    rw [rv.1]
    refine ⟨?_, ?_⟩
    · show (List.toArray _).size ≤ sizeLine
      rw [List.size_toArray, ← hl]; exact c
    · show _ = (List.toArray _).size
      rw [List.size_toArray]
  · obtain ⟨v, rfl, rv⟩ := rs.one
    obtain ⟨a, xs, ea, sa, pa, ra⟩ := rv
    refine call_len pins s σ H _ us Q I r ⟨_, _, rfl, ?_, h.here W rfl⟩
    rw [ea]
    exact .inl ⟨xs, .inl pa, ra.length.symm⟩
  · obtain ⟨v, rfl, rv⟩ := rs.one
    obtain ⟨a, xs, ea, ta, ra⟩ := rv
    refine call_len pins s σ H _ us Q I r ⟨_, _, rfl, ?_, h.here W rfl⟩
    rw [ea]
    exact .inr ⟨xs, ta.sq, ra.length.symm⟩
  · obtain ⟨v, rfl, rv⟩ := rs.one
    refine call_len pins s σ H _ us Q I r ⟨_, _, rfl, ?_, h.here W rfl⟩
    rw [rv.1]
    refine .inl ⟨_, rv.2.sq, ?_⟩
    rw [List.length_map, List.length_map]
  · rename_i t ks vs'
    obtain ⟨v, rfl, rv⟩ := rs.one
    obtain ⟨a, o, xs, ea, sa, pa, q, ra⟩ := rv
    cases t with
    | false =>
      obtain ⟨kk, e1, e2, e3⟩ := q
      subst e3
      have hkl : ks.length = kk.length := by simpa using congrArg List.length e1
      refine call_lenD pins s σ H _ us Q I r ⟨a, _, by rw [ea], pa, h.here W ?_⟩
      show V.int _ = V.int _
      rw [List.length_zip, e2, Nat.min_self, ← e2, hkl]
    | true =>
      obtain ⟨kk, e1, e2, e3⟩ := q
      subst e3
      have hkl : ks.length = kk.length := by simpa using congrArg List.length e1
      refine call_len_dT pins s σ H _ us Q I r ⟨a, _, by rw [ea], pa, h.here W ?_⟩
      show V.int _ = V.int _
      rw [List.length_zip, e2, Nat.min_self, ← e2, hkl]
  · exact h.elim
theorem call_all_dat (hc : X.calm = true) : CallR X (.builtin "all") (rDc X.K EX (bcallD .all)) := by
  intro pins s σ H vs us Q I r ⟨bg, S, ds, W, rs, h⟩
  replace h : (allD ds).All (Rs X.K bg S H Q) EX := h
  unfold allD at h
  split at h
  · split at h
    · rename_i bs eb
      obtain ⟨v, rfl, rv⟩ := rs.one
      obtain ⟨a, xs, ea, sa, pa, ra⟩ := rv
      rw [ra.bls eb] at pa
      exact cr_all hc pins s σ H _ us Q I r ⟨a, bs, by rw [ea], .inl pa, h.here W rfl⟩
    · exact h.elim
  · exact h.elim
theorem call_any_dat (hc : X.calm = true) : CallR X (.builtin "any") (rDc X.K EX (bcallD .any)) := by
  intro pins s σ H vs us Q I r ⟨bg, S, ds, W, rs, h⟩
  replace h : (anyD ds).All (Rs X.K bg S H Q) EX := h
  unfold anyD at h
  split at h
  · split at h
    · rename_i bs eb
      obtain ⟨v, rfl, rv⟩ := rs.one
      obtain ⟨a, xs, ea, sa, pa, ra⟩ := rv
      rw [ra.bls eb] at pa
      exact cr_any hc pins s σ H _ us Q I r ⟨a, bs, by rw [ea], .inl pa, h.here W rfl⟩
    · exact h.elim
  · exact h.elim
theorem zip_fst {α β : Type} : ∀ (ks : List α) (xs : List β), ks.length = xs.length → (ks.zip xs).map (·.1) = ks
  | [], xs, _ => by simp
  | k :: ks, [], h => by cases h
  | k :: ks, x :: xs, h => by
    rw [List.zip_cons_cons, List.map_cons, zip_fst ks xs (by simpa using h)]
theorem reps_keys {K : PySem.W.Frag} {bg : Option (Addr × Addr)} {S : Addr → Prop} {H : Hp} : ∀ {ks : List D} {kk : List Key}, ks.map keyD = kk.map some → Reps K bg S H ks (kk.map kV)
  | [], [], _ => rfl
  | [], _ :: _, e => by cases e
  | _ :: _, [], e => by cases e
  | d :: ds, k :: kk, e => by
    rw [List.map_cons, List.map_cons, List.cons.injEq] at e
    exact ⟨_, _, rfl, rep_keyD e.1, reps_keys e.2⟩
theorem reps_tkeys {K : PySem.W.Frag} {bg : Option (Addr × Addr)} {S : Addr → Prop} {H : Hp} (W : Wld bg S H) : ∀ {ks : List D} {kk : List (List Key)} {xs : List V} {bs : List Addr}, ks.map tkeyD = kk.map some → kk.length = xs.length → IsKeys H (kk.zip xs) bs → Reps K bg S H ks (bs.map V.ref)
  | [], [], xs, bs, _, _, p => by
    unfold IsKeys at p
    rw [List.zip_nil_left] at p
    cases p
    rfl
  | [], _ :: _, _, _, e, _, _ => by cases e
  | _ :: _, [], _, _, e, _, _ => by cases e
  | d :: ds, k :: kk, [], bs, e, l, p => by cases l
  | d :: ds, k :: kk, x :: xs, bs, e, l, p => by
    rw [List.map_cons, List.map_cons, List.cons.injEq] at e
    unfold IsKeys at p
    rw [List.zip_cons_cons] at p
    cases p with
    | cons h t => exact ⟨_, _, rfl, rep_tkey e.1 (W.tup _ _ h) h, reps_tkeys W e.2 (by simpa using l) t⟩
/-- list(d) -/
theorem call_list_dct (hc : X.calm = true) {t : Bool} {ks vs : List D} {pins : List (Addr × Obj)} {s : Shared} {σ : L2.St} {H : Hp} {ws : List V} {us : List Value} {Q : VK} {bg : Option (Addr × Addr)} {S : Addr → Prop} (I : L2.Inv X pins σ H s) (r : Vals ws us) (W : Wld bg S H) (rs : Reps X.K bg S H [.dct t ks vs] ws)
    (h : ∀ p xs, H p = none → Reps X.K bg S H ks xs → Q (.ref p) (upd H p (.lst xs))) : wpAny (model X.prog X.w) X.A (call (.type "list") us) (EP X pins σ Q) X.xe s := by
  obtain ⟨v, rfl, rv⟩ := rs.one
  obtain ⟨a, o, xs, ea, sa, pa, q, ra⟩ := rv
  cases t with
  | false =>
    obtain ⟨kk, e1, e2, e3⟩ := q
    subst e3
    refine call_list_dK hc pins s σ H _ us Q I r ⟨a, _, by rw [ea], pa, fun p hp => ?_⟩
    refine h p _ hp ?_
    have e4 : ((kk.zip xs).map fun kv => kV kv.1) = kk.map kV := by
      have := congrArg (List.map kV) (zip_fst kk xs e2)
      rw [List.map_map] at this
      exact this
    rw [e4]
    exact reps_keys e1
  | true =>
    obtain ⟨kk, e1, e2, e3⟩ := q
    subst e3
    exact call_list_dT hc pins s σ H _ us Q I r ⟨a, _, by rw [ea], .inl pa, fun p bs hp hk => h p _ hp (reps_tkeys W e1 e2 hk)⟩
theorem call_list_dat (hc : X.calm = true) : CallR X (.type "list") (rDc X.K EX (bcallD .list)) := by
  intro pins s σ H vs us Q I r ⟨bg, S, ds, W, rs, h⟩
  replace h : (listD ds).All (Rs X.K bg S H Q) EX := h
  unfold listD at h
  split at h
  · obtain ⟨v, rfl, rv⟩ := rs.one
    obtain ⟨a, xs, ea, sa, pa, ra⟩ := rv
    exact call_list_of pins s σ H _ us Q I r ⟨a, xs, by rw [ea], .inl (.inl pa), h.lst W ra⟩
  · obtain ⟨v, rfl, rv⟩ := rs.one
    obtain ⟨a, xs, ea, ta, ra⟩ := rv
    exact call_list_of pins s σ H _ us Q I r ⟨a, xs, by rw [ea], .inr ta.sq, h.lst W ra⟩
  · exact call_list_dct hc I r W rs fun p xs hp rx => h.lst W rx p hp
  · exact h.elim
/-- pairs in the heap -/
theorem pairs_reps {K : PySem.W.Frag} {bg : Option (Addr × Addr)} {S : Addr → Prop} {H : Hp} : ∀ {ps : List D} {q : List D × List D} {xs : List V}, pairsD ps = some q → Reps K bg S H ps xs →
    ∃ (as : List Addr) (kk : List Key) (ys : List V), xs = as.map V.ref ∧ q.1.map keyD = kk.map some ∧ kk.length = ys.length ∧ Reps K bg S H q.2 ys ∧ Paired (fun p kv => SqT K H p [kV kv.1, kv.2]) as (kk.zip ys)
  | [], q, xs, e, r => by
    cases e
    exact ⟨[], [], [], r, rfl, rfl, rfl, .nil⟩
  | d :: ps, q, xs, e, r => by
    obtain ⟨x, ys, ex, r1, r2⟩ := r
    unfold pairsD at e
    split at e
    · rename_i ez
      cases ez
    · rename_i k v ps' ez
      cases ez
      split at e
      · rename_i hk
        obtain ⟨q', e1, e2⟩ := Option.map_eq_some_iff.mp e
        obtain ⟨as, kk, zs, i1, i2, i3, i4, i5⟩ := pairs_reps e1 r2
        obtain ⟨j, ej⟩ := isKey_some hk
        obtain ⟨b, ws, eb, tb, rb⟩ := r1
        obtain ⟨y1, y2, ey, q1, q2⟩ := Reps.two rb
        subst ey eb ex e2
        have := keyD_rep ej q1
        subst this
        exact ⟨b :: as, j :: kk, y2 :: zs, by rw [i1]; rfl, by rw [List.map_cons, List.map_cons, ej, i2], by simp [i3], ⟨_, _, rfl, q2, i4⟩, .cons tb.sq i5⟩
      · cases e
    · cases e
theorem merge_rel {K : PySem.W.Frag} {bg : Option (Addr × Addr)} {S : Addr → Prop} {H : Hp} : ∀ {ks vs : List D} {kk : List Key} {ys : List V} {acc : List D × List D} {ak : List Key} {ax : List V}, ks.map keyD = kk.map some → kk.length = ys.length → Reps K bg S H vs ys → acc.1.map keyD = ak.map some → ak.length = ax.length → Reps K bg S H acc.2 ax →
    ∃ (ak' : List Key) (ax' : List V), mergeK (ak.zip ax) (kk.zip ys) = ak'.zip ax' ∧ (kvMerge ks vs acc).1.map keyD = ak'.map some ∧ ak'.length = ax'.length ∧ Reps K bg S H (kvMerge ks vs acc).2 ax'
  | [], vs, kk, ys, acc, ak, ax, e, l, r, e', l', r' => by
    have : kk = [] := by
      cases kk with
      | nil => rfl
      | cons _ _ => cases e
    subst this
    exact ⟨ak, ax, rfl, by unfold kvMerge; exact e', l', by unfold kvMerge; exact r'⟩
  | k :: ks, vs, kk, ys, acc, ak, ax, e, l, r, e', l', r' => by
    cases kk with
    | nil => cases e
    | cons j kk =>
      rw [List.map_cons, List.map_cons, List.cons.injEq] at e
      cases ys with
      | nil => cases l
      | cons y ys =>
        have hv := r.length
        cases vs with
        | nil => cases hv
        | cons v vs =>
          obtain ⟨y', ys', ey, r1, r2⟩ := r
          cases ey
          obtain ⟨ak1, ax1, p1, p2, p3, p4⟩ := put_rel (fun a b k h h' => keyD_inj h h') e.1 r1 e' l' r'
          obtain ⟨ak2, ax2, q1, q2, q3, q4⟩ := merge_rel (acc := kvPut acc.1 acc.2 k v) e.2 (by simpa using l) r2 p2 p3 p4
          refine ⟨ak2, ax2, ?_, by rw [kvMerge]; exact q2, q3, by rw [kvMerge]; exact q4⟩
          rw [← q1, ← p1]
          rfl
theorem call_dict_dat (hc : X.calm = true) : CallR X (.type "dict") (rDc X.K EX (bcallD .dict)) := by
  intro pins s σ H vs us Q I r ⟨bg, S, ds, W, rs, h⟩
  replace h : (dictD ds).All (Rs X.K bg S H Q) EX := h
  unfold dictD at h
  split at h
  · split at h
    · rename_i q eq
      obtain ⟨v, rfl, rv⟩ := rs.one
      obtain ⟨a, xs, ea, sa, pa, ra⟩ := rv
      obtain ⟨as, kk, ys, i1, i2, i3, i4, i5⟩ := pairs_reps eq ra
      subst i1
      obtain ⟨ak, ax, m1, m2, m3, m4⟩ := merge_rel (acc := ([], [])) (ak := []) (ax := []) i2 i3 i4 rfl rfl rfl
      refine call_dictP hc pins s σ H _ us Q I r ⟨a, as, _, by rw [ea], .inl pa, i5, fun p hp => ?_⟩
      have m1 : mergeK [] (kk.zip ys) = ak.zip ax := m1
      rw [m1]
      exact h.obj W ⟨ax, ⟨ak, m2, m3, rfl⟩, m4⟩ p hp
    · exact h.elim
  · exact h.elim
theorem call_tuple_dat : CallR X (.type "tuple") (rDc X.K EX (bcallD .tuple)) := by
  intro pins s σ H vs us Q I r ⟨bg, S, ds, W, rs, h⟩
  replace h : (tupleD ds).All (Rs X.K bg S H Q) EX := h
  unfold tupleD at h
  split at h
  · obtain ⟨v, rfl, rv⟩ := rs.one
    obtain ⟨a, xs, ea, sa, pa, ra⟩ := rv
    exact call_tuple_of pins s σ H _ us Q I r ⟨a, xs, by rw [ea], .inl ⟨.inl pa, h.tup W ra⟩⟩
  · obtain ⟨v, rfl, rv⟩ := rs.one
    obtain ⟨a, xs, ea, ta, ra⟩ := id rv
    exact call_tuple_of pins s σ H _ us Q I r ⟨a, xs, by rw [ea], .inr ⟨ta.sq, by rw [← ea]; exact h.here W rv⟩⟩
  · exact h.elim
theorem call_sum_dat (hc : X.calm = true) : CallR X (.builtin "sum") (rDc X.K EX (bcallD .sum)) := by
  intro pins s σ H vs us Q I r ⟨bg, S, ds, W, rs, h⟩
  replace h : (sumD ds).All (Rs X.K bg S H Q) EX := h
  unfold sumD at h
  split at h
  · split at h
    · rename_i bs eb
      obtain ⟨v, rfl, rv⟩ := rs.one
      obtain ⟨a, xs, ea, sa, pa, ra⟩ := rv
      rw [ra.ints eb] at pa
      exact cr_sum hc pins s σ H _ us Q I r ⟨a, bs, by rw [ea], .inl pa, h.here W rfl⟩
    · exact h.elim
  · exact h.elim
theorem call_int_dat : CallR X (.type "int") (rDc X.K EX (bcallD .int)) := by
  intro pins s σ H vs us Q I r ⟨bg, S, ds, W, rs, h⟩
  replace h : (intD ds).All (Rs X.K bg S H Q) EX := h
  unfold intD at h
  split at h
  · obtain ⟨v, rfl, rv⟩ := rs.one
    exact call_int1 pins s σ H _ us Q I r (.inl ⟨_, by rw [show v = _ from rv], h.here W rfl⟩)
  · obtain ⟨v, rfl, rv⟩ := rs.one
    exact call_int1 pins s σ H _ us Q I r (.inr ⟨_, by rw [show v = _ from rv], h.here W rfl⟩)
  · exact h.elim
theorem joinL_cons (a x : List Nat) : ∀ ys : List (List Nat), joinL a (x :: ys) = x ++ (ys.map fun y => a ++ y).flatten
  | [] => by simp [joinL]
  | y :: r => by
    show x ++ a ++ joinL a (y :: r) = _
    rw [joinL_cons a y r]
    simp
theorem glue_fold (a : List Nat) : ∀ (ys : List (List Nat)) (acc : List Nat), List.foldl (fun acc (p : Str) => acc ++ a.toArray ++ p.cps) acc.toArray (ys.map fun l => (⟨l.toArray⟩ : Str)) = (acc ++ (ys.map fun y => a ++ y).flatten).toArray
  | [], acc => by simp
  | y :: r, acc => by
    rw [List.map_cons, List.foldl_cons]
    have : acc.toArray ++ a.toArray ++ y.toArray = (acc ++ a ++ y).toArray := by simp
    rw [this, glue_fold a r]
    simp
theorem joinS (a : List Nat) (ys : List (List Nat)) : Txt.join ⟨a.toArray⟩ (ys.map fun l => (⟨l.toArray⟩ : Str)) = ⟨(joinL a ys).toArray⟩ := by
  unfold Txt.join PySem.Builtin.Str.glued
  cases ys with
  | nil => rfl
  | cons x r =>
    rw [joinL_cons]
    congr 1
    exact glue_fold a r x
theorem okS_joinL {a : List Nat} (ha : okS a = true) : ∀ {ys : List (List Nat)}, (∀ l ∈ ys, okS l = true) → okS (joinL a ys) = true
  | [], _ => rfl
  | [x], h => h x (by simp)
  | x :: y :: r, h => okS_append (okS_append (h x (by simp)) ha) (okS_joinL ha fun l z => h l (by simp at z ⊢; exact .inr z))
/-- a method on data -/
def rDm (K : PySem.W.Frag) (EX : D → Prop) (f : D → List D → T D) : V → List V → Hp → VK → Prop := fun v vs H Q => ∃ bg S d ds, Wld bg S H ∧ Rep K bg S H d v ∧ Reps K bg S H ds vs ∧ (f d ds).All (Rs K bg S H Q) EX
theorem mt_join_dat : MtR X "str.join" (rDm X.K EX (methD .join)) := by
  intro pins s σ H v vs u us Q I r rs ⟨bg, S, d, ds, W, hd, hds, h⟩
  replace h : (joinD d ds).All (Rs X.K bg S H Q) EX := h
  unfold joinD at h
  split at h
  · rename_i a xs0
    split at h
    · rename_i ys e
      obtain ⟨c, h⟩ := T.all_need h
      have c := of_decide_eq_true c
      obtain ⟨w, rfl, rw'⟩ := hds.one
      obtain ⟨p, xs, ep, sp, hp, rp⟩ := rw'
      obtain ⟨e1, e2⟩ := rp.strs e
      subst e1
      refine mt_join pins s σ H v _ u us Q I r rs ⟨⟨a.toArray⟩, p, ys.map fun l => ⟨l.toArray⟩, hd.1, by rw [ep], .inl (.inl hp), ?_, h.here W ⟨by rw [joinS], okS_joinL hd.2 e2⟩⟩
      have e3 : ((ys.map fun l => (⟨l.toArray⟩ : Str)).map (·.length)) = ys.map (·.length) := by
        rw [List.map_map]
        apply List.map_congr_left
        intro l _
        simp [Str.length]
      have e4 : (⟨a.toArray⟩ : Str).length = a.length := by simp [Str.length]
      rw [e3, e4, List.length_map]
      exact c
    · exact h.elim
  · exact h.elim
/-- a value's built-in type -/
def tyName : Ty → String
  | .none => "NoneType" | .bool => "bool" | .int => "int" | .str => "str" | .list => "list" | .tuple => "tuple"
theorem Rep.ty {K : PySem.W.Frag} {bg : Option (Addr × Addr)} {S : Addr → Prop} {H : Hp} {d : D} {v : V} {t : Ty} (h : Rep K bg S H d v) (e : tyD d = some t) : TyX K H v (.type (tyName t)) := by
  cases d with
  | non => cases e; rw [show v = .non from h]; exact .base .non
  | bl b => cases e; rw [show v = .bl b from h]; exact .base (.bl b)
  | int b => cases e; rw [show v = .int b from h]; exact .base (.int b)
  | str b => cases e; rw [h.1]; exact .base (.str _)
  | lst b =>
    cases e
    obtain ⟨a, xs, ea, sa, pa, _⟩ := h
    rw [ea]
    rcases pa with pa | ⟨o, pa⟩
    · exact .base (.lst pa)
    · exact .base (.frz pa)
  | tup b =>
    cases e
    obtain ⟨a, xs, ea, ta, _⟩ := h
    rw [ea]
    exact .base (.tup ta.2)
  | dct _ => cases e
  | ins _ _ => cases e
  | bag => cases e
  | scr _ _ => cases e
end
def rDcL (K : PySem.W.Frag) (EX : D → Prop) (f : List D → T (List D)) : List V → Hp → VK → Prop := fun vs H Q => ∃ bg S ds, Wld bg S H ∧ Reps K bg S H ds vs ∧ (f ds).All (fun es => ∀ p xs, H p = none → Reps K bg S H es xs → Q (.ref p) (upd H p (.lst xs))) EX
section
variable {X : Cx} {EX : D → Prop} {pins : List (Addr × Obj)} {σ : L2.St} {s : Shared} {bg : Option (Addr × Addr)} {S : Addr → Prop} {H : Hp}
theorem call_list_new (hc : X.calm = true) : CallR X (.type "list") (rDcL X.K EX listL) := by
  intro pins s σ H vs us Q I r ⟨bg, S, ds, W, rs, h⟩
  unfold listL at h
  split at h
  · obtain ⟨v, rfl, rv⟩ := rs.one
    obtain ⟨a, xs, ea, sa, pa, ra⟩ := rv
    exact call_list_of pins s σ H _ us Q I r ⟨a, xs, by rw [ea], .inl (.inl pa), fun p hp => h p xs hp ra⟩
  · obtain ⟨v, rfl, rv⟩ := rs.one
    obtain ⟨a, xs, ea, ta, ra⟩ := rv
    exact call_list_of pins s σ H _ us Q I r ⟨a, xs, by rw [ea], .inr ta.sq, fun p hp => h p xs hp ra⟩
  · exact call_list_dct hc I r W rs h
  · exact h.elim
theorem call_sorted_new (hu : X.A.units + 70 < cLine) : CallR X (.builtin "sorted") (rDcL X.K EX sortL) := by
  intro pins s σ H vs us Q I r ⟨bg, S, ds, W, rs, h⟩
  unfold sortL at h
  split at h
  · rename_i xs
    obtain ⟨c, h⟩ := T.all_need h
    simp only [Bool.and_eq_true, Bool.or_eq_true, decide_eq_true_eq] at c
    obtain ⟨⟨c1, c2⟩, c3⟩ := c
    obtain ⟨v, rfl, rv⟩ := rs.one
    obtain ⟨a, ys, ea, sa, pa, ra⟩ := rv
    subst ea
    obtain ⟨its, rv, hl, hz⟩ := I.list (xs := ys) (.inl pa)
    rw [Vals.ref1 r]
    have al := List.all_eq_true.mp c1
    have sm : ∀ d ∈ xs, (toPy d).isSome = true := fun d hd => by
      have := al d hd
      simp only [Bool.and_eq_true] at this
      exact this.1.1
    have dp : ∀ d ∈ xs, (pyOf d).depth ≤ 64 := fun d hd => by
      have := al d hd
      simp only [Bool.and_eq_true, decide_eq_true_eq] at this
      exact this.1.2
    have lk : PySem.W.AllAlike (xs.map pyOf) := fun d hd d' hd' => by
      obtain ⟨x, hx, rfl⟩ := List.mem_map.mp hd
      obtain ⟨y, hy, rfl⟩ := List.mem_map.mp hd'
      have := al x hx
      simp only [Bool.and_eq_true] at this
      exact List.all_eq_true.mp this.2 y hy
    have so : PySem.W.Sortable (xs.map pyOf) := by
      rcases c2 with c2 | c2
      · refine .inl fun d hd => ?_
        obtain ⟨x, hx, rfl⟩ := List.mem_map.mp hd
        have t := List.all_eq_true.mp c2 x hx
        obtain ⟨p, ep⟩ := Option.isSome_iff_exists.mp (sm x hx)
        cases x <;> first | (cases t; done) | skip
        rename_i zs
        cases zs with
        | nil => cases t
        | cons z zs =>
          have e1 : pyOf (.tup (z :: zs)) = p := by unfold pyOf; rw [ep]; rfl
          unfold toPy toPys at ep
          obtain ⟨q, eq, e2⟩ := Option.map_eq_some_iff.mp ep
          split at eq
          · cases eq
            exact ⟨_, _, by rw [e1, ← e2]⟩
          · cases eq
      · refine .inr fun d hd => ?_
        obtain ⟨x, hx, rfl⟩ := List.mem_map.mp hd
        have t := List.all_eq_true.mp c2 x hx
        obtain ⟨p, ep⟩ := Option.isSome_iff_exists.mp (sm x hx)
        have e1 : pyOf x = p := by unfold pyOf; rw [ep]; rfl
        rw [e1]
        cases x <;> first | (cases t; done) | skip
        all_goals unfold toPy at ep
        all_goals first | (cases ep; done) | (cases ep; exact ⟨(fun z => by cases z), (fun zs z => by cases z)⟩) | (obtain ⟨q, _, e2⟩ := Option.map_eq_some_iff.mp ep; subst e2; exact ⟨(fun z => by cases z), (fun zs z => by cases z)⟩)
    refine PySem.W.sorted_data (enc := pyOf) hl.isList (each_of (X := X) ra rv) (each_rd I sm ra rv) lk so (by rw [← lineM]; exact c3) (fun d hd => by have := dp d hd; omega) fun out ho er => ?_
    obtain ⟨zs, rz, qz⟩ := each_back er
    rw [isort_eq] at qz
    obtain ⟨ep, he⟩ := PyProof.Rows.sortedAll_at s.heap its out.toArray
    have hlen : zs.length ≤ sizeLine := by
      rw [rz.length, ho, ← lineM]
      exact c3
    exact ⟨.ref _, upd H (s.heap.objs.size + 1) (.lst zs), I.laid (t' := s.toks) (fun _ _ => PyProof.Rows.sortedAll_old) (Nat.le_succ _) ⟨hlen, out, ep, rz, he⟩, rfl, h _ _ (I.hok.fresh (Nat.le_succ _)) qz⟩
  · exact h.elim
end

/-! ### expressions, by data -/
section
variable (K : PySem.W.Frag) (bg : Option (Addr × Addr)) (S0 : Addr → Prop) (H0 : Hp) (EX : D → Prop)
/-- an expression's value stands for what m comes to; it may be or hold the own objects of A -/
def EvD (A : List Nat) (m : Gam → T D) : TE := fun σ H Q => ∃ O Γ S, At K bg S0 H0 O Γ S σ H ∧ (m Γ).All (fun d => ∀ v S' H', Wld bg S' H' → Ext bg S H S' H' → Rep K bg (Gs S' O σ A) H' d v → Q v H') EX
def EvB (m : Gam → T Bool) : TT := fun σ H Q => ∃ O Γ S, At K bg S0 H0 O Γ S σ H ∧ (m Γ).All (fun b => ∀ S' H', Wld bg S' H' → Ext bg S H S' H' → Q b H') EX
def EvL (A : List Nat) (m : Gam → T (List D)) : TA := fun σ H Q => ∃ O Γ S, At K bg S0 H0 O Γ S σ H ∧ (m Γ).All (fun ds => ∀ vs S' H', Wld bg S' H' → Ext bg S H S' H' → Reps K bg (Gs S' O σ A) H' ds vs → Q vs H') EX
def EvO (m : Gam → T (Option Int)) : TO := fun σ H Q => ∃ O Γ S, At K bg S0 H0 O Γ S σ H ∧ (m Γ).All (fun o => ∀ S' H', Wld bg S' H' → Ext bg S H S' H' → Q o H') EX
end
section
variable {X : Cx} {e : Expr} {t t' : TE}
theorem pe_weak (h : PE X e t) (w : ∀ σ H Q, t' σ H Q → t σ H Q) : PE X e t' := ⟨fun pins s σ H Q I q => h.run pins s σ H Q I (w σ H Q q)⟩
theorem pt_weak {t t' : TT} (h : PT X e t) (w : ∀ σ H Q, t' σ H Q → t σ H Q) : PT X e t' := ⟨fun pins s σ H Q I q => h.run pins s σ H Q I (w σ H Q q)⟩
theorem pw_weak {t t' : TT} (h : PW X e t) (w : ∀ σ H Q, t' σ H Q → t σ H Q) : PW X e t' := ⟨fun wh pins s σ H Q I q => h.run wh pins s σ H Q I (w σ H Q q)⟩
theorem pa_weak {es : List Expr} {t t' : TA} (h : PA X es t) (w : ∀ σ H Q, t' σ H Q → t σ H Q) : PA X es t' := ⟨fun p pins s σ H Q I q => h.run p pins s σ H Q I (w σ H Q q)⟩
theorem po_weak {o : Option Expr} {t t' : TO} (h : PO X o t) (w : ∀ σ H Q, t' σ H Q → t σ H Q) : PO X o t' := ⟨fun pins s σ H Q I q => h.run pins s σ H Q I (w σ H Q q)⟩
theorem pi_weak {tg : Expr} {t t' : TI} (h : PI X tg e t) (w : ∀ σ H R, t' σ H R → t σ H R) : PI X tg e t' := ⟨fun pins s σ H R I q => h.run pins s σ H R I (w σ H R q)⟩
/-- the lists and tuples of a heap have a size -/
def LenOk (K : PySem.W.Frag) (H : Hp) : Prop := (∀ a xs, SqL K H a xs → xs.length ≤ sizeLine) ∧ (∀ a xs, SqT K H a xs → xs.length ≤ sizeLine)
theorem pe_big (h : PE X e t) : PE X e (fun σ H Q => t σ H fun v H1 => LenOk X.K H1 → Q v H1) := ⟨fun pins s σ H Q I q =>
  thn (h.run pins s σ H _ I q) fun u s1 ⟨v, H1, I1, r, q1⟩ => ⟨v, H1, I1, r, q1 ⟨fun a xs z => by
    obtain ⟨its, rv, _, hz⟩ := I1.list z
    exact hz, fun a xs z => by
    obtain ⟨its, rv, _, hz⟩ := I1.tuple z
    exact hz⟩⟩⟩
end
section
variable {K : PySem.W.Frag} {bg : Option (Addr × Addr)} {S0 S S' S2 : Addr → Prop} {H0 H H' H2 : Hp} {O : List Nat} {Γ : Gam} {σ : L2.St} {A : List Nat}
/-- what came behind the own slots of A frozen, seen without them -/
theorem At.back (a : At K bg S0 H0 O Γ S σ H) (W : Wld bg S' H') (E : Ext bg (Gs S O σ A) H S' H') : Wld bg (fun b => S b ∨ (S' b ∧ H b = none)) H' ∧ Ext bg S H (fun b => S b ∨ (S' b ∧ H b = none)) H' ∧ ∀ b, S' b → Gs (fun b => S b ∨ (S' b ∧ H b = none)) O σ A b := by
  refine ⟨⟨fun b z => ?_, fun b e => ?_, fun b xs z => ?_⟩, ⟨fun _ h => .inl h, fun b z => ?_, E.keep, E.dom⟩, fun b z => ?_⟩
  · rcases z with z | ⟨z, _⟩
    · exact E.dom b (a.wld.dom b z)
    · exact W.dom b z
  · obtain ⟨B, n, ne⟩ := W.bag b e
    refine ⟨B, fun z => ?_, ne⟩
    rcases z with z | ⟨z, _⟩
    · exact (a.wld.bag b e).2.1 z
    · exact n z
  · by_cases hb : isBag bg b
    · obtain ⟨b', eb, ez⟩ := hb
      obtain ⟨ns, i, m, st, n, e1, _⟩ := (W.bag b' eb).1
      rw [ez, e1] at z
      cases z
    cases e0 : H b with
    | none => exact .inr ⟨W.tup b xs z, rfl⟩
    | some o =>
      have := E.keep b o e0 hb
      rw [z] at this
      cases this
      exact .inl (a.wld.tup b xs e0)
  · rcases z with z | ⟨_, z⟩
    · exact .inl z
    · exact .inr z
  · rcases E.new b z with q | q
    · exact Gs.ext (fun _ h => .inl h) b q
    · exact .inl (.inr ⟨z, q⟩)
theorem At.rs {Q : VK} {d : D} (a : At K bg S0 H0 O Γ S2 σ H2) (E : Ext bg S H S2 H2) (h : ∀ v S' H', Wld bg S' H' → Ext bg S H S' H' → Rep K bg (Gs S' O σ A) H' d v → Q v H') : Rs K bg (Gs S2 O σ A) H2 Q d := by
  intro u S' H' W E' r
  obtain ⟨W2, E2, s2⟩ := a.back W E'
  exact h u _ H' W2 (E.trans E2) (r.mono s2 (fun _ _ _ q => q) d u)
end
end Dy

set_option linter.all false
set_option maxRecDepth 10000
set_option autoImplicit false
/-! Dy, part 5: from a text's syntax to the own one; what a body's surroundings must be. -/
namespace Dy
open PySem PySem.Spec PyProof.Rows L2

/-- what is known of the names: the slots, the defs that may be called by name, the module's constants -/
structure Gf where
  /-- defs and classes that may be called by name: with so many values and such keywords, from where each parameter comes -/
  fns : List ((Str × Nat × List Str) × (List Sr × List D))
  glb : List (Str × D)
  /-- attributes of instances: of which classes -/
  flds : List (Str × List Str) := []
  /-- methods: with so many values and such keywords; by class, under which name its data stands -/
  mths : List ((Str × Nat × List Str) × List (Str × Str × List Sr × List D)) := []
  /-- constants of classes -/
  cats : List ((Str × Str) × D) := []
  /-- static methods -/
  sts : List ((Str × Str) × Str) := []
  /-- the lines on which {} is a dict with keys that are tuples -/
  tdl : List Nat := []
  /-- classes with their own __len__: under which name its data stands; the lines on which len(..) is such a one -/
  lens : List (Str × Str) := []
  ldl : List Nat := []
/-- .. and the slots -/
structure Cf where
  N : List Str
  g : Gf

def seen (sc : Scope) (x : Str) : Bool := match sc.names.lookup x with
  | some .local => true | some .cell => true | some .free => true
  | _ => false
def isLoc (sc : Scope) (x : Str) : Bool := match sc.names.lookup x with
  | some .local => true | some .cell => true
  | _ => false
def isGl (sc : Scope) (x : Str) : Bool := match sc.names.lookup x with
  | some .globalImplicit => true
  | _ => false
def okName (x : Str) : Bool := !(x == ("__debug__" : Str)) && !(x == ("__classdict__" : Str))
def isStar : Expr → Bool
  | .Starred _ _ => true
  | _ => false
/-- built-in names that are known to be free -/
def frees : List Str := ["len", "all", "any", "list", "tuple", "sum", "int", "sorted", "min", "str", "bool", "isinstance", "range", "enumerate", "zip", "dict", "set", "max", "repr", "reversed"]
def bfTab : List (Str × Bf) := [("len", .len), ("all", .all), ("any", .any), ("list", .list), ("tuple", .tuple), ("sum", .sum), ("int", .int), ("sorted", .sorted), ("min", .min), ("dict", .dict)]
def bfOf (f : Str) : Option Bf := bfTab.lookup f
theorem lk_mem {α β : Type} [BEq α] [LawfulBEq α] {k : α} {v : β} : ∀ {l : List (α × β)}, l.lookup k = some v → (k, v) ∈ l
  | [], h => by cases h
  | (a, b) :: r, h => by
    rw [List.lookup_cons] at h
    cases e : k == a with
    | true =>
      rw [e] at h
      have h : some b = some v := h
      cases h
      rw [eq_of_beq e]
      exact List.mem_cons_self
    | false =>
      rw [e] at h
      exact List.mem_cons_of_mem _ (lk_mem h)
def mfOf (f : Str) : Option Mf := if f = "join" then some .join else if f = "count" then some .count else none
def constD : Const → OE
  | .none => .const .non
  | .bool b => .const (.bl b)
  | .int i => .const (.int i)
  | .str s => if okS s.cps.toList then .const (.str s.cps.toList) else .bad
  | _ => .bad
/-- an own block's slots -/
def ownOf (N : List Str) (sc : Scope) : List (Str × Nat) := sc.names.filterMap fun p => match p.2 with
  | .local => (N.idxOf? p.1).map fun i => (p.1, i)
  | .cell => (N.idxOf? p.1).map fun i => (p.1, i)
  | _ => none
mutual
def stripG (c : Cf) (sc : Scope) : Nat → Expr → Option Tg
  | 0, _ => none
  | n + 1, e => match e with
    | .Name x _ => if isLoc sc x then (c.N.idxOf? x).map .n else none
    | .Tuple es _ _ => if es.any isStar then none else (stripGs c sc n es).map .t
    | _ => none
def stripGs (c : Cf) (sc : Scope) : Nat → List Expr → Option (List Tg)
  | _, [] => some []
  | 0, _ :: _ => none
  | n + 1, e :: es => match stripG c sc n e, stripGs c sc n es with
    | some t, some ts => some (t :: ts)
    | _, _ => none
end
def noneE : Expr → Bool
  | .Constant .none _ _ => true
  | _ => false
/-- super() .. has a rule of its own -/
def superE : Expr → Bool
  | .Call (.Name _ _) [] [] _ => true
  | _ => false
def isSetE : Expr → Bool
  | .Set _ _ _ => true
  | _ => false
def isSliceE : Expr → Bool
  | .Slice _ _ _ _ => true
  | _ => false
def tyOf (x : Str) : Option Ty := if x = "int" then some .int else if x = "str" then some .str else if x = "bool" then some .bool else if x = "list" then some .list else if x = "tuple" then some .tuple else none
def typeE (sc : Scope) : Expr → Option Ty
  | .Name x _ => if isGl sc x then tyOf x else none
  | _ => none
def typesE (sc : Scope) : List Expr → Option (List Ty)
  | [] => some []
  | e :: es => match typeE sc e, typesE sc es with
    | some t, some ts => some (t :: ts)
    | _, _ => none
/-- a constant of a class -/
def catE (c : Cf) (sc : Scope) (a : Expr) (f : Str) : Option D := match a with
  | .Name x _ => if okName x && isGl sc x then c.g.cats.lookup (x, f) else none
  | _ => none
/-- sorted({..}) -/
def srtE (f : Str) (es : List Expr) : Option (Expr × Expr × Expr × List Expr × Scope) := if f = "sorted" then (match es with
  | [.SetComp elt [⟨tg, it, ifs, 0⟩] sc2 _] => some (elt, tg, it, ifs, sc2)
  | _ => none) else none
theorem srtE_of {f : Str} {es : List Expr} {elt tg it : Expr} {ifs : List Expr} {sc2 : Scope} (h : srtE f es = some (elt, tg, it, ifs, sc2)) : f = "sorted" ∧ ∃ p, es = [.SetComp elt [⟨tg, it, ifs, 0⟩] sc2 p] := by
  unfold srtE at h
  split at h
  · rename_i e
    split at h
    · cases h
      exact ⟨e, _, rfl⟩
    · cases h
  · cases h
/-- len(a) of an instance -/
def lenE (c : Cf) (l : Nat) (f : Str) (es : List Expr) : Option Expr := if f = "len" ∧ c.g.ldl.contains l = true then (match es with
  | [a] => if isStar a then none else some a
  | _ => none) else none
theorem lenE_of {c : Cf} {l : Nat} {f : Str} {es : List Expr} {a : Expr} (h : lenE c l f es = some a) : f = "len" ∧ es = [a] ∧ isStar a = false := by
  unfold lenE at h
  split at h
  · rename_i e
    split at h
    · split at h
      · cases h
      · cases h
        exact ⟨e.1, rfl, by simpa using ‹¬ isStar a = true›⟩
    · cases h
  · cases h
/-- len(set(a)) -/
def lseE (sc : Scope) (f : Str) (es : List Expr) : Option Expr := if f = "len" then (match es with
  | [.Call (.Name y _) [a] [] _] => if y = "set" ∧ isGl sc y = true ∧ isStar a = false then some a else none
  | _ => none) else none
theorem lseE_of {sc : Scope} {f : Str} {es : List Expr} {a : Expr} (h : lseE sc f es = some a) : f = "len" ∧ isGl sc "set" = true ∧ isStar a = false ∧ ∃ p q, es = [.Call (.Name "set" p) [a] [] q] := by
  unfold lseE at h
  split at h
  · rename_i e
    split at h
    · split at h
      · rename_i hh
        cases h
        obtain ⟨h1, h2, h3⟩ := hh
        subst h1
        exact ⟨e, h2, h3, _, _, rfl⟩
      · cases h
    · cases h
  · cases h
/-- x[::2], x[1::2] -/
def evryE (a : Expr) (lo hi : Option Expr) (st : Expr) : Option Nat := match a, lo, hi, st with
  | .Name _ _, none, none, .Constant (.int 2) _ _ => some 0
  | .Name _ _, some (.Constant (.int 1) _ _), none, .Constant (.int 2) _ _ => some 1
  | _, _, _, _ => none
/-- C.m() of a static method -/
def staE (c : Cf) (sc : Scope) (o : Expr) (m : Str) (es : List Expr) (kws : List Keyword) : Option Str := match o, es, kws with
  | .Name x _, [], [] => if okName x && isGl sc x then c.g.sts.lookup (x, m) else none
  | _, _, _ => none
theorem staE_of {c : Cf} {sc : Scope} {o : Expr} {m key : Str} {es : List Expr} {kws : List Keyword} (h : staE c sc o m es kws = some key) : ∃ x p, o = .Name x p ∧ es = [] ∧ kws = [] ∧ okName x = true ∧ isGl sc x = true ∧ c.g.sts.lookup (x, m) = some key := by
  unfold staE at h
  split at h
  · split at h
    · rename_i hh
      rw [Bool.and_eq_true] at hh
      exact ⟨_, _, rfl, rfl, rfl, hh.1, hh.2, h⟩
    · cases h
  · cases h
mutual
def stripE (c : Cf) : Nat → Scope → Expr → OE
  | 0, _, _ => .bad
  | n + 1, sc, e => match e with
    | .Constant v _ _ => constD v
    | .Name x _ => if okName x then (if seen sc x then (match c.N.idxOf? x with | some i => .var i | none => .bad)
        else if isGl sc x then (match c.g.glb.lookup x with | some d => .const d | none => .bad) else .bad) else .bad
    | .Tuple es _ _ => if es.any isStar || decide (1000 < es.length) then .bad else .tup (es.map (stripE c n sc))
    | .List es _ => if es.any isStar || decide (1000 < es.length) then .bad else .lst (es.map (stripE c n sc))
    | .BinOp a op b _ => .bin op (stripE c n sc a) (stripE c n sc b)
    | .UnaryOp .Not a _ => .not_ (stripE c n sc a)
    | .UnaryOp .USub a _ => .neg (stripE c n sc a)
    | .BoolOp .And es _ => .and_ (es.map (stripE c n sc))
    | .BoolOp .Or es _ => .or_ (es.map (stripE c n sc))
    | .Compare a [op] [b] _ => match op with
      | .Is => if noneE b then .isN (stripE c n sc a) else .bad
      | .IsNot => if noneE b then .notN (stripE c n sc a) else .bad
      | _ => if isSetE b then .bad else .cmp op (stripE c n sc a) (stripE c n sc b)
    | .Compare a [op, op'] [b, d] _ => if isSetE d then .bad else .chain op op' (stripE c n sc a) (stripE c n sc b) (stripE c n sc d)
    | .IfExp t a b _ => .ifx (stripT c n sc t) (stripE c n sc a) (stripE c n sc b)
    | .Subscript a (.Slice lo hi none _) _ => .slice (stripE c n sc a) (lo.map (stripE c n sc)) (hi.map (stripE c n sc))
    | .Subscript a (.Slice lo hi (some st) _) _ => (match evryE a lo hi st with | some k => .step (stripE c n sc a) k | none => .bad)
    | .Subscript a i _ => if isSliceE i then .bad else .sub (stripE c n sc a) (stripE c n sc i)
    | .Call (.Name f _) es kws pq => if !okName f || !isGl sc f || es.any isStar || !(kws.all fun q => q.arg.isSome) then .bad else (match c.g.fns.lookup (f, es.length, kws.filterMap (·.arg)) with
      | some (sel, dfts) => .call f (es.map (stripE c n sc)) (kws.map fun q => stripE c n sc q.value) sel dfts
      | none => if !kws.isEmpty then .bad else if f = "isinstance" then (match es with
          | [a, .Tuple ts _ _] => (match typesE sc ts with
            | some (x :: xs) => if isStar a || decide (1000 < (x :: xs).length) then .bad else .isi (stripE c n sc a) (x :: xs)
            | _ => .bad)
          | [a, t] => (match typeE sc t with
            | some x => if isStar a then .bad else .isi (stripE c n sc a) [x]
            | none => .bad)
          | _ => .bad)
        else (match srtE f es with
          | some (elt, tg, it, ifs, sc2) => if blkC c.N sc sc2 (ownOf c.N sc2) && !isSetE it then (match stripG c sc2 n tg with
            | some t => .srt (stripE c n (relS sc2 sc) elt) ((ownOf c.N sc2).map (·.2)) t (stripI c n sc tg it) (ifs.map (stripT c n (relS sc2 sc)))
            | none => .bad) else .bad
          | none => (match lseE sc f es with
            | some a => .lenset (stripE c n sc a)
            | none => (match lenE c pq.line f es with
              | some a => .lenm (stripE c n sc a) c.g.lens
              | none => (match bfOf f with
                | some b => .bcall b (es.map (stripE c n sc))
                | none => .bad)))))
    | .Call (.Attribute o m ap) es kws p => if es.any isStar || !(ap.endLine == p.line) || !(kws.all fun q => q.arg.isSome) || superE o || decide (28 < es.length + kws.length) then .bad else (match mfOf m with
      | some b => if !kws.isEmpty then .bad else (match es with
        | [e] => .meth b (stripE c n sc o) [stripE c n sc e]
        | _ => .bad)
      | none => (match staE c sc o m es kws with
        | some key => .call key [] [] [] []
        | none => (match c.g.mths.lookup (m, es.length, kws.filterMap (·.arg)) with
        | some rows => .mcall m (stripE c n sc o) (es.map (stripE c n sc)) (kws.map fun q => stripE c n sc q.value) rows
        | none => .bad)))
    | .Attribute a f _ => if superE a then .bad else (match catE c sc a f with
      | some d => .const d
      | none => (match c.g.flds.lookup f with
        | some cs => .fld (stripE c n sc a) f cs
        | none => .bad))
    | .Dict [] [] p => .dnew (c.g.tdl.contains p.line)
    | .ListComp elt [⟨tg, it, ifs, 0⟩] sc2 _ => if blkC c.N sc sc2 (ownOf c.N sc2) then (match stripG c sc2 n tg with
      | some t => .lc (stripE c n (relS sc2 sc) elt) ((ownOf c.N sc2).map (·.2)) t (stripI c n sc tg it) (ifs.map (stripT c n (relS sc2 sc)))
      | none => .bad) else .bad
    | .ListComp elt [⟨tg, it, ifs, 0⟩, ⟨tg1, it1, ifs1, 0⟩] sc2 _ => if blkC c.N sc sc2 (ownOf c.N sc2) && (!isSetE it && !isSetE it1) then (match stripG c sc2 n tg, stripG c sc2 n tg1 with
      | some t, some t1 => .lc2 (stripE c n (relS sc2 sc) elt) ((ownOf c.N sc2).map (·.2)) t (stripI c n sc tg it) (ifs.map (stripT c n (relS sc2 sc))) t1 (stripI c n (relS sc2 sc) tg1 it1) (ifs1.map (stripT c n (relS sc2 sc)))
      | _, _ => .bad) else .bad
    | .DictComp kx vx [⟨tg, it, ifs, 0⟩] sc2 p => if blkC c.N sc sc2 (ownOf c.N sc2) && !isSetE it then (match stripG c sc2 n tg with
      | some t => .dc (c.g.tdl.contains p.line) (stripE c n (relS sc2 sc) kx) (stripE c n (relS sc2 sc) vx) ((ownOf c.N sc2).map (·.2)) t (stripI c n sc tg it) (ifs.map (stripT c n (relS sc2 sc)))
      | none => .bad) else .bad
    | .DictComp kx vx [⟨tg, it, ifs, 0⟩, ⟨tg1, it1, ifs1, 0⟩] sc2 p => if blkC c.N sc sc2 (ownOf c.N sc2) && (!isSetE it && !isSetE it1) then (match stripG c sc2 n tg, stripG c sc2 n tg1 with
      | some t, some t1 => .dc2 (c.g.tdl.contains p.line) (stripE c n (relS sc2 sc) kx) (stripE c n (relS sc2 sc) vx) ((ownOf c.N sc2).map (·.2)) t (stripI c n sc tg it) (ifs.map (stripT c n (relS sc2 sc))) t1 (stripI c n (relS sc2 sc) tg1 it1) (ifs1.map (stripT c n (relS sc2 sc)))
      | _, _ => .bad) else .bad
    | _ => .bad
def stripT (c : Cf) : Nat → Scope → Expr → OT
  | 0, _, _ => .e .bad
  | n + 1, sc, e => match e with
    | .UnaryOp .Not a _ => .not_ (stripT c n sc a)
    | .BoolOp .And es _ => .and_ (es.map (stripT c n sc))
    | .BoolOp .Or es _ => .or_ (es.map (stripT c n sc))
    | .IfExp _ _ _ _ => .e .bad
    | e => .e (stripE c n sc e)
/-- what a for walks -/
def stripI (c : Cf) : Nat → Scope → Expr → Expr → OI
  | 0, _, _, _ => .e .bad
  | n + 1, sc, tg, e => match e with
    | .Call (.Name f _) es [] _ => if isGl sc f && !(es.any isStar) && (c.g.fns.lookup (f, es.length, [])).isNone then
        (if f = "range" then (match es with | [a] => .rng1 (stripE c n sc a) | [a, b] => .rng2 (stripE c n sc a) (stripE c n sc b) | _ => .e .bad)
        else if f = "enumerate" then (match tg, es with | .Tuple _ _ _, [a] => .enum (stripE c n sc a) | _, _ => .e .bad)
        else if f = "zip" then (match tg, es with | .Tuple _ _ _, [a, b] => .zip (stripE c n sc a) (stripE c n sc b) | _, _ => .e .bad)
        else .e (stripE c n sc e)) else .e (stripE c n sc e)
    | .Set _ _ _ => .e .bad
    | e => .e (stripE c n sc e)
end

/-! ### slots of a target -/
mutual
/-- the own slots that stay so when a target is stored -/
def dropT : Tg → List Nat → List Nat
  | .n i, O => O.filter fun j => decide (j ≠ i)
  | .t ts, O => dropTs ts O
def dropTs : List Tg → List Nat → List Nat
  | [], O => O
  | t :: ts, O => dropTs ts (dropT t O)
end
mutual
theorem dropT_sub : ∀ (t : Tg) (O : List Nat) (i : Nat), i ∈ dropT t O → i ∈ O
  | .n _, O, i, h => by unfold dropT at h; exact (List.mem_filter.mp h).1
  | .t ts, O, i, h => by unfold dropT at h; exact dropTs_sub ts O i h
theorem dropTs_sub : ∀ (ts : List Tg) (O : List Nat) (i : Nat), i ∈ dropTs ts O → i ∈ O
  | [], O, i, h => by unfold dropTs at h; exact h
  | t :: ts, O, i, h => by unfold dropTs at h; exact dropT_sub t O i (dropTs_sub ts _ i h)
end
theorem lenTgs : ∀ (ts : List Tg) (ds : List D) (Γ Γ' : Gam), bindTgs ts ds Γ = some Γ' → ds.length = ts.length
  | [], [], _, _, _ => rfl
  | [], _ :: _, _, _, h => by cases h
  | _ :: _, [], _, _, h => by cases h
  | t :: ts, d :: ds, Γ, Γ', h => by
    unfold bindTgs at h
    obtain ⟨Γ1, h1, h2⟩ := Option.bind_eq_some_iff.mp h
    rw [List.length_cons, List.length_cons, lenTgs ts ds Γ1 Γ' h2]
theorem wipe_set {σ : L2.St} {i : Nat} {v : Option V} : ∀ {vs : List Nat}, i ∈ vs → wipe (σ.set i v) vs = wipe σ vs
  | [], h => by cases h
  | w :: vs, h => by
    show (wipe (σ.set i v) vs).set w none = (wipe σ vs).set w none
    by_cases e : i ∈ vs
    · rw [wipe_set e]
    · have : i = w := by
        rcases List.mem_cons.mp h with z | z
        · exact z
        · exact absurd z e
      subst this
      apply List.ext_getElem?
      intro j
      by_cases ij : i = j
      · subst ij
        by_cases hl : i < σ.length
        · rw [List.getElem?_set_self (by rw [wipe_length, List.length_set]; exact hl), List.getElem?_set_self (by rw [wipe_length]; exact hl)]
        · rw [List.getElem?_eq_none (by simp [wipe_length]; omega), List.getElem?_eq_none (by simp [wipe_length]; omega)]
      · rw [List.getElem?_set_ne ij, List.getElem?_set_ne ij]
        -- elsewhere the two agree
        have out : ∀ (τ : L2.St) (us : List Nat), (wipe τ us)[j]? = if j ∈ us then (if j < τ.length then some none else none) else τ[j]? := fun τ us => by
          induction us with
          | nil => simp [wipe]
          | cons u us ih =>
            show ((wipe τ us).set u none)[j]? = _
            by_cases uj : u = j
            · subst uj
              by_cases hl : u < τ.length
              · rw [List.getElem?_set_self (by rw [wipe_length]; exact hl)]
                simp [hl]
              · rw [List.getElem?_eq_none (by simp [wipe_length]; omega)]
                simp [hl]
            · rw [List.getElem?_set_ne uj, ih]
              by_cases m : j ∈ us
              · simp [m]
              · have : ¬ j = u := fun z => uj z.symm
                simp [m, this]
        rw [out, out, List.length_set, List.getElem?_set_ne ij]

/-! ### the own slots that a value may be or hold -/
mutual
def al : OE → List Nat
  | .bad => [] | .const _ => []
  | .var i => [i]
  | .tup es => als es | .lst es => als es
  | .bin _ a b => al a ++ al b
  | .neg _ => [] | .cmp _ _ _ => [] | .chain _ _ _ _ _ => [] | .isN _ => [] | .notN _ => []
  | .and_ es => als es | .or_ es => als es
  | .not_ _ => []
  | .ifx _ a b => al a ++ al b
  | .sub a _ => al a
  | .slice a _ _ => al a
  | .call _ args kws _ _ => als args ++ als kws
  | .bcall f args => match f with
    | .list => als args
    | .tuple => als args
    | .sorted => als args
    | .min => als args
    | .dict => als args
    | _ => []
  | .meth _ _ _ => []
  | .isi _ _ => []
  | .lc elt _ _ it _ => al elt ++ alI it
  | .fld a _ _ => match a with
    | .var _ => []
    | _ => al a
  | .mcall _ o args kws _ => al o ++ (als args ++ als kws)
  | .dnew _ => []
  | .srt elt _ _ it _ => al elt ++ alI it
  | .lc2 elt _ _ it _ _ it1 _ => al elt ++ (alI it ++ alI it1)
  | .dc _ k v _ _ it _ => al k ++ (al v ++ alI it)
  | .dc2 _ k v _ _ it _ _ it1 _ => (al k ++ al v) ++ (alI it ++ alI it1)
  | .lenset _ => []
  | .lenm a _ => al a
  | .step a _ => al a
def als : List OE → List Nat
  | [] => []
  | e :: es => al e ++ als es
def alI : OI → List Nat
  | .e a => al a
  | .rng1 _ => []
  | .rng2 _ _ => []
  | .enum a => al a
  | .zip a b => al a ++ al b
end

/-! ### what surrounds a body -/
/-- a value that the def gives back: its object frozen, or its caller's alone -/
def ResV (K : PySem.W.Frag) (bg : Option (Addr × Addr)) (H : Hp) (S' : Addr → Prop) (H' : Hp) (r : D × Bool) (v : V) : Prop :=
  match r.2 with
  | false => Rep K bg S' H' r.1 v
  | true => ∃ p o, v = .ref p ∧ ¬ S' p ∧ H p = none ∧ H' p = some o ∧ ObjR K bg S' H' r.1 o
/-- an exception that lies so stands for e -/
def RepX (K : PySem.W.Frag) (bg : Option (Addr × Addr)) (S : Addr → Prop) (H : Hp) (e : D) (cls : Value) (dx : Option Addr) : Prop := False
/-- the promise of a def with m parameters, by data -/
def spD (K : PySem.W.Frag) (m : Nat) (f : List D → T (D × Bool)) : Sp := fun vs H Q E => ∃ bg S ds, ds.length = m ∧ Wld bg S H ∧ Reps K bg S H ds vs ∧
  (f ds).All (fun r => ∀ v S' H', Wld bg S' H' → Ext bg S H S' H' → ResV K bg H S' H' r v → Q v H') (fun e => ∀ cls dx S' H', Wld bg S' H' → Ext bg S H S' H' → RepX K bg S' H' e cls dx → E cls dx H')
/-- what a body wishes of exceptions, by data -/
def eX (K : PySem.W.Frag) (bg : Option (Addr × Addr)) (S0 : Addr → Prop) (H0 : Hp) (EX : D → Prop) : XK := fun cls dx H' => ∃ e S', EX e ∧ Wld bg S' H' ∧ Ext bg S0 H0 S' H' ∧ RepX K bg S' H' e cls dx
/-- how a call of that form binds -/
def Shape (K : PySem.W.Frag) (fd : FuncData) (ps : List Str) (n : Nat) (ks : List Str) (sel : List Sr) (dfts : List D) : Prop :=
  ∃ (dv : List V) (du : List Value), Vals dv du ∧ (∀ bg S H, Reps K bg S H dfts dv) ∧ ∀ (s : Shared) (us ws : List Value), K.In s.heap → us.length = n → ws.length = ks.length → BindsTo s fd ⟨us, ks.zip ws⟩ (ps.zip (selL sel us ws du))
/-- the promise of __init__: its first value is the new instance -/
def spI (K : PySem.W.Frag) (x : Str) (m : Nat) (f : List D → T D) : Sp := fun vs H Q E => ∃ bg S p dx ws ds, vs = .ref p :: ws ∧ ds.length = m ∧ ¬ S p ∧ H p = some (.ins (He.ga K x) dx []) ∧ Wld bg S (fun a => if a = p then none else H a) ∧ Reps K bg S H ds ws ∧
  (f ds).All (fun r => ∀ S' H', Wld bg S' H' → Ext bg S (fun a => if a = p then none else H a) S' H' → Rep K bg S' H' r (.ref p) → Q .non H') (fun e => ∀ cls dx S' H', Wld bg S' H' → Ext bg S (fun a => if a = p then none else H a) S' H' → RepX K bg S' H' e cls dx → E cls dx H')
/-- what the module holds -/
structure Mo (P : Program) (w : World) (K : PySem.W.Frag) (mg : Str → Option Value) (base : Heap) (g : Gf) (C : Calls) (k : Nat) : Prop where
  glb : ∀ x d, g.glb.lookup x = some d → ∃ u v, mg x = some u ∧ RelV v u ∧ ∀ bg S H, Rep K bg S H d v
  free : ∀ x, x ∈ frees → mg x = none
  fns : ∀ f n ks sel dfts, g.fns.lookup (f, n, ks) = some (sel, dfts) → (∃ a fd ps, mg f = some (.ref a) ∧ PySem.W.keepIn K (.ref a) = true ∧ FnOk P w K mg base (L2.CX P w) k a fd ps (spD K sel.length (C f)) ∧ Shape K fd ps n ks sel dfts) ∨
    ∃ j i fd ps F, (k = j + 1 ∨ ∀ ds, F ds = .bad) ∧ mg f = some (.ref (He.ga K f)) ∧ Mk K (He.ga K f) i ∧ FnOk P w K mg base (L2.CX P w) j i fd ps (spI K f sel.length F) ∧ Shape K fd ps (n + 1) ks (.pos 0 :: sel.map Sr.up) dfts ∧ ∀ ds, C f ds = (F ds).bind fun d => .ret (d, false)
  flds : ∀ f cs, g.flds.lookup f = some cs → ∀ x, cs.contains x = true → Cls K (He.ga K x) ∧ NoAttr K (He.ga K x) f
  mths : ∀ m n ks rows, g.mths.lookup (m, n, ks) = some rows → ∀ x key sel dfts, rows.lookup x = some (key, sel, dfts) → ∃ fd ps, Cls K (He.ga K x) ∧ Meth K (He.ga K x) m (He.ma K (He.ga K x) m) ∧ FnOk P w K mg base (L2.CX P w) k (He.ma K (He.ga K x) m) fd ps (spD K sel.length (C key)) ∧ Shape K fd ps (n + 1) ks sel dfts
  cats : ∀ x f d, g.cats.lookup (x, f) = some d → ∃ a v u mc, mg x = some (.ref a) ∧ ClX.CRead K a mc ∧ ClX.CVal K a mc f v u ∧ ∀ bg S H, Rep K bg S H d v
  sts : ∀ x m key, g.sts.lookup (x, m) = some key → ∃ a mc p gf fd, mg x = some (.ref a) ∧ ClX.CRead K a mc ∧ (PySem.W.findCls K (.ref a) mc m = some (.get (.builtin "staticmethod.__get__") (.ref p) .none (.ref a)) ∧ ∃ rest, PySem.W.recIn K p "staticmethod" = some (.ref gf :: rest)) ∧ PySem.W.keepIn K (.ref gf) = true ∧
    FnOk P w K mg base (L2.CX P w) k gf fd [] (spD K 0 (C key)) ∧ Shape K fd [] 0 [] [] []
  lens : ∀ x key, g.lens.lookup x = some key → ∃ j G fd ps, (k = j + 1 ∨ ∀ ds, G ds = .bad) ∧ Meth K (He.ga K x) "__len__" (He.ma K (He.ga K x) "__len__") ∧ FnOk P w K mg base (L2.CX P w) j (He.ma K (He.ga K x) "__len__") fd ps (spD K 1 G) ∧ Shape K fd ps 1 [] [.pos 0] [] ∧ ∀ d, C key [d] = G [d]
structure Good (c : Cf) (C : Calls) (k : Nat) (sc : Scope) (X : Cx) : Prop where
  hN : X.N = c.N
  nd : c.N.Nodup
  hsc : X.env.scope = sc
  calm : X.calm = true
  room : Room k X.A
  own : PassesOwn (model X.prog X.w) X.A X.env X.xe
  kind : X.env.scope.kind = .function
  mo : Mo X.prog X.w X.K X.mg X.base c.g C k
/-- where a name of tsc may be stored -/
def TgOk (tsc : Scope) (X : Cx) : Prop := ∀ x, isLoc tsc x = true → Loc X.env.scope x ∧ (X.fn x = true ∨ X.env.scope.names.lookup x = some .local)
theorem isLoc_loc {sc : Scope} {x : Str} (h : isLoc sc x = true) : sc.names.lookup x = some .local ∨ sc.names.lookup x = some .cell := by
  unfold isLoc at h
  split at h <;> first | exact .inl ‹_› | exact .inr ‹_› | cases h
theorem seen_vis {sc : Scope} {x : Str} (h : seen sc x = true) : Vis sc x := by
  unfold seen at h
  split at h <;> first | exact .inl ‹_› | exact .inr (.inl ‹_›) | exact .inr (.inr ‹_›) | cases h
theorem isGl_gl {sc : Scope} {x : Str} (h : isGl sc x = true) : sc.names.lookup x = some .globalImplicit := by
  unfold isGl at h
  split at h <;> first | assumption | cases h
theorem idxOf_get {N : List Str} {x : Str} {i : Nat} (h : N.idxOf? x = some i) : N[i]? = some x := by
  rw [List.idxOf?, List.findIdx?_eq_some_iff_getElem] at h
  obtain ⟨hi, h1, _⟩ := h
  rw [List.getElem?_eq_getElem hi]
  have : N[i] = x := by simpa using h1
  rw [this]
theorem starEach_cons {e : Expr} {es : List Expr} {env : Env} (h : isStar e = false) : starEach (e :: es) env = (false, eval e env) :: starEach es env := by
  cases e <;> first | rfl | cases h
theorem starEach_plain (env : Env) (pos : Pos) : ∀ {es : List Expr}, es.any isStar = false → (backTo pos (starEach es env)).any (·.1) = false
  | [], _ => rfl
  | e :: es, h => by
    rw [List.any_cons, Bool.or_eq_false_iff] at h
    rw [starEach_cons h.1]
    show (false || (backTo pos (starEach es env)).any (·.1)) = false
    rw [starEach_plain env pos h.2]
    rfl

mutual
def gOf (K : PySem.W.Frag) : Tg → TG
  | .n i => gName i
  | .t ts => gTup K ts.length (gsOf K ts)
def gsOf (K : PySem.W.Frag) : List Tg → TGs
  | [] => gNil
  | t :: ts => gCons (gOf K t) (gsOf K ts)
end
theorem assign_plain (env : Env) : ∀ {es : List Expr}, es.any isStar = false → (assignEach es env).findIdx? (·.1) = none ∧ (assignEach es env).length = es.length ∧ ∀ {e : Expr} {r : List Expr}, es = e :: r → (assignEach (e :: r) env).map (·.2) = assign e env :: (assignEach r env).map (·.2)
  | [], _ => ⟨rfl, rfl, fun h => by cases h⟩
  | e :: es, h => by
    rw [List.any_cons, Bool.or_eq_false_iff] at h
    obtain ⟨i1, i2, _⟩ := assign_plain env h.2
    have q : assignEach (e :: es) env = (false, assign e env) :: assignEach es env := by
      cases e <;> first | rfl | (cases h.1)
    refine ⟨?_, ?_, fun {e' r} z => ?_⟩
    · rw [q, List.findIdx?_cons]
      rw [i1]
      rfl
    · rw [q, List.length_cons, i2]; rfl
    · cases z
      rw [q]
      rfl
mutual
theorem pg_ok {c : Cf} {tsc : Scope} {X : Cx} (hN : X.N = c.N) (nd : c.N.Nodup) (hc : X.calm = true) (T : TgOk tsc X) : ∀ (n : Nat) (e : Expr) (t : Tg), stripG c tsc n e = some t → PG X e (gOf X.K t)
  | 0, _, _, h => by cases h
  | n + 1, e, t, h => by
    unfold stripG at h
    split at h
    · rename_i x p
      split at h
      · rename_i hl
        obtain ⟨i, hi, e⟩ := Option.map_eq_some_iff.mp h
        subst e
        obtain ⟨t1, t2⟩ := T x hl
        exact pg_name (by rw [hN]; exact nd) (by rw [hN]; exact idxOf_get hi) t1 t2
      · cases h
    · rename_i es k p
      split at h
      · cases h
      · rename_i hs
        have hs : es.any isStar = false := by simpa using hs
        obtain ⟨ts, ht, e⟩ := Option.map_eq_some_iff.mp h
        subst e
        obtain ⟨q1, q2, _⟩ := assign_plain X.env hs
        obtain ⟨r1, r2⟩ := pgs_ok hN nd hc T n es ts hs ht
        exact pg_tup hc r1 (by rw [q2, r2]) q1
    · cases h
theorem pgs_ok {c : Cf} {tsc : Scope} {X : Cx} (hN : X.N = c.N) (nd : c.N.Nodup) (hc : X.calm = true) (T : TgOk tsc X) : ∀ (n : Nat) (es : List Expr) (ts : List Tg), es.any isStar = false → stripGs c tsc n es = some ts → PGs X es (gsOf X.K ts) ∧ es.length = ts.length
  | _, [], ts, _, h => by
    unfold stripGs at h
    cases h
    exact ⟨pgs_nil, rfl⟩
  | 0, _ :: _, _, _, h => by cases h
  | n + 1, e :: es, ts, hs, h => by
    unfold stripGs at h
    cases h1 : stripG c tsc n e with
    | none => rw [h1] at h; cases h
    | some t =>
      cases h2 : stripGs c tsc n es with
      | none => rw [h1, h2] at h; cases h
      | some r =>
        rw [h1, h2] at h
        cases h
        have hs' := hs
        rw [List.any_cons, Bool.or_eq_false_iff] at hs
        obtain ⟨i1, i2⟩ := pgs_ok hN nd hc T n es r hs.2 h2
        exact ⟨pgs_cons (pg_ok hN nd hc T n e t h1) i1 ((assign_plain X.env hs').2.2 rfl), by rw [List.length_cons, List.length_cons, i2]⟩
end
section
variable {K : PySem.W.Frag} {bg : Option (Addr × Addr)} {S0 S : Addr → Prop} {H0 H : Hp}
mutual
/-- storing data in a target: the slots that lose what they owned are left out of O -/
theorem gOf_ok : ∀ (t : Tg) (d : D) (v : V) (O : List Nat) (Γ Γ' : Gam) (σ : L2.St) (Q : L2.St → Hp → Prop), At K bg S0 H0 O Γ S σ H → Rep K bg S H d v → bindTg t d Γ = some Γ' →
    (∀ σ', At K bg S0 H0 (dropT t O) Γ' S σ' H → (∀ vs : List Nat, (∀ i, i ∈ tgs t → i ∈ vs) → wipe σ' vs = wipe σ vs) → Q σ' H) → gOf K t v σ H Q
  | .n i, d, v, O, Γ, Γ', σ, Q, a, r, h, q => by
    cases h
    exact q _ (by unfold dropT; exact a.put i r) fun vs hv => wipe_set (hv i (by simp [tgs]))
  | .t ts, d, v, O, Γ, Γ', σ, Q, a, r, h, q => by
    unfold bindTg at h
    split at h
    · rename_i ds
      obtain ⟨p, xs, ev, tt, rs⟩ := r
      obtain ⟨len, z⟩ := gsOf_ok ts ds xs O Γ Γ' σ Q a rs h fun σ' s2 s3 => q σ' (by unfold dropT; exact s2) fun vs hv => s3 vs fun i hi => hv i (by unfold tgs; exact hi)
      exact ⟨p, xs, ev, tt.sq, len, z⟩
    · cases h
theorem gsOf_ok : ∀ (ts : List Tg) (ds : List D) (vs : List V) (O : List Nat) (Γ Γ' : Gam) (σ : L2.St) (Q : L2.St → Hp → Prop), At K bg S0 H0 O Γ S σ H → Reps K bg S H ds vs → bindTgs ts ds Γ = some Γ' →
    (∀ σ', At K bg S0 H0 (dropTs ts O) Γ' S σ' H → (∀ vs : List Nat, (∀ i, i ∈ tgss ts → i ∈ vs) → wipe σ' vs = wipe σ vs) → Q σ' H) → vs.length = ts.length ∧ gsOf K ts vs σ H Q
  | [], [], vs, O, Γ, Γ', σ, Q, a, r, h, q => by
    cases h
    rw [show vs = [] from r]
    exact ⟨rfl, rfl, q σ (by unfold dropTs; exact a) fun _ _ => rfl⟩
  | [], _ :: _, _, _, _, _, _, _, _, _, h, _ => by cases h
  | _ :: _, [], _, _, _, _, _, _, _, _, h, _ => by cases h
  | t :: ts, d :: ds, vs, O, Γ, Γ', σ, Q, a, r, h, q => by
    obtain ⟨x, rs, ev, r1, r2⟩ := r
    subst ev
    unfold bindTgs at h
    obtain ⟨Γ1, h1, h2⟩ := Option.bind_eq_some_iff.mp h
    have len : rs.length = ts.length := (lenTgs ts ds Γ1 Γ' h2) ▸ r2.length
    refine ⟨by rw [List.length_cons, List.length_cons, len], x, rs, rfl, ?_⟩
    refine gOf_ok t d x O Γ Γ1 σ _ a r1 h1 fun σ' s2 s3 => ?_
    exact (gsOf_ok ts ds rs _ Γ1 Γ' σ' Q s2 r2 h2 fun σ2 u2 u3 => q σ2 (by unfold dropTs; exact u2) fun vs hv => (u3 vs fun i hi => hv i (by simp [tgss]; exact .inr hi)).trans (s3 vs fun i hi => hv i (by simp [tgss]; exact .inl hi))).2
end
end
end Dy

set_option linter.all false
set_option maxRecDepth 10000
set_option autoImplicit false
/-! Dy, part 6: an expression does what its data says. -/
namespace Dy
open PySem PySem.Spec PyProof.Rows L2

/-- the frozen objects stay -/
structure Sta (S : Addr → Prop) (H : Hp) (S' : Addr → Prop) (H' : Hp) : Prop where
  sub : ∀ a, S a → S' a
  keep : ∀ a o, S a → H a = some o → H' a = some o
theorem Ext.sta {bg : Option (Addr × Addr)} {S S' : Addr → Prop} {H H' : Hp} (E : Ext bg S H S' H') (W : Wld bg S H) : Sta S H S' H' := ⟨E.sub, fun a o s h => E.keep a o h (W.nob s)⟩
theorem Sta.trans {S S' S2 : Addr → Prop} {H H' H2 : Hp} (h : Sta S H S' H') (h' : Sta S' H' S2 H2) : Sta S H S2 H2 := ⟨fun a x => h'.sub a (h.sub a x), fun a o s x => h'.keep a o (h.sub a s) (h.keep a o s x)⟩
theorem Sta.refl {S : Addr → Prop} {H : Hp} : Sta S H S H := ⟨fun _ h => h, fun _ _ _ h => h⟩
/-- the iterator J walks the data ds -/
def IterOk (K : PySem.W.Frag) (bg : Option (Addr × Addr)) (J : It) (ds : List D) (S : Addr → Prop) (H : Hp) : Prop :=
  ∀ (i : Nat) S' H', Wld bg S' H' → Sta S H S' H' → (ds.length ≤ i → J.stop i H') ∧
    ∀ d, ds[i]? = some d → J.go i H' ∧ ∀ x H'', J.yld i H' x H'' → ∃ S'', Wld bg S'' H'' ∧ Ext bg S' H' S'' H'' ∧ Rep K bg S'' H'' d x
def EvI (K : PySem.W.Frag) (bg : Option (Addr × Addr)) (S0 : Addr → Prop) (H0 : Hp) (EX : D → Prop) (A : List Nat) (m : Gam → T (List D)) : TI := fun σ H R => ∃ O Γ S, At K bg S0 H0 O Γ S σ H ∧
  (m Γ).All (fun ds => ∀ J S' H', Wld bg S' H' → Ext bg S H S' H' → IterOk K bg J ds (Gs S' O σ A) H' → ds.length ≤ sizeLine → R J H') EX
section
variable {K : PySem.W.Frag} {bg : Option (Addr × Addr)} {S : Addr → Prop} {H : Hp}
theorem iter_list {ds : List D} {v : V} (W : Wld bg S H) (r : Rep K bg S H (.lst ds) v) : ∃ a xs, v = .ref a ∧ SqL K H a xs ∧ xs.length = ds.length ∧ IterOk K bg (Itl K a) ds S H := by
  obtain ⟨a, xs, ev, sa, ha, rs⟩ := r
  refine ⟨a, xs, ev, .inl ha, rs.length, fun i S' H' W' E' => ?_⟩
  have ha' : SqL K H' a xs := .inl (ha.imp (E'.keep a _ sa) (fun ⟨o, z⟩ => ⟨o, E'.keep a _ sa z⟩))
  refine ⟨fun hi => ⟨xs, ha', by rw [rs.length]; exact hi⟩, fun d hd => ?_⟩
  obtain ⟨x, hx, rx⟩ := (rs.mono E'.sub E'.keep _ _).get hd
  refine ⟨⟨xs, x, ha', hx⟩, fun y H'' q => ?_⟩
  obtain ⟨e, q⟩ := q
  subst e
  have := q xs ha'
  rw [hx] at this
  cases this
  exact ⟨S', W', .refl, rx⟩
theorem iter_tup {ds : List D} {v : V} (W : Wld bg S H) (r : Rep K bg S H (.tup ds) v) : ∃ a xs, v = .ref a ∧ SqT K H a xs ∧ xs.length = ds.length ∧ IterOk K bg (Itt K a) ds S H := by
  obtain ⟨a, xs, ev, ta, rs⟩ := r
  refine ⟨a, xs, ev, ta.sq, rs.length, fun i S' H' W' E' => ?_⟩
  have ha' : SqT K H' a xs := (ta.mono E'.sub E'.keep).sq
  refine ⟨fun hi => ⟨xs, ha', by rw [rs.length]; exact hi⟩, fun d hd => ?_⟩
  obtain ⟨x, hx, rx⟩ := (rs.mono E'.sub E'.keep _ _).get hd
  refine ⟨⟨xs, x, ha', hx⟩, fun y H'' q => ?_⟩
  obtain ⟨e, q⟩ := q
  subst e
  have := q xs ha'
  rw [hx] at this
  cases this
  exact ⟨S', W', .refl, rx⟩
theorem iter_str {l : List Nat} (h : okS l = true) : IterOk K bg (Its ⟨l.toArray⟩) (l.map fun c => D.str [c]) S H := fun i S' H' W' E' => by
  refine ⟨fun hi => ?_, fun d hd => ?_⟩
  · rw [List.length_map] at hi
    show (List.toArray l).size ≤ i
    rw [List.size_toArray]; exact hi
  · rw [List.getElem?_map] at hd
    obtain ⟨c, hc, e⟩ := Option.map_eq_some_iff.mp hd
    subst e
    refine ⟨?_, fun y H'' q => ?_⟩
    · show i < (List.toArray l).size
      rw [List.size_toArray]; exact (List.getElem?_eq_some_iff.mp hc).1
    · obtain ⟨e, c', hc', e'⟩ := q
      subst e e'
      have : c' = c := by
        have h2 : (List.toArray l)[i]? = some c' := hc'
        rw [List.getElem?_toArray, hc] at h2
        exact (Option.some.inj h2).symm
      subst this
      refine ⟨S', W', .refl, rfl, ?_⟩
      have := List.all_eq_true.mp h c' (List.mem_of_getElem? hc)
      show (List.all [c'] _) = true
      rw [List.all_cons, this]; rfl
theorem iter_rng (lo : Int) (n : Nat) : IterOk K bg (Itr lo n) (rangeD lo n) S H := fun i S' H' W' E' => by
  have hl : (rangeD lo n).length = n := by unfold rangeD; rw [List.length_map, List.length_range]
  refine ⟨fun hi => by rw [hl] at hi; exact hi, fun d hd => ?_⟩
  have hi : i < n := by rw [← hl]; exact (List.getElem?_eq_some_iff.mp hd).1
  unfold rangeD at hd
  rw [List.getElem?_map, List.getElem?_range hi] at hd
  cases hd
  refine ⟨hi, fun y H'' q => ?_⟩
  obtain ⟨e, e'⟩ := q
  subst e e'
  exact ⟨S', W', .refl, rfl⟩
theorem enumD_get : ∀ (k : Nat) (ds : List D) (i : Nat), (enumD k ds)[i]? = (ds[i]?).map fun d => D.tup [.int ((k + i : Nat) : Int), d]
  | k, [], i => by simp [enumD]
  | k, d :: ds, 0 => by simp [enumD]
  | k, d :: ds, i + 1 => by
    show (enumD (k + 1) ds)[i]? = _
    rw [enumD_get (k + 1) ds i]
    rw [List.getElem?_cons_succ, show k + 1 + i = k + (i + 1) by omega]
theorem enumD_len : ∀ (k : Nat) (ds : List D), (enumD k ds).length = ds.length
  | _, [] => rfl
  | k, d :: ds => by rw [enumD, List.length_cons, List.length_cons, enumD_len (k + 1) ds]
theorem Rep.pair {d e : D} {x y : V} {T : Addr} (W : Wld bg S H) (hT : H T = none) (rx : Rep K bg S H d x) (ry : Rep K bg S H e y) : Rep K bg (plus S T) (upd H T (.tup [x, y])) (.tup [d, e]) (.ref T) :=
  ⟨T, [x, y], rfl, ⟨.inr rfl, upd_same⟩, x, [y], rfl, (Ext.laid (bg := bg) T _ hT).rep W rx, y, [], rfl, (Ext.laid (bg := bg) T _ hT).rep W ry, rfl⟩
theorem iter_enum {ds : List D} {v : V} (W : Wld bg S H) (r : Rep K bg S H (.lst ds) v) : ∃ a xs, v = .ref a ∧ SqL K H a xs ∧ xs.length = ds.length ∧ IterOk K bg (Ite K a) (enumD 0 ds) S H := by
  obtain ⟨a, xs, ev, sa, ha, rs⟩ := r
  refine ⟨a, xs, ev, .inl ha, rs.length, fun i S' H' W' E' => ?_⟩
  have ha' : SqL K H' a xs := .inl (ha.imp (E'.keep a _ sa) (fun ⟨o, z⟩ => ⟨o, E'.keep a _ sa z⟩))
  refine ⟨fun hi => ⟨xs, ha', by rw [enumD_len] at hi; rw [rs.length]; exact hi⟩, fun d hd => ?_⟩
  rw [enumD_get] at hd
  obtain ⟨d', hd', e⟩ := Option.map_eq_some_iff.mp hd
  subst e
  obtain ⟨x, hx, rx⟩ := (rs.mono E'.sub E'.keep _ _).get hd'
  refine ⟨⟨xs, x, ha', hx⟩, fun y H'' q => ?_⟩
  obtain ⟨T, x', e1, hT, e2, q⟩ := q
  have := q xs ha'
  rw [hx] at this
  cases this
  subst e1 e2
  refine ⟨plus S' T, W'.laid hT, .laid T _ hT, ?_⟩
  have : Rep K bg S' H' (.int ((0 + i : Nat) : Int)) (.int (i : Nat)) := by rw [Nat.zero_add]; rfl
  exact Rep.pair W' hT this rx
theorem zipD_get : ∀ (as bs : List D) (i : Nat) (d : D), (zipD as bs)[i]? = some d → ∃ a b, as[i]? = some a ∧ bs[i]? = some b ∧ d = .tup [a, b]
  | [], _, i, d, h => by simp [zipD] at h
  | _ :: _, [], i, d, h => by simp [zipD] at h
  | a :: as, b :: bs, 0, d, h => by
    have : D.tup [a, b] = d := by simpa [zipD] using h
    exact ⟨a, b, rfl, rfl, this.symm⟩
  | a :: as, b :: bs, i + 1, d, h => zipD_get as bs i d (by simpa [zipD] using h)
theorem zipD_len : ∀ (as bs : List D), (zipD as bs).length = min as.length bs.length
  | [], bs => by simp [zipD]
  | _ :: _, [] => by simp [zipD]
  | a :: as, b :: bs => by
    show (zipD as bs).length + 1 = _
    rw [zipD_len as bs, List.length_cons, List.length_cons]
    omega
theorem iter_zipL {ds es : List D} {v w : V} (W : Wld bg S H) (r : Rep K bg S H (.lst ds) v) (r2 : Rep K bg S H (.lst es) w) : ∃ a b xs ys, v = .ref a ∧ w = .ref b ∧ SqL K H a xs ∧ SqL K H b ys ∧ xs.length = ds.length ∧ IterOk K bg (Itz K a b) (zipD ds es) S H := by
  obtain ⟨a, xs, ev, sa, ha, rs⟩ := r
  obtain ⟨b, ys, ew, sb, hb, rs2⟩ := r2
  refine ⟨a, b, xs, ys, ev, ew, .inl ha, .inl hb, rs.length, fun i S' H' W' E' => ?_⟩
  have ha' : SqL K H' a xs := .inl (ha.imp (E'.keep a _ sa) (fun ⟨o, z⟩ => ⟨o, E'.keep a _ sa z⟩))
  have hb' : SqL K H' b ys := .inl (hb.imp (E'.keep b _ sb) (fun ⟨o, z⟩ => ⟨o, E'.keep b _ sb z⟩))
  refine ⟨fun hi => ⟨xs, ys, ha', hb', by rw [zipD_len] at hi; rw [rs.length, rs2.length]; omega⟩, fun d hd => ?_⟩
  obtain ⟨d1, d2, h1, h2, e⟩ := zipD_get _ _ _ _ hd
  subst e
  obtain ⟨x, hx, rx⟩ := (rs.mono E'.sub E'.keep _ _).get h1
  obtain ⟨y, hy, ry⟩ := (rs2.mono E'.sub E'.keep _ _).get h2
  refine ⟨⟨xs, ys, x, y, ha', hb', hx, hy⟩, fun z H'' q => ?_⟩
  obtain ⟨T, x', y', e1, hT, e2, q1, q2⟩ := q
  have := q1 xs ha'
  rw [hx] at this
  cases this
  have := q2 ys hb'
  rw [hy] at this
  cases this
  subst e1 e2
  exact ⟨plus S' T, W'.laid hT, .laid T _ hT, Rep.pair W' hT rx ry⟩
theorem iter_zipT {ds es : List D} {v w : V} (W : Wld bg S H) (r : Rep K bg S H (.tup ds) v) (r2 : Rep K bg S H (.tup es) w) : ∃ a b xs ys, v = .ref a ∧ w = .ref b ∧ SqT K H a xs ∧ SqT K H b ys ∧ xs.length = ds.length ∧ IterOk K bg (RZ.ItzT K a b) (zipD ds es) S H := by
  obtain ⟨a, xs, ev, ta, rs⟩ := r
  obtain ⟨b, ys, ew, tb, rs2⟩ := r2
  refine ⟨a, b, xs, ys, ev, ew, ta.sq, tb.sq, rs.length, fun i S' H' W' E' => ?_⟩
  have ha' : SqT K H' a xs := (ta.mono E'.sub E'.keep).sq
  have hb' : SqT K H' b ys := (tb.mono E'.sub E'.keep).sq
  refine ⟨fun hi => ⟨xs, ys, ha', hb', by rw [zipD_len] at hi; rw [rs.length, rs2.length]; omega⟩, fun d hd => ?_⟩
  obtain ⟨d1, d2, h1, h2, e⟩ := zipD_get _ _ _ _ hd
  subst e
  obtain ⟨x, hx, rx⟩ := (rs.mono E'.sub E'.keep _ _).get h1
  obtain ⟨y, hy, ry⟩ := (rs2.mono E'.sub E'.keep _ _).get h2
  refine ⟨⟨xs, ys, x, y, ha', hb', hx, hy⟩, fun z H'' q => ?_⟩
  obtain ⟨T, x', y', e1, hT, e2, q1, q2⟩ := q
  have := q1 xs ha'
  rw [hx] at this
  cases this
  have := q2 ys hb'
  rw [hy] at this
  cases this
  subst e1 e2
  exact ⟨plus S' T, W'.laid hT, .laid T _ hT, Rep.pair W' hT rx ry⟩
/-- truth -/
theorem truth_ok {d : D} {v : V} {P : Bool → Prop} {E : D → Prop} (r : Rep K bg S H d v) (h : (truthD d).All P E) : ∃ k, TruV K v H k ∧ P k := by
  have hl := lineM
  cases d with
  | non => rw [show v = .non from r]; exact ⟨false, rfl, h⟩
  | bl b => rw [show v = .bl b from r]; exact ⟨b, rfl, h⟩
  | int i => rw [show v = .int i from r]; exact ⟨i != 0, rfl, h⟩
  | str l =>
    obtain ⟨c, h⟩ := T.all_need h
    have c := of_decide_eq_true c
    rw [r.1]
    refine ⟨!l.isEmpty, ⟨?_, ?_⟩, h⟩
    · show (List.toArray l).size ≤ sizeLine
      rw [List.size_toArray, ← hl]; exact c
    · show _ = (((List.toArray l).size : Int) != 0)
      rw [List.size_toArray]
      cases l with
      | nil => rfl
      | cons x l' =>
        have : (((x :: l').length : Int) != 0) = true := by simp; omega
        rw [this]; rfl
  | lst ds =>
    obtain ⟨a, xs, ev, sa, ha, rs⟩ := r
    rw [ev]
    refine ⟨!ds.isEmpty, .inl ⟨xs, .inl ha, ?_⟩, h⟩
    have := rs.length
    cases ds <;> cases xs <;> first | rfl | simp at this
  | tup ds =>
    obtain ⟨a, xs, ev, ta, rs⟩ := r
    rw [ev]
    refine ⟨!ds.isEmpty, .inr (.inl ⟨xs, ta.sq, ?_⟩), h⟩
    have := rs.length
    cases ds <;> cases xs <;> first | rfl | simp at this
  | dct _ => exact h.elim
  | ins _ _ => exact h.elim
  | bag => exact h.elim
  | scr _ _ => exact h.elim
end
theorem binD_ne {op : Operator} {x y : D} : True := trivial
/-- a comparison's outcomes are True and False -/
theorem blT_bl {P : D → Prop} {E : D → Prop} {o : Option Bool} (h : (blT o).All P E) : (blT o).All (fun d => P d ∧ ∃ k, d = .bl k) E := by
  cases o with
  | none => exact h
  | some b => exact ⟨h, b, rfl⟩
theorem need_bl2 {P : D → Prop} {E : D → Prop} {c b : Bool} (h : (T.need c (.ret (.bl b))).All P E) : (T.need c (.ret (.bl b))).All (fun d => P d ∧ ∃ k, d = .bl k) E := by
  cases c with
  | true => exact ⟨h, b, rfl⟩
  | false => exact h
theorem cmpD_bl {op : CmpOp} {x y : D} {P : D → Prop} {E : D → Prop} (h : (cmpD op x y).All P E) : (cmpD op x y).All (fun d => P d ∧ ∃ k, d = .bl k) E := by
  unfold cmpD at h ⊢
  split at h <;> first | exact blT_bl h | exact ⟨h, _, rfl⟩ | exact need_bl2 h | exact h.elim

/-! ### values that are their caller's alone -/
/-- r.2: a list that none else knows of -/
def ResN (K : PySem.W.Frag) (bg : Option (Addr × Addr)) (G : Addr → Prop) (H H' : Hp) (r : D × Bool) (v : V) : Prop :=
  match r.2 with
  | false => Rep K bg G H' r.1 v
  | true => ∃ p o, v = .ref p ∧ ¬ G p ∧ H p = none ∧ H' p = some o ∧ ObjR K bg G H' r.1 o
def EvN (K : PySem.W.Frag) (bg : Option (Addr × Addr)) (S0 : Addr → Prop) (H0 : Hp) (EX : D → Prop) (A : List Nat) (m : Gam → T (D × Bool)) : TE := fun σ H Q => ∃ O Γ S, At K bg S0 H0 O Γ S σ H ∧
  (m Γ).All (fun r => ∀ v S' H', Wld bg S' H' → Ext bg S H S' H' → ResN K bg (Gs S' O σ A) H H' r v → Q v H') EX
/-- frozen at last -/
theorem Wld.froze {bg : Option (Addr × Addr)} {S S' : Addr → Prop} {H H' : Hp} {p : Addr} (W0 : Wld bg S H) (W : Wld bg S' H') (h0 : H p = none) (hp : H' p ≠ none) : Wld bg (plus S' p) H' := ⟨fun b z => by
  rcases z with z | z
  · exact W.dom b z
  · rw [z]; exact hp, fun b eb => by
  obtain ⟨B, n, ne⟩ := W.bag b eb
  refine ⟨B, fun z => ?_, ne⟩
  rcases z with z | z
  · exact n z
  · exact ((W0.bag b eb).1.there).1 (z ▸ h0), fun b xs z => .inl (W.tup b xs z)⟩
theorem Ext.froze {bg : Option (Addr × Addr)} {S S' : Addr → Prop} {H H' : Hp} {p : Addr} (E : Ext bg S H S' H') (h0 : H p = none) : Ext bg S H (plus S' p) H' := ⟨fun b z => .inl (E.sub b z), fun b z => by
  rcases z with z | z
  · exact E.new b z
  · rw [z]; exact .inr h0, E.keep, E.dom⟩
theorem evN_D {K : PySem.W.Frag} {bg : Option (Addr × Addr)} {S0 : Addr → Prop} {H0 : Hp} {EX : D → Prop} {A : List Nat} {m : Gam → T (D × Bool)} {σ : L2.St} {H : Hp} {Q : VK} (h : EvD K bg S0 H0 EX A (fun Γ => (m Γ).bind fun r => .ret r.1) σ H Q) : EvN K bg S0 H0 EX A m σ H Q := by
  obtain ⟨O, Γ, S, a, q⟩ := h
  refine ⟨O, Γ, S, a, T.all_imp (T.all_bind.mp q) fun r hr v S' H' W E rv => ?_⟩
  obtain ⟨d, fr⟩ := r
  cases fr with
  | false => exact hr v S' H' W E rv
  | true =>
    obtain ⟨p, o, ev, np, hp0, hp, rr⟩ := rv
    subst ev
    exact hr _ (plus S' p) H' (Wld.froze a.wld W hp0 (by rw [hp]; simp)) (E.froze hp0) ((rr.mono (Gs.ext fun _ h => .inl h) (fun _ _ _ z => z)).rep (.inl (.inr rfl)) hp)
theorem evD_N {K : PySem.W.Frag} {bg : Option (Addr × Addr)} {S0 : Addr → Prop} {H0 : Hp} {EX : D → Prop} {A : List Nat} {m : Gam → T D} {σ : L2.St} {H : Hp} {Q : VK} (h : EvN K bg S0 H0 EX A (fun Γ => (m Γ).bind fun d => .ret (d, false)) σ H Q) : EvD K bg S0 H0 EX A m σ H Q := by
  obtain ⟨O, Γ, S, a, q⟩ := h
  exact ⟨O, Γ, S, a, T.all_imp (T.all_bind.mp q) fun r hr v S' H' W E rv => hr v S' H' W E rv⟩
end Dy

set_option linter.all false
set_option maxRecDepth 10000
set_option autoImplicit false
/-! Dy, part 7: expressions, one construct after the other. -/
namespace Dy
open PySem PySem.Spec PyProof.Rows L2
section
variable {X : Cx} {bg : Option (Addr × Addr)} {S0 : Addr → Prop} {H0 : Hp} {EX : D → Prop} {A : List Nat}
theorem pe_false {e : Expr} {m : Gam → T D} (h : ∀ Γ, m Γ = .bad) : PE X e (EvD X.K bg S0 H0 EX A m) := ⟨fun pins s σ H Q I ⟨O, Γ, S, a, q⟩ => by rw [h] at q; exact q.elim⟩
theorem pt_false {e : Expr} {m : Gam → T Bool} (h : ∀ Γ, m Γ = .bad) : PT X e (EvB X.K bg S0 H0 EX m) := ⟨fun pins s σ H Q I ⟨O, Γ, S, a, q⟩ => by rw [h] at q; exact q.elim⟩
theorem pw_false {e : Expr} {m : Gam → T Bool} (h : ∀ Γ, m Γ = .bad) : PW X e (EvB X.K bg S0 H0 EX m) := ⟨fun wh pins s σ H Q I ⟨O, Γ, S, a, q⟩ => by rw [h] at q; exact q.elim⟩
theorem pi_false {tg e : Expr} {m : Gam → T (List D)} (h : ∀ Γ, m Γ = .bad) : PI X tg e (EvI X.K bg S0 H0 EX A m) := ⟨fun pins s σ H Q I ⟨O, Γ, S, a, q⟩ => by rw [h] at q; exact q.elim⟩
theorem ev_sub {K : PySem.W.Frag} {A' : List Nat} {m : Gam → T D} (h : ∀ i, i ∈ A' → i ∈ A) {σ : L2.St} {H : Hp} {Q : VK} (q : EvD K bg S0 H0 EX A m σ H Q) : EvD K bg S0 H0 EX A' m σ H Q := by
  obtain ⟨O, Γ, S, a, q⟩ := q
  exact ⟨O, Γ, S, a, T.all_imp q fun d k v S' H' W E r => k v S' H' W E (r.mono (Gs.sub h) (fun _ _ _ z => z) d v)⟩
/-- a flat value is in no one's objects -/
theorem ev_fun {K : PySem.W.Frag} {m m' : Gam → T D} (h : ∀ Γ, m Γ = m' Γ) {σ : L2.St} {H : Hp} {Q : VK} (q : EvD K bg S0 H0 EX A m σ H Q) : EvD K bg S0 H0 EX A m' σ H Q := by
  obtain ⟨O, Γ, S, a, q⟩ := q
  exact ⟨O, Γ, S, a, by rw [← h]; exact q⟩
theorem ev_here {K : PySem.W.Frag} {σ : L2.St} {H : Hp} {Q : VK} {d : D} {v : V} {O : List Nat} {Γ : Gam} {S : Addr → Prop} (a : At K bg S0 H0 O Γ S σ H) (k : ∀ v S' H', Wld bg S' H' → Ext bg S H S' H' → Rep K bg (Gs S' O σ A) H' d v → Q v H') (r : Rep K bg (Gs S O σ A) H d v) : Q v H := k v S H a.wld .refl r

/-! ### constants, names -/
theorem k_const {e : Expr} {v : V} {d : D} (h : PE X e (tC v)) (r : ∀ S H, Rep X.K bg S H d v) : PE X e (EvD X.K bg S0 H0 EX A fun _ => .ret d) :=
  pe_weak h fun σ H Q ⟨O, Γ, S, a, q⟩ => ev_here (d := d) a q (r _ _)
theorem k_var {x : Str} {i : Nat} {pos : Pos} {C : Calls} (hN : X.N[i]? = some x) (hv : Vis X.env.scope x) (hd : (x == ("__debug__" : Str)) = false) (hcd : (x == ("__classdict__" : Str)) = false) (hA : i ∈ A) :
    PE X (.Name x pos) (EvD X.K bg S0 H0 EX A (evE C (.var i))) := by
  refine pe_weak (pe_var hN hv hd hcd) fun σ H Q ⟨O, Γ, S, a, q⟩ => ?_
  unfold evE at q
  split at q
  · rename_i d hd
    by_cases m : i ∈ O
    · obtain ⟨d', v, g, e, p, o, ev, ns, h0, hp, r⟩ := a.abs.own i m
      rw [hd] at g
      cases g
      refine ⟨v, e, ?_⟩
      subst ev
      exact ev_here (d := d) a q ((r.mono (fun _ h => .inl h) (fun _ _ _ z => z)).rep (.inr ⟨i, hA, m, e⟩) hp)
    · obtain ⟨v, e, r⟩ := a.abs.dat i d m hd
      exact ⟨v, e, ev_here (d := d) a q (r.mono (fun _ h => .inl h) (fun _ _ _ z => z) d v)⟩
  · exact q.elim

/-! ### two operands -/
section
variable {K : PySem.W.Frag} {ma mb : Gam → T D} {f : D → D → T D} {σ : L2.St} {H : Hp} {Q : VK}
theorem r_two (q : EvD K bg S0 H0 EX A (fun Γ => (ma Γ).bind fun x => (mb Γ).bind fun y => f x y) σ H Q) : tOp (rD2 K EX f) (EvD K bg S0 H0 EX A ma) (EvD K bg S0 H0 EX A mb) σ H Q := by
  obtain ⟨O, Γ, S, a, q⟩ := q
  refine ⟨O, Γ, S, a, T.all_imp (T.all_bind.mp q) fun x hx v S1 H1 W1 E1 r1 => ?_⟩
  have a1 := a.later E1 W1
  refine ⟨O, Γ, S1, a1, T.all_imp (T.all_bind.mp hx) fun y hy w S2 H2 W2 E2 r2 => ?_⟩
  have a2 := a1.later E2 W2
  exact ⟨bg, Gs S2 O σ A, x, y, a2.gwld A, a1.rep E2 r1, r2, T.all_imp hy fun d hd => a2.rs (E1.trans E2) hd⟩
end
theorem k_bin {ea eb : Expr} {op : Operator} {pos : Pos} {C : Calls} {a b : OE} (ha : PE X ea (EvD X.K bg S0 H0 EX A (evE C a))) (hb : PE X eb (EvD X.K bg S0 H0 EX A (evE C b))) : PE X (.BinOp ea op eb pos) (EvD X.K bg S0 H0 EX A (evE C (.bin op a b))) :=
  pe_weak (pe_op (op_bin op) ha hb) fun σ H Q q => r_two (ev_fun (fun Γ => by rw [evE]) q)
theorem behind_none {b : Expr} (h : ∀ es k p, b ≠ .Set es k p) (op : CmpOp) : behindInMarks op b = false := by
  cases b <;> first | rfl | exact absurd rfl (h _ _ _)
theorem room65 {k : Nat} (hr : Room k X.A) : X.A.units + 65 < cLine := by
  have := hr.un
  omega
/-- a flat result: the operands may be anything -/
theorem cmpD_flat {K : PySem.W.Frag} {op : CmpOp} {A' : List Nat} {ma mb : Gam → T D} {σ : L2.St} {H : Hp} {Q : VK} (q : EvD K bg S0 H0 EX A (fun Γ => (ma Γ).bind fun x => (mb Γ).bind fun y => cmpD op x y) σ H Q) :
    EvD K bg S0 H0 EX A' (fun Γ => (ma Γ).bind fun x => (mb Γ).bind fun y => cmpD op x y) σ H Q := by
  obtain ⟨O, Γ, S, a, q⟩ := q
  refine ⟨O, Γ, S, a, T.all_bind.mpr (T.all_imp (T.all_bind.mp q) fun x hx => T.all_bind.mpr (T.all_imp (T.all_bind.mp hx) fun y hy => T.all_imp (cmpD_bl hy) fun d hd v S' H' W E r => ?_))⟩
  obtain ⟨hd, k, e⟩ := hd
  subst e
  exact hd v S' H' W E r
theorem k_cmp {ea eb : Expr} {op : CmpOp} {pos : Pos} {C : Calls} {a b : OE} {k : Nat} (hr : Room k X.A) (A' : List Nat) (hs : ∀ es k p, eb ≠ .Set es k p) (ha : PE X ea (EvD X.K bg S0 H0 EX A' (evE C a))) (hb : PE X eb (EvD X.K bg S0 H0 EX A' (evE C b))) :
    PE X (.Compare ea [op] [eb] pos) (EvD X.K bg S0 H0 EX A (evE C (.cmp op a b))) :=
  pe_weak (pe_cmpR (op_cmp op (room65 hr)) ha hb (behind_none hs op)) fun σ H Q q => r_two (cmpD_flat (ev_fun (fun Γ => by rw [evE]) q))
theorem kt_cmp {ea eb : Expr} {op : CmpOp} {pos : Pos} {C : Calls} {a b : OE} {k : Nat} (hr : Room k X.A) (A' : List Nat) (hs : ∀ es k p, eb ≠ .Set es k p) (ha : PE X ea (EvD X.K bg S0 H0 EX A' (evE C a))) (hb : PE X eb (EvD X.K bg S0 H0 EX A' (evE C b))) :
    PT X (.Compare ea [op] [eb] pos) (EvB X.K bg S0 H0 EX (evT C (.e (.cmp op a b)))) := by
  refine pt_weak (pt_cmpR (op_cmp (EX := EX) op (room65 hr)) ha hb (behind_none hs op)) fun σ H Q q => ?_
  obtain ⟨O, Γ, S, a0, q⟩ := q
  refine r_two (f := cmpD op) ⟨O, Γ, S, a0, ?_⟩
  unfold evT evE at q
  have q := T.all_bind.mp (T.all_bind.mp q)
  refine T.all_bind.mpr (T.all_imp q fun x hx => T.all_bind.mpr (T.all_imp (T.all_bind.mp hx) fun y hy => T.all_imp (cmpD_bl hy) fun d hd v S' H' W E r => ?_))
  obtain ⟨hd, kk, e⟩ := hd
  subst e
  exact ⟨kk, r, hd S' H' W E⟩
theorem isN_eq {K : PySem.W.Frag} {S : Addr → Prop} {H : Hp} {d : D} {v : V} (r : Rep K bg S H d v) : decide (v = .non) = isNonD d := by
  cases d with
  | non => rw [show v = .non from r]; rfl
  | bl b => rw [show v = .bl b from r]; rfl
  | int b => rw [show v = .int b from r]; rfl
  | str b => rw [r.1]; rfl
  | lst b => obtain ⟨a, xs, ev, _⟩ := r; rw [ev]; rfl
  | tup b => obtain ⟨a, xs, ev, _⟩ := r; rw [ev]; rfl
  | dct _ => obtain ⟨a, o, xs, ev, _⟩ := r; rw [ev]; rfl
  | ins _ _ => obtain ⟨a, dx, xs, ev, _⟩ := r; rw [ev]; rfl
  | bag => obtain ⟨b, _, ev⟩ := r; rw [ev]; rfl
  | scr _ _ => obtain ⟨ev, _⟩ := r; rw [ev]; rfl
theorem k_isN {ea eb : Expr} {pos : Pos} {C : Calls} {a : OE} (A' : List Nat) (hb : noneE eb = true) (ha : PE X ea (EvD X.K bg S0 H0 EX A' (evE C a))) :
    PE X (.Compare ea [.Is] [eb] pos) (EvD X.K bg S0 H0 EX A (evE C (.isN a))) ∧ PE X (.Compare ea [.IsNot] [eb] pos) (EvD X.K bg S0 H0 EX A (evE C (.notN a))) := by
  unfold noneE at hb
  split at hb
  · refine ⟨pe_weak (pe_cmp (pc_isN ha) rfl) fun σ H Q ⟨O, Γ, S, a0, q⟩ => ?_, pe_weak (pe_cmp (pc_notN ha) rfl) fun σ H Q ⟨O, Γ, S, a0, q⟩ => ?_⟩
    · unfold evE at q
      refine ⟨O, Γ, S, a0, T.all_imp (T.all_bind.mp q) fun x hx v S1 H1 W1 E1 r1 => ?_⟩
      exact hx _ S1 H1 W1 E1 (by show V.bl _ = V.bl _; rw [isN_eq r1])
    · unfold evE at q
      refine ⟨O, Γ, S, a0, T.all_imp (T.all_bind.mp q) fun x hx v S1 H1 W1 E1 r1 => ?_⟩
      exact hx _ S1 H1 W1 E1 (by show V.bl _ = V.bl _; rw [isN_eq r1])
  · cases hb
theorem kt_isN {ea eb : Expr} {pos : Pos} {C : Calls} {a : OE} (A' : List Nat) (hb : noneE eb = true) (ha : PE X ea (EvD X.K bg S0 H0 EX A' (evE C a))) :
    PT X (.Compare ea [.Is] [eb] pos) (EvB X.K bg S0 H0 EX (evT C (.e (.isN a)))) ∧ PT X (.Compare ea [.IsNot] [eb] pos) (EvB X.K bg S0 H0 EX (evT C (.e (.notN a)))) := by
  unfold noneE at hb
  split at hb
  · refine ⟨pt_weak (pt_cmp (pc_isN ha) rfl) fun σ H Q ⟨O, Γ, S, a0, q⟩ => ?_, pt_weak (pt_cmp (pc_notN ha) rfl) fun σ H Q ⟨O, Γ, S, a0, q⟩ => ?_⟩
    · unfold evT evE at q
      refine ⟨O, Γ, S, a0, T.all_imp (T.all_bind.mp (T.all_bind.mp q)) fun x hx v S1 H1 W1 E1 r1 => ?_⟩
      exact ⟨_, rfl, by rw [isN_eq r1]; exact hx S1 H1 W1 E1⟩
    · unfold evT evE at q
      refine ⟨O, Γ, S, a0, T.all_imp (T.all_bind.mp (T.all_bind.mp q)) fun x hx v S1 H1 W1 E1 r1 => ?_⟩
      exact ⟨_, rfl, by rw [isN_eq r1]; exact hx S1 H1 W1 E1⟩
  · cases hb
theorem k_chain {ea eb ec : Expr} {op op' : CmpOp} {pos : Pos} {C : Calls} {a b d : OE} {k : Nat} (hr : Room k X.A) (A' : List Nat) (hs : ∀ es k p, ec ≠ .Set es k p) (ha : PE X ea (EvD X.K bg S0 H0 EX A' (evE C a))) (hb : PE X eb (EvD X.K bg S0 H0 EX A' (evE C b)))
    (hc : PE X ec (EvD X.K bg S0 H0 EX A' (evE C d))) :
    PE X (.Compare ea [op, op'] [eb, ec] pos) (EvD X.K bg S0 H0 EX A (evE C (.chain op op' a b d))) ∧ PT X (.Compare ea [op, op'] [eb, ec] pos) (EvB X.K bg S0 H0 EX (evT C (.e (.chain op op' a b d)))) := by
  have hm : lastMarks [op, op'] [eb, ec] = false := by
    show lastMarks [op'] [ec] = false
    exact behind_none hs op'
  refine ⟨pe_weak (pe_chain (op_cmp (EX := EX) op (room65 hr)) (op_cmp (EX := EX) op' (room65 hr)) ha hb hc hm) fun σ H Q ⟨O, Γ, S, a0, q⟩ => ?_, pt_weak (pt_chain (op_cmp (EX := EX) op (room65 hr)) (op_cmp (EX := EX) op' (room65 hr)) ha hb hc hm) fun σ H Q ⟨O, Γ, S, a0, q⟩ => ?_⟩
  · unfold evE at q
    refine ⟨O, Γ, S, a0, T.all_imp (T.all_bind.mp q) fun x hx v S1 H1 W1 E1 r1 => ?_⟩
    have a1 := a0.later E1 W1
    refine ⟨O, Γ, S1, a1, T.all_imp (T.all_bind.mp hx) fun y hy w S2 H2 W2 E2 r2 => ?_⟩
    have a2 := a1.later E2 W2
    refine ⟨bg, Gs S2 O σ A', x, y, a2.gwld A', a1.rep E2 r1, r2, T.all_imp (cmpD_bl (T.all_bind.mp hy)) fun z hz => ?_⟩
    obtain ⟨hz, kk, e⟩ := hz
    subst e
    refine fun u S3 H3 W3 E3 r3 => ⟨kk, r3, ?_⟩
    obtain ⟨W3', E3', s3⟩ := a2.back W3 E3
    have a3 := a2.later E3' W3'
    cases kk with
    | false => exact hz _ _ H3 W3' (E1.trans (E2.trans E3')) rfl
    | true =>
      refine ⟨O, Γ, _, a3, T.all_imp (T.all_bind.mp hz) fun w4 h4 v4 S4 H4 W4 E4 r4 => ?_⟩
      have a4 := a3.later E4 W4
      refine ⟨bg, Gs S4 O σ A', y, w4, a4.gwld A', a3.rep E4 (a2.rep E3' r2), r4, T.all_imp (cmpD_bl h4) fun d5 h5 => ?_⟩
      obtain ⟨h5, k5, e5⟩ := h5
      subst e5
      refine fun u6 S6 H6 W6 E6 r6 => ?_
      obtain ⟨W6', E6', _⟩ := a4.back W6 E6
      exact h5 u6 _ H6 W6' (E1.trans (E2.trans (E3'.trans (E4.trans E6')))) r6
  · unfold evT evE at q
    refine ⟨O, Γ, S, a0, T.all_imp (T.all_bind.mp (T.all_bind.mp q)) fun x hx v S1 H1 W1 E1 r1 => ?_⟩
    have a1 := a0.later E1 W1
    refine ⟨O, Γ, S1, a1, T.all_imp (T.all_bind.mp hx) fun y hy w S2 H2 W2 E2 r2 => ?_⟩
    have a2 := a1.later E2 W2
    refine ⟨bg, Gs S2 O σ A', x, y, a2.gwld A', a1.rep E2 r1, r2, T.all_imp (cmpD_bl (T.all_bind.mp hy)) fun z hz => ?_⟩
    obtain ⟨hz, kk, e⟩ := hz
    subst e
    refine fun u S3 H3 W3 E3 r3 => ⟨kk, r3, ?_⟩
    obtain ⟨W3', E3', s3⟩ := a2.back W3 E3
    have a3 := a2.later E3' W3'
    cases kk with
    | false => exact ⟨_, rfl, hz _ H3 W3' (E1.trans (E2.trans E3'))⟩
    | true =>
      refine ⟨O, Γ, _, a3, T.all_imp (T.all_bind.mp hz) fun w4 h4 v4 S4 H4 W4 E4 r4 => ?_⟩
      have a4 := a3.later E4 W4
      refine ⟨bg, Gs S4 O σ A', y, w4, a4.gwld A', a3.rep E4 (a2.rep E3' r2), r4, T.all_imp (cmpD_bl h4) fun d5 h5 => ?_⟩
      obtain ⟨h5, k5, e5⟩ := h5
      subst e5
      refine fun u6 S6 H6 W6 E6 r6 => ?_
      obtain ⟨W6', E6', _⟩ := a4.back W6 E6
      exact ⟨k5, r6, h5 _ H6 W6' (E1.trans (E2.trans (E3'.trans (E4.trans E6'))))⟩
end
end Dy

set_option linter.all false
set_option maxRecDepth 10000
set_option autoImplicit false
/-! Dy, part 8: displays, calls, tests, what is walked. -/
namespace Dy
open PySem PySem.Spec PyProof.Rows L2
section
variable {X : Cx} {bg : Option (Addr × Addr)} {S0 : Addr → Prop} {H0 : Hp} {EX : D → Prop} {A : List Nat} {C : Calls}
/-! ### argument lists -/
theorem k_pa : ∀ {es : List Expr} {os : List OE}, es.any isStar = false → es.length = os.length → (∀ (i : Nat) (e : Expr) (o : OE), es[i]? = some e → os[i]? = some o → PE X e (EvD X.K bg S0 H0 EX A (evE C o))) → PA X es (EvL X.K bg S0 H0 EX A (evEs C os))
  | [], [], _, _, _ => pa_weak pa_nil fun σ H Q ⟨O, Γ, S, a, q⟩ => by
    unfold evEs at q
    exact q [] S H a.wld .refl rfl
  | [], _ :: _, _, h, _ => by cases h
  | _ :: _, [], _, h, _ => by cases h
  | e :: es, o :: os, hs, hl, h => by
    rw [List.any_cons, Bool.or_eq_false_iff] at hs
    have h0 := h 0 e o rfl rfl
    have hr := k_pa (es := es) (os := os) hs.2 (by simpa using hl) fun i e' o' h1 h2 => h (i + 1) e' o' h1 h2
    refine pa_weak (pa_cons h0 hr (starEach_cons hs.1)) fun σ H Q ⟨O, Γ, S, a, q⟩ => ?_
    unfold evEs at q
    refine ⟨O, Γ, S, a, T.all_imp (T.all_bind.mp q) fun x hx v S1 H1 W1 E1 r1 => ?_⟩
    have a1 := a.later E1 W1
    refine ⟨O, Γ, S1, a1, T.all_imp (T.all_bind.mp hx) fun ds hds vs S2 H2 W2 E2 r2 => ?_⟩
    exact hds (v :: vs) S2 H2 W2 (E1.trans E2) ⟨v, vs, rfl, a1.rep E2 r1, r2⟩
theorem evL_sub {K : PySem.W.Frag} {A' : List Nat} {m : Gam → T (List D)} (h : ∀ i, i ∈ A' → i ∈ A) {σ : L2.St} {H : Hp} {Q : List V → Hp → Prop} (q : EvL K bg S0 H0 EX A m σ H Q) : EvL K bg S0 H0 EX A' m σ H Q := by
  obtain ⟨O, Γ, S, a, q⟩ := q
  exact ⟨O, Γ, S, a, T.all_imp q fun d k v S' H' W E r => k v S' H' W E (r.mono (Gs.sub h) (fun _ _ _ z => z) d v)⟩
theorem len_small {K : PySem.W.Frag} {S : Addr → Prop} {H : Hp} {ds : List D} {vs : List V} (h : Reps K bg S H ds vs) (n : ds.length ≤ 1000) : vs.length ≤ sizeLine := by
  rw [h.length]
  exact Nat.le_of_lt (small1000 n)
theorem k_tup {es : List Expr} {os : List OE} {kk : Nat} {pos : Pos} (hl : os.length ≤ 1000) (h : PA X es (EvL X.K bg S0 H0 EX A (evEs C os))) (len : ∀ Γ P E, (evEs C os Γ).All P E → (evEs C os Γ).All (fun ds => P ds ∧ ds.length = os.length) E) :
    PE X (.Tuple es kk pos) (EvD X.K bg S0 H0 EX A (evE C (.tup os))) := by
  refine pe_weak (pe_tup h) fun σ H Q ⟨O, Γ, S, a, q⟩ => ?_
  rw [evE] at q
  refine ⟨O, Γ, S, a, T.all_imp (len Γ _ _ (T.all_bind.mp q)) fun ds hds vs S1 H1 W1 E1 r1 => ?_⟩
  obtain ⟨hds, hn⟩ := hds
  have a1 := a.later E1 W1
  exact ⟨len_small r1 (by omega), (a1.rs (A := A) E1 hds).tup (a1.gwld A) r1⟩
theorem k_lstN {es : List Expr} {os : List OE} {pos : Pos} (hl : os.length ≤ 1000) (h : PA X es (EvL X.K bg S0 H0 EX A (evEs C os))) (len : ∀ Γ P E, (evEs C os Γ).All P E → (evEs C os Γ).All (fun ds => P ds ∧ ds.length = os.length) E) :
    PE X (.List es pos) (EvN X.K bg S0 H0 EX A fun Γ => (evEs C os Γ).bind fun ds => .ret (.lst ds, true)) := by
  refine pe_weak (pe_lst h) fun σ H Q ⟨O, Γ, S, a, q⟩ => ?_
  refine ⟨O, Γ, S, a, T.all_imp (len Γ _ _ (T.all_bind.mp q)) fun ds hds vs S1 H1 W1 E1 r1 => ?_⟩
  obtain ⟨hds, hn⟩ := hds
  have a1 := a.later E1 W1
  refine ⟨len_small r1 (by omega), fun p hp => hds _ S1 _ (W1.made hp (fun _ z => by cases z)) (E1.trans (.made p _ hp)) ?_⟩
  have np : ¬ Gs S1 O σ A p := fun z => (a1.gwld A).dom p z hp
  exact ⟨p, _, rfl, np, E1.unborn hp, upd_same, .lst (r1.mono (fun _ h => h) (fun b o s q => by rw [upd_ne (fun z => np (by rw [← z]; exact s))]; exact q) ds vs)⟩
theorem k_lst {es : List Expr} {os : List OE} {pos : Pos} (hl : os.length ≤ 1000) (h : PA X es (EvL X.K bg S0 H0 EX A (evEs C os))) (len : ∀ Γ P E, (evEs C os Γ).All P E → (evEs C os Γ).All (fun ds => P ds ∧ ds.length = os.length) E) :
    PE X (.List es pos) (EvD X.K bg S0 H0 EX A (evE C (.lst os))) := by
  refine pe_weak (pe_lst h) fun σ H Q ⟨O, Γ, S, a, q⟩ => ?_
  rw [evE] at q
  refine ⟨O, Γ, S, a, T.all_imp (len Γ _ _ (T.all_bind.mp q)) fun ds hds vs S1 H1 W1 E1 r1 => ?_⟩
  obtain ⟨hds, hn⟩ := hds
  have a1 := a.later E1 W1
  exact ⟨len_small r1 (by omega), (a1.rs (A := A) E1 hds).lst (a1.gwld A) r1⟩
theorem evEs_len : ∀ (os : List OE) (Γ : Gam) (P : List D → Prop) (E : D → Prop), (evEs C os Γ).All P E → (evEs C os Γ).All (fun ds => P ds ∧ ds.length = os.length) E
  | [], Γ, P, E, h => by
    unfold evEs at h ⊢
    exact ⟨h, rfl⟩
  | o :: os, Γ, P, E, h => by
    unfold evEs at h ⊢
    refine T.all_bind.mpr (T.all_imp (T.all_bind.mp h) fun x hx => T.all_bind.mpr (T.all_imp (evEs_len os Γ _ E (T.all_bind.mp hx)) fun xs hxs => ?_))
    exact ⟨hxs.1, by rw [List.length_cons, List.length_cons, hxs.2]⟩

/-! ### calls -/
theorem pick_vals {vs zs dv : List V} {us ws du : List Value} (r1 : Vals vs us) (r2 : Vals zs ws) (r3 : Vals dv du) : ∀ x : Sr, (∀ v, pick vs zs dv x = some v → ∃ u, pick us ws du x = some u ∧ RelV v u) ∧ (pick vs zs dv x = none → pick us ws du x = none)
  | .pos j => ⟨fun v h => r1.get h, fun h => r1.none_of h⟩
  | .kw j => ⟨fun v h => r2.get h, fun h => r2.none_of h⟩
  | .df j => ⟨fun v h => r3.get h, fun h => r3.none_of h⟩
theorem selL_vals {vs zs dv : List V} {us ws du : List Value} (r1 : Vals vs us) (r2 : Vals zs ws) (r3 : Vals dv du) : ∀ sel : List Sr, Vals (selL sel vs zs dv) (selL sel us ws du)
  | [] => .nil
  | x :: sel => by
    have ih := selL_vals r1 r2 r3 sel
    obtain ⟨h1, h2⟩ := pick_vals r1 r2 r3 x
    unfold selL at ih ⊢
    rw [List.filterMap_cons, List.filterMap_cons]
    cases e : pick vs zs dv x with
    | none => rw [h2 e]; exact ih
    | some v =>
      obtain ⟨u, e2, r⟩ := h1 v e
      rw [e2]
      exact .cons r ih
theorem Reps.none_of {K : PySem.W.Frag} {S : Addr → Prop} {H : Hp} {ds : List D} {vs : List V} {i : Nat} (r : Reps K bg S H ds vs) (h : ds[i]? = none) : vs[i]? = none := by
  have h1 := r.length
  have h2 : ds.length ≤ i := List.getElem?_eq_none_iff.mp h
  exact List.getElem?_eq_none_iff.mpr (by omega)
theorem pick_reps {K : PySem.W.Frag} {S : Addr → Prop} {H : Hp} {vs zs dv : List V} {ds es ts : List D} (r1 : Reps K bg S H ds vs) (r2 : Reps K bg S H es zs) (r3 : Reps K bg S H ts dv) : ∀ x : Sr, (∀ d, pick ds es ts x = some d → ∃ v, pick vs zs dv x = some v ∧ Rep K bg S H d v) ∧ (pick ds es ts x = none → pick vs zs dv x = none)
  | .pos j => ⟨fun v h => r1.get h, fun h => r1.none_of h⟩
  | .kw j => ⟨fun v h => r2.get h, fun h => r2.none_of h⟩
  | .df j => ⟨fun v h => r3.get h, fun h => r3.none_of h⟩
theorem selL_reps {K : PySem.W.Frag} {S : Addr → Prop} {H : Hp} {vs zs dv : List V} {ds es ts : List D} (r1 : Reps K bg S H ds vs) (r2 : Reps K bg S H es zs) (r3 : Reps K bg S H ts dv) : ∀ sel : List Sr, Reps K bg S H (selL sel ds es ts) (selL sel vs zs dv)
  | [] => rfl
  | x :: sel => by
    have ih := selL_reps r1 r2 r3 sel
    obtain ⟨h1, h2⟩ := pick_reps r1 r2 r3 x
    unfold selL at ih ⊢
    rw [List.filterMap_cons, List.filterMap_cons]
    cases e : pick ds es ts x with
    | none => rw [h2 e]; exact ih
    | some v =>
      obtain ⟨u, e2, r⟩ := h1 v e
      rw [e2]
      exact ⟨u, _, rfl, r, ih⟩
theorem keywordEach_map (env : Env) : ∀ kws : List Keyword, keywordEach kws env = kws.map fun q => (q.arg, eval q.value env)
  | [] => rfl
  | ⟨n, v, p⟩ :: r => by
    show (n, eval v env) :: keywordEach r env = _
    rw [keywordEach_map env r]
    rfl
theorem kw_names (env : Env) (pos : Pos) (kws : List Keyword) : (backToKw pos (keywordEach kws env)).filterMap (·.1) = kws.filterMap (·.arg) := by
  rw [keywordEach_map]
  unfold backToKw
  rw [List.map_map, List.filterMap_map]
  rfl
theorem kw_all (env : Env) (pos : Pos) {kws : List Keyword} (h : (kws.all fun q => q.arg.isSome) = true) : (backToKw pos (keywordEach kws env)).all (·.1.isSome) = true ∧ (backToKw pos (keywordEach kws env)).any (·.1.isNone) = false := by
  rw [keywordEach_map]
  unfold backToKw
  rw [List.map_map]
  constructor
  · rw [List.all_map]; exact h
  · rw [List.any_map, List.any_eq_false]
    intro q hq
    have := List.all_eq_true.mp h q hq
    show ¬ q.arg.isNone = true
    cases e : q.arg <;> simp [e] at this ⊢
theorem kw_len {kws : List Keyword} (h : (kws.all fun q => q.arg.isSome) = true) : (kws.filterMap (·.arg)).length = kws.length := by
  induction kws with
  | nil => rfl
  | cons q r ih =>
    rw [List.all_cons, Bool.and_eq_true] at h
    obtain ⟨a, ha⟩ := Option.isSome_iff_exists.mp h.1
    rw [List.filterMap_cons, ha]
    show _ + 1 = _ + 1
    rw [ih h.2]
theorem k_pk : ∀ {kws : List Keyword} {os : List OE}, kws.length = os.length → (∀ (i : Nat) (q : Keyword) (o : OE), kws[i]? = some q → os[i]? = some o → PE X q.value (EvD X.K bg S0 H0 EX A (evE C o))) → PK X kws (EvL X.K bg S0 H0 EX A (evEs C os))
  | [], [], _, _ => ⟨fun p pins s σ H Q I ⟨O, Γ, S, a, q⟩ => pk_nil.run p pins s σ H Q I (by rw [evEs] at q; exact q [] S H a.wld .refl rfl)⟩
  | [], _ :: _, h, _ => by cases h
  | _ :: _, [], h, _ => by cases h
  | ⟨nm, e, kp⟩ :: es, o :: os, hl, h => by
    have h0 := h 0 ⟨nm, e, kp⟩ o rfl rfl
    have hr := k_pk (kws := es) (os := os) (by simpa using hl) fun i e' o' h1 h2 => h (i + 1) e' o' h1 h2
    refine ⟨fun p pins s σ H Q I ⟨O, Γ, S, a, q⟩ => (pk_cons h0 hr).run p pins s σ H Q I ?_⟩
    rw [evEs] at q
    refine ⟨O, Γ, S, a, T.all_imp (T.all_bind.mp q) fun x hx v S1 H1 W1 E1 r1 => ?_⟩
    have a1 := a.later E1 W1
    refine ⟨O, Γ, S1, a1, T.all_imp (T.all_bind.mp hx) fun ds hds vs S2 H2 W2 E2 r2 => ?_⟩
    exact hds (v :: vs) S2 H2 W2 (E1.trans E2) ⟨v, vs, rfl, a1.rep E2 r1, r2⟩
/-- f(a, .., k = b, ..) of a def -/
def tCallG (sp : Sp) (g : List V → List V → List V) (n m : Nat) (E : XK) (t tk : TA) : TE := fun σ H Q => t σ H fun vs H1 => tk σ H1 fun zs H2 => vs.length = n ∧ zs.length = m ∧ sp (g vs zs) H2 Q E
/-- the call itself, once its values lie there -/
theorem call_finG {es : List Expr} {kws : List Keyword} {k : Nat} {a : Addr} {fd : FuncData} {ps : List Str} {sp : Sp} {E : XK} {sel : List Sr} {dv : List V} {du : List Value} {σ : L2.St} {pins : List (Addr × Obj)} {Q : VK} (hr : Room k X.A)
    (F : FnOk X.prog X.w X.K X.mg X.base (L2.CX X.prog X.w) k a fd ps sp) (rd : Vals dv du) (hb : ∀ (s : Shared) (us ws : List Value), X.K.In s.heap → us.length = es.length → ws.length = (kws.filterMap (·.arg)).length → BindsTo s fd ⟨us, (kws.filterMap (·.arg)).zip ws⟩ (ps.zip (selL sel us ws du)))
    (hx : Passes (L2.CX X.prog X.w) X E) {us ws : List Value} {vs zs : List V} {s2 : Shared} {H2 : Hp} (I2 : L2.Inv X pins σ H2 s2) (r1 : Vals vs us) (r2 : Vals zs ws) (l1 : vs.length = es.length) (l2 : zs.length = (kws.filterMap (·.arg)).length)
    (hsp : sp (selL sel vs zs dv) H2 Q E) : wpAny (model X.prog X.w) X.A (call (.ref a) us ((kws.filterMap (·.arg)).zip ws)) (EP X pins σ Q) X.xe s2 := by
  have rr := selL_vals r1 r2 rd sel
  refine wpAny_call (codeAny_mono (F.run X.A X.stack s2 H2 _ _ _ Q E hr I2.env0 (hb s2 us ws I2.kIn (r1.length.symm.trans l1) (r2.length.symm.trans l2)) rr hsp) fun r s' hq => ?_)
  match r, hq with
  | .error e, hq => exact hx pins σ H2 s2 e s' I2 hq
  | .ok (.ret u), hq => exact I2.after hq
  | .ok .next, hq => exact hq.elim
  | .ok .brk, hq => exact hq.elim
  | .ok .cont, hq => exact hq.elim
theorem pe_callG {e : Expr} {es : List Expr} {kws : List Keyword} {f : Str} {p pos : Pos} {k : Nat} {a : Addr} {fd : FuncData} {ps : List Str} {sp : Sp} {E : XK} {t tk : TA} {sel : List Sr} {dv : List V} {du : List Value} (hr : Room k X.A) (hg : Gl X f) (hm : X.mg f = some (.ref a)) (hk : PySem.W.keepIn X.K (.ref a) = true)
    (F : FnOk X.prog X.w X.K X.mg X.base (L2.CX X.prog X.w) k a fd ps sp) (rd : Vals dv du) (hb : ∀ (s : Shared) (us ws : List Value), X.K.In s.heap → us.length = (e :: es).length → ws.length = (kws.filterMap (·.arg)).length → BindsTo s fd ⟨us, (kws.filterMap (·.arg)).zip ws⟩ (ps.zip (selL sel us ws du)))
    (hx : Passes (L2.CX X.prog X.w) X E) (hs : (e :: es).any isStar = false) (hkw : (kws.all fun q => q.arg.isSome) = true) (hdb : (f == ("__debug__" : Str)) = false) (h : PA X (e :: es) t) (hk2 : PK X kws tk) :
    PE X (.Call (.Name f p) (e :: es) kws pos) (tCallG sp (fun vs zs => selL sel vs zs dv) (e :: es).length (kws.filterMap (·.arg)).length E t tk) := by
  refine ⟨fun pins s σ H Q I q => ?_⟩
  obtain ⟨k1, k2⟩ := kw_all X.env pos hkw
  have hs' := hs
  rw [List.any_cons, Bool.or_eq_false_iff] at hs
  refine wpAny_Call_Name_kw (ld_glob I hg hm ?_ hdb)
  refine PySem.W.callWith_KW (h₀ := X.base) I.ok.mod.kin hk k1 (thn (h.run pos pins s σ H _ I q) fun us s1 ⟨vs, H1, I1, r1, q1⟩ => thn (hk2.run pos pins s1 σ H1 _ I1 q1) fun ws s2 ⟨zs, H2, I2, r2, l1, l2, q2⟩ => ⟨I2.kIn, ?_⟩) (by rw [k2, starEach_plain _ _ hs']; rfl) (starEach_cons hs.1)
  rw [kw_names]
  exact call_finG hr F rd hb hx I2 r1 r2 l1 l2 q2
/-- none before the keywords -/
def tCallG0 (sp : Sp) (g : List V → List V) (m : Nat) (E : XK) (tk : TA) : TE := fun σ H Q => tk σ H fun zs H2 => zs.length = m ∧ sp (g zs) H2 Q E
theorem pe_callG0 {kws : List Keyword} {f : Str} {p pos : Pos} {k : Nat} {a : Addr} {fd : FuncData} {ps : List Str} {sp : Sp} {E : XK} {tk : TA} {sel : List Sr} {dv : List V} {du : List Value} (hr : Room k X.A) (hg : Gl X f) (hm : X.mg f = some (.ref a)) (hk : PySem.W.keepIn X.K (.ref a) = true)
    (F : FnOk X.prog X.w X.K X.mg X.base (L2.CX X.prog X.w) k a fd ps sp) (rd : Vals dv du) (hb : ∀ (s : Shared) (us ws : List Value), X.K.In s.heap → us.length = ([] : List Expr).length → ws.length = (kws.filterMap (·.arg)).length → BindsTo s fd ⟨us, (kws.filterMap (·.arg)).zip ws⟩ (ps.zip (selL sel us ws du)))
    (hx : Passes (L2.CX X.prog X.w) X E) (hkw : (kws.all fun q => q.arg.isSome) = true) (hdb : (f == ("__debug__" : Str)) = false) (hk2 : PK X kws tk) :
    PE X (.Call (.Name f p) [] kws pos) (tCallG0 sp (fun zs => selL sel [] zs dv) (kws.filterMap (·.arg)).length E tk) := by
  refine ⟨fun pins s σ H Q I q => ?_⟩
  obtain ⟨k1, k2⟩ := kw_all X.env pos hkw
  refine wpAny_Call_Name_kw (ld_glob I hg hm ?_ hdb)
  refine PySem.W.callWith_KW0 (h₀ := X.base) I.ok.mod.kin hk k1 (thn (hk2.run pos pins s σ H _ I q) fun ws s2 ⟨zs, H2, I2, r2, l2, q2⟩ => ⟨I2.kIn, ?_⟩) (by rw [k2]; rfl)
  rw [kw_names]
  exact call_finG (es := []) hr F rd hb hx I2 .nil r2 rfl l2 q2
/-- what a call leaves, to what its reading asks -/
theorem call_res {K : PySem.W.Frag} {O : List Nat} {Γ : Gam} {S S1 : Addr → Prop} {σ : L2.St} {H H1 : Hp} {Q : VK} {g : List D → T (D × Bool)} {ds : List D} (a1 : At K bg S0 H0 O Γ S1 σ H1) (E1 : Ext bg S H S1 H1) {vs : List V} {n : Nat} (hn : ds.length = n) (r1 : Reps K bg (Gs S1 O σ A) H1 ds vs)
    (hds : (g ds).All (fun r => ∀ v S' H', Wld bg S' H' → Ext bg S H S' H' → ResN K bg (Gs S' O σ A) H H' r v → Q v H') EX) : spD K n g vs H1 Q (eX K bg S0 H0 EX) := by
  refine ⟨bg, Gs S1 O σ A, ds, hn, a1.gwld A, r1, T.all_mono (fun e he cls dx S' H' W' E' rx => ?_) hds fun r hr v S' H' W' E' rv => ?_⟩
  · refine ⟨e, S', he, W', ⟨fun b hb => E'.sub b (.inl (a1.ext.sub b hb)), fun b hb => ?_, fun b o h1 h2 => E'.keep b o (a1.ext.keep b o h1 h2) h2, fun b h1 => E'.dom b (a1.ext.dom b h1)⟩, rx⟩
    rcases E'.new b hb with z | z
    · rcases z with z | ⟨i, _, mo, ei⟩
      · exact a1.ext.new b z
      · obtain ⟨_, _, _, _, h00, _⟩ := a1.abs.at mo ei
        exact .inr h00
    · exact .inr (a1.ext.unborn z)
  · obtain ⟨W2, E2, s2⟩ := a1.back W' E'
    refine hr v _ H' W2 (E1.trans E2) ?_
    obtain ⟨d, fr⟩ := r
    cases fr with
    | false => exact Rep.mono s2 (fun _ _ _ q => q) d v rv
    | true =>
      obtain ⟨p', o', ev, np, hp0, hp, rr⟩ := rv
      refine ⟨p', o', ev, fun z => np ?_, E1.unborn hp0, hp, rr.mono s2 (fun _ _ _ z => z)⟩
      rcases z with (z | ⟨z, _⟩) | ⟨i, z1, z2, z3⟩
      · exact E'.sub _ (.inl z)
      · exact z
      · exact E'.sub _ (.inr ⟨i, z1, z2, z3⟩)
theorem k_callN {es : List Expr} {kws : List Keyword} {os kos : List OE} {f : Str} {p pos : Pos} {k : Nat} {a : Addr} {fd : FuncData} {ps : List Str} {sel : List Sr} {dfts : List D} (hr : Room k X.A) (hg : Gl X f) (hm : X.mg f = some (.ref a)) (hk : PySem.W.keepIn X.K (.ref a) = true)
    (F : FnOk X.prog X.w X.K X.mg X.base (L2.CX X.prog X.w) k a fd ps (spD X.K sel.length (C f))) (sh : Shape X.K fd ps es.length (kws.filterMap (·.arg)) sel dfts) (hx : Passes (L2.CX X.prog X.w) X (eX X.K bg S0 H0 EX)) (hs : es.any isStar = false) (hkw : (kws.all fun q => q.arg.isSome) = true)
    (hol : es.length = os.length) (hkl : kws.length = kos.length) (hdb : (f == ("__debug__" : Str)) = false) (h : PA X es (EvL X.K bg S0 H0 EX A (evEs C os))) (h2 : PK X kws (EvL X.K bg S0 H0 EX A (evEs C kos))) : PE X (.Call (.Name f p) es kws pos) (EvN X.K bg S0 H0 EX A fun Γ => (evEs C os Γ).bind fun ds => (evEs C kos Γ).bind fun zs => .need (decide ((selL sel ds zs dfts).length = sel.length)) (C f (selL sel ds zs dfts))) := by
  obtain ⟨dv, du, rd, dr, hb⟩ := sh
  have hkn := kw_len hkw
  cases es with
  | nil =>
    have e0 : os = [] := by cases os with | nil => rfl | cons _ _ => cases hol
    subst e0
    refine pe_weak (pe_callG0 hr hg hm hk F rd hb hx hkw hdb h2) fun σ H Q ⟨O, Γ, S, a0, q⟩ => ?_
    have q := T.all_bind.mp q
    rw [evEs] at q
    refine ⟨O, Γ, S, a0, T.all_imp (evEs_len kos Γ _ _ (T.all_bind.mp (show ((evEs C kos Γ).bind _).All _ EX from q))) fun zs hzs ws S2 H2 W2 E2 r2 => ?_⟩
    obtain ⟨hzs, hzn⟩ := hzs
    obtain ⟨cl, hzs⟩ := T.all_need hzs
    have cl := of_decide_eq_true cl
    have a2 := a0.later E2 W2
    exact ⟨by rw [hkn, hkl, ← hzn, r2.length], call_res a2 E2 cl (selL_reps (ds := []) (vs := []) rfl r2 (dr _ _ _) sel) hzs⟩
  | cons e es =>
    refine pe_weak (pe_callG hr hg hm hk F rd hb hx hs hkw hdb h h2) fun σ H Q ⟨O, Γ, S, a0, q⟩ => ?_
    refine ⟨O, Γ, S, a0, T.all_imp (evEs_len os Γ _ _ (T.all_bind.mp q)) fun ds hds vs S1 H1 W1 E1 r1 => ?_⟩
    obtain ⟨hds, hdn⟩ := hds
    have a1 := a0.later E1 W1
    refine ⟨O, Γ, S1, a1, T.all_imp (evEs_len kos Γ _ _ (T.all_bind.mp hds)) fun zs hzs ws S2 H2 W2 E2 r2 => ?_⟩
    obtain ⟨hzs, hzn⟩ := hzs
    obtain ⟨cl, hzs⟩ := T.all_need hzs
    have cl := of_decide_eq_true cl
    have a2 := a1.later E2 W2
    exact ⟨by rw [hol, ← hdn, r1.length], by rw [hkn, hkl, ← hzn, r2.length], call_res a2 (E1.trans E2) cl (selL_reps (a1.reps E2 r1) r2 (dr _ _ _) sel) hzs⟩
theorem k_call {es : List Expr} {kws : List Keyword} {os kos : List OE} {f : Str} {p pos : Pos} {k : Nat} {a : Addr} {fd : FuncData} {ps : List Str} {sel : List Sr} {dfts : List D} (hr : Room k X.A) (hg : Gl X f) (hm : X.mg f = some (.ref a)) (hk : PySem.W.keepIn X.K (.ref a) = true)
    (F : FnOk X.prog X.w X.K X.mg X.base (L2.CX X.prog X.w) k a fd ps (spD X.K sel.length (C f))) (sh : Shape X.K fd ps es.length (kws.filterMap (·.arg)) sel dfts) (hx : Passes (L2.CX X.prog X.w) X (eX X.K bg S0 H0 EX)) (hs : es.any isStar = false) (hkw : (kws.all fun q => q.arg.isSome) = true)
    (hol : es.length = os.length) (hkl : kws.length = kos.length) (hdb : (f == ("__debug__" : Str)) = false) (h : PA X es (EvL X.K bg S0 H0 EX A (evEs C os))) (h2 : PK X kws (EvL X.K bg S0 H0 EX A (evEs C kos))) : PE X (.Call (.Name f p) es kws pos) (EvD X.K bg S0 H0 EX A (evE C (.call f os kos sel dfts))) :=
  pe_weak (k_callN hr hg hm hk F sh hx hs hkw hol hkl hdb h h2) fun σ H Q ⟨O, Γ, S, a, q⟩ => evN_D ⟨O, Γ, S, a, by
    rw [evE] at q
    refine T.all_bind.mpr (T.all_bind.mpr (T.all_imp (T.all_bind.mp q) fun ds hds => T.all_bind.mpr (T.all_imp (T.all_bind.mp hds) fun zs hzs => ?_)))
    obtain ⟨cl, hzs⟩ := T.all_need hzs
    rw [cl]
    exact T.all_imp (T.all_bind.mp hzs) fun r hr => hr⟩
end
section
variable {X : Cx} {bg : Option (Addr × Addr)} {S0 : Addr → Prop} {H0 : Hp} {EX : D → Prop} {A : List Nat} {C : Calls}
/-- a built-in function by its name, of a value or a type -/
theorem r_dc {K : PySem.W.Frag} {os : List OE} {f : Bf} {σ : L2.St} {H : Hp} {Q : VK} (q : EvD K bg S0 H0 EX A (fun Γ => (evEs C os Γ).bind fun ds => bcallD f ds) σ H Q) : tCB (rDc K EX (bcallD f)) (EvL K bg S0 H0 EX A (evEs C os)) σ H Q := by
  obtain ⟨O, Γ, S, a, q⟩ := q
  refine ⟨O, Γ, S, a, T.all_imp (T.all_bind.mp q) fun ds hds vs S1 H1 W1 E1 r1 => ?_⟩
  have a1 := a.later E1 W1
  exact ⟨bg, Gs S1 O σ A, ds, a1.gwld A, r1, T.all_imp hds fun d hd => a1.rs E1 hd⟩
/-- flat results -/
def flatRes : Bf → Bool
  | .list => false | .tuple => false | .sorted => false | .min => false | .dict => false
  | _ => true
theorem need_bl {P : D → Prop} {E : D → Prop} {c : Bool} {d : D} (hd : isFlat d = true) (h : (T.need c (.ret d)).All P E) : (T.need c (.ret d)).All (fun d => P d ∧ isFlat d = true) E := by
  cases c with
  | true => exact ⟨h, hd⟩
  | false => exact h
theorem bcallD_flat {f : Bf} {ds : List D} {P : D → Prop} {E : D → Prop} (hf : flatRes f = true) (h : (bcallD f ds).All P E) : (bcallD f ds).All (fun d => P d ∧ isFlat d = true) E := by
  cases f <;> first | (exact absurd hf Bool.false_ne_true) | skip
  all_goals (unfold bcallD at h ⊢; dsimp only at h ⊢; first | unfold lenD at h ⊢ | unfold allD at h ⊢ | unfold anyD at h ⊢ | unfold sumD at h ⊢ | unfold intD at h ⊢)
  all_goals split at h <;> first | exact need_bl rfl h | exact ⟨h, rfl⟩ | exact h.elim | (exact absurd hf Bool.false_ne_true) | (split at h <;> first | exact ⟨h, rfl⟩ | exact h.elim)
theorem bcall_flat {K : PySem.W.Frag} {A' : List Nat} {os : List OE} {f : Bf} (hf : flatRes f = true) {σ : L2.St} {H : Hp} {Q : VK} (q : EvD K bg S0 H0 EX A (fun Γ => (evEs C os Γ).bind fun ds => bcallD f ds) σ H Q) :
    EvD K bg S0 H0 EX A' (fun Γ => (evEs C os Γ).bind fun ds => bcallD f ds) σ H Q := by
  obtain ⟨O, Γ, S, a, q⟩ := q
  refine ⟨O, Γ, S, a, T.all_bind.mpr (T.all_imp (T.all_bind.mp q) fun x hx => T.all_imp (bcallD_flat hf hx) fun d hd v S' H' W E r => ?_)⟩
  exact hd.1 v S' H' W E (r.flat hd.2)
/-- what stands behind a built-in's name -/
theorem bf_ok {f : Str} {b : Bf} {k : Nat} (hr : Room k X.A) (h : bfOf f = some b) (hc : X.calm = true) : (∃ id, CallR X (.builtin id) (rDc X.K EX (bcallD b)) ∧ bootBuiltins f = some (.builtin id)) ∨ ∃ id, CallR X (.type id) (rDc X.K EX (bcallD b)) ∧ bootBuiltins f = some (.type id) := by
  have m := lk_mem h
  simp only [bfTab, List.mem_cons, List.not_mem_nil, or_false, Prod.mk.injEq] at m
  rcases m with ⟨rfl, rfl⟩ | ⟨rfl, rfl⟩ | ⟨rfl, rfl⟩ | ⟨rfl, rfl⟩ | ⟨rfl, rfl⟩ | ⟨rfl, rfl⟩ | ⟨rfl, rfl⟩ | ⟨rfl, rfl⟩ | ⟨rfl, rfl⟩ | ⟨rfl, rfl⟩
  · exact .inl ⟨_, call_len_dat, PySem.boot_len⟩
  · exact .inl ⟨_, call_all_dat hc, by decide +kernel⟩
  · exact .inl ⟨_, call_any_dat hc, by decide +kernel⟩
  · exact .inr ⟨_, call_list_dat hc, boot_list⟩
  · exact .inr ⟨_, call_tuple_dat, boot_tuple⟩
  · exact .inl ⟨_, call_sum_dat hc, by decide +kernel⟩
  · exact .inr ⟨_, call_int_dat, boot_int⟩
  · exact .inl ⟨_, call_sorted_dat (by have := hr.un; omega), by decide +kernel⟩
  · exact .inl ⟨_, call_min_dat hc (by have := hr.un; omega), by decide +kernel⟩
  · exact .inr ⟨_, call_dict_dat hc, by decide +kernel⟩
theorem bf_all : bfTab.all (fun p => frees.contains p.1 && (!(p.1 == ("__name__" : Str)) && !(p.1 == ("__debug__" : Str)))) = true := by decide +kernel
theorem bf_free {f : Str} {b : Bf} (h : bfOf f = some b) : f ∈ frees ∧ f ≠ "__name__" ∧ (f == ("__debug__" : Str)) = false := by
  have q := List.all_eq_true.mp bf_all _ (lk_mem h)
  simp only [Bool.and_eq_true, Bool.not_eq_true', List.contains_iff_mem] at q
  exact ⟨q.1, fun e => by rw [e] at q; exact absurd q.2.1 (by decide), q.2.2⟩
def isLs : Bf → Nat
  | .list => 1
  | .sorted => 2
  | _ => 0
theorem bf_lst : bfTab.all (fun p => isLs p.2 != 1 || p.1 == ("list" : Str)) = true := by decide +kernel
theorem bf_srt : bfTab.all (fun p => isLs p.2 != 2 || p.1 == ("sorted" : Str)) = true := by decide +kernel
theorem bf_list {f : Str} (h : bfOf f = some .list) : f = "list" := eq_of_beq (by simpa [isLs] using List.all_eq_true.mp bf_lst _ (lk_mem h))
theorem bf_sorted {f : Str} (h : bfOf f = some .sorted) : f = "sorted" := eq_of_beq (by simpa [isLs] using List.all_eq_true.mp bf_srt _ (lk_mem h))
theorem k_bcall {es : List Expr} {os : List OE} {f : Str} {b : Bf} {p pos : Pos} {k : Nat} (hr : Room k X.A) (A' : List Nat) (hf : bfOf f = some b) (hg : Gl X f) (hm : X.mg f = none) (hc : X.calm = true) (hs : es.any isStar = false) (hol : es.length = os.length)
    (hA : flatRes b = true ∨ ∀ i, i ∈ A' → i ∈ A) (h : PA X es (EvL X.K bg S0 H0 EX A' (evEs C os))) : PE X (.Call (.Name f p) es [] pos) (EvD X.K bg S0 H0 EX A (evE C (.bcall b os))) := by
  have step : ∀ σ H Q, EvD X.K bg S0 H0 EX A (evE C (.bcall b os)) σ H Q → EvD X.K bg S0 H0 EX A' (fun Γ => (evEs C os Γ).bind fun ds => bcallD b ds) σ H Q := fun σ H Q q => by
    have q' := ev_fun (m' := fun Γ => (evEs C os Γ).bind fun ds => bcallD b ds) (fun Γ => by rw [evE]) q
    rcases hA with z | z
    · exact bcall_flat z q'
    · exact ev_sub z q'
  cases es with
  | nil =>
    have : os = [] := by cases os with | nil => rfl | cons _ _ => cases hol
    subst this
    refine pe_false fun Γ => ?_
    rw [evE, evEs]
    cases b <;> rfl
  | cons e es =>
    rw [List.any_cons, Bool.or_eq_false_iff] at hs
    obtain ⟨f1, f2, f3⟩ := bf_free hf
    rcases bf_ok (EX := EX) hr hf hc with ⟨id, hcr, hv⟩ | ⟨id, hcr, hv⟩
    · exact pe_weak (pe_callB hcr hg hm hv h f2 f3 (starEach_cons hs.1) (starEach_plain _ _ hs.2)) fun σ H Q q => r_dc (step σ H Q q)
    · exact pe_weak (pe_callTy hcr hg hm hv h f2 f3 (starEach_cons hs.1) (starEach_plain _ _ hs.2)) fun σ H Q q => r_dc (step σ H Q q)
end
section
variable {X : Cx} {bg : Option (Addr × Addr)} {S0 : Addr → Prop} {H0 : Hp} {EX : D → Prop} {A : List Nat} {C : Calls}
theorem r_dcN {K : PySem.W.Frag} {os : List OE} {f : List D → T (List D)} {σ : L2.St} {H : Hp} {Q : VK} (q : EvN K bg S0 H0 EX A (fun Γ => (evEs C os Γ).bind fun ds => (f ds).bind fun es => .ret (.lst es, true)) σ H Q) : tCB (rDcL K EX f) (EvL K bg S0 H0 EX A (evEs C os)) σ H Q := by
  obtain ⟨O, Γ, S, a, q⟩ := q
  refine ⟨O, Γ, S, a, T.all_imp (T.all_bind.mp q) fun ds hds vs S1 H1 W1 E1 r1 => ?_⟩
  have a1 := a.later E1 W1
  refine ⟨bg, Gs S1 O σ A, ds, a1.gwld A, r1, T.all_imp (T.all_bind.mp hds) fun es hes p xs hp rx => ?_⟩
  have np : ¬ Gs S1 O σ A p := fun z => (a1.gwld A).dom p z hp
  exact hes _ S1 _ (W1.made hp (fun _ z => by cases z)) (E1.trans (.made p _ hp)) ⟨p, _, rfl, np, E1.unborn hp, upd_same, .lst (rx.mono (fun _ h => h) (fun b o s q => by rw [upd_ne (fun z => np (by rw [← z]; exact s))]; exact q) es xs)⟩
theorem k_bcallN {es : List Expr} {os : List OE} {f : Str} {b : Bf} {L : List D → T (List D)} {p pos : Pos} {k : Nat} (hr : Room k X.A) (hc : X.calm = true) (hf : bfOf f = some b) (hL : newL b = some L) (hg : Gl X f) (hm : X.mg f = none) (hs : es.any isStar = false) (hol : es.length = os.length)
    (h : PA X es (EvL X.K bg S0 H0 EX A (evEs C os))) : PE X (.Call (.Name f p) es [] pos) (EvN X.K bg S0 H0 EX A (fun Γ => (evEs C os Γ).bind fun ds => (L ds).bind fun es => .ret (.lst es, true))) := by
  obtain ⟨f1, f2, f3⟩ := bf_free hf
  cases es with
  | nil =>
    have e0 : os = [] := by cases os with | nil => rfl | cons _ _ => cases hol
    subst e0
    refine ⟨fun pins s σ H Q J ⟨O, Γ, S, a, q⟩ => ?_⟩
    have q := T.all_bind.mp q
    rw [evEs] at q
    cases b <;> first | (cases hL; done) | (cases hL; exact q.elim)
  | cons e es =>
    rw [List.any_cons, Bool.or_eq_false_iff] at hs
    cases b <;> first | (cases hL; done) | skip
    · cases hL
      have ef : f = "list" := bf_list hf
      subst ef
      exact pe_weak (pe_callTy (call_list_new hc) hg hm boot_list h f2 f3 (starEach_cons hs.1) (starEach_plain _ _ hs.2)) fun σ H Q q => r_dcN q
    · cases hL
      have ef : f = "sorted" := bf_sorted hf
      subst ef
      exact pe_weak (pe_callB (call_sorted_new (by have := hr.un; omega)) hg hm (by decide +kernel) h f2 f3 (starEach_cons hs.1) (starEach_plain _ _ hs.2)) fun σ H Q q => r_dcN q
end
end Dy

set_option linter.all false
set_option maxRecDepth 10000
set_option autoImplicit false
/-! Dy, part 9: and, or, not, if; subscripts; isinstance; methods; what is walked. -/
namespace Dy
open PySem PySem.Spec PyProof.Rows L2
section
variable {X : Cx} {bg : Option (Addr × Addr)} {S0 : Addr → Prop} {H0 : Hp} {EX : D → Prop} {A : List Nat} {C : Calls}
/-! ### as values -/
theorem k_and {pos : Pos} : ∀ {es : List Expr} {os : List OE}, es.length = os.length → (∀ (i : Nat) (e : Expr) (o : OE), es[i]? = some e → os[i]? = some o → PE X e (EvD X.K bg S0 H0 EX A (evE C o))) →
    PE X (.BoolOp .And es pos) (EvD X.K bg S0 H0 EX A (evAnd C os)) ∧ PE X (.BoolOp .Or es pos) (EvD X.K bg S0 H0 EX A (evOr C os))
  | _, [], hl, _ => ⟨pe_false fun Γ => by rw [evAnd], pe_false fun Γ => by rw [evOr]⟩
  | [], _ :: _, hl, _ => by cases hl
  | [e], [o], hl, h => ⟨pe_weak (pe_one (h 0 e o rfl rfl)) fun σ H Q q => ev_fun (fun Γ => by rw [evAnd]) q, pe_weak (pe_one (h 0 e o rfl rfl)) fun σ H Q q => ev_fun (fun Γ => by rw [evOr]) q⟩
  | [_], _ :: _ :: _, hl, _ => by cases hl
  | _ :: _ :: _, [_], hl, _ => by cases hl
  | e :: e2 :: es, o :: o2 :: os, hl, h => by
    have h0 := h 0 e o rfl rfl
    obtain ⟨i1, i2⟩ := k_and (pos := pos) (es := e2 :: es) (os := o2 :: os) (by simpa using hl) fun i e' o' h1 h2 => h (i + 1) e' o' h1 h2
    refine ⟨pe_weak (pe_andT h0 i1) fun σ H Q ⟨O, Γ, S, a, q⟩ => ?_, pe_weak (pe_orT h0 i2) fun σ H Q ⟨O, Γ, S, a, q⟩ => ?_⟩
    · rw [evAnd] at q
      refine ⟨O, Γ, S, a, T.all_imp (T.all_bind.mp q) fun x hx v S1 H1 W1 E1 r1 => ?_⟩
      have a1 := a.later E1 W1
      obtain ⟨k, tk, hk⟩ := truth_ok r1 (T.all_bind.mp hx)
      refine ⟨k, tk, ?_⟩
      cases k with
      | true => exact ⟨O, Γ, S1, a1, T.all_imp hk fun d hd w S2 H2 W2 E2 r2 => hd w S2 H2 W2 (E1.trans E2) r2⟩
      | false => exact hk v S1 H1 W1 E1 r1
    · rw [evOr] at q
      refine ⟨O, Γ, S, a, T.all_imp (T.all_bind.mp q) fun x hx v S1 H1 W1 E1 r1 => ?_⟩
      have a1 := a.later E1 W1
      obtain ⟨k, tk, hk⟩ := truth_ok r1 (T.all_bind.mp hx)
      refine ⟨k, tk, ?_⟩
      cases k with
      | false => exact ⟨O, Γ, S1, a1, T.all_imp hk fun d hd w S2 H2 W2 E2 r2 => hd w S2 H2 W2 (E1.trans E2) r2⟩
      | true => exact hk v S1 H1 W1 E1 r1
theorem k_not {e : Expr} {o : OE} {pos : Pos} (A' : List Nat) (h : PE X e (EvD X.K bg S0 H0 EX A' (evE C o))) : PE X (.UnaryOp .Not e pos) (EvD X.K bg S0 H0 EX A (evE C (.not_ o))) :=
  pe_weak (pe_notT h) fun σ H Q ⟨O, Γ, S, a, q⟩ => by
    rw [evE] at q
    refine ⟨O, Γ, S, a, T.all_imp (T.all_bind.mp q) fun x hx v S1 H1 W1 E1 r1 => ?_⟩
    obtain ⟨k, tk, hk⟩ := truth_ok r1 (T.all_bind.mp hx)
    exact ⟨k, tk, hk _ S1 H1 W1 E1 rfl⟩
theorem k_neg {e : Expr} {o : OE} {pos : Pos} (A' : List Nat) (h : PE X e (EvD X.K bg S0 H0 EX A' (evE C o))) : PE X (.UnaryOp .USub e pos) (EvD X.K bg S0 H0 EX A (evE C (.neg o))) :=
  pe_weak (pe_un un_neg h) fun σ H Q ⟨O, Γ, S, a, q⟩ => by
    rw [evE] at q
    refine ⟨O, Γ, S, a, T.all_imp (T.all_bind.mp q) fun x hx v S1 H1 W1 E1 r1 => ?_⟩
    cases x <;> first | exact hx.elim | exact ⟨_, r1, hx _ S1 H1 W1 E1 rfl⟩
theorem k_ifx {t a b : Expr} {ot : OT} {oa ob : OE} {pos : Pos} (ht : PT X t (EvB X.K bg S0 H0 EX (evT C ot))) (ha : PE X a (EvD X.K bg S0 H0 EX A (evE C oa))) (hb : PE X b (EvD X.K bg S0 H0 EX A (evE C ob))) : PE X (.IfExp t a b pos) (EvD X.K bg S0 H0 EX A (evE C (.ifx ot oa ob))) :=
  pe_weak (pe_ifExp ht ha hb) fun σ H Q ⟨O, Γ, S, a0, q⟩ => by
    rw [evE] at q
    refine ⟨O, Γ, S, a0, T.all_imp (T.all_bind.mp q) fun k hk S1 H1 W1 E1 => ?_⟩
    have a1 := a0.later E1 W1
    cases k with
    | true =>
      refine iteT ?_
      exact ⟨O, Γ, S1, a1, T.all_imp hk fun d hd w S2 H2 W2 E2 r2 => hd w S2 H2 W2 (E1.trans E2) r2⟩
    | false =>
      refine iteF ?_
      exact ⟨O, Γ, S1, a1, T.all_imp hk fun d hd w S2 H2 W2 E2 r2 => hd w S2 H2 W2 (E1.trans E2) r2⟩
/-! ### subscripts -/
theorem plain_ix {b : Expr} (h : ∀ lo hi st p, b ≠ .Slice lo hi st p) : PlainIx b := fun o i => by
  cases b <;> first | rfl | exact absurd rfl (h _ _ _ _)
/-- a key of a dict is known to all -/
theorem Rep.key {K : PySem.W.Frag} {S S' : Addr → Prop} {H : Hp} {t : Bool} {d : D} {v : V} (h : isKeyT t d = true) (W : Wld bg S' H) (r : Rep K bg S H d v) : Rep K bg S' H d v := by
  cases t with
  | false =>
    refine r.flat ?_
    have h : isKey d = true := h
    cases d <;> first | rfl | cases h
  | true =>
    obtain ⟨k, e⟩ := tkey_some h
    obtain ⟨b, ev, _, hb⟩ := tkey_rep e r
    rw [ev]
    exact rep_tkey e (W.tup _ _ hb) hb
theorem r_sub {K : PySem.W.Frag} {ma mb : Gam → T D} {σ : L2.St} {H : Hp} {Q : VK} {A' : List Nat} (q : EvD K bg S0 H0 EX A (fun Γ => (ma Γ).bind fun x => (mb Γ).bind fun y => subD x y) σ H Q) (hA : ∀ i, i ∈ A → i ∈ A) :
    tOp (rD2 K EX subD) (EvD K bg S0 H0 EX A ma) (EvD K bg S0 H0 EX A' mb) σ H Q := by
  obtain ⟨O, Γ, S, a, q⟩ := q
  refine ⟨O, Γ, S, a, T.all_imp (T.all_bind.mp q) fun x hx v S1 H1 W1 E1 r1 => ?_⟩
  have a1 := a.later E1 W1
  refine ⟨O, Γ, S1, a1, T.all_imp (T.all_bind.mp hx) fun y hy w S2 H2 W2 E2 r2 => ?_⟩
  have a2 := a1.later E2 W2
  refine ⟨bg, Gs S2 O σ A, x, y, a2.gwld A, a1.rep E2 r1, ?_, T.all_imp hy fun d hd => a2.rs (E1.trans E2) hd⟩
  cases x with
  | dct t ks vs => exact Rep.key (T.all_need hy).1 (a2.gwld A) r2
  | _ => cases y <;> first | exact r2 | exact hy.elim
theorem k_sub {a b : Expr} {oa ob : OE} {pos : Pos} {k : Nat} (hr : Room k X.A) (A' : List Nat) (hs : ∀ lo hi st p, b ≠ .Slice lo hi st p) (ha : PE X a (EvD X.K bg S0 H0 EX A (evE C oa))) (hb : PE X b (EvD X.K bg S0 H0 EX A' (evE C ob))) : PE X (.Subscript a b pos) (EvD X.K bg S0 H0 EX A (evE C (.sub oa ob))) :=
  pe_weak (pe_ix (ix_dat (room65 hr)) ha hb (plain_ix hs)) fun σ H Q q => r_sub (ev_fun (fun Γ => by rw [evE]) q) fun _ h => h
theorem k_po {o : Option Expr} {oo : Option OE} (A' : List Nat) (h : ∀ e, o = some e → ∃ oe, oo = some oe ∧ PE X e (EvD X.K bg S0 H0 EX A' (evE C oe))) (hn : o = none → oo = none) : PO X o (EvO X.K bg S0 H0 EX (evO C oo)) := by
  cases o with
  | none =>
    rw [hn rfl]
    exact po_weak po_none fun σ H Q ⟨O, Γ, S, a, q⟩ => by
      rw [evO] at q
      exact q S H a.wld .refl
  | some e =>
    obtain ⟨oe, e1, hp⟩ := h e rfl
    subst e1
    exact po_weak (po_some hp) fun σ H Q ⟨O, Γ, S, a, q⟩ => by
      rw [evO] at q
      refine ⟨O, Γ, S, a, T.all_imp (T.all_bind.mp q) fun x hx v S1 H1 W1 E1 r1 => ?_⟩
      cases x <;> first | exact hx.elim | exact ⟨_, r1, hx S1 H1 W1 E1⟩
theorem k_slice {a : Expr} {lo hi : Option Expr} {oa : OE} {ol oh : Option OE} {pos p2 : Pos} (ha : PE X a (EvD X.K bg S0 H0 EX A (evE C oa))) (hl : PO X lo (EvO X.K bg S0 H0 EX (evO C ol))) (hh : PO X hi (EvO X.K bg S0 H0 EX (evO C oh))) :
    PE X (.Subscript a (.Slice lo hi none p2) pos) (EvD X.K bg S0 H0 EX A (evE C (.slice oa ol oh))) :=
  pe_weak (pe_slice (sl_dat (EX := EX)) ha hl hh) fun σ H Q ⟨O, Γ, S, a0, q⟩ => by
    rw [evE] at q
    refine ⟨O, Γ, S, a0, T.all_imp (T.all_bind.mp q) fun x hx v S1 H1 W1 E1 r1 => ?_⟩
    have a1 := a0.later E1 W1
    refine ⟨O, Γ, S1, a1, T.all_imp (T.all_bind.mp hx) fun l hl S2 H2 W2 E2 => ?_⟩
    have a2 := a1.later E2 W2
    refine ⟨O, Γ, S2, a2, T.all_imp (T.all_bind.mp hl) fun h hh S3 H3 W3 E3 => ?_⟩
    have a3 := a2.later E3 W3
    exact ⟨bg, Gs S3 O σ A, x, a3.gwld A, a2.rep E3 (a1.rep E2 r1), T.all_imp hh fun d hd => a3.rs (E1.trans (E2.trans E3)) hd⟩
/-! ### isinstance -/
theorem typeE_ok {sc : Scope} {e : Expr} {t : Ty} (hsc : X.env.scope = sc) (hf : ∀ x, x ∈ frees → X.mg x = none) (h : typeE sc e = some t) : PE X e (tC (.ty (tyName t))) ∧ isStar e = false := by
  unfold typeE at h
  split at h
  · rename_i x p
    split at h
    · rename_i hc
      have hg : Gl X x := by show X.env.scope.names.lookup x = _; rw [hsc]; exact isGl_gl hc
      have go : ∀ n : String, x ∈ frees → bootBuiltins x = some (.type n) → x ≠ "__name__" → (x == ("__debug__" : Str)) = false → PE X (.Name x p) (tC (.ty n)) ∧ isStar (.Name x p) = false :=
        fun n e2 e3 e4 e5 => ⟨pe_bltn hg (hf x e2) e3 rfl e4 e5, rfl⟩
      unfold tyOf at h
      split at h
      · rename_i e; subst e; cases h; exact go "int" (by decide +kernel) boot_int (by decide +kernel) (by decide +kernel)
      split at h
      · rename_i e; subst e; cases h; exact go "str" (by decide +kernel) boot_str (by decide +kernel) (by decide +kernel)
      split at h
      · rename_i e; subst e; cases h; exact go "bool" (by decide +kernel) boot_bool (by decide +kernel) (by decide +kernel)
      split at h
      · rename_i e; subst e; cases h; exact go "list" (by decide +kernel) boot_list (by decide +kernel) (by decide +kernel)
      split at h
      · rename_i e; subst e; cases h; exact go "tuple" (by decide +kernel) boot_tuple (by decide +kernel) (by decide +kernel)
      cases h
    · cases h
  · cases h
theorem kit_tys : ∀ (k t : Ty), t ≠ .none → kitB (tyName k) (tyName t) = some (subTy k t) := by
  intro k t h
  cases k <;> cases t <;> first | exact absurd rfl h | decide +kernel
theorem kit_dat {K : PySem.W.Frag} {S : Addr → Prop} {H : Hp} {d : D} {v : V} {t : Ty} {b : Bool} (r : Rep K bg S H d v) (ht : t ≠ .none) (e : isTy t d = some b) : ∃ k, tyD d = some k ∧ TyX K H v (.type (tyName k)) ∧ PySem.W.kitOne K (.type (tyName k)) (.type (tyName t)) = some b := by
  obtain ⟨k, h1, h2⟩ := Option.map_eq_some_iff.mp e
  refine ⟨k, h1, r.ty h1, kit_ty ?_⟩
  rw [← h2]
  exact kit_tys k t ht
theorem kit_any {K : PySem.W.Frag} {d : D} {k : Ty} (hk : tyD d = some k) : ∀ {ts : List Ty} {b : Bool}, (∀ t ∈ ts, t ≠ .none) → isTys d ts = some b → PySem.W.kitAny K (.type (tyName k)) (ts.map fun t => Value.type (tyName t)) = some b
  | [], b, _, h => h
  | t :: ts, b, hn, h => by
    have e : PySem.W.kitOne K (.type (tyName k)) (.type (tyName t)) = some (subTy k t) := kit_ty (kit_tys k t (hn t (by simp)))
    have e2 : isTy t d = some (subTy k t) := by unfold isTy; rw [hk]; rfl
    unfold isTys at h
    rw [e2] at h
    show (match PySem.W.kitOne K (.type (tyName k)) (.type (tyName t)) with | some true => some true | some false => PySem.W.kitAny K (.type (tyName k)) (ts.map fun t => Value.type (tyName t)) | none => none) = some b
    rw [e]
    cases q : subTy k t with
    | true => rw [q] at h; exact h
    | false =>
      rw [q] at h
      exact kit_any hk (fun t z => hn t (by simp [z])) h
theorem typeE_some {sc : Scope} {e : Expr} {t : Ty} (h : typeE sc e = some t) : t ≠ .none := by
  unfold typeE at h
  split at h
  · split at h
    · unfold tyOf at h
      repeat (split at h; (cases h; intro z; cases z))
      cases h
    · cases h
  · cases h
/-- isinstance(a, T) -/
theorem k_isi1 {sc : Scope} {a e : Expr} {o : OE} {t : Ty} {p pos : Pos} (A' : List Nat) (hsc : X.env.scope = sc) (hf : ∀ x, x ∈ frees → X.mg x = none) (hg : Gl X "isinstance") (hs : isStar a = false) (ht : typeE sc e = some t) (ha : PE X a (EvD X.K bg S0 H0 EX A' (evE C o))) :
    PE X (.Call (.Name "isinstance" p) [a, e] [] pos) (EvD X.K bg S0 H0 EX A (evE C (.isi o [t]))) := by
  obtain ⟨he, hse⟩ := typeE_ok hsc hf ht
  have hpa : PA X [a, e] (tCons (EvD X.K bg S0 H0 EX A' (evE C o)) (tCons (tC (.ty (tyName t))) tNil)) := pa_cons ha (pa_cons he pa_nil (starEach_cons hse)) (starEach_cons hs)
  refine pe_weak (pe_callB call_isi hg (hf _ (by decide +kernel)) boot_isinstance hpa (by decide +kernel) (by decide +kernel) (starEach_cons hs) (starEach_plain _ _ (by rw [List.any_cons, hse]; rfl))) fun σ H Q ⟨O, Γ, S, a0, q⟩ => ?_
  rw [evE] at q
  refine ⟨O, Γ, S, a0, T.all_imp (T.all_bind.mp q) fun x hx v S1 H1 W1 E1 r1 => ?_⟩
  obtain ⟨b, eb, hb⟩ := T.all_blT hx
  unfold isTys at eb
  cases e2 : isTy t x with
  | none => rw [e2] at eb; cases eb
  | some b' =>
    have : b' = b := by
      rw [e2] at eb
      cases b' <;> (first | exact Option.some.inj eb | (unfold isTys at eb; exact Option.some.inj eb))
    subst this
    obtain ⟨k, hk, ty, kit⟩ := kit_dat r1 (typeE_some ht) e2
    exact ⟨v, .ty (tyName t), _, _, b', rfl, .ty _, ty, kit, hb _ S1 H1 W1 E1 rfl⟩
theorem pa_types {sc : Scope} (hsc : X.env.scope = sc) (hf : ∀ x, x ∈ frees → X.mg x = none) : ∀ {es : List Expr} {ts : List Ty}, typesE sc es = some ts → PA X es (fun σ H Q => Q (ts.map fun t => V.ty (tyName t)) H) ∧ (∀ t ∈ ts, t ≠ .none) ∧ es.length = ts.length
  | [], ts, h => by
    cases h
    exact ⟨pa_weak pa_nil (fun σ H Q q => q), (fun t z => absurd z List.not_mem_nil), rfl⟩
  | e :: es, ts, h => by
    unfold typesE at h
    cases h1 : typeE sc e with
    | none => rw [h1] at h; cases h
    | some t =>
      cases h2 : typesE sc es with
      | none => rw [h1, h2] at h; cases h
      | some r =>
        rw [h1, h2] at h
        cases h
        obtain ⟨i1, i2, i3⟩ := pa_types hsc hf h2
        obtain ⟨he, hse⟩ := typeE_ok hsc hf h1
        refine ⟨pa_weak (pa_cons he i1 (starEach_cons hse)) fun σ H Q q => q, fun u z => ?_, by rw [List.length_cons, List.length_cons, i3]⟩
        rcases List.mem_cons.mp z with z | z
        · rw [z]; exact typeE_some h1
        · exact i2 u z
theorem paired_ty : ∀ ts : List Ty, Paired ClsV (ts.map fun t => V.ty (tyName t)) (ts.map fun t => Value.type (tyName t))
  | [] => .nil
  | t :: ts => .cons (.ty _) (paired_ty ts)
/-- isinstance(a, (T, ..)) -/
theorem k_isiT {sc : Scope} {a : Expr} {es : List Expr} {o : OE} {ts : List Ty} {p pos p2 : Pos} {kk : Nat} (A' : List Nat) (hsc : X.env.scope = sc) (hf : ∀ x, x ∈ frees → X.mg x = none) (hg : Gl X "isinstance") (hs : isStar a = false) (ht : typesE sc es = some ts) (hl : ts.length ≤ 1000) (hne : ts ≠ []) (ha : PE X a (EvD X.K bg S0 H0 EX A' (evE C o))) :
    PE X (.Call (.Name "isinstance" p) [a, .Tuple es kk p2] [] pos) (EvD X.K bg S0 H0 EX A (evE C (.isi o ts))) := by
  obtain ⟨i1, i2, i3⟩ := pa_types hsc hf ht
  have hpa : PA X [a, .Tuple es kk p2] (tCons (EvD X.K bg S0 H0 EX A' (evE C o)) (tCons (tTup (fun σ H Q => Q (ts.map fun t => V.ty (tyName t)) H)) tNil)) := pa_cons ha (pa_cons (pe_tup i1) pa_nil (starEach_cons rfl)) (starEach_cons hs)
  refine pe_weak (pe_callB call_isiT hg (hf _ (by decide +kernel)) boot_isinstance hpa (by decide +kernel) (by decide +kernel) (starEach_cons hs) (starEach_plain _ _ rfl)) fun σ H Q ⟨O, Γ, S, a0, q⟩ => ?_
  rw [evE] at q
  refine ⟨O, Γ, S, a0, T.all_imp (T.all_bind.mp q) fun x hx v S1 H1 W1 E1 r1 => ?_⟩
  obtain ⟨b, eb, hb⟩ := T.all_blT hx
  refine ⟨by rw [List.length_map]; exact Nat.le_of_lt (small1000 hl), fun tp htp => ?_⟩
  have a1 := a0.later E1 W1
  have r2 : Rep X.K bg (Gs S1 O σ A') (upd H1 tp (.tup (ts.map fun t => V.ty (tyName t)))) x v := (Ext.made tp _ htp).rep (a1.gwld A') r1
  have step : ∀ k, tyD x = some k → (rIsiT X.K) [v, .ref tp] (upd H1 tp (.tup (ts.map fun t => V.ty (tyName t)))) Q := fun k hk =>
    ⟨v, tp, _, _, _, b, rfl, upd_same, paired_ty ts, r2.ty hk, kit_any hk i2 eb, hb _ _ _ (W1.laid htp) (E1.trans (.laid tp _ htp)) rfl⟩
  cases hk : tyD x with
  | some k => exact step k hk
  | none =>
    cases ts with
    | nil => exact absurd rfl hne
    | cons t ts =>
      unfold isTys isTy at eb
      rw [hk] at eb
      cases eb
/-! ### methods -/
theorem join_flat {d : D} {ds : List D} {P : D → Prop} {E : D → Prop} (h : (methD .join d ds).All P E) : (methD .join d ds).All (fun d => P d ∧ isFlat d = true) E := by
  unfold methD at h ⊢
  dsimp only at h ⊢
  unfold joinD at h ⊢
  split at h
  · split at h
    · exact need_bl rfl h
    · exact h.elim
  · exact h.elim
theorem k_join {o e : Expr} {oo : OE} {os : List OE} {ap pos : Pos} (A' : List Nat) (hs : isStar e = false) (hline : (ap.endLine == pos.line) = true) (hbase : attributeBase o "join" X.env (eval o X.env) = eval o X.env) (ho : PE X o (EvD X.K bg S0 H0 EX A' (evE C oo))) (ha : PA X [e] (EvL X.K bg S0 H0 EX A' (evEs C os))) :
    PE X (.Call (.Attribute o "join" ap) [e] [] pos) (EvD X.K bg S0 H0 EX A (evE C (.meth .join oo os))) := by
  refine pe_weak (pe_bm PySem.F.plainAttrs_str PySem.F.slot_str_join PySem.F.type_str_join (mt_join_dat (EX := EX)) ho ha hbase ?_ hline (starEach_cons hs) (starEach_plain _ _ rfl)) fun σ H Q ⟨O, Γ, S, a0, q⟩ => ?_
  · rw [starEach_cons hs]; rfl
  · rw [evE] at q
    refine ⟨O, Γ, S, a0, T.all_imp (T.all_bind.mp q) fun x hx v S1 H1 W1 E1 r1 => ?_⟩
    have a1 := a0.later E1 W1
    obtain ⟨c, hx⟩ := T.all_need hx
    cases x <;> first | (cases c; done) | skip
    refine ⟨by rw [r1.1]; rfl, O, Γ, S1, a1, T.all_imp (T.all_bind.mp hx) fun ds hds vs S2 H2 W2 E2 r2 => ?_⟩
    have a2 := a1.later E2 W2
    refine ⟨bg, Gs S2 O σ A', _, ds, a2.gwld A', a1.rep E2 r1, r2, T.all_imp (join_flat hds) fun d hd u S' H' W' E' r' => ?_⟩
    obtain ⟨W3, E3, s3⟩ := a2.back W' E'
    exact hd.1 u _ H' W3 (E1.trans (E2.trans E3)) (r'.flat hd.2)
end
end Dy

set_option linter.all false
set_option maxRecDepth 10000
set_option autoImplicit false
/-! Dy, part 10: tests, what is walked, list comprehensions. -/
namespace Dy
open PySem PySem.Spec PyProof.Rows L2
section
variable {X : Cx} {bg : Option (Addr × Addr)} {S0 : Addr → Prop} {H0 : Hp} {EX : D → Prop} {A : List Nat} {C : Calls}
/-! ### tests -/
theorem kt_plain {e : Expr} {o : OE} (A' : List Nat) (he : ∀ whole, isTrue e X.env whole = (do let v ← whole; standAt e.pos; holding [v] (truthy v))) (h : PE X e (EvD X.K bg S0 H0 EX A' (evE C o))) : PT X e (EvB X.K bg S0 H0 EX (evT C (.e o))) :=
  pt_weak (pt_truth h he) fun σ H Q ⟨O, Γ, S, a, q⟩ => by
    rw [evT] at q
    refine ⟨O, Γ, S, a, T.all_imp (T.all_bind.mp q) fun x hx v S1 H1 W1 E1 r1 => ?_⟩
    obtain ⟨k, tk, hk⟩ := truth_ok r1 hx
    exact ⟨k, tk, hk S1 H1 W1 E1⟩
theorem kt_not {e : Expr} {o : OT} {pos : Pos} (h : PT X e (EvB X.K bg S0 H0 EX (evT C o))) : PT X (.UnaryOp .Not e pos) (EvB X.K bg S0 H0 EX (evT C (.not_ o))) :=
  pt_weak (pt_not h) fun σ H Q ⟨O, Γ, S, a, q⟩ => by
    rw [evT] at q
    exact ⟨O, Γ, S, a, T.all_imp (T.all_bind.mp q) fun k hk S1 H1 W1 E1 => hk S1 H1 W1 E1⟩
theorem kt_and {pos : Pos} : ∀ {es : List Expr} {os : List OT}, es.length = os.length → (∀ (i : Nat) (e : Expr) (o : OT), es[i]? = some e → os[i]? = some o → PT X e (EvB X.K bg S0 H0 EX (evT C o))) →
    PW X (.BoolOp .And es pos) (EvB X.K bg S0 H0 EX (evTAnd C os)) ∧ PW X (.BoolOp .Or es pos) (EvB X.K bg S0 H0 EX (evTOr C os))
  | _, [], hl, _ => ⟨pw_false fun Γ => by rw [evTAnd], pw_false fun Γ => by rw [evTOr]⟩
  | [], _ :: _, hl, _ => by cases hl
  | [e], [o], hl, h => ⟨pw_weak (pw_and1 (h 0 e o rfl rfl)) fun σ H Q ⟨O, Γ, S, a, q⟩ => ⟨O, Γ, S, a, by rw [evTAnd] at q; exact q⟩, pw_weak (pw_or1 (h 0 e o rfl rfl)) fun σ H Q ⟨O, Γ, S, a, q⟩ => ⟨O, Γ, S, a, by rw [evTOr] at q; exact q⟩⟩
  | [_], _ :: _ :: _, hl, _ => by cases hl
  | _ :: _ :: _, [_], hl, _ => by cases hl
  | e :: e2 :: es, o :: o2 :: os, hl, h => by
    have h0 := h 0 e o rfl rfl
    obtain ⟨i1, i2⟩ := kt_and (pos := pos) (es := e2 :: es) (os := o2 :: os) (by simpa using hl) fun i e' o' h1 h2 => h (i + 1) e' o' h1 h2
    refine ⟨pw_weak (pw_and h0 i1) fun σ H Q ⟨O, Γ, S, a, q⟩ => ?_, pw_weak (pw_or h0 i2) fun σ H Q ⟨O, Γ, S, a, q⟩ => ?_⟩
    · rw [evTAnd] at q
      refine ⟨O, Γ, S, a, T.all_imp (T.all_bind.mp q) fun k hk S1 H1 W1 E1 => ?_⟩
      cases k with
      | true => exact iteT ⟨O, Γ, S1, a.later E1 W1, T.all_imp hk fun d hd S2 H2 W2 E2 => hd S2 H2 W2 (E1.trans E2)⟩
      | false => exact iteF (hk S1 H1 W1 E1)
    · rw [evTOr] at q
      refine ⟨O, Γ, S, a, T.all_imp (T.all_bind.mp q) fun k hk S1 H1 W1 E1 => ?_⟩
      cases k with
      | false => exact iteF ⟨O, Γ, S1, a.later E1 W1, T.all_imp hk fun d hd S2 H2 W2 E2 => hd S2 H2 W2 (E1.trans E2)⟩
      | true => exact iteT (hk S1 H1 W1 E1)
/-! ### what is walked -/
def iAny (K : PySem.W.Frag) (tl : TE) : TI := fun σ H R => tl σ H fun x H1 => LenOk K H1 → (∃ a, x = .ref a ∧ (∃ xs, SqL K H1 a xs) ∧ R (Itl K a) H1) ∨ (∃ a, x = .ref a ∧ (∃ xs, SqT K H1 a xs) ∧ R (Itt K a) H1) ∨ ∃ z, x = .str z ∧ R (Its z) H1
theorem pi_any {tg l : Expr} {tl : TE} (hl : PE X l tl) : PI X tg l (iAny X.K tl) := by
  refine ⟨fun pins s σ H R I h => ?_⟩
  refine thn ((pe_big hl).run pins s σ H _ I h) fun u s2 ⟨x, H2, I2, rx, cs⟩ => ?_
  rcases cs with ⟨a, e, ⟨xs, hq⟩, q⟩ | ⟨a, e, ⟨xs, hq⟩, q⟩ | ⟨z, e, q⟩
  · subst e
    cases rx
    obtain ⟨its, _, p, _⟩ := I2.list hq
    exact wpAny_pyIter_list p.isList (pi_one (tk := s2.toks) I2 _ (turn_list a _) ⟨_, Heap.get?_push_size _ rfl, rfl, rfl⟩ q)
  · subst e
    cases rx
    obtain ⟨its, _, p, _⟩ := I2.tuple hq
    exact wpAny_pyIter_tuple (show s2.heap.IsTuple a its.toArray from p) (pi_one (tk := s2.toks) I2 _ (turn_tuple a _) ⟨_, Heap.get?_push_size _ rfl, rfl, rfl⟩ q)
  · subst e
    obtain ⟨t, et⟩ := rx
    subst et
    cases ha : z.cps.all (· < 128)
    · exact wpAny_pyIter_wide ha (pi_one (tk := s2.toks) I2 _ (turn_str _ z t "str_iterator" (.inr rfl)) ⟨_, Heap.get?_push_size _ rfl, rfl, rfl⟩ q)
    · exact wpAny_pyIter_ascii ha (pi_one (tk := s2.toks) I2 _ (turn_str _ z t "str_ascii_iterator" (.inl rfl)) ⟨_, Heap.get?_push_size _ rfl, rfl, rfl⟩ q)
theorem pa_big {es : List Expr} {t : TA} (h : PA X es t) : PA X es (fun σ H Q => t σ H fun v H1 => LenOk X.K H1 → Q v H1) := ⟨fun p pins s σ H Q I q =>
  thn (h.run p pins s σ H _ I q) fun u s1 ⟨v, H1, I1, r, q1⟩ => ⟨v, H1, I1, r, q1 ⟨fun a xs z => by
    obtain ⟨its, rv, _, hz⟩ := I1.list z
    exact hz, fun a xs z => by
    obtain ⟨its, rv, _, hz⟩ := I1.tuple z
    exact hz⟩⟩⟩
theorem ki_any {tg e : Expr} {o : OE} (h : PE X e (EvD X.K bg S0 H0 EX A (evE C o))) : PI X tg e (EvI X.K bg S0 H0 EX A (evI C (.e o))) :=
  pi_weak (pi_any h) fun σ H R ⟨O, Γ, S, a, q⟩ => by
    have hl := lineM
    rw [evI] at q
    refine ⟨O, Γ, S, a, T.all_imp (T.all_bind.mp q) fun x hx v S1 H1 W1 E1 r1 len => ?_⟩
    have a1 := a.later E1 W1
    unfold itemsD at hx
    split at hx
    · obtain ⟨p, xs, e, hq, hn, it⟩ := iter_list (a1.gwld A) r1
      exact .inl ⟨p, e, ⟨xs, hq⟩, hx _ S1 H1 W1 E1 it (by rw [← hn]; exact len.1 _ _ hq)⟩
    · obtain ⟨p, xs, e, hq, hn, it⟩ := iter_tup (a1.gwld A) r1
      exact .inr (.inl ⟨p, e, ⟨xs, hq⟩, hx _ S1 H1 W1 E1 it (by rw [← hn]; exact len.2 _ _ hq)⟩)
    · obtain ⟨c, hx⟩ := T.all_need hx
      have c := of_decide_eq_true c
      exact .inr (.inr ⟨_, r1.1, hx _ S1 H1 W1 E1 (iter_str r1.2) (by rw [List.length_map, ← hl]; exact c)⟩)
    · exact hx.elim
theorem ki_rng1 {tg e : Expr} {o : OE} {p pos : Pos} (A' : List Nat) (hg : Gl X "range") (hm : X.mg "range" = none) (hs : isStar e = false) (h : PE X e (EvD X.K bg S0 H0 EX A' (evE C o))) :
    PI X tg (.Call (.Name "range" p) [e] [] pos) (EvI X.K bg S0 H0 EX A (evI C (.rng1 o))) := by
  have lr : ∀ lo n, (rangeD lo n).length = n := fun lo n => by unfold rangeD; rw [List.length_map, List.length_range]
  have hz : sizeLine = 16777216 := sizeLine_eq
  refine pi_weak (pi_range1 hg hm (pa_cons h pa_nil (starEach_cons hs)) (starEach_cons hs)) fun σ H R ⟨O, Γ, S, a, q⟩ => ?_
  rw [evI] at q
  refine ⟨O, Γ, S, a, T.all_imp (T.all_bind.mp q) fun x hx v S1 H1 W1 E1 r1 => ?_⟩
  cases x <;> first | exact hx.elim | skip
  obtain ⟨c, hds⟩ := T.all_need hx
  obtain ⟨c1, c2⟩ := of_decide_eq_true c
  exact ⟨_, by rw [show v = _ from r1], c1, by omega, hds _ S1 H1 W1 E1 (iter_rng _ _) (by rw [lr]; omega)⟩
theorem ki_rng2 {tg e e' : Expr} {o o' : OE} {p pos : Pos} (A' : List Nat) (hg : Gl X "range") (hm : X.mg "range" = none) (hs : isStar e = false) (hs' : isStar e' = false) (h : PE X e (EvD X.K bg S0 H0 EX A' (evE C o))) (h' : PE X e' (EvD X.K bg S0 H0 EX A' (evE C o'))) :
    PI X tg (.Call (.Name "range" p) [e, e'] [] pos) (EvI X.K bg S0 H0 EX A (evI C (.rng2 o o'))) := by
  have lr : ∀ lo n, (rangeD lo n).length = n := fun lo n => by unfold rangeD; rw [List.length_map, List.length_range]
  have hz : sizeLine = 16777216 := sizeLine_eq
  refine pi_weak (pi_range2 hg hm (pa_cons h (pa_cons h' pa_nil (starEach_cons hs')) (starEach_cons hs)) (by rw [starEach_cons hs, starEach_cons hs']; rfl) (starEach_cons hs')) fun σ H R ⟨O, Γ, S, a, q⟩ => ?_
  rw [evI] at q
  refine ⟨O, Γ, S, a, T.all_imp (T.all_bind.mp q) fun x hx v S1 H1 W1 E1 r1 => ?_⟩
  have a1 := a.later E1 W1
  refine ⟨O, Γ, S1, a1, T.all_imp (T.all_bind.mp hx) fun y hy v2 S2 H2 W2 E2 r2 => ?_⟩
  cases x <;> first | exact hy.elim | skip
  cases y <;> first | exact hy.elim | skip
  obtain ⟨c, hds⟩ := T.all_need hy
  obtain ⟨c1, c2, c3, c4, c5⟩ := of_decide_eq_true c
  refine ⟨_, _, by rw [show v = _ from r1, show v2 = _ from r2], ⟨c1, c2, c3, c4⟩, hds _ S2 H2 W2 (E1.trans E2) (iter_rng _ _) (by rw [lr]; omega)⟩
theorem ki_enum {e : Expr} {o : OE} {p pos tpos : Pos} {elts : List Expr} {kk : Nat} (hg : Gl X "enumerate") (hm : X.mg "enumerate" = none) (hs : isStar e = false) (h : PE X e (EvD X.K bg S0 H0 EX A (evE C o))) :
    PI X (.Tuple elts kk tpos) (.Call (.Name "enumerate" p) [e] [] pos) (EvI X.K bg S0 H0 EX A (evI C (.enum o))) := by
  refine pi_weak (pi_enum hg hm (pa_big (pa_cons h pa_nil (starEach_cons hs))) (starEach_cons hs)) fun σ H R ⟨O, Γ, S, a, q⟩ => ?_
  rw [evI] at q
  refine ⟨O, Γ, S, a, T.all_imp (T.all_bind.mp q) fun x hx v S1 H1 W1 E1 r1 len => ?_⟩
  have a1 := a.later E1 W1
  cases x <;> first | exact hx.elim | skip
  obtain ⟨p', xs, e', hq, hn, it⟩ := iter_enum (a1.gwld A) r1
  exact ⟨p', xs, by rw [e'], hq, hx _ S1 H1 W1 E1 it (by rw [enumD_len, ← hn]; exact len.1 _ _ hq)⟩
theorem ki_zip {e e2 : Expr} {o o2 : OE} {p pos tpos : Pos} {elts : List Expr} {kk : Nat} (hg : Gl X "zip") (hm : X.mg "zip" = none) (hs : isStar e = false) (hs2 : isStar e2 = false) (h : PE X e (EvD X.K bg S0 H0 EX A (evE C o))) (h2 : PE X e2 (EvD X.K bg S0 H0 EX A (evE C o2))) :
    PI X (.Tuple elts kk tpos) (.Call (.Name "zip" p) [e, e2] [] pos) (EvI X.K bg S0 H0 EX A (evI C (.zip o o2))) := by
  refine pi_weak (RZ.pi_zipA hg hm (pa_big (pa_cons h (pa_cons h2 pa_nil (starEach_cons hs2)) (starEach_cons hs))) (starEach_cons hs) (starEach_plain _ _ (by rw [List.any_cons, hs2]; rfl))) fun σ H R ⟨O, Γ, S, a, q⟩ => ?_
  rw [evI] at q
  refine ⟨O, Γ, S, a, T.all_imp (T.all_bind.mp q) fun x hx v S1 H1 W1 E1 r1 => ?_⟩
  have a1 := a.later E1 W1
  refine ⟨O, Γ, S1, a1, T.all_imp (T.all_bind.mp hx) fun y hy v2 S2 H2 W2 E2 r2 len => ?_⟩
  have a2 := a1.later E2 W2
  have r1' := a1.rep E2 r1
  split at hy
  · obtain ⟨pa, pb, xs, ys, ea, eb, ha, hb, hn, it⟩ := iter_zipL (a2.gwld A) r1' r2
    refine ⟨pa, pb, xs, ys, by rw [ea, eb], .inl ⟨ha, hb, hy _ S2 H2 W2 (E1.trans E2) it ?_⟩⟩
    have := len.1 _ _ ha
    rw [zipD_len]
    omega
  · obtain ⟨pa, pb, xs, ys, ea, eb, ha, hb, hn, it⟩ := iter_zipT (a2.gwld A) r1' r2
    refine ⟨pa, pb, xs, ys, by rw [ea, eb], .inr ⟨ha, hb, hy _ S2 H2 W2 (E1.trans E2) it ?_⟩⟩
    have := len.2 _ _ ha
    rw [zipD_len]
    omega
  · exact hy.elim
end

/-! ### an own object is written -/
section
variable {bg : Option (Addr × Addr)} {S S' : Addr → Prop} {H1 H H' : Hp} {D' : Addr} {o o' : HO}
theorem Wld.write (W0 : Wld bg S H1) (W : Wld bg S' H) (h0 : H1 D' = none) (hD : H D' = some o) (nt : ∀ ys, o' ≠ .tup ys) : Wld bg S' (upd H D' o') := ⟨fun a h => by
  by_cases e : a = D'
  · rw [e, upd_same]; simp
  · rw [upd_ne e]; exact W.dom a h, fun b e => by
    obtain ⟨B, n, ne⟩ := W.bag b e
    obtain ⟨B0, _, _⟩ := W0.bag b e
    have n1 : b.1 ≠ D' := fun z => B0.there.1 (z ▸ h0)
    have n2 : b.2 ≠ D' := fun z => B0.there.2 (z ▸ h0)
    exact ⟨B.stay (fun o q => by rw [upd_ne n1]; exact q) (fun o q => by rw [upd_ne n2]; exact q), n, ne⟩, fun a xs z => by
  by_cases e : a = D'
  · rw [e, upd_same] at z
    exact absurd (Option.some.inj z) (nt xs)
  · rw [upd_ne e] at z
    exact W.tup a xs z⟩
theorem Ext.write (E : Ext bg S H1 S' H) (h0 : H1 D' = none) : Ext bg S H1 S' (upd H D' o') := ⟨E.sub, E.new, fun a u h n => by
  rw [upd_ne (ne_of_none h h0)]; exact E.keep a u h n, fun a h => by
  by_cases e : a = D'
  · rw [e, upd_same]; simp
  · rw [upd_ne e]; exact E.dom a h⟩
theorem Reps.write {K : PySem.W.Frag} {ds : List D} {vs : List V} (r : Reps K bg S H ds vs) (n : ¬ S D') : Reps K bg S (upd H D' o') ds vs :=
  r.mono (fun _ h => h) (fun a u s q => by rw [upd_ne (fun z => n (by rw [← z]; exact s))]; exact q) ds vs
theorem Rep.write {K : PySem.W.Frag} {ds : D} {vs : V} (r : Rep K bg S H ds vs) (n : ¬ S D') : Rep K bg S (upd H D' o') ds vs :=
  r.mono (fun _ h => h) (fun a u s q => by rw [upd_ne (fun z => n (by rw [← z]; exact s))]; exact q) ds vs
end
theorem wipe_at (τ : L2.St) (j : Nat) : ∀ us : List Nat, (wipe τ us)[j]? = if j ∈ us then (if j < τ.length then some none else none) else τ[j]?
  | [] => by simp [wipe]
  | u :: us => by
    show ((wipe τ us).set u none)[j]? = _
    have ih := wipe_at τ j us
    by_cases uj : u = j
    · subst uj
      by_cases hl : u < τ.length
      · rw [List.getElem?_set_self (by rw [wipe_length]; exact hl)]
        simp [hl]
      · rw [List.getElem?_eq_none (by simp [wipe_length]; omega)]
        simp [hl]
    · rw [List.getElem?_set_ne uj, ih]
      by_cases m : j ∈ us
      · simp [m]
      · have : ¬ j = u := fun z => uj z.symm
        simp [m, this]
theorem wipe_wipe (τ : L2.St) (us : List Nat) : wipe (wipe τ us) us = wipe τ us := by
  apply List.ext_getElem?
  intro j
  rw [wipe_at, wipe_at, wipe_length]
  by_cases m : j ∈ us <;> simp [m]

/-! ### list comprehensions -/
section
variable {X : Cx} {bg : Option (Addr × Addr)} {S0 : Addr → Prop} {H0 : Hp} {EX : D → Prop} {A : List Nat} {C : Calls}
/-- no exception is let out of a comprehension -/
abbrev NX : D → Prop := fun _ => False
/-- a comprehension's data -/
def lcF (C : Calls) (t : Tg) (vs : List Nat) (ot : List OT) (oe : OE) (Γ : Gam) : D → T (Option D) := fun d => ((T.ofOpt (bindTg t d (wipeG Γ vs))).bind fun Γ' => (evTs C ot Γ').bind fun b => match b with
      | true => (evE C oe Γ').bind fun x => T.ret (some x)
      | false => T.ret none).still
theorem evE_lc (oe : OE) (vs : List Nat) (t : Tg) (oi : OI) (ot : List OT) (Γ : Gam) : evE C (.lc oe vs t oi ot) Γ = (evI C oi Γ).bind fun ds => (lcLoop (lcF C t vs ot oe Γ) ds).bind fun xs => .ret (.lst xs) := by
  rw [evE]
  rfl
theorem lc_read {K : PySem.W.Frag} {vs : List Nat} {oi : OI} {oe : OE} {ot : List OT} {t : Tg} (htg : ∀ i, i ∈ tgs t → i ∈ vs) {σ : L2.St} {H : Hp} {Q : VK}
    (q : EvN K bg S0 H0 EX A (fun Γ => (evI C oi Γ).bind fun ds => (lcLoop (lcF C t vs ot oe Γ) ds).bind fun xs => .ret (.lst xs, true)) σ H Q) :
    tLc (EvI K bg S0 H0 EX A (evI C oi)) (gOf K t) (EvB K bg S0 H0 NX (evTs C ot)) (EvD K bg S0 H0 NX A (evE C oe)) vs σ H Q := by
  obtain ⟨O, Γ, S, a, q⟩ := q
  refine ⟨O, Γ, S, a, T.all_imp (T.all_bind.mp q) fun ds hds J S1 H1 W1 E1 it hlen D' hD => ?_⟩
  have a1 := a.later E1 W1
  have af := a1.freeze A
  generalize hF : lcF C t vs ot oe Γ = F at hds
  have hds := T.all_bind.mp hds
  refine ⟨fun i m H2 => m = ds.length - i ∧ i ≤ ds.length ∧ ∃ S2 acc racc, Wld bg S2 H2 ∧ Ext bg (Gs S1 O σ A) H1 S2 H2 ∧ H2 D' = some (.lst acc) ∧ ¬ S2 D' ∧ Reps K bg S2 H2 racc acc ∧ racc.length ≤ i ∧
      (lcLoop F (ds.drop i)).All (fun rs => ∀ v S' H', Wld bg S' H' → Ext bg S H S' H' → ResN K bg (Gs S' O σ A) H H' (.lst (racc ++ rs), true) v → Q v H') EX,
    ⟨ds.length, by simp, Nat.zero_le _, Gs S1 O σ A, [], [], (a1.gwld A).made hD (fun _ z => by cases z), .made D' _ hD, upd_same, fun z => (a1.gwld A).dom D' z hD, rfl, Nat.zero_le _, hds⟩, ?_⟩
  rintro i m H2 ⟨rfl, hi, S2, acc, racc, W2, E2, hacc, nD, racc_ok, hle, rest⟩
  obtain ⟨it1, it2⟩ := it i S2 H2 W2 (E2.sta (a1.gwld A))
  by_cases hlt : i < ds.length
  · obtain ⟨d, hd⟩ : ∃ d, ds[i]? = some d := ⟨ds[i], List.getElem?_eq_getElem hlt⟩
    obtain ⟨go, yl⟩ := it2 d hd
    refine .inr ⟨go, fun H' => ∃ S2 acc racc, Wld bg S2 H' ∧ Ext bg (Gs S1 O σ A) H1 S2 H' ∧ H' D' = some (.lst acc) ∧ ¬ S2 D' ∧ Reps K bg S2 H' racc acc ∧ racc.length ≤ i + 1 ∧
      (lcLoop F (ds.drop (i + 1))).All (fun rs => ∀ v S' H', Wld bg S' H' → Ext bg S H S' H' → ResN K bg (Gs S' O σ A) H H' (.lst (racc ++ rs), true) v → Q v H') EX,
      fun H' z => ⟨ds.length - (i + 1), by omega, rfl, hlt, z⟩, fun x H3 hy => ?_⟩
    obtain ⟨S3, W3, E3, r3⟩ := yl x H3 hy
    have e_drop : ds.drop i = d :: ds.drop (i + 1) := by
      rw [List.drop_eq_getElem_cons hlt]
      rw [List.getElem?_eq_getElem hlt] at hd
      cases hd
      rfl
    rw [e_drop] at rest
    have rest := T.all_bind.mp (show ((F d).bind fun r => (lcLoop F (ds.drop (i + 1))).bind fun rs => T.ret (match r with | some x => x :: rs | none => rs)).All _ EX from rest)
    rw [← hF] at rest
    unfold lcF at rest hF
    have rest := T.all_bind.mp (T.all_still (E' := NX) rest)
    obtain ⟨Γ', eΓ, rest⟩ := T.all_ofOpt rest
    have rest := T.all_bind.mp rest
    have a3 := (af.later (E2.trans E3) W3).wiped vs
    have hD3 : H3 D' = some (.lst acc) := E3.keep D' _ hacc (fun ⟨b, eb, z⟩ => ((W1.bag b eb).1.there).1 (z ▸ hD))
    have nD3 : ¬ S3 D' := fun z => by
      rcases E3.new D' z with z | z
      · exact nD z
      · rw [hacc] at z; cases z
    refine gOf_ok t d x _ _ Γ' _ _ a3 r3 eΓ fun σ' a4 wp => ⟨(wp vs htg).trans (wipe_wipe σ vs), ?_⟩
    refine ⟨_, Γ', S3, a4, T.all_imp rest fun b hb S4 H4 W4 E4 => ?_⟩
    have hD4 : H4 D' = some (.lst acc) := E4.keep D' _ hD3 (fun ⟨b, eb, z⟩ => ((W1.bag b eb).1.there).1 (z ▸ hD))
    have nD4 : ¬ S4 D' := fun z => by
      rcases E4.new D' z with z | z
      · exact nD3 z
      · rw [hD3] at z; cases z
    have E24 := E3.trans E4
    cases b with
    | false =>
      refine iteF ⟨S4, acc, racc, W4, E2.trans E24, hD4, nD4, E24.reps W2 racc_ok, by omega, ?_⟩
      have hb := T.all_bind.mp hb
      rw [hF] at hb
      exact T.all_imp hb fun rs h v S' H' W E r => h v S' H' W E r
    | true =>
      refine iteT ?_
      have hb := T.all_bind.mp hb
      refine ⟨_, Γ', S4, a4.later E4 W4, T.all_imp hb fun y hy w S5 H5 W5 E5 r5 => ?_⟩
      have E25 := E24.trans E5
      have hD5 : H5 D' = some (.lst acc) := E5.keep D' _ hD4 (fun ⟨b, eb, z⟩ => ((W1.bag b eb).1.there).1 (z ▸ hD))
      have nD5 : ¬ S5 D' := fun z => by
        rcases E5.new D' z with z | z
        · exact nD4 z
        · rw [hD4] at z; cases z
      -- nothing of A is one's own here
      have r5' : Rep K bg S5 H5 y w := r5.mono (fun p z => by
        rcases z with z | ⟨j, jA, jO, _⟩
        · exact z
        · have := (List.mem_filter.mp (List.mem_filter.mp (dropT_sub t _ j jO)).1).2
          exact absurd jA (of_decide_eq_true this)) (fun _ _ _ z => z) y w
      have racc5 := E25.reps W2 racc_ok
      have hal := racc5.length
      refine ⟨acc, hD5, by omega, S5, acc ++ [w], racc ++ [y], Wld.write (a1.gwld A) W5 hD hD5 (fun _ z => by cases z), (E2.trans E25).write hD, upd_same, nD5, (racc5.write nD5).append ⟨w, [], rfl, r5'.write nD5, rfl⟩, by rw [List.length_append]; show racc.length + 1 ≤ i + 1; omega, ?_⟩
      have hy := T.all_bind.mp hy
      rw [hF] at hy
      refine T.all_imp hy fun rs h v S' H' W E r => h v S' H' W E (by rw [List.append_assoc] at r; exact r)
  · have ei : i = ds.length := by omega
    subst ei
    refine .inl ⟨it1 (Nat.le_refl _), ?_⟩
    rw [List.drop_length] at rest
    have rest : ∀ v S' H', Wld bg S' H' → Ext bg S H S' H' → ResN K bg (Gs S' O σ A) H H' (.lst (racc ++ []), true) v → Q v H' := rest
    rw [List.append_nil] at rest
    obtain ⟨W6, E6, s6⟩ := a1.back W2 E2
    refine rest (.ref D') _ H2 W6 (E1.trans E6) ⟨D', _, rfl, fun z => nD ?_, E1.unborn hD, hacc, .lst (racc_ok.mono s6 (fun _ _ _ z => z) racc acc)⟩
    rcases z with (z | ⟨z, _⟩) | ⟨i, z1, z2, z3⟩
    · exact E2.sub _ (.inl z)
    · exact z
    · exact E2.sub _ (.inr ⟨i, z1, z2, z3⟩)
theorem k_lcN {elt tg iter : Expr} {ifs : List Expr} {scope : Scope} {own : List (Str × Nat)} {pos : Pos} {oi : OI} {oe : OE} {ot : List OT} {t : Tg} (hc : X.calm = true) (hN : X.N.Nodup) (hi : PI X tg iter (EvI X.K bg S0 H0 EX A (evI C oi))) (ok : BlkOk X.N X.env.scope scope own)
    (hg : ∀ (s : Shared) (H : Hp) (c : Addr) (cl : List (Str × Addr)) (fp : List Addr), PG (X.blk s H scope (compEnvC scope cl c X.env) fp) tg (gOf X.K t))
    (ht : ∀ (s : Shared) (H : Hp) (c : Addr) (cl : List (Str × Addr)) (fp : List Addr), PTs (X.blk s H scope (compEnvC scope cl c X.env) fp) ifs (EvB X.K bg S0 H0 NX (evTs C ot)))
    (he : ∀ (s : Shared) (H : Hp) (c : Addr) (cl : List (Str × Addr)) (fp : List Addr), PE (X.blk s H scope (compEnvC scope cl c X.env) fp) elt (EvD X.K bg S0 H0 NX A (evE C oe)))
    (hs : ∀ x, foldedSetIterable iter X.env x = pure x) (htg : ∀ i, i ∈ tgs t → i ∈ own.map (·.2)) :
    PE X (.ListComp elt [⟨tg, iter, ifs, 0⟩] scope pos) (EvN X.K bg S0 H0 EX A (fun Γ => (evI C oi Γ).bind fun ds => (lcLoop (lcF C t (own.map (·.2)) ot oe Γ) ds).bind fun xs => .ret (.lst xs, true))) :=
  pe_weak (pe_lc hc hN hi ok hg ht he hs) fun σ H Q q => lc_read htg q
theorem k_lc {elt tg iter : Expr} {ifs : List Expr} {scope : Scope} {own : List (Str × Nat)} {pos : Pos} {oi : OI} {oe : OE} {ot : List OT} {t : Tg} (h : PE X (.ListComp elt [⟨tg, iter, ifs, 0⟩] scope pos) (EvN X.K bg S0 H0 EX A (fun Γ => (evI C oi Γ).bind fun ds => (lcLoop (lcF C t (own.map (·.2)) ot oe Γ) ds).bind fun xs => .ret (.lst xs, true)))) :
    PE X (.ListComp elt [⟨tg, iter, ifs, 0⟩] scope pos) (EvD X.K bg S0 H0 EX A (evE C (.lc oe (own.map (·.2)) t oi ot))) :=
  pe_weak h fun σ H Q q => evN_D (ev_fun (fun Γ => by rw [evE_lc, T.bind_assoc]; congr 1; funext ds; rw [T.bind_assoc]; rfl) q)
end
end Dy

set_option linter.all false
set_option maxRecDepth 10000
set_option autoImplicit false
/-! Dy, sets 1: sets of tuples of ints and texts, as the machine keeps them. -/
namespace Dy
open PySem PySem.Spec PyProof.Rows L2

/-- the hash of a row of keys -/
abbrev hK (P : Program) (w : World) (k : List Key) : Int := tupleKeyHash (mixKind P w) k
/-- at the address stands the tuple of these keys -/
abbrev IsK (P : Program) (w : World) (h : Heap) (p : Addr × List Key) : Prop := IsTupleKey (mixKind P w) h p.2 p.1
def entK (P : Program) (w : World) (p : Addr × List Key) : Int × Value := (hK P w p.2, .ref p.1)

section
variable {P : Program} {w : World} {A : Around} {E : Value → Shared → Prop} {s : Shared}
theorem items_ofA {k : List Key} {vs : List Value} (i : ItemsAre (mixKind P w) k vs) (n : Nat) : ∀ v ∈ vs, ofAClassStatement n v = pure false := by
  induction i with
  | nil => intro v hv; cases hv
  | cons h1 _ ih =>
    intro v hv
    rcases List.mem_cons.mp hv with rfl | hv
    · rcases keyIs_shape h1 with ⟨i, t, rfl, rfl⟩ | ⟨x, t, rfl, rfl⟩ <;> (cases n <;> rfl)
    · exact ih v hv
theorem items_hby {k : List Key} {vs : List Value} (i : ItemsAre (mixKind P w) k vs) (n : Nat) : ∀ v ∈ vs, ∃ b, hashByValue n v = pure b := by
  induction i with
  | nil => intro v hv; cases hv
  | cons h1 _ ih =>
    intro v hv
    rcases List.mem_cons.mp hv with rfl | hv
    · rcases keyIs_shape h1 with ⟨i, t, rfl, rfl⟩ | ⟨x, t, rfl, rfl⟩
      · exact ⟨true, by cases n <;> rfl⟩
      · exact ⟨false, by cases n <;> rfl⟩
    · exact ih v hv
/-- no tuple of keys is of an own class, nor are its items -/
theorem own_not {p : Addr × List Key} {Q : Bool → Shared → Prop} (hp : IsK P w s.heap p) (q : Q false s) : wpAny (model P w) A (ofAClassStatement 8 (.ref p.1)) Q E s := by
  have ty := hp.typeIs
  obtain ⟨o, its, n, eo, _, ed, ei⟩ := hp
  unfold ofAClassStatement
  refine wpAny_bind (wpAny_typeOf ty ?_)
  dsimp only
  rw [show (("tuple" : String) == "tuple") = true from by decide]
  simp only [if_true, Bool.not_true, Bool.false_eq_true, if_false]
  try refine wpAny_bind (wpAny_pure ?_)
  try simp only [Bool.not_true, Bool.false_eq_true, if_false]
  refine wpAny_bind (wpAny_seqItems eo ed ?_)
  dsimp only
  refine wpAny_bind ?_
  rw [← Array.forIn_toList]
  refine wpAny_forIn_list _ (fun rest r s' => (s' = s ∧ r.1 = none) ∧ ∀ v ∈ rest, ofAClassStatement 7 v = pure false) _ ?_ ?_ _ _ ⟨⟨rfl, rfl⟩, items_ofA ei 7⟩
  · rintro v rest r s' ⟨⟨rfl, hr⟩, all⟩
    rw [all v List.mem_cons_self]
    refine wpAny_bind (wpAny_pure ?_)
    simp only [Bool.false_eq_true, if_false]
    exact wpAny_pure ⟨⟨rfl, rfl⟩, fun u hu => all u (List.mem_cons_of_mem _ hu)⟩
  · rintro ⟨r1, r2⟩ s' ⟨⟨rfl, hr⟩, _⟩
    obtain rfl : r1 = none := hr
    exact wpAny_pure q
/-- whether a tuple's hash is one by value: some answer -/
theorem hby_any {p : Addr × List Key} {Q : Bool → Shared → Prop} (hp : IsK P w s.heap p) (q : ∀ b, Q b s) : wpAny (model P w) A (hashByValue 8 (.ref p.1)) Q E s := by
  have ty := hp.typeIs
  obtain ⟨o, its, n, eo, _, ed, ei⟩ := hp
  unfold hashByValue
  refine wpAny_bind (wpAny_specialOf ty F.slot_tuple_hash.lookup ?_)
  show wpAny _ _ (seqItems? (.ref p.1) >>= _) _ _ s
  refine wpAny_bind (wpAny_seqItems eo ed ?_)
  refine wpAny_bind ?_
  show wpAny _ _ (forIn its _ _) _ _ s
  rw [← Array.forIn_toList]
  refine wpAny_forIn_list _ (fun rest r s' => s' = s ∧ ∀ v ∈ rest, ∃ b, hashByValue 7 v = pure b) _ ?_ ?_ _ _ ⟨rfl, items_hby ei 7⟩
  · rintro v rest r s' ⟨rfl, all⟩
    obtain ⟨b, eb⟩ := all v List.mem_cons_self
    rw [eb]
    refine wpAny_bind (wpAny_pure ?_)
    cases b with
    | true =>
      simp only [Bool.not_true, Bool.false_eq_true, if_false]
      exact wpAny_pure ⟨rfl, fun u hu => all u (List.mem_cons_of_mem _ hu)⟩
    | false =>
      simp only [Bool.not_false, if_true]
      exact wpAny_pure (wpAny_pure (q _))
  · rintro ⟨r1, r2⟩ s' ⟨rfl, _⟩
    cases r1 with
    | none => exact wpAny_pure (q _)
    | some b => exact wpAny_pure (q _)
/-- looking among tuples is seen by nobody -/
theorem unseen {p : Addr × List Key} {ys : List Value} {Q : Bool → Shared → Prop} (hp : IsK P w s.heap p) (hy : ∀ y ∈ ys, ∃ r, y = Value.ref r.1 ∧ IsK P w s.heap r) (q : Q false s) : wpAny (model P w) A (searchCouldBeSeen (.ref p.1) ys) Q E s := by
  unfold searchCouldBeSeen
  refine wpAny_bind ?_
  refine wpAny_forIn_list _ (fun rest r s' => (s' = s ∧ r.1 = none) ∧ ∀ y ∈ rest, ∃ r, y = Value.ref r.1 ∧ IsK P w s.heap r) _ ?_ ?_ _ _ ⟨⟨rfl, rfl⟩, hy⟩
  · rintro v rest r s' ⟨⟨rfl, hr⟩, all⟩
    obtain ⟨c, rfl, hc⟩ := all v List.mem_cons_self
    have tl : ∀ y ∈ rest, ∃ r, y = Value.ref r.1 ∧ IsK P w s'.heap r := fun u hu => all u (List.mem_cons_of_mem _ hu)
    dsimp only
    by_cases same : (p.1 == c.1 || (carriedByValue (.ref p.1) && carriedByValue (.ref c.1))) = true
    · exact wp_if_pos same (wpAny_pure ⟨⟨rfl, rfl⟩, tl⟩)
    · refine wp_if_neg same ?_
      refine wpAny_bind (wpAny_eqIsQuiet_tuple hp ?_)
      simp only [Bool.not_true, Bool.false_eq_true, if_false]
      refine wpAny_bind (wpAny_eqIsQuiet_tuple hc ?_)
      simp only [Bool.not_true, Bool.false_eq_true, if_false]
      refine wpAny_bind (own_not hp ?_)
      simp only [Bool.false_eq_true, if_false]
      refine wpAny_bind (own_not hc ?_)
      simp only [Bool.false_eq_true, if_false]
      exact wpAny_pure ⟨⟨rfl, rfl⟩, tl⟩
  · rintro ⟨r1, r2⟩ s' ⟨⟨rfl, hr⟩, _⟩
    obtain rfl : r1 = none := hr
    exact wpAny_pure q
end

/-- the bag of the rows L at a -/
structure Bag (P : Program) (w : World) (h : Heap) (a : Addr) (L : List (Addr × List Key)) (es : Array (Int × Value)) (ep : Nat) (t : SetTable) : Prop where
  obj : ∃ o, (h.get? a = some o ∧ o.ExactSet) ∧ o.data = .set es ep t
  ents : es.toList = L.map (entK P w)
  diff : (L.map (·.2)).Nodup
  keys : ∀ p ∈ L, IsK P w h p
  shown : w.params.followText "set-order" = true ∨ t.led = true
  tabl : TabOk t (L.map fun p => hK P w p.2)
  wide : L.length * 5 < t.mask * 3 ∧ L.length < 64
section
variable {P : Program} {w : World} {A : Around} {E : Value → Shared → Prop} {s : Shared} {a : Addr} {L : List (Addr × List Key)} {es : Array (Int × Value)} {ep : Nat} {t : SetTable}
theorem Bag.many {h : Heap} (B : Bag P w h a L es ep t) : es.size = L.length := by rw [← Array.length_toList, B.ents, List.length_map]
theorem Bag.places {h : Heap} (B : Bag P w h a L es ep t) : t.place.size = L.length := by rw [B.tabl.sz, List.length_map]
theorem fits_of {n : Nat} (h1 : t.place.size = n) (h2 : t.dummies = #[]) (h3 : n ≤ t.mask) : t.fits n = true := by
  unfold SetTable.fits SetTable.fill
  rw [h2, Bool.and_eq_true, beq_iff_eq, decide_eq_true_eq]
  show t.place.size = n ∧ t.place.size + 0 ≤ t.mask
  omega
theorem Bag.fit {h : Heap} (B : Bag P w h a L es ep t) : t.fits es.size = true := by
  have := B.wide.1
  exact fits_of (B.places.trans B.many.symm) B.tabl.dm (by rw [B.many]; omega)
theorem Bag.at {h : Heap} (B : Bag P w h a L es ep t) {i : Nat} {p : Addr × List Key} (e : L[i]? = some p) : es[i]? = some (entK P w p) := by
  rw [← Array.getElem?_toList, B.ents, List.getElem?_map, e]
  rfl

/-- the steps of a search, from the step c on: (K the first empty slot) -/
theorem Bag.seek (B : Bag P w s.heap a L es ep t) {x : Addr × List Key} (hx : IsK P w s.heap x) (hu : A.units < cLine) {K : Nat} (k1 : K < 10 * SetTable.turns t.mask) (k2 : way t.mask (hK P w x.2) K ∉ t.place.toList)
    (k3 : ∀ c, c < K → way t.mask (hK P w x.2) c ∈ t.place.toList) {Q : SetFound → Shared → Prop} (yes : x.2 ∈ L.map (·.2) → Q (.there none) s) (no : x.2 ∉ L.map (·.2) → Q (.free (way t.mask (hK P w x.2) K) false) s)
    (f : Nat) : ∀ (c : Nat) (stand : Option SetTable.Probe), stand.getD (t.probeStart (hK P w x.2)) = nth t.mask (t.probeStart (hK P w x.2)) c → c ≤ K → K - c < f →
      (∀ (i : Nat) p, L[i]? = some p → p.2 = x.2 → ∃ c', (c ≤ c' ∧ c' < K) ∧ t.place.toList[i]? = some (way t.mask (hK P w x.2) c')) →
      wpAny (model P w) A (setSearchFrom a (.ref x.1) (hK P w x.2) true f stand) Q E s := by
  generalize hh : hK P w x.2 = h at k2 k3 no ⊢
  generalize hp0 : t.probeStart h = p0 at ⊢
  have wy : ∀ k, way t.mask h k = (nth t.mask p0 k).j := fun k => by rw [← hp0]; rfl
  have nd : ∀ n, (nth t.mask p0 n).dummy = none := fun n => by
    have key : ∀ (n : Nat) (p : SetTable.Probe), p.dummy = none → (nth t.mask p n).dummy = none := by
      intro n
      induction n with
      | zero => exact fun p e => e
      | succ n ih => exact fun p e => ih (adv t.mask p) (by unfold adv; split <;> exact e)
    exact key n p0 (by rw [← hp0]; rfl)
  have jn : ∀ c q, (nth t.mask (nth t.mask p0 c) q).j = way t.mask h (c + q) := fun c q => by rw [wy, ← nth_add]
  obtain ⟨o, ⟨eo, _⟩, ed⟩ := B.obj
  have hAt : ∀ (i : Nat) p, L[i]? = some p → (es[i]?.map (·.1)).getD 0 = hK P w p.2 := fun i p e => by
    rw [B.at e]
    rfl
  induction f with
  | zero => exact fun c _ _ _ z => absurd z (Nat.not_lt_zero _)
  | succ f ih =>
    intro c stand es0 hc hf left
    rw [setSearchFrom_succ]
    refine wpAny_bind (wpAny_setState_of eo ed B.fit ?_)
    dsimp only
    refine wp_if_neg (by unfold SetTable.gaveWay; rw [mask_odd B.tabl.mok]; decide) ?_
    try refine wpAny_bind (wpAny_pure ?_)
    have spec := go_spec t B.tabl.ris B.tabl.dm (fun i => (es[i]?.map (·.1)).getD 0) h (10 * SetTable.turns t.mask) (K - c) (nth t.mask p0 c) (nd c) (by omega)
      (fun q hq => by rw [jn]; exact k3 _ (by omega)) (by rw [jn, show c + (K - c) = K from by omega]; exact k2)
    rcases spec with ⟨q, i, hq, hi, ehash, fresh, go⟩ | ⟨fresh, go⟩
    · have probe : t.probe (fun i => (es[i]?.map (·.1)).getD 0) h (stand.getD (t.probeStart h)) = some (.candidate (way t.mask h (c + q)) i (nth t.mask p0 (c + (q + 1)))) := by
        rw [hp0, es0, ← jn c q, nth_add]
        exact go
      rw [hp0] at probe
      rw [hp0, probe]
      dsimp only
      rw [jn] at hi
      have il : i < L.length := by
        have z := (List.getElem?_eq_some_iff.mp hi).1
        rw [Array.length_toList, B.places] at z
        exact z
      obtain ⟨p, ep0⟩ : ∃ p, L[i]? = some p := ⟨_, List.getElem?_eq_getElem il⟩
      have pm := List.mem_of_getElem? ep0
      have live := slot_live B.tabl.ris hi
      have behind : wpAny (model P w) A (searchRest a (.ref x.1) h true f es t (way t.mask h (c + q)) i (nth t.mask p0 (c + (q + 1)))) Q E s := by
        unfold searchRest
        rw [B.at ep0]
        dsimp only [entK]
        refine wpAny_bind (wpAny_holding (wpAny_eqBool_tuple hu (B.keys p pm) hx ?_))
        refine wpAny_bind (wpAny_setState_of eo ed B.fit ?_)
        dsimp only
        by_cases eq : p.2 = x.2
        · exact wp_if_pos (by simp [eq]) (wpAny_pure (yes (List.mem_map.mpr ⟨p, pm, eq⟩)))
        refine wp_if_neg (by simp [eq]) ?_
        try refine wpAny_bind (wpAny_pure ?_)
        rw [sameMem]
        dsimp only
        simp only [if_true, live, B.at ep0, entK]
        refine wpAny_bind (wpAny_isSame_ref_self (wpAny_bind (wpAny_pure ?_)))
        simp only [if_true]
        refine wp_if_neg (by simp [eq]) ?_
        refine ih (c + (q + 1)) _ rfl (by omega) (by omega) fun i1 p1 e1 e2 => ?_
        obtain ⟨c', ⟨b1, b2⟩, b3⟩ := left i1 p1 e1 e2
        refine ⟨c', ⟨?_, b2⟩, b3⟩
        rcases Nat.lt_trichotomy c' (c + q) with z | z | z
        · refine absurd ?_ (fresh (c' - c) i1 (by omega) (by rw [jn, show c + (c' - c) = c' from by omega]; exact b3))
          rw [hAt i1 p1 e1, e2, hh]
        · rw [z] at b3
          have l1 := slot_live B.tabl.ris b3
          rw [live] at l1
          injection l1 with l1
          rw [← l1, ep0] at e1
          cases e1
          exact absurd e2 eq
        · omega
      by_cases ld : t.led = true
      · refine wp_if_neg (by simp [ld]) ?_
        try refine wpAny_bind (wpAny_pure ?_)
        exact behind
      · refine wp_if_pos (by simp [ld]) ?_
        refine wpAny_bind (unseen hx (fun y hy => ?_) ?_)
        · obtain ⟨e, he, rfl⟩ := List.mem_map.mp hy
          have he1 : e ∈ es ∧ e.1 = h := by simpa using he
          have he2 : e ∈ es.toList := by simpa using he1.1
          rw [B.ents] at he2
          obtain ⟨r, hr, rfl⟩ := List.mem_map.mp he2
          exact ⟨r, rfl, B.keys r hr⟩
        · refine wp_if_neg (by decide) ?_
          try refine wpAny_bind (wpAny_pure ?_)
          exact behind
    · have probe : t.probe (fun i => (es[i]?.map (·.1)).getD 0) h (stand.getD (t.probeStart h)) = some (.empty (way t.mask h K) none) := by
        rw [hp0, es0, show way t.mask h K = (nth t.mask (nth t.mask p0 c) (K - c)).j from by rw [jn, show c + (K - c) = K from by omega]]
        exact go
      rw [hp0] at probe
      rw [hp0, probe]
      dsimp only
      refine wpAny_pure (no fun hm => ?_)
      obtain ⟨p1, m1, e2⟩ := List.mem_map.mp hm
      obtain ⟨i1, e1⟩ := List.getElem?_of_mem m1
      obtain ⟨c', ⟨b1, b2⟩, b3⟩ := left i1 p1 e1 e2
      refine fresh (c' - c) i1 (by omega) (by rw [jn, show c + (c' - c) = c' from by omega]; exact b3) ?_
      rw [hAt i1 p1 e1, e2, hh]
/-- the whole search -/
theorem Bag.look (B : Bag P w s.heap a L es ep t) {x : Addr × List Key} (hx : IsK P w s.heap x) (hu : A.units < cLine) {Q : SetFound → Shared → Prop} (yes : x.2 ∈ L.map (·.2) → Q (.there none) s)
    (no : ∀ K, x.2 ∉ L.map (·.2) → way t.mask (hK P w x.2) K ∉ t.place.toList → (∀ c, c < K → way t.mask (hK P w x.2) c ∈ t.place.toList) → Q (.free (way t.mask (hK P w x.2) K) false) s) :
    wpAny (model P w) A (setSearch a (.ref x.1) (hK P w x.2) true) Q E s := by
  have wd := B.wide.1
  obtain ⟨K, k1, k2, k3⟩ := B.tabl.first (by rw [List.length_map]; omega) (hK P w x.2)
  have kb : 10 * SetTable.turns t.mask ≤ 1420 := by
    unfold SetTable.turns
    rcases B.tabl.mok with e | e | e <;> omega
  unfold setSearch
  refine B.seek hx hu k1 k2 k3 yes (fun n => no K n k2 k3) 100000 0 none rfl (Nat.zero_le _) (by omega) fun i p e1 e2 => ?_
  have il : i < t.place.toList.length := by
    rw [Array.length_toList, B.places]
    exact (List.getElem?_eq_some_iff.mp e1).1
  have ej := List.getElem?_eq_getElem il
  obtain ⟨c, c1, c2⟩ := B.tabl.before k2 (i := i) (by rw [List.getElem?_map, e1, ← e2]; rfl) ej
  exact ⟨c, ⟨Nat.zero_le _, c1⟩, by rw [ej, c2]⟩

/-! ### putting one in -/
theorem IsK.same {h h' : Heap} {p : Addr × List Key} {o : Obj} (hp : IsK P w h p) (ho : h.get? a = some o) (hd : o.data = .set es ep t) (sb : Heap.SameBut a h h') : IsK P w h' p := by
  obtain ⟨o1, its, n, e1, e2, e3, e4⟩ := hp
  refine ⟨o1, its, n, (sb.2 p.1 fun e => ?_).trans e1, e2, e3, e4⟩
  rw [e, ho] at e1
  cases e1
  rw [hd] at e3
  cases e3
/-- entries picked by an order -/
theorem picks (L : List (Addr × List Key)) {es : Array (Int × Value)} (he : es.toList = L.map (entK P w)) {od : Array Nat} (hp : od.toList.Perm (List.range L.length)) :
    ∃ M : List (Addr × List Key), M.Perm L ∧ (od.filterMap (es[·]?)).toList = M.map (entK P w) ∧ (M.map fun p => hK P w p.2) = od.toList.map fun i => (es.map (·.1)).getD i 0 := by
  have at' : ∀ i, es[i]? = (L[i]?).map (entK P w) := fun i => by rw [← Array.getElem?_toList, he, List.getElem?_map]
  have all : ∀ l : List Nat, (∀ i ∈ l, i < L.length) → l.filterMap (fun i => es[i]?) = (l.filterMap fun i => L[i]?).map (entK P w) ∧ ((l.filterMap fun i => L[i]?).map fun p => hK P w p.2) = l.map fun i => (es.map (·.1)).getD i 0 := by
    intro l
    induction l with
    | nil => exact fun _ => ⟨rfl, rfl⟩
    | cons i l ih =>
      intro hl
      have il := hl i List.mem_cons_self
      obtain ⟨h1, h2⟩ := ih fun j hj => hl j (List.mem_cons_of_mem _ hj)
      have e1 : L[i]? = some L[i] := List.getElem?_eq_getElem il
      have e2 : es[i]? = some (entK P w L[i]) := by rw [at', e1]; rfl
      refine ⟨?_, ?_⟩
      · rw [List.filterMap_cons_some e2, List.filterMap_cons_some (by exact e1), List.map_cons, h1]
      · rw [List.filterMap_cons_some (by exact e1), List.map_cons, List.map_cons, h2]
        congr 1
        have e3 : (es.map (·.1))[i]? = some (hK P w (L[i]).2) := by rw [Array.getElem?_map, e2]; rfl
        simp [Array.getD_eq_getD_getElem?, e3]
  have rg : ∀ n, n ≤ L.length → (List.range n).filterMap (fun i => L[i]?) = L.take n := by
    intro n
    induction n with
    | zero => exact fun _ => rfl
    | succ n ih =>
      intro hn
      rw [List.range_succ, List.filterMap_append, ih (Nat.le_of_succ_le hn), List.take_succ, List.getElem?_eq_getElem hn, List.filterMap_cons_some (List.getElem?_eq_getElem hn)]
      rfl
  obtain ⟨h1, h2⟩ := all od.toList fun i hi => List.mem_range.mp (hp.mem_iff.mp hi)
  refine ⟨od.toList.filterMap fun i => L[i]?, ?_, by first | (rw [Array.toList_filterMap]; exact h1) | simpa using h1, h2⟩
  have := hp.filterMap fun i => L[i]?
  rw [rg _ (Nat.le_refl _), List.take_length] at this
  exact this
theorem ents_len {L : List (Addr × List Key)} {es : Array (Int × Value)} (he : es.toList = L.map (entK P w)) : es.size = L.length := by rw [← Array.length_toList, he, List.length_map]
/-- the table laid wider -/
theorem relay {o : Obj} (eo : s.heap.get? a = some o) (ex : o.ExactSet) (ed : o.data = .set es ep t) (he : es.toList = L.map (entK P w)) (hz : t.place.size = L.length) (hdm : t.dummies = #[]) (hm : L.length ≤ t.mask)
    (nd : (L.map (·.2)).Nodup) (ks : ∀ p ∈ L, IsK P w s.heap p) (sh : w.params.followText "set-order" = true ∨ t.led = true) (few : L.length < 64) {wanted M : Nat} (wM : SetTable.sizeAbove wanted = M + 1) (hM : MaskOk M) (rm : L.length * 5 < M * 3)
    {Q : Unit → Shared → Prop} (q : ∀ h' N es' ep' t', Heap.SameBut a s.heap h' → Bag P w h' a N es' ep' t' → N.Perm L → Q () { s with heap := h' }) : wpAny (model P w) A (setRelay a wanted) Q E s := by
  have z := ents_len he
  have M128 : M ≤ 127 := by rcases hM with e | e | e <;> omega
  obtain ⟨t', od, e1, e2, T, e3, e4, e5, e6⟩ := relaid_ok t (hs := es.map (·.1)) (wanted := wanted) (M := M) (by omega) hM (by rw [Array.size_map, z]; omega)
  rw [Array.size_map, z] at e2
  obtain ⟨N, p1, p2, p3⟩ := picks L he e2
  rw [← p3] at T
  have zN := (ents_len p2).trans p1.length_eq
  rw [setRelay_eq]
  refine wpAny_bind (wpAny_setState_of eo ed (by rw [z]; exact fits_of hz hdm hm) ?_)
  dsimp only
  refine wp_if_neg (by rw [wM, sizeLine_eq]; omega) ?_
  try refine wpAny_bind (wpAny_pure ?_)
  rw [e1]
  dsimp only
  refine wpAny_bind ?_
  refine wp_if_neg (by rw [zN, z]; simp) ?_
  try refine wpAny_bind (wpAny_pure ?_)
  refine wpAny_pure ?_
  dsimp only
  refine wpAny_storeSet_of eo ed ?_ (by rw [zN, sizeLine_eq]; omega)
  have sb : Heap.SameBut a s.heap (s.heap.update a (Obj.putSet (od.filterMap (es[·]?)) t')) := Heap.SameBut.update ..
  refine q _ N (od.filterMap (es[·]?)) (ep + 1) t' sb ?_ p1
  exact { obj := ⟨_, ⟨store_at eo ed, ex.1, ex.2.1, ex.2.2⟩, rfl⟩, ents := p2, diff := (p1.map (·.2)).nodup_iff.mpr nd, keys := fun p hp => (ks p (p1.mem_iff.mp hp)).same eo ed sb,
          shown := by rw [e4]; exact sh, tabl := T, wide := by rw [p1.length_eq, e3]; exact ⟨rm, few⟩ }
/-- what the bag is when one more has been put in -/
def More (x : Addr × List Key) (L N : List (Addr × List Key)) : Prop := (x.2 ∈ L.map (·.2) → N = L) ∧ (x.2 ∉ L.map (·.2) → N.Perm (x :: L))
theorem Bag.add (B : Bag P w s.heap a L es ep t) {x : Addr × List Key} (hx : IsK P w s.heap x) (hu : A.units < cLine) (few : L.length + 1 < 64) {Q : Bool → Shared → Prop}
    (q : ∀ b h' N es' ep' t', Heap.SameBut a s.heap h' → Bag P w h' a N es' ep' t' → More x L N → Q b { s with heap := h' }) : wpAny (model P w) A (setAddHashed a (.ref x.1) (hK P w x.2)) Q E s := by
  have ⟨o, ⟨eo, ex⟩, ed⟩ := B.obj
  have zs := B.many
  have wd := B.wide.1
  unfold setAddHashed
  refine wpAny_holding ?_
  rw [show (100000 : Nat) = 99999 + 1 from rfl, setAddHashedIn_succ]
  refine wpAny_bind (wpAny_setState_of eo ed B.fit ?_)
  dsimp only
  refine wp_if_neg (by simp [byScan, Value.scannable]) ?_
  try refine wpAny_bind (wpAny_pure ?_)
  refine wpAny_bind (B.look hx hu (fun m => ?_) fun K nm k2 k3 => ?_)
  · dsimp only
    exact wpAny_pure (q false s.heap L es ep t (Heap.SameBut.refl a s.heap) B ⟨fun _ => rfl, fun z => absurd m z⟩)
  dsimp only
  refine wpAny_bind (wpAny_setState_of eo ed B.fit ?_)
  dsimp only
  obtain ⟨q1, q2, q3, q4, q5, q6, q7, q8, q9⟩ := B.tabl.put k2 k3
  generalize t.put (way t.mask (hK P w x.2) K) = pt at q1 q3 q4 q5 q6 q7 q8 q9 ⊢
  obtain ⟨t1, p⟩ := pt
  dsimp only at q1 q3 q4 q5 q6 q7 q8 q9 ⊢
  subst q1
  have new : (SetTable.insertAt es (SetTable.below t.place (way t.mask (hK P w x.2) K)) (hK P w x.2, Value.ref x.1)).toList = (L.take (SetTable.below t.place (way t.mask (hK P w x.2) K)) ++ x :: L.drop (SetTable.below t.place (way t.mask (hK P w x.2) K))).map (entK P w) := by
    rw [SetTable.toList_insertAt, B.ents, List.map_append, List.map_cons, List.map_take, List.map_drop]
    rfl
  generalize SetTable.below t.place (way t.mask (hK P w x.2) K) = p at q2 q3 new ⊢
  have pm := put_perm L p x
  have hs : ((L.map fun p => hK P w p.2).take p ++ hK P w x.2 :: (L.map fun p => hK P w p.2).drop p) = (L.take p ++ x :: L.drop p).map fun p => hK P w p.2 := by
    rw [List.map_append, List.map_cons, List.map_take, List.map_drop]
  rw [hs] at q3
  generalize L.take p ++ x :: L.drop p = N at pm q3 new
  have zN : N.length = L.length + 1 := pm.length_eq
  have z1 := ents_len new
  generalize SetTable.insertAt es p (hK P w x.2, Value.ref x.1) = es1 at new z1 ⊢
  have nd1 : (N.map (·.2)).Nodup := (pm.map (·.2)).nodup_iff.mpr (by rw [List.map_cons]; exact List.nodup_cons.mpr ⟨nm, B.diff⟩)
  have hl1 := q9
  rw [List.length_map] at hl1
  -- behind the question for the hash
  have rest : ∀ byV : Bool, wpAny (model P w) A (do
      storeSet a es1 (if byV = true then t1 else { t1 with plain := false })
      if (!false && (if byV = true then t1 else { t1 with plain := false }).tooFull) = true then setRelay a (SetTable.grown (es.size + 1))
      return true) Q E s := fun byV => by
    have u1 : (if byV = true then t1 else { t1 with plain := false }).place = t1.place := by cases byV <;> rfl
    have u2 : (if byV = true then t1 else { t1 with plain := false }).dummies = t1.dummies := by cases byV <;> rfl
    have u3 : (if byV = true then t1 else { t1 with plain := false }).mask = t1.mask := by cases byV <;> rfl
    have u4 : (if byV = true then t1 else { t1 with plain := false }).led = t1.led := by cases byV <;> rfl
    have u5 : (if byV = true then t1 else { t1 with plain := false }).tooFull = t1.tooFull := by cases byV <;> rfl
    generalize (if byV = true then t1 else { t1 with plain := false }) = t2 at u1 u2 u3 u4 u5 ⊢
    have T2 : TabOk t2 (N.map fun p => hK P w p.2) := ⟨by rw [u1]; exact q3.ris, by rw [u2]; exact q3.dm, by rw [u1]; exact q3.sz, by rw [u3]; exact q3.mok, by rw [u1, u3]; exact q3.bd, by rw [u1, u3]; exact q3.reach⟩
    refine wpAny_bind (wpAny_storeSet_of eo ed ?_ (by rw [z1, sizeLine_eq]; omega))
    have sb : Heap.SameBut a s.heap (s.heap.update a (Obj.putSet es1 t2)) := Heap.SameBut.update ..
    have eo1 := store_at (es' := es1) (t' := t2) eo ed
    generalize s.heap.update a (Obj.putSet es1 t2) = h1 at sb eo1 ⊢
    have ks : ∀ p ∈ N, IsK P w h1 p := fun p hp => by
      rcases List.mem_cons.mp (pm.mem_iff.mp hp) with rfl | hp
      · exact hx.same eo ed sb
      · exact (B.keys p hp).same eo ed sb
    have sh : w.params.followText "set-order" = true ∨ t2.led = true := by rw [u4, q5]; exact B.shown
    by_cases full : t2.tooFull = true
    · first
        | (refine wpAny_bind ?_; refine wp_if_pos (by simp [full]) ?_)
        | (refine wp_if_pos (by simp [full]) ?_; refine wpAny_bind ?_)
      have ff : (L.length + 1) * 5 ≥ t.mask * 3 := by
        rw [u5] at full
        unfold SetTable.tooFull at full
        rw [decide_eq_true_eq, hl1, q4] at full
        exact full
      have two : (t.mask = 7 ∧ L.length = 4) ∨ (t.mask = 31 ∧ L.length = 18) := by rcases B.tabl.mok with e | e | e <;> omega
      have go : ∀ M, SetTable.sizeAbove (SetTable.grown (L.length + 1)) = M + 1 → MaskOk M → (L.length + 1) * 5 < M * 3 →
          wpAny (model P w) A (setRelay a (SetTable.grown (es.size + 1))) (fun _ s' => wpAny (model P w) A (pure true) Q E s') E { s with heap := h1 } := fun M g1 g2 g3 => by
        rw [zs]
        refine relay (s := { s with heap := h1 }) eo1 ⟨ex.1, ex.2.1, ex.2.2⟩ rfl new (by have := T2.sz; rw [List.length_map] at this; exact this) T2.dm (by rw [u3, q4, zN]; omega) nd1 ks sh (by rw [zN]; exact few) g1 g2 (by rw [zN]; exact g3) ?_
        exact fun h2 N2 es2 ep2 t3 sb2 B2 pm2 => wpAny_pure (q true h2 N2 es2 ep2 t3 (sb.trans sb2) B2 ⟨fun z => absurd z nm, fun _ => pm2.trans pm⟩)
      rcases two with ⟨_, e⟩ | ⟨_, e⟩
      · exact go 31 (by rw [e, size_20]) (.inr (.inl rfl)) (by omega)
      · exact go 127 (by rw [e, size_76]) (.inr (.inr rfl)) (by omega)
    · first
        | refine wp_if_neg (by simp [full]) ?_
        | (refine wpAny_bind ?_; refine wp_if_neg (by simp [full]) ?_; refine wpAny_pure ?_)
      have ff : (L.length + 1) * 5 < t.mask * 3 := by
        rw [u5] at full
        unfold SetTable.tooFull at full
        rw [decide_eq_true_eq, hl1, q4] at full
        omega
      refine wpAny_pure (q true h1 N es1 (ep + 1) t2 sb { obj := ⟨_, ⟨eo1, ex.1, ex.2.1, ex.2.2⟩, rfl⟩, ents := new, diff := nd1, keys := ks, shown := sh, tabl := T2, wide := by rw [zN, u3, q4]; exact ⟨ff, few⟩ } ⟨fun z => absurd z nm, fun _ => pm⟩)
  by_cases pl : t1.plain = true
  · first
      | (refine wpAny_bind ?_; refine wp_if_pos pl ?_; refine hby_any hx fun b => ?_)
      | refine wp_if_pos pl (wpAny_bind (hby_any hx fun b => ?_))
    exact rest b
  · first
      | (refine wpAny_bind ?_; refine wp_if_neg pl ?_; refine wpAny_pure ?_)
      | refine wp_if_neg pl (wpAny_bind (wpAny_pure ?_))
    exact rest true
/-- bag.add(x) -/
theorem Bag.call_add (B : Bag P w s.heap a L es ep t) {x : Addr × List Key} (hx : IsK P w s.heap x) (hu : A.units + 2 < cLine) (few : L.length + 1 < 64) {Q : Value → Shared → Prop}
    (q : ∀ tk h' N es' ep' t', Heap.SameBut a s.heap h' → Bag P w h' a N es' ep' t' → More x L N → Q .none { s with heap := h', toks := tk }) : wpAny (model P w) A (call (.builtin "set.add") [.ref a, .ref x.1]) Q E s := by
  have ⟨o, ⟨eo, ex⟩, ed⟩ := B.obj
  refine wpAny_call_entry F.slot_set_add ⟨o, eo, ex.1⟩ F.entry_set_add ?_ (F.args_set_add_2 _ _)
  unfold Builtin.«set.add» Builtin.Frozenset.oneOther
  simp only [List.isEmpty_nil, bind_assoc]
  unfold Builtin.Frozenset.addrOf setAdd
  refine wpAny_bind (wpAny_pure ?_)
  try dsimp only
  refine wpAny_bind (wpAny_pure ?_)
  try dsimp only
  refine wpAny_bind ?_
  refine wpAny_holding ?_
  have hu1 : A.in1.units < cLine := by have : A.in1.units = A.units + 1 := rfl; omega
  refine wpAny_bind (wpAny_pyHash_tuple hu1 hx ?_)
  refine Bag.add (s := { s with toks := s.toks + (x.2.length + 1) }) ⟨B.obj, B.ents, B.diff, B.keys, B.shown, B.tabl, B.wide⟩ hx hu1 few fun b h' N es' ep' t' sb B' m => ?_
  show wpAny _ _ (ret Value.none) _ _ _
  exact wpAny_pure ⟨_, rfl, q _ h' N es' ep' t' sb B' m⟩
/-- a new bag -/
theorem bag_new {h : Heap} (e : h.get? a = some { cls := .type "set", dict := none, data := .set #[] 0 (.fresh 0 0 (!w.params.followText "set-order")) }) : Bag P w h a [] #[] 0 (.fresh 0 0 (!w.params.followText "set-order")) where
  obj := ⟨_, ⟨e, rfl, rfl, rfl⟩, rfl⟩
  ents := rfl
  diff := List.nodup_nil
  keys := fun p hp => absurd hp (by simp)
  shown := by
    cases w.params.followText "set-order"
    · exact .inr rfl
    · exact .inl rfl
  tabl := ⟨List.Pairwise.nil, rfl, rfl, .inl rfl, fun x hx => absurd hx (by show ¬ x ∈ ([] : List Nat); simp), fun i h j hi => absurd hi (by simp)⟩
  wide := ⟨by show 0 * 5 < 7 * 3; decide, by decide⟩
end
end Dy

set_option linter.all false
set_option maxRecDepth 10000
set_option autoImplicit false
/-! Dy, sets 2: a comprehension's loop, whatever it fills. -/
namespace Dy
open PySem PySem.Spec PyProof.Rows L2

/-- a turn: the next item stored, the tests, the body, the loop again -/
def turnC (g : Comprehension) (it : Value) (env : Env) (body : Sem Unit) (c : Code) : Sem Fin := do
  standAt g.iter.pos
  let r ← pyNext it
  match r with
  | none => pure (.done .next)
  | some v => do
    letOwnedTupleGo g.target it v
    assign g.target env v
    let ok ← forIn g.ifs true fun c r => if r = true then do let q ← isTrue c env (eval c env); pure (ForInStep.yield q) else pure (ForInStep.yield r)
    if ok then (do body; again c) else again c
/-- the clause d of the comprehension e is g, and does body with an item that passes -/
structure CompOk (P : Program) (w : World) (e : Expr) (d : Nat) (g : Comprehension) (body : Value → Env → Sem Unit) : Prop where
  quiet : ∀ it acc env, (Code.compLoop e d it acc env).quiet = true
  under : ∀ (A : Around) it acc env, A.under (Code.compLoop e d it acc env) = A
  den : ∀ it acc env, (model P w).den (.compLoop e d it acc env) = (turnC g it env (body acc env) (.compLoop e d it acc env)).onRaise (fun x => do noteFrame x env; theTreesLotGoes x)
  start : ∀ {A : Around} {R : Result → Shared → Prop} {s : Shared} {it acc : Value} {env : Env}, codeAny (model P w) A (.compLoop e d it acc env) R s →
    wpAny (model P w) A (pyIter it) (fun it' s' => codeAny (model P w) A (.compLoop e d it' acc env) R s') (notedBy (model P w) A env fun x s' => R (.error x) s') s → codeAny (model P w) A (.compStart e d it acc env) R s

/-- what a body does with the slots and the heap -/
abbrev TB := L2.St → Hp → (Hp → Prop) → Prop
/-- a body leaves the slots other than vs as they are -/
structure PB (X : Cx) (vs : List Nat) (body : Sem Unit) (t : TB) : Prop where
  run : ∀ (pins : List (Addr × Obj)) (s : Shared) (σ : L2.St) (H : Hp) (N : Hp → Prop), Inv X pins σ H s → t σ H N →
    wpAny (model X.prog X.w) X.A body (fun _ s' => ∃ (σ' : L2.St) (H' : Hp), (Inv X pins σ' H' s' ∧ σ'.length = σ.length) ∧ (∀ (j : Nat) v, (wipe σ vs)[j]? = some (some v) → σ'[j]? = some (some v)) ∧ N H') (fun _ _ => False) s
/-- a loop's way: J the walked, D the end, tb what the body needs -/
def LoopW (g : TG) (tt : TT) (tb : TB) (vs : List Nat) (σ : L2.St) (J : It) (D : Hp → Prop) (H0 : Hp) : Prop := ∃ W : Nat → Nat → Hp → Prop, (∃ m, W 0 m H0) ∧ ∀ i m H, W i m H →
  (J.stop i H ∧ D H) ∨ (J.go i H ∧ ∃ Nx : Hp → Prop, (∀ H', Nx H' → ∃ m', m' < m ∧ W (i + 1) m' H') ∧ ∀ x H', J.yld i H x H' → g x σ H' fun σ2 H2 => wipe σ2 vs = wipe σ vs ∧ tt σ2 H2 fun b H3 => if b = true then tb σ2 H3 Nx else Nx H3)

theorem wipe_none {τ : L2.St} {us : List Nat} {j : Nat} {v : V} (h : (wipe τ us)[j]? = some (some v)) : j ∉ us ∧ τ[j]? = some (some v) := ⟨(wipe_some h).2, (wipe_some h).1⟩

section
variable {B : Cx} {e tg iter : Expr} {ifs : List Expr} {d : Nat} {body : Value → Env → Sem Unit} {acc : Value} {g : TG} {tt : TT} {tb : TB} {vs : List Nat} {J : It} {fp : List Addr} {it : Addr} {tn : Nat → Heap → Prop}
/-- the loop, from slots that know nothing of vs -/
theorem comp_loop (C : CompOk B.prog B.w e d ⟨tg, iter, ifs, 0⟩ body) (hx : B.xe = fun _ _ => False) (hc : B.calm = true) (T : Turn B.prog B.w B.K tg J fp it tn) (pg : PG B tg g) (pt : PTs B ifs tt) (pb : PB B vs (body acc B.env) tb)
    {pins : List (Addr × Obj)} {τ : L2.St} (hτ : wipe τ vs = τ) (stat : ∀ {σ' : L2.St} {H' : Hp} {s' : Shared}, Inv B pins σ' H' s' → (∀ b ∈ fp, H' b = none) → ∀ b ∈ fp, FpOk B pins H' b)
    {R : Result → Shared → Prop} {Dn : Hp → Prop} {H : Hp} {s : Shared} (I : Inv B pins τ H s) (t0 : tn 0 s.heap) (n0 : ∀ b ∈ fp, H b = none) (w : LoopW g tt tb vs τ J Dn H) (fin : ∀ s' H', Inv B pins τ H' s' → Dn H' → R (.ok .next) s') :
    codeAny (model B.prog B.w) B.A (.compLoop e d (.ref it) acc B.env) R s := by
  obtain ⟨W, ⟨m0, w0⟩, turn⟩ := w
  refine codeAny_loop (C.quiet _ _ _) (fun n s' => ∃ i H', (Inv B pins τ H' s' ∧ tn i s'.heap) ∧ (∀ b ∈ fp, H' b = none) ∧ W i n H') ?_ m0 ⟨0, H, ⟨I, t0⟩, n0, w0⟩
  rintro n s1 ⟨i, H1, ⟨I1, st1⟩, n1, w1⟩
  rw [C.under, C.den]
  refine wpAny_noted ?_
  unfold turnC
  refine wpAny_bind (wpAny_standAt ?_)
  rcases turn i n H1 w1 with ⟨stop, q⟩ | ⟨go, Nx, next, step⟩
  · refine wpAny_bind (thnF (T.done B rfl rfl rfl hc i pins s1 τ H1 (fun _ _ => False) I1 (stat I1 n1) st1 stop) fun r s2 ⟨er, I2⟩ => ?_)
    subst er
    exact wpAny_pure (fin _ _ I2 q)
  · refine wpAny_bind (thnF (T.item B rfl rfl rfl hc i pins s1 τ H1 (fun _ _ => False) I1 (stat I1 n1) st1 go) fun r s2 ⟨u, er, h2⟩ => ?_)
    subst er
    refine wpAny_bind (thnF h2 fun _ s3 ⟨x, H3, I3, r3, y3, st3, n3⟩ => ?_)
    have P3 := I3.pinned (stat I3 n3) (T.obj _ _ st3)
    have pgr := pg.run _ s3 _ H3 x u _ P3 r3 (step x H3 y3)
    rw [hx] at pgr
    refine wpAny_bind (thnF pgr fun _ s4 ⟨σ4, H4, I4, hw4, q4⟩ => ?_)
    have ptr := pt.run _ s4 σ4 H4 _ I4 q4
    rw [hx] at ptr
    refine wpAny_bind (thnF ptr fun b s5 ⟨H5, I5, q5⟩ => ?_)
    have l4 : τ.length = σ4.length := by rw [← wipe_length σ4 vs, hw4, wipe_length]
    -- back to the start of a turn
    have back : ∀ {σ6 : L2.St} {s6 : Shared} {H6 : Hp}, Inv B (pins ++ pinsAt fp s3.heap) σ6 H6 s6 → σ6.length = σ4.length → (∀ (j : Nat) v, (wipe σ4 vs)[j]? = some (some v) → σ6[j]? = some (some v)) → Nx H6 →
        ∃ m, m < n ∧ ∃ i H', (Inv B pins τ H' s6 ∧ tn i s6.heap) ∧ (∀ b ∈ fp, H' b = none) ∧ W i m H' := fun {σ6 s6 H6} I6 hl hk nx => by
      obtain ⟨m', lt, w'⟩ := next H6 nx
      have pin : ∀ b ∈ fp, ∀ o, s3.heap.get? b = some o → s6.heap.get? b = some o ∧ H6 b = none := fun b hb o eo =>
        let z := I6.pin (b, o) (List.mem_append_right _ (List.mem_append_right _ (mem_pinsAt hb eo)))
        ⟨z.1, z.2.1⟩
      refine ⟨m', lt, i + 1, H6, ⟨(I6.unpinned (pins := pins)).weak (l4.trans hl.symm) (fun j v ev => hk j v ?_), T.keep _ _ _ st3 fun b hb o eo => (pin b hb o eo).1⟩, fun b hb => ?_, w'⟩
      · rw [hw4, hτ]
        exact ev
      · obtain ⟨o, eo, _⟩ := T.obj _ _ st3 b hb
        exact (pin b hb o eo).2
    cases b with
    | false =>
      simp only [Bool.false_eq_true, if_false] at q5 ⊢
      exact wpAny_pure ⟨rfl, back I5 rfl (fun j v ev => (wipe_some ev).1) q5⟩
    | true =>
      simp only [if_true] at q5 ⊢
      exact wpAny_bind (thnF (pb.run _ s5 σ4 H5 _ I5 q5) fun _ s6 ⟨σ6, H6, ⟨I6, l6⟩, k6, nx⟩ => wpAny_pure ⟨rfl, back I6 l6 k6 nx⟩)
end
end Dy

set_option linter.all false
set_option maxRecDepth 10000
set_option autoImplicit false
/-! Dy, sets 3: comprehensions with one or two clauses that fill a list, a set, a dict. -/
namespace Dy
open PySem PySem.Spec PyProof.Rows L2

section
variable {X : Cx} {e tg iter : Expr} {ifs : List Expr} {rest : List Comprehension} {body : Value → Env → Sem Unit} {scope : Scope} {own : List (Str × Nat)} {wi : TI} {g : TG} {tt : TT} {tb : Addr → TB}
/-- the whole of a comprehension: the first source, the new object ob, the block, the loop -/
theorem comp_shell (C : CompOk X.prog X.w e 0 ⟨tg, iter, ifs, 0⟩ body) (hcl : clausesOf e = ⟨tg, iter, ifs, 0⟩ :: rest) {mk : Sem Value} {ob : Obj} {o0 : Addr → HO}
    (hmk : ∀ {Q : Value → Shared → Prop} {s : Shared}, Q (.ref s.heap.objs.size) { s with heap := s.heap.push ob } → wpAny (model X.prog X.w) X.A mk Q X.xe s)
    (hob : ∀ (h : Heap) (H : Hp), sysModules < h.objs.size → ObjOk X.prog X.w H (h.push ob) h.objs.size (o0 h.objs.size))
    (hc : X.calm = true) (hN : X.N.Nodup) (hi : PI X tg iter wi) (ok : BlkOk X.N X.env.scope scope own) (hs : ∀ x, foldedSetIterable iter X.env x = pure x)
    (hg : ∀ (s : Shared) (H : Hp) (c : Addr) (cl : List (Str × Addr)) (fp : List Addr), PG (X.blk s H scope (compEnvC scope cl c X.env) fp) tg g)
    (ht : ∀ (s : Shared) (H : Hp) (c : Addr) (cl : List (Str × Addr)) (fp : List Addr), PTs (X.blk s H scope (compEnvC scope cl c X.env) fp) ifs tt)
    (hb : ∀ (s : Shared) (H : Hp) (c : Addr) (cl : List (Str × Addr)) (fp : List Addr) (D : Addr), PB (X.blk s H scope (compEnvC scope cl c X.env) fp) (own.map (·.2)) (body (.ref D) (compEnvC scope cl c X.env)) (tb D))
    {pins : List (Addr × Obj)} {s : Shared} {σ : L2.St} {H : Hp} {Q : VK} {pos' : Pos} {use : Option (Value → Sem Unit)} {Qf : Value → Shared → Prop} (I : Inv X pins σ H s)
    (hQ : ∀ D c s' m H', Inv X pins σ H' s' → Q (.ref D) H' → s'.heap.Ns c m → FpOk X pins H' c → compPost (model X.prog X.w) X.A X.xe use Qf (.ref D) c (.ok .next) s')
    (h : wi σ H fun J H1 => ∀ D, H1 D = none → LoopW g tt (tb D) (own.map (·.2)) (wipe σ (own.map (·.2))) J (fun H' => Q (.ref D) H') (upd H1 D (o0 D))) :
    wpAny (model X.prog X.w) X.A (comprehension e scope X.env pos' mk false (eval iter X.env) use) Qf X.xe s := by
  have fr : ∀ y ∈ scope.names, y.2 = .free → ∃ c, X.env.cells.lookup y.1 = some c := fun y hy ey => I.ok.has _ (ok.free y hy ey)
  refine wpAny_comprehension_free (use := use) hcl hs (closure_ok fr) ok.kind (fun y hy ey => by rw [ok.uniq y hy, ey]) (thn (hi.run pins s σ H _ I h) fun xv s1 hx => thn hx fun itv s2 h2 => ?_)
  obtain ⟨it, fp, tn, J, H2, e2, I2, T, st2, f2, q⟩ := h2
  subst e2
  refine hmk (newEnv_comp ?_)
  generalize hD : s2.heap.objs.size = D
  have hDn : H2 D = none := I2.hok.fresh (Nat.le_of_eq hD)
  have q := q D hDn
  generalize hs3 : ({ s2 with heap := s2.heap.push ob } : Shared) = s3
  have I3 : Inv X pins σ (upd H2 D (o0 D)) s3 := by
    rw [← hs3]
    refine I2.laid (t' := s2.toks) (fun b o eo => Heap.get?_push_of_some _ eo) (Nat.le_of_eq hD) ?_
    rw [← hD]
    exact hob _ _ I2.big
  have p3 : s3.heap = s2.heap.push ob := by rw [← hs3]
  have low : ∀ b ∈ fp, b < s2.heap.objs.size := fun b hb => by
    obtain ⟨o, eo, _⟩ := T.obj _ _ st2 b hb
    exact Heap.lt_size eo
  have f3 : ∀ b ∈ fp, FpOk X pins (upd H2 D (o0 D)) b ∧ b < s3.heap.objs.size := fun b hb => by
    have lt := low b hb
    refine ⟨⟨?_, (f2 b hb).2⟩, by rw [p3, Heap.size_push]; exact Nat.lt_succ_of_lt lt⟩
    rw [upd_ne (by rw [← hD]; exact Nat.ne_of_lt lt)]
    exact (f2 b hb).1
  have st3 : tn 0 s3.heap := T.keep _ _ _ st2 fun b _ o eo => by rw [p3]; exact Heap.get?_push_of_some _ eo
  have I4 := block_start I3 ok hN f3
  generalize hcl : cellsFrom (s3.heap.objs.size + 1) scope.names (cloFrom X.env.cells scope.names []) = cl at I4
  have pg := hg s3 (upd H2 D (o0 D)) s3.heap.objs.size cl fp
  have pt := ht s3 (upd H2 D (o0 D)) s3.heap.objs.size cl fp
  have pb := hb s3 (upd H2 D (o0 D)) s3.heap.objs.size cl fp D
  show codeAny _ _ (.compStart e 0 (.ref it) (.ref D) (compEnvC scope cl s3.heap.objs.size X.env)) (compPost (model X.prog X.w) X.A X.xe use Qf (.ref D) s3.heap.objs.size) { s3 with heap := pushCells (s3.heap.push { cls := .type "dict", data := .dict #[] }) scope.names }
  generalize hce : compEnvC scope cl s3.heap.objs.size X.env = ce at I4 pg pt pb ⊢
  have cL : ce.locals = s3.heap.objs.size := by subst hce; rfl
  have nfp : ∀ b ∈ fp, (upd H2 D (o0 D)) b = none := fun b hb => (f3 b hb).1.1
  generalize hH3 : upd H2 D (o0 D) = H3 at q I3 I4 pg pt pb nfp f3
  generalize hs4 : ({ s3 with heap := pushCells (s3.heap.push { cls := .type "dict", data := .dict #[] }) scope.names } : Shared) = s4 at I4 ⊢
  have st4 : tn 0 s4.heap := T.keep _ _ _ st3 fun b _ o eo => by rw [← hs4]; exact pushCells_keeps _ _ _ _ (Heap.get?_push_of_some _ eo)
  have loop : codeAny (model X.prog X.w) X.A (.compLoop e 0 (.ref it) (.ref D) ce) (compPost (model X.prog X.w) X.A X.xe use Qf (.ref D) s3.heap.objs.size) s4 := by
    refine comp_loop (B := X.blk s3 H3 scope ce fp) (pins := []) C rfl hc T pg pt pb (wipe_wipe σ _) (fun {σ' H' s'} I' hn b hb => ?_) I4 st4 nfp q fun s6 H6 I6 qq => ?_
    · exact ⟨hn b hb, (I'.ok.exf b hb).1, I'.ok.exfs b hb, .inl hb, fun x c ex => (I'.ok.exf b hb).2 x c ex, fun p hp => absurd (show p ∈ ([] : List (Addr × Obj)) ++ [] from hp) (by simp)⟩
    · have I7 : Inv X pins σ H6 s6 := I3.call' (ch := fp) I6.os I6.base I6.hok I6.bare fun b hb => ⟨(f3 b hb).1.2.2.2.1, (f3 b hb).1.2.1, (f3 b hb).1.2.2.2.2.1, (f3 b hb).1.2.2.2.2.2⟩
      have nC : H6 s3.heap.objs.size = none := by
        have z : H6 ce.locals = none := I6.free
        rw [cL] at z
        exact z
      obtain ⟨m, hn, _⟩ := I6.loc
      have hn : s6.heap.Ns ce.locals m := hn
      rw [cL] at hn
      exact hQ D s3.heap.objs.size s6 m H6 I7 qq hn (I3.fpOk (Nat.le_refl _) nC)
  exact C.start loop (T.self X.A 0 _ _ _ st4 loop)
end

/-- as a value -/
theorem shell_val {X : Cx} {pins : List (Addr × Obj)} {σ : L2.St} {Q : VK} : ∀ D c s' m H', Inv X pins σ H' s' → Q (.ref D) H' → s'.heap.Ns c m → FpOk X pins H' c → compPost (model X.prog X.w) X.A X.xe none (EP X pins σ Q) (.ref D) c (.ok .next) s' :=
  fun D c s' m H' I q hn ⟨f0, f1, _, f3, f4, f5⟩ => ⟨m, hn, fun _ sb => ⟨.ref D, H', I.turned (t' := s'.toks) (fun b o hb eo => (sb.2 b hb).trans eo) f0 f1 f3 f4 f5, rfl, q⟩⟩
/-- stored in a name at once -/
theorem shell_name {X : Cx} {pins : List (Addr × Obj)} {σ : L2.St} {Dn : Ends} {i : Nat} {y : Str} {py : Pos} (hN : X.N.Nodup) (hy : X.N[i]? = some y) (hyl : X.env.scope.names.lookup y = some .local) :
    ∀ D c s' m H', Inv X pins σ H' s' → gName i (.ref D) σ H' Dn.nx → s'.heap.Ns c m → FpOk X pins H' c → compPost (model X.prog X.w) X.A X.xe (some (assign (.Name y py) X.env)) (fun _ s' => SP X pins Dn .next s') (.ref D) c (.ok .next) s' :=
  fun D c s' m H' I q hn ⟨f0, f1, _, f3, f4, f5⟩ => by
    show wpAny _ _ (assign (.Name y py) X.env (.ref D)) _ _ _
    refine wpAny_assign_Name (store_ok2 (v := V.ref D) I hN hy (.inl hyl) rfl (fun s2 I2 ⟨a, sb, ha⟩ => ?_) (.inr hyl))
    have na : c ≠ a := by
      rcases ha with z | z
      · rw [z]; exact f1
      · exact fun e => f4 y a z e.symm
    exact ⟨m, hn.sameBut sb na, fun h3 sb3 => ⟨_, H', I2.turned (t' := s2.toks) (fun b o hb eo => (sb3.2 b hb).trans eo) f0 f1 f3 f4 f5, q⟩⟩

/-! ### the second clause -/
section
variable {B : Cx} {e tg iter : Expr} {ifs : List Expr} {body : Value → Env → Sem Unit} {acc : Value} {wi : TI} {g : TG} {tt : TT} {tb : TB} {vs vs1 : List Nat}
/-- what the first clause's body is: the second source, and the second loop -/
def bodyIn (e iter : Expr) : Value → Env → Sem Unit := fun acc env => do
  let x ← eval iter env
  standAt iter.pos
  let x ← foldedSetIterable iter env x
  let _ ← runOwn (.compStart e 1 (← holding [x] (pyIter x)) acc env) env
def tIn (wi : TI) (g : TG) (tt : TT) (tb : TB) (vs1 : List Nat) : TB := fun σ H N => wi σ H fun J H1 => LoopW g tt tb vs1 (wipe σ vs1) J N H1
theorem pb_in (C : CompOk B.prog B.w e 1 ⟨tg, iter, ifs, 0⟩ body) (hx : B.xe = fun _ _ => False) (hc : B.calm = true) (hs : ∀ x, foldedSetIterable iter B.env x = pure x) (hv : ∀ i ∈ vs1, i ∈ vs) (hi : PI B tg iter wi) (pg : PG B tg g) (pt : PTs B ifs tt) (pb : PB B vs1 (body acc B.env) tb) :
    PB B vs (bodyIn e iter acc B.env) (tIn wi g tt tb vs1) := by
  refine ⟨fun pins s σ H N I h => ?_⟩
  have hr := hi.run pins s σ H _ I h
  rw [hx] at hr
  unfold bodyIn
  refine wpAny_bind (wpAny_mono hr (fun xv s1 h1 => ?_) fun _ _ z => z)
  refine wpAny_bind (wpAny_standAt (wpAny_bind (wpAny_of_eq (hs xv) ?_)))
  refine wpAny_bind (wpAny_holding (wpAny_mono h1 (fun itv s2 h2 => ?_) fun _ _ z => z))
  obtain ⟨it, fp, tn, J, H2, e2, I2, T, st2, f2, q⟩ := h2
  subst e2
  refine wpAny_bind (wpAny_runOwn ?_)
  rw [Around.mark_none]
  refine codeAny_mono (R := fun r s' => match r with
    | .ok _ => ∃ (σ' : L2.St) (H' : Hp), (Inv B pins σ' H' s' ∧ σ'.length = σ.length) ∧ (∀ (j : Nat) v, (wipe σ vs)[j]? = some (some v) → σ'[j]? = some (some v)) ∧ N H'
    | .error _ => False) ?_ fun r s' hr => ?_
  · have loop := comp_loop (R := fun r s' => match r with
      | .ok _ => ∃ (σ' : L2.St) (H' : Hp), (Inv B pins σ' H' s' ∧ σ'.length = σ.length) ∧ (∀ (j : Nat) v, (wipe σ vs)[j]? = some (some v) → σ'[j]? = some (some v)) ∧ N H'
      | .error _ => False) (acc := acc) C hx hc T pg pt pb (wipe_wipe σ vs1) (fun {σ' H' s'} I' hn b hb => ⟨hn b hb, (f2 b hb).2⟩) (I2.weak (wipe_length _ _) (fun j v ev => (wipe_some ev).1)) st2 (fun b hb => (f2 b hb).1) q fun s6 H6 I6 nx => ⟨_, H6, ⟨I6, wipe_length _ _⟩, fun j v ev => ?_, nx⟩
    · exact C.start loop (T.self B.A 0 _ _ _ st2 loop)
    · obtain ⟨e1, e2⟩ := wipe_some ev
      rw [wipe_out fun z => e2 (hv j z)]
      exact e1
  · cases r with
    | ok f => first | exact wpAny_pure hr | exact hr
    | error x => exact hr.elim
end

/-! ### what is filled -/
def bodyL (elt : Expr) : Value → Env → Sem Unit := fun acc env => do let _ ← call (.builtin "list.append") [acc, ← eval elt env]
def bodyS (elt : Expr) : Value → Env → Sem Unit := fun acc env => do
  let x ← eval elt env
  standAt elt.pos
  let _ ← call (.builtin "set.add") [acc, x]
def bodyD (k v : Expr) : Value → Env → Sem Unit := fun acc env => do
  let x ← eval k env
  let y ← holding [x] (eval v env)
  match acc with
  | .ref d => do
    standAt { k.pos with endLine := v.pos.endLine, endCol := v.pos.endCol }
    holding [x, y] (dictSet d x y)
  | _ => unsupported "internal:dictcomp"
theorem start_of {P : Program} {w : World} {e : Expr} {d : Nat} {g : Comprehension} (hq : ∀ it acc env, (Code.compLoop e d it acc env).quiet = true) (hu : ∀ (A : Around) it acc env, A.under (Code.compStart e d it acc env) = A)
    (hd : ∀ it acc env, (model P w).den (.compStart e d it acc env) = (compStart e d it acc env).onRaise (fun x => do noteFrame x env; standAt theWindowsPlace)) (hcl : (clausesOf e)[d]? = some g) (ha : (g.is_async != 0) = false)
    {A : Around} {R : Result → Shared → Prop} {s : Shared} {it acc : Value} {env : Env} (h0 : codeAny (model P w) A (.compLoop e d it acc env) R s)
    (h : wpAny (model P w) A (pyIter it) (fun it' s' => codeAny (model P w) A (.compLoop e d it' acc env) R s') (notedBy (model P w) A env fun x s' => R (.error x) s') s) : codeAny (model P w) A (.compStart e d it acc env) R s := by
  refine codeAny_of_tree ?_
  rw [hu, hd]
  refine wpAny_notedAt ?_
  unfold compStart
  rw [hcl]
  simp only [Option.elim, ha, Bool.false_eq_true, if_false]
  refine wpAny_bind (wpAny_askSetting (wpAny_ite ?_))
  split
  · first
      | exact wpAny_bind (wpAny_pure (wpAny_pure ⟨hq _ _ _, h0⟩))
      | exact wpAny_pure ⟨hq _ _ _, h0⟩
  · refine wpAny_bind (wpAny_rule ?_)
    refine wpAny_bind (wpAny_standAt (wpAny_bind (wpAny_mono h (fun it' s' h' => wpAny_pure ⟨hq _ _ _, h'⟩) fun _ _ x => x)))
section
variable {P : Program} {w : World} {elt k v tg iter tg1 iter1 : Expr} {ifs ifs1 : List Expr} {scope : Scope} {pos : Pos}
theorem ok_list : CompOk P w (.ListComp elt [⟨tg, iter, ifs, 0⟩] scope pos) 0 ⟨tg, iter, ifs, 0⟩ (bodyL elt) := ⟨fun _ _ _ => rfl, fun _ _ _ _ => rfl, fun _ _ _ => rfl, start_of (fun _ _ _ => rfl) (fun _ _ _ _ => rfl) (fun _ _ _ => rfl) rfl rfl⟩
theorem ok_set : CompOk P w (.SetComp elt [⟨tg, iter, ifs, 0⟩] scope pos) 0 ⟨tg, iter, ifs, 0⟩ (bodyS elt) := ⟨fun _ _ _ => rfl, fun _ _ _ _ => rfl, fun _ _ _ => rfl, start_of (fun _ _ _ => rfl) (fun _ _ _ _ => rfl) (fun _ _ _ => rfl) rfl rfl⟩
theorem ok_dict : CompOk P w (.DictComp k v [⟨tg, iter, ifs, 0⟩] scope pos) 0 ⟨tg, iter, ifs, 0⟩ (bodyD k v) := ⟨fun _ _ _ => rfl, fun _ _ _ _ => rfl, fun _ _ _ => rfl, start_of (fun _ _ _ => rfl) (fun _ _ _ _ => rfl) (fun _ _ _ => rfl) rfl rfl⟩
theorem ok_list1 : CompOk P w (.ListComp elt [⟨tg, iter, ifs, 0⟩, ⟨tg1, iter1, ifs1, 0⟩] scope pos) 1 ⟨tg1, iter1, ifs1, 0⟩ (bodyL elt) := ⟨fun _ _ _ => rfl, fun _ _ _ _ => rfl, fun _ _ _ => rfl, start_of (fun _ _ _ => rfl) (fun _ _ _ _ => rfl) (fun _ _ _ => rfl) rfl rfl⟩
theorem ok_dict1 : CompOk P w (.DictComp k v [⟨tg, iter, ifs, 0⟩, ⟨tg1, iter1, ifs1, 0⟩] scope pos) 1 ⟨tg1, iter1, ifs1, 0⟩ (bodyD k v) := ⟨fun _ _ _ => rfl, fun _ _ _ _ => rfl, fun _ _ _ => rfl, start_of (fun _ _ _ => rfl) (fun _ _ _ _ => rfl) (fun _ _ _ => rfl) rfl rfl⟩
theorem turn_two (e : Expr) (hcl : clausesOf e = [⟨tg, iter, ifs, 0⟩, ⟨tg1, iter1, ifs1, 0⟩]) (it acc : Value) (env : Env) (h : compTurn e 0 it acc env = (do
    standAt iter.pos
    match ← pyNext it with
    | none => pure (.done .next)
    | some v =>
      letOwnedTupleGo tg it v
      assign tg env v
      let mut ok := true
      for c in ifs do
        if ok then ok ← isTrue c env (eval c env)
      if ok then
        let x ← eval iter1 env
        standAt iter1.pos
        let x ← foldedSetIterable iter1 env x
        let _ ← runOwn (.compStart e 1 (← holding [x] (pyIter x)) acc env) env
      again (.compLoop e 0 it acc env))) : compTurn e 0 it acc env = turnC ⟨tg, iter, ifs, 0⟩ it env (bodyIn e iter1 acc env) (.compLoop e 0 it acc env) := by
  rw [h]
  unfold turnC bodyIn
  simp only [bind_assoc]
  rfl
theorem ok_list0 : CompOk P w (.ListComp elt [⟨tg, iter, ifs, 0⟩, ⟨tg1, iter1, ifs1, 0⟩] scope pos) 0 ⟨tg, iter, ifs, 0⟩ (bodyIn (.ListComp elt [⟨tg, iter, ifs, 0⟩, ⟨tg1, iter1, ifs1, 0⟩] scope pos) iter1) := ⟨fun _ _ _ => rfl, fun _ _ _ _ => rfl, fun it acc env => congrArg (fun t : Sem Fin => t.onRaise fun x => do noteFrame x env; theTreesLotGoes x) (turn_two _ rfl it acc env rfl), start_of (fun _ _ _ => rfl) (fun _ _ _ _ => rfl) (fun _ _ _ => rfl) rfl rfl⟩
theorem ok_dict0 : CompOk P w (.DictComp k v [⟨tg, iter, ifs, 0⟩, ⟨tg1, iter1, ifs1, 0⟩] scope pos) 0 ⟨tg, iter, ifs, 0⟩ (bodyIn (.DictComp k v [⟨tg, iter, ifs, 0⟩, ⟨tg1, iter1, ifs1, 0⟩] scope pos) iter1) := ⟨fun _ _ _ => rfl, fun _ _ _ _ => rfl, fun it acc env => congrArg (fun t : Sem Fin => t.onRaise fun x => do noteFrame x env; theTreesLotGoes x) (turn_two _ rfl it acc env rfl), start_of (fun _ _ _ => rfl) (fun _ _ _ _ => rfl) (fun _ _ _ => rfl) rfl rfl⟩
end
end Dy

set_option linter.all false
set_option maxRecDepth 10000
set_option autoImplicit false
/-! Dy, sets 4: what a comprehension fills, by data. -/
namespace Dy
open PySem PySem.Spec PyProof.Rows L2

/-- the object at D may change -/
structure Ovr (bg : Option (Addr × Addr)) (D : Addr) (S : Addr → Prop) (H : Hp) (S' : Addr → Prop) (H' : Hp) : Prop where
  sub : ∀ a, S a → S' a
  new : ∀ a, S' a → S a ∨ H a = none
  keep : ∀ a o, a ≠ D → H a = some o → ¬ isBag bg a → H' a = some o
  dom : ∀ a, H a ≠ none → H' a ≠ none
section
variable {bg : Option (Addr × Addr)} {D' : Addr} {S S' S2 S0 : Addr → Prop} {H H' H2 H0 : Hp} {K : PySem.W.Frag} {O : List Nat} {Γ : Gam} {σ : L2.St}
theorem Ovr.refl : Ovr bg D' S H S H := ⟨fun _ h => h, fun _ h => .inl h, fun _ _ _ h _ => h, fun _ h => h⟩
theorem Ext.ovr (E : Ext bg S H S' H') : Ovr bg D' S H S' H' := ⟨E.sub, E.new, fun a o _ => E.keep a o, E.dom⟩
theorem Ovr.trans (E : Ovr bg D' S H S' H') (E' : Ovr bg D' S' H' S2 H2) : Ovr bg D' S H S2 H2 := ⟨fun a h => E'.sub a (E.sub a h), fun a h => by
  rcases E'.new a h with z | z
  · exact E.new a z
  · right
    cases e : H a with
    | none => rfl
    | some o => exact absurd z (E.dom a (by rw [e]; simp)), fun a o n e b => E'.keep a o n (E.keep a o n e b) b, fun a h => E'.dom a (E.dom a h)⟩
theorem Ovr.sta (E : Ovr bg D' S H S' H') (W : Wld bg S H) (n : ¬ S D') : Sta S H S' H' := ⟨E.sub, fun a o s h => E.keep a o (fun e => n (e ▸ s)) h (W.nob s)⟩
/-- none of the own slots holds D -/
def Far (D' : Addr) (A vs : List Nat) (O : List Nat) (σ : L2.St) : Prop := ∀ i ∈ O, (i ∉ A ∧ i ∉ vs) ∧ ∀ p, σ[i]? = some (some (V.ref p)) → p ≠ D'
theorem At.over (a : At K bg S0 H0 O Γ S σ H) {A vs : List Nat} (f : Far D' A vs O σ) (n : ¬ S D') (h0 : H0 D' = none) (E : Ovr bg D' S H S' H') (W : Wld bg S' H') : At K bg S0 H0 O Γ S' σ H' := by
  have kp : ∀ b o, S b → H b = some o → H' b = some o := (E.sta a.wld n).keep
  refine ⟨a.wld0, W, ⟨fun b z => E.sub b (a.ext.sub b z), fun b z => ?_, fun b o e nb => E.keep b o (fun z => by rw [z, h0] at e; cases e) (a.ext.keep b o e nb) nb, fun b z => E.dom b (a.ext.dom b z)⟩, a.abs.len, fun i d m g => ?_, fun i m => ?_, a.abs.apart⟩
  · rcases E.new b z with z | z
    · exact a.ext.new b z
    · cases e : H0 b with
      | none => exact .inr rfl
      | some o => exact absurd z (a.ext.dom b (by rw [e]; simp))
  · obtain ⟨v, e, r⟩ := a.abs.dat i d m g
    exact ⟨v, e, r.mono E.sub kp d v⟩
  · obtain ⟨d, v, g, e, p, o, ev, ns, hp0, hp, r⟩ := a.abs.own i m
    subst ev
    refine ⟨d, _, g, e, p, o, rfl, fun z => ?_, hp0, E.keep p _ ((f i m).2 p e) hp ?_, r.mono E.sub kp⟩
    · rcases E.new p z with z | z
      · exact ns z
      · rw [hp] at z; cases z
    · rintro ⟨b, eb, z⟩
      exact ((a.wld0.bag b eb).1.there).1 (z ▸ hp0)
end

/-- the loop's state: the object at D holds acc -/
structure Lp {β : Type} (bg : Option (Addr × Addr)) (Sb : Addr → Prop) (H1 : Hp) (D' : Addr) (Ac : (Addr → Prop) → Hp → β → HO → Prop) (S : Addr → Prop) (H : Hp) (acc : β) : Prop where
  wld : Wld bg S H
  ext : Ext bg Sb H1 S H
  obj : ∃ o, H D' = some o ∧ ¬ S D' ∧ Ac S H acc o
/-- what holds of an object still does when more is frozen -/
def MonoA {β : Type} (Ac : (Addr → Prop) → Hp → β → HO → Prop) : Prop := ∀ (S S' : Addr → Prop) (H H' : Hp) (b : β) (o : HO), Ac S H b o → (∀ a, S a → S' a) → (∀ a o, S a → H a = some o → H' a = some o) → Ac S' H' b o
section
variable {β : Type} {bg : Option (Addr × Addr)} {Sb S S' S0 : Addr → Prop} {H1 H H' H0 : Hp} {D' : Addr} {Ac : (Addr → Prop) → Hp → β → HO → Prop} {acc acc' : β} {K : PySem.W.Frag} {O : List Nat} {Γ : Gam} {σ : L2.St} {A vs vsL : List Nat} {C : Calls}
theorem Lp.later (M : MonoA Ac) (W1 : Wld bg Sb H1) (hD : H1 D' = none) (L : Lp bg Sb H1 D' Ac S H acc) (W : Wld bg S' H') (E : Ext bg S H S' H') : Lp bg Sb H1 D' Ac S' H' acc := by
  obtain ⟨o, e, n, r⟩ := L.obj
  refine ⟨W, L.ext.trans E, o, E.keep D' _ e fun ⟨b, eb, z⟩ => ((W1.bag b eb).1.there).1 (z ▸ hD), fun z => ?_, M _ _ _ _ _ _ r E.sub fun a u s h => E.keep a u h (L.wld.nob s)⟩
  rcases E.new D' z with z | z
  · exact n z
  · rw [e] at z; cases z
/-- the object at D is written -/
theorem Lp.wr (M : MonoA Ac) (W1 : Wld bg Sb H1) (hD : H1 D' = none) (L : Lp bg Sb H1 D' Ac S H acc) {o' : HO} (nt : ∀ ys, o' ≠ .tup ys) (r : Ac S H acc' o') : Lp bg Sb H1 D' Ac S (upd H D' o') acc' ∧ Ovr bg D' S H S (upd H D' o') := by
  obtain ⟨o, e, n, _⟩ := L.obj
  have kp : ∀ a u, a ≠ D' → H a = some u → (upd H D' o') a = some u := fun a u na h => by rw [upd_ne na]; exact h
  have dm : ∀ a, H a ≠ none → (upd H D' o') a ≠ none := fun a h => by
    by_cases z : a = D'
    · rw [z, upd_same]; simp
    · rw [upd_ne z]; exact h
  exact ⟨⟨W1.write L.wld hD e nt, L.ext.write hD, o', upd_same, n, M _ _ _ _ _ _ r (fun _ z => z) fun a u s h => kp a u (fun z => n (z ▸ s)) h⟩, fun _ z => z, fun _ z => .inl z, fun a u na h _ => kp a u na h, dm⟩

/-- a clause by data: bind the item, the tests, the body -/
def clF (C : Calls) (t : Tg) (ot : List OT) (Γ : Gam) (G : Gam → β → T β) : β → D → T β := fun acc d => clG (T.ofOpt (bindTg t d Γ)) (fun Γ' => evTs C ot Γ') G acc
/-- what a body must bear -/
def BodyOk (K : PySem.W.Frag) (bg : Option (Addr × Addr)) (S0 : Addr → Prop) (H0 : Hp) (Sb : Addr → Prop) (H1 : Hp) (D' : Addr) (Ac : (Addr → Prop) → Hp → β → HO → Prop) (A vs : List Nat) (G : Gam → β → T β) (tb : TB) : Prop :=
  ∀ O Γ S σ H acc N, At K bg S0 H0 O Γ S σ H → Far D' A vs O σ → Lp bg Sb H1 D' Ac S H acc → (G Γ acc).All (fun acc' => ∀ S' H', Lp bg Sb H1 D' Ac S' H' acc' → Ovr bg D' S H S' H' → N H') NX → tb σ H N
/-- the loop over the items ds, by data -/
theorem loop_read (M : MonoA Ac) (W1 : Wld bg Sb H1) (hD : H1 D' = none) (h0 : H0 D' = none) {t : Tg} {ot : List OT} {G : Gam → β → T β} {tb : TB} (hvl : ∀ i, i ∈ tgs t → i ∈ vsL) (hv : ∀ i, i ∈ vsL → i ∈ vs)
    (hb : BodyOk K bg S0 H0 Sb H1 D' Ac A vs G tb) (a : At K bg S0 H0 O Γ S σ H) (f : Far D' A vs O σ) (L : Lp bg Sb H1 D' Ac S H acc) {J : It} {ds : List D} (it : IterOk K bg J ds S H) {Dn : Hp → Prop}
    (all : (foldT (clF C t ot Γ G) acc ds).All (fun acc => ∀ S' H', Lp bg Sb H1 D' Ac S' H' acc → Ovr bg D' S H S' H' → Dn H') NX) :
    LoopW (gOf K t) (EvB K bg S0 H0 NX (evTs C ot)) tb vsL σ J Dn H := by
  have nS : ¬ S D' := let ⟨_, _, n, _⟩ := L.obj; n
  refine ⟨fun i m H' => (m = ds.length - i ∧ i ≤ ds.length) ∧ ∃ S' acc, Lp bg Sb H1 D' Ac S' H' acc ∧ Ovr bg D' S H S' H' ∧ (foldT (clF C t ot Γ G) acc (ds.drop i)).All (fun acc => ∀ S'' H'', Lp bg Sb H1 D' Ac S'' H'' acc → Ovr bg D' S H S'' H'' → Dn H'') NX,
    ⟨ds.length, ⟨by simp, Nat.zero_le _⟩, S, acc, L, .refl, all⟩, ?_⟩
  rintro i m H2 ⟨⟨rfl, hi⟩, S2, acc2, L2, E2, rest⟩
  obtain ⟨i1, i2⟩ := it i S2 H2 L2.wld (E2.sta a.wld nS)
  by_cases lt : i < ds.length
  · have hd : ds[i]? = some ds[i] := List.getElem?_eq_getElem lt
    obtain ⟨go, yl⟩ := i2 _ hd
    refine .inr ⟨go, fun H' => ∃ S' acc, Lp bg Sb H1 D' Ac S' H' acc ∧ Ovr bg D' S H S' H' ∧ (foldT (clF C t ot Γ G) acc (ds.drop (i + 1))).All (fun acc => ∀ S'' H'', Lp bg Sb H1 D' Ac S'' H'' acc → Ovr bg D' S H S'' H'' → Dn H'') NX,
      fun H' z => ⟨ds.length - (i + 1), by omega, ⟨rfl, lt⟩, z⟩, fun x H3 hy => ?_⟩
    obtain ⟨S3, W3, E3, r3⟩ := yl x H3 hy
    have L3 := L2.later M W1 hD W3 E3
    have E23 := E2.trans E3.ovr
    have a3 := a.over f nS h0 E23 W3
    rw [List.drop_eq_getElem_cons lt] at rest
    have rest := T.all_bind.mp (show ((clF C t ot Γ G acc2 ds[i]).bind fun c => foldT (clF C t ot Γ G) c (ds.drop (i + 1))).All _ NX from rest)
    unfold clF clG at rest
    obtain ⟨Γ', eΓ, rest⟩ := T.all_ofOpt (T.all_bind.mp rest)
    refine gOf_ok t _ x _ _ Γ' _ _ a3 r3 eΓ fun σ' a4 wp => ⟨wp vsL hvl, ?_⟩
    have f4 : Far D' A vs (dropT t O) σ' := fun j hj => by
      have jO := dropT_sub t _ j hj
      refine ⟨(f j jO).1, fun p ep => (f j jO).2 p ?_⟩
      have nv := (f j jO).1.2
      rw [← wipe_out (σ := σ) nv, ← wp vs fun i hi => hv i (hvl i hi), wipe_out nv]
      exact ep
    refine ⟨_, Γ', S3, a4, T.all_imp (T.all_bind.mp rest) fun b hb4 S4 H4 W4 E4 => ?_⟩
    have L4 := L3.later M W1 hD W4 E4
    have E24 := E23.trans E4.ovr
    cases b with
    | false => exact iteF ⟨S4, acc2, L4, E24, hb4⟩
    | true => exact iteT (hb _ Γ' S4 σ' H4 acc2 _ (a4.later E4 W4) f4 L4 (T.all_imp hb4 fun acc' h S' H' L' E' => ⟨S', acc', L', E24.trans E', h⟩))
  · have ei : i = ds.length := by omega
    subst ei
    refine .inl ⟨i1 (Nat.le_refl _), ?_⟩
    rw [List.drop_length] at rest
    exact rest S2 H2 L2 E2
/-- the second clause as a body -/
theorem body_in (M : MonoA Ac) (W1 : Wld bg Sb H1) (hD : H1 D' = none) (h0 : H0 D' = none) {t : Tg} {ot : List OT} {oi : OI} {G : Gam → β → T β} {tb : TB} (hv : ∀ i, i ∈ tgs t → i ∈ vs) (hb : BodyOk K bg S0 H0 Sb H1 D' Ac A vs G tb) :
    BodyOk K bg S0 H0 Sb H1 D' Ac A vs (fun Γ acc => (evI C oi Γ).bind fun ds => foldT (clF C t ot (wipeG Γ (tgs t)) G) acc ds) (tIn (EvI K bg S0 H0 NX A (evI C oi)) (gOf K t) (EvB K bg S0 H0 NX (evTs C ot)) tb (tgs t)) := by
  intro O Γ S σ H acc N a f L all
  refine ⟨O, Γ, S, a, T.all_imp (T.all_bind.mp all) fun ds hds J S5 H5 W5 E5 it len => ?_⟩
  have L5 := L.later M W1 hD W5 E5
  have a5 := (a.later E5 W5).wiped (tgs t)
  have gs : ∀ b, Gs S5 O σ A b → S5 b := fun b z => by
    rcases z with z | ⟨j, jA, jO, _⟩
    · exact z
    · exact absurd jA (f j jO).1.1
  have it5 : IterOk K bg J ds S5 H5 := fun i S' H' W' E' => it i S' H' W' ⟨fun b z => E'.sub b (gs b z), fun b o s h => E'.keep b o (gs b s) h⟩
  refine loop_read M W1 hD h0 (fun i hi => hi) hv hb a5 (fun j hj => ?_) L5 it5 (T.all_imp hds fun acc' h S' H' L' E' => h S' H' L' (E5.ovr.trans E'))
  obtain ⟨jO, _⟩ := List.mem_filter.mp hj
  exact ⟨(f j jO).1, fun p ep => (f j jO).2 p (wipeS_get.mp ep).1⟩
end
end Dy

set_option linter.all false
set_option maxRecDepth 10000
set_option autoImplicit false
/-! Dy, sets 5: the sinks: a list, a dict, a set of tuples; sorted(a set). -/
namespace Dy
open PySem PySem.Spec PyProof.Rows L2

/-! ### the bag as an object -/
def BagE (P : Program) (w : World) (h : Heap) (a : Addr) (L : List (Addr × List Key)) : Prop := ∃ (es : Array (Int × Value)) (ep : Nat) (t : SetTable), ((∃ o, (h.get? a = some o ∧ o.ExactSet) ∧ o.data = .set es ep t) ∧ es.toList = L.map (entK P w)) ∧
  (L.map (·.2)).Nodup ∧ (w.params.followText "set-order" = true ∨ t.led = true) ∧ TabOk t (L.map fun p => hK P w p.2) ∧ L.length * 5 < t.mask * 3 ∧ L.length < 64
def BagO (P : Program) (w : World) (a : Addr) (L : List (Addr × List Key)) : HO := .ext fun h => BagE P w h a L
/-- the rows of the bag are the data acc -/
def BagIs (S : Addr → Prop) (H : Hp) (L : List (Addr × List Key)) (acc : List D) : Prop := ∃ M : List ((Addr × List Key) × D), L.Perm (M.map (·.1)) ∧ M.map (·.2) = acc ∧ ∀ m ∈ M, tkeyD m.2 = some m.1.2 ∧ S m.1.1 ∧ H m.1.1 = some (.tup (m.1.2.map kV))
section
variable {P : Program} {w : World} {h h' : Heap} {a : Addr} {L : List (Addr × List Key)} {H : Hp}
theorem Bag.weak {es : Array (Int × Value)} {ep : Nat} {t : SetTable} (B : Bag P w h a L es ep t) : BagE P w h a L := ⟨es, ep, t, ⟨B.obj, B.ents⟩, B.diff, B.shown, B.tabl, B.wide⟩
theorem BagE.full (B : BagE P w h a L) (k : ∀ p ∈ L, IsK P w h p) : ∃ es ep t, Bag P w h a L es ep t := by
  obtain ⟨es, ep, t, ⟨h1, h2⟩, h3, h4, h5, h6⟩ := B
  exact ⟨es, ep, t, h1, h2, h3, k, h4, h5, h6⟩
theorem bagO_ok (B : BagE P w h a L) : ObjOk P w H h a (BagO P w a L) := by
  have ⟨_, _, _, ⟨⟨o, ⟨e, _⟩, _⟩, _⟩, _⟩ := B
  refine ⟨B, ⟨o, e⟩, fun h1 h2 p k => ?_⟩
  have ⟨es, ep, t, ⟨⟨u, ⟨e1, e2⟩, e3⟩, e4⟩, r⟩ := p
  exact ⟨es, ep, t, ⟨⟨u, ⟨k u e1, e2⟩, e3⟩, e4⟩, r⟩
theorem BagIs.mono {S S' : Addr → Prop} {H H' : Hp} {acc : List D} (b : BagIs S H L acc) (s : ∀ a, S a → S' a) (k : ∀ a o, S a → H a = some o → H' a = some o) : BagIs S' H' L acc := by
  obtain ⟨M, p, e, all⟩ := b
  exact ⟨M, p, e, fun m hm => ⟨(all m hm).1, s _ (all m hm).2.1, k _ _ (all m hm).2.1 (all m hm).2.2⟩⟩
theorem kvHas_iff {acc : List D} {x : D} : kvHas acc x = true ↔ x ∈ acc := by
  unfold kvHas
  rw [List.any_eq_true]
  constructor
  · rintro ⟨y, hy, e⟩
    rw [← beqD_eq _ _ e]
    exact hy
  · exact fun hx => ⟨x, hx, beqD_refl x⟩
theorem BagIs.add {S : Addr → Prop} {H : Hp} {acc : List D} (b : BagIs S H L acc) {x : Addr × List Key} {d : D} (hd : tkeyD d = some x.2) (hs : S x.1) (hh : H x.1 = some (.tup (x.2.map kV))) {N : List (Addr × List Key)} (m : More x L N) : BagIs S H N (setAdd1 acc d) := by
  obtain ⟨M, p, e, all⟩ := b
  have mem : x.2 ∈ L.map (·.2) ↔ d ∈ acc := by
    rw [← e, List.mem_map, List.mem_map]
    constructor
    · rintro ⟨q, hq, eq⟩
      obtain ⟨y, hy, ey⟩ := List.mem_map.mp (p.mem_iff.mp hq)
      refine ⟨y, hy, tkeyD_inj (all y hy).1 ?_⟩
      rw [hd, ← eq, ← ey]
    · rintro ⟨y, hy, ey⟩
      refine ⟨y.1, p.mem_iff.mpr (List.mem_map.mpr ⟨y, hy, rfl⟩), ?_⟩
      have := (all y hy).1
      rw [ey, hd] at this
      exact (Option.some.inj this).symm
  unfold setAdd1
  by_cases c : d ∈ acc
  · rw [if_pos (kvHas_iff.mpr c), m.1 (mem.mpr c)]
    exact ⟨M, p, e, all⟩
  · rw [if_neg (fun z => c (kvHas_iff.mp z))]
    have pn := m.2 (fun z => c (mem.mp z))
    refine ⟨M ++ [(x, d)], ?_, by rw [List.map_append, e]; rfl, fun q hq => ?_⟩
    · rw [List.map_append]
      exact (pn.trans (List.Perm.cons x p)).trans (List.perm_append_singleton x _).symm
    · rcases List.mem_append.mp hq with hq | hq
      · exact all q hq
      · rw [List.mem_singleton.mp hq]
        exact ⟨hd, hs, hh⟩
theorem BagIs.len {S : Addr → Prop} {H : Hp} {acc : List D} (b : BagIs S H L acc) : L.length = acc.length := by
  obtain ⟨M, p, e, _⟩ := b
  rw [p.length_eq, List.length_map, ← e, List.length_map]
theorem BagIs.tups {S : Addr → Prop} {H : Hp} {acc : List D} (b : BagIs S H L acc) : ∀ p ∈ L, S p.1 ∧ H p.1 = some (.tup (p.2.map kV)) := fun q hq => by
  obtain ⟨M, p, e, all⟩ := b
  obtain ⟨y, hy, ey⟩ := List.mem_map.mp (p.mem_iff.mp hq)
  rw [← ey]
  exact (all y hy).2
end

/-! ### one item goes in -/
section
variable {B : Cx} {vs : List Nat} {elt k v : Expr} {te tk tv : TE} {D' : Addr}
def tLs (te : TE) (D' : Addr) : TB := fun σ H N => te σ H fun y H1 => ∃ xs, H1 D' = some (.lst xs) ∧ xs.length < sizeLine ∧ N (upd H1 D' (.lst (xs ++ [y])))
def tBg (P : Program) (w : World) (te : TE) (D' : Addr) : TB := fun σ H N => te σ H fun y H1 => ∃ (x : Addr × List Key) (L : List (Addr × List Key)), (y = .ref x.1 ∧ H1 x.1 = some (.tup (x.2.map kV))) ∧ (∀ p ∈ L, H1 p.1 = some (.tup (p.2.map kV))) ∧
  H1 D' = some (BagO P w D' L) ∧ L.length + 1 < 64 ∧ ∀ N', More x L N' → N (upd H1 D' (BagO P w D' N'))
def tDs (tk tv : TE) (D' : Addr) : TB := fun σ H N => tk σ H fun y H1 => tv σ H1 fun z H2 => ∃ H3, DPut H2 D' y z H3 ∧ N H3
theorem keep_slots {X : Cx} {pins : List (Addr × Obj)} {σ : L2.St} {H : Hp} {s : Shared} {N : Hp → Prop} (I : Inv X pins σ H s) (n : N H) : ∃ (σ' : L2.St) (H' : Hp), (Inv X pins σ' H' s ∧ σ'.length = σ.length) ∧ (∀ (j : Nat) v, (wipe σ vs)[j]? = some (some v) → σ'[j]? = some (some v)) ∧ N H' :=
  ⟨σ, H, ⟨I, rfl⟩, fun j v e => (wipe_some e).1, n⟩
theorem pb_list (hx : B.xe = fun _ _ => False) (he : PE B elt te) : PB B vs (bodyL elt (.ref D') B.env) (tLs te D') := by
  refine ⟨fun pins s σ H N I h => ?_⟩
  have r := he.run pins s σ H _ I h
  rw [hx] at r
  unfold bodyL
  refine wpAny_bind (thnF r fun u s1 ⟨y, H1, I1, r1, xs, e1, hz, n⟩ => ?_)
  exact wpAny_bind (app_ok I1 e1 hz r1 fun s2 I2 => wpAny_pure (keep_slots I2 n))
theorem pb_set (hx : B.xe = fun _ _ => False) (hu : B.A.units + 2 < cLine) (he : PE B elt te) : PB B vs (bodyS elt (.ref D') B.env) (tBg B.prog B.w te D') := by
  refine ⟨fun pins s σ H N I h => ?_⟩
  have r := he.run pins s σ H _ I h
  rw [hx] at r
  unfold bodyS
  refine wpAny_bind (thnF r fun u s1 ⟨y, H1, I1, r1, x, L, ⟨ey, hx1⟩, hL, hD, few, n⟩ => ?_)
  subst ey
  cases r1
  have B0 : BagE B.prog B.w s1.heap D' L := (I1.hok D' _ hD).1
  obtain ⟨es, ep, t, Bg⟩ := B0.full fun p hp => key_of I1.hok (hL p hp)
  refine wpAny_bind (wpAny_standAt (wpAny_bind (Bg.call_add (key_of I1.hok hx1) hu few fun tk h' N' es' ep' t' sb Bg' m => ?_)))
  refine wpAny_pure (keep_slots ?_ (n N' m))
  exact I1.write (e := D') (t' := tk) (by rw [hD]; trivial) (.inl rfl) (fun b u hb hu => (sb.2 b hb).trans hu) (let ⟨o, ⟨e, _⟩, _⟩ := Bg'.obj; ⟨o, e⟩) (bagO_ok Bg'.weak)
/-- d[y] = v as a comprehension does it -/
theorem dset_ok {X : Cx} {pins : List (Addr × Obj)} {σ : L2.St} {H H' : Hp} {s : Shared} {E : Value → Shared → Prop} {y z : V} {u r : Value} {Q : Unit → Shared → Prop} (hu : X.A.units + 1 < cLine) (I : Inv X pins σ H s) (g : DPut H D' y z H') (ry : RelV y u) (rz : RelV z r) (q : ∀ s', Inv X pins σ H' s' → Q () s') :
    wpAny (model X.prog X.w) X.A (dictSet D' u r) Q E s := by
  rcases g with ⟨kvs, k, e, ey, l, eH⟩ | ⟨kvs, k, b, e, ey, eb, l, eH⟩
  · subst ey eH
    exact d_dictSet I e l ry rz q
  · subst ey eH
    cases ry
    obtain ⟨hz, hd, xs, rel, dd⟩ := dt_of I.hok e
    have hxs : xs.length ≤ sizeLine := by rw [← Paired.length rel]; exact hz
    have hl : (putK kvs k z).length ≤ sizeLine := by have := length_putK kvs k z; omega
    refine wpAny_dictSet_heap (hsz := hxs) (knd := tupleKind (mixKind X.prog X.w)) (by show X.A.units < cLine; omega) (key_of I.hok eb) dd (fun h' dd' sb => q _ ?_)
    obtain ⟨o, es, ep, a1, a2, a3, a4, _, a5⟩ := dd'
    refine d_write I (by rw [e]; exact True.intro) sb ⟨o, a1⟩ ⟨hl, hd, _, (rel.put k eb rz).keeps fun c ys ec => ?_, o, es, ep, a1, a2, a3, a4, a5⟩
    rw [upd_ne (ne_of ec e (fun z => nomatch z))]
    exact ec
theorem pb_dict (hx : B.xe = fun _ _ => False) (hu : B.A.units + 1 < cLine) (hk : PE B k tk) (hv : PE B v tv) : PB B vs (bodyD k v (.ref D') B.env) (tDs tk tv D') := by
  refine ⟨fun pins s σ H N I h => ?_⟩
  have r := hk.run pins s σ H _ I h
  rw [hx] at r
  unfold bodyD
  refine wpAny_bind (thnF r fun u s1 ⟨y, H1, I1, r1, q1⟩ => ?_)
  have r' := hv.run pins s1 σ H1 _ I1 q1
  rw [hx] at r'
  refine wpAny_bind (wpAny_holding (thnF r' fun w s2 ⟨z, H2, I2, r2, H3, g, n⟩ => ?_))
  refine wpAny_bind (wpAny_standAt (wpAny_holding (dset_ok hu I2 g r1 r2 fun s3 I3 => keep_slots I3 n)))
end
end Dy

set_option linter.all false
set_option maxRecDepth 10000
set_option autoImplicit false
/-! Dy, sets 6: comprehensions by data. -/
namespace Dy
open PySem PySem.Spec PyProof.Rows L2

/-! ### what is filled, by data -/
def gList (C : Calls) (oe : OE) (Γ : Gam) (acc : List D) : T (List D) := (evE C oe Γ).bind fun x => sinkL x acc
def gSet (C : Calls) (oe : OE) (Γ : Gam) (acc : List D) : T (List D) := (evE C oe Γ).bind fun x => sinkS x acc
def gDct (C : Calls) (t : Bool) (ok ov : OE) (Γ : Gam) (acc : List D × List D) : T (List D × List D) := (evE C ok Γ).bind fun x => (evE C ov Γ).bind fun y => sinkD t x y acc
section
variable {K : PySem.W.Frag} {bg : Option (Addr × Addr)} {S0 Sb : Addr → Prop} {H0 H1 : Hp} {D' : Addr} {A vs : List Nat} {C : Calls} {P : Program} {w : World}
def acL (K : PySem.W.Frag) (bg : Option (Addr × Addr)) : (Addr → Prop) → Hp → List D → HO → Prop := fun S H acc o => ObjR K bg S H (.lst acc) o
def acD (K : PySem.W.Frag) (bg : Option (Addr × Addr)) (t : Bool) : (Addr → Prop) → Hp → List D × List D → HO → Prop := fun S H q o => ObjR K bg S H (.dct t q.1 q.2) o
def acS (P : Program) (w : World) (D' : Addr) : (Addr → Prop) → Hp → List D → HO → Prop := fun S H acc o => ∃ L, o = BagO P w D' L ∧ BagIs S H L acc
theorem acL_mono : MonoA (acL K bg) := fun _ _ _ _ _ _ r s k => ObjR.mono s k r
theorem acD_mono {t : Bool} : MonoA (acD K bg t) := fun _ _ _ _ _ _ r s k => ObjR.mono s k r
theorem acS_mono : MonoA (acS P w D') := fun _ _ _ _ _ _ ⟨L, e, b⟩ s k => ⟨L, e, b.mono s k⟩
/-- nothing of A is one's own here -/
theorem none_own {S : Addr → Prop} {O : List Nat} {σ : L2.St} {H : Hp} {d : D} {v : V} (f : Far D' A vs O σ) (r : Rep K bg (Gs S O σ A) H d v) : Rep K bg S H d v := r.mono (fun p z => by
  rcases z with z | ⟨j, jA, jO, _⟩
  · exact z
  · exact absurd jA (f j jO).1.1) (fun _ _ _ z => z) d v
theorem body_list (W1 : Wld bg Sb H1) (hD : H1 D' = none) {oe : OE} : BodyOk K bg S0 H0 Sb H1 D' (acL K bg) A vs (gList C oe) (tLs (EvD K bg S0 H0 NX A (evE C oe)) D') := by
  intro O Γ S σ H acc N a f L all
  refine ⟨O, Γ, S, a, T.all_imp (T.all_bind.mp all) fun x hx v S1 H2 W E r => ?_⟩
  obtain ⟨c, hx⟩ := T.all_need hx
  have L1 := L.later acL_mono W1 hD W E
  have ⟨o, e, n, ⟨xs, eo, rs⟩⟩ := L1.obj
  subst eo
  have l := rs.length
  have c := of_decide_eq_true c
  have hl := lineM
  refine ⟨xs, e, by omega, ?_⟩
  obtain ⟨L2, V2⟩ := L1.wr (acc' := acc ++ [x]) acL_mono W1 hD (o' := .lst (xs ++ [v])) (fun _ z => by cases z) ⟨_, rfl, rs.append ⟨v, [], rfl, none_own f r, rfl⟩⟩
  exact hx _ _ L2 (E.ovr.trans V2)
theorem body_dict (W1 : Wld bg Sb H1) (hD : H1 D' = none) {t : Bool} {ok ov : OE} : BodyOk K bg S0 H0 Sb H1 D' (acD K bg t) A vs (gDct C t ok ov) (tDs (EvD K bg S0 H0 NX A (evE C ok)) (EvD K bg S0 H0 NX A (evE C ov)) D') := by
  intro O Γ S σ H acc N a f L all
  refine ⟨O, Γ, S, a, T.all_imp (T.all_bind.mp all) fun x hx v S1 H2 W E r => ?_⟩
  have a1 := a.later E W
  refine ⟨O, Γ, S1, a1, T.all_imp (T.all_bind.mp hx) fun y hy z S2 H3 W2 E2 r2 => ?_⟩
  obtain ⟨c, hy⟩ := T.all_need hy
  rw [Bool.and_eq_true, decide_eq_true_eq] at c
  have L1 := L.later acD_mono W1 hD W2 (E.trans E2)
  have ⟨o, e, n, ro⟩ := L1.obj
  have rk := (E2.rep W (none_own f r))
  obtain ⟨o', put, ro'⟩ := dct_put e ro rk c.1 (none_own f r2) (by rw [← lineM]; exact c.2)
  refine ⟨_, put, ?_⟩
  obtain ⟨L2, V2⟩ := L1.wr (acc' := kvPut acc.1 acc.2 x y) acD_mono W1 hD (fun ys => ro'.notup ys) ro'
  exact hy _ _ L2 ((E.trans E2).ovr.trans V2)
theorem body_set (W1 : Wld bg Sb H1) (hD : H1 D' = none) {oe : OE} : BodyOk K bg S0 H0 Sb H1 D' (acS P w D') A vs (gSet C oe) (tBg P w (EvD K bg S0 H0 NX A (evE C oe)) D') := by
  intro O Γ S σ H acc N a f L all
  refine ⟨O, Γ, S, a, T.all_imp (T.all_bind.mp all) fun x hx v S1 H2 W E r => ?_⟩
  obtain ⟨c, hx⟩ := T.all_need hx
  rw [Bool.and_eq_true, decide_eq_true_eq] at c
  have L1 := L.later acS_mono W1 hD W E
  have ⟨o, e, n, ⟨R, eo, b⟩⟩ := L1.obj
  subst eo
  obtain ⟨k, ek⟩ := tkey_some c.1
  obtain ⟨q, ev, sq, hq⟩ := tkey_rep ek (none_own f r)
  refine ⟨(q, k), R, ⟨ev, hq⟩, fun p hp => (b.tups p hp).2, e, by rw [b.len]; omega, fun R' m => ?_⟩
  obtain ⟨L2, V2⟩ := L1.wr (acc' := setAdd1 acc x) acS_mono W1 hD (o' := BagO P w D' R') (fun _ z => by cases z) ⟨R', rfl, b.add ek sq hq m⟩
  exact hx _ _ L2 (E.ovr.trans V2)
end

/-! ### a whole comprehension, by data -/
/-- a new object that none else knows -/
def EvA {β : Type} (K : PySem.W.Frag) (bg : Option (Addr × Addr)) (S0 : Addr → Prop) (H0 : Hp) (EX : D → Prop) (A : List Nat) (Ac : Addr → (Addr → Prop) → Hp → β → HO → Prop) (m : Gam → T β) : TE := fun σ H Q => ∃ O Γ S, At K bg S0 H0 O Γ S σ H ∧
  (m Γ).All (fun acc => ∀ D' S' H', Wld bg S' H' → Ext bg S H S' H' → (¬ Gs S' O σ A D' ∧ H D' = none) → (∃ o, H' D' = some o ∧ Ac D' (Gs S' O σ A) H' acc o) → Q (.ref D') H') EX
section
variable {X : Cx} {bg : Option (Addr × Addr)} {S0 : Addr → Prop} {H0 : Hp} {EX : D → Prop} {A : List Nat} {C : Calls} {e tg iter : Expr} {ifs : List Expr} {rest : List Comprehension} {body : Value → Env → Sem Unit} {scope : Scope} {own : List (Str × Nat)} {β : Type}
/-- the parts of a comprehension -/
structure CompR {β : Type} (X : Cx) (bg : Option (Addr × Addr)) (S0 : Addr → Prop) (H0 : Hp) (EX : D → Prop) (A : List Nat) (C : Calls) (e : Expr) (scope : Scope) (own : List (Str × Nat)) (oi : OI) (t : Tg) (ot : List OT) (G : Gam → β → T β) (init : β) (Ac : Addr → (Addr → Prop) → Hp → β → HO → Prop) (mk : Sem Value) (pos' : Pos) (iter : Expr) : Prop where
  run : ∀ {pins : List (Addr × Obj)} {s : Shared} {σ : L2.St} {H : Hp} {Q : VK} {use : Option (Value → Sem Unit)} {Qf : Value → Shared → Prop}, Inv X pins σ H s → EvA X.K bg S0 H0 EX A Ac (fun Γ => (evI C oi Γ).bind fun ds => (foldT (clF C t ot (wipeG Γ (own.map (·.2))) G) init ds).still) σ H Q →
    (∀ D c s' m H', Inv X pins σ H' s' → Q (.ref D) H' → s'.heap.Ns c m → FpOk X pins H' c → compPost (model X.prog X.w) X.A X.xe use Qf (.ref D) c (.ok .next) s') →
    wpAny (model X.prog X.w) X.A (comprehension e scope X.env pos' mk false (eval iter X.env) use) Qf X.xe s
theorem comp_read (ok0 : CompOk X.prog X.w e 0 ⟨tg, iter, ifs, 0⟩ body) (hcl : clausesOf e = ⟨tg, iter, ifs, 0⟩ :: rest) {mk : Sem Value} {ob : Obj} {o0 : Addr → HO} {pos' : Pos}
    (hmk : ∀ {Q : Value → Shared → Prop} {s : Shared}, Q (.ref s.heap.objs.size) { s with heap := s.heap.push ob } → wpAny (model X.prog X.w) X.A mk Q X.xe s)
    (hob : ∀ (h : Heap) (H : Hp), sysModules < h.objs.size → ObjOk X.prog X.w H (h.push ob) h.objs.size (o0 h.objs.size))
    {oi : OI} {t : Tg} {ot : List OT} {G : Gam → β → T β} {init : β} {Ac : Addr → (Addr → Prop) → Hp → β → HO → Prop} {tb : Addr → TB}
    (hM : ∀ D', MonoA (Ac D')) (hnt : ∀ D' ys, o0 D' ≠ .tup ys) (hin : ∀ D' S H, Ac D' S H init (o0 D'))
    (hc : X.calm = true) (hN : X.N.Nodup) (hi : PI X tg iter (EvI X.K bg S0 H0 EX A (evI C oi))) (ok : BlkOk X.N X.env.scope scope own) (hs : ∀ x, foldedSetIterable iter X.env x = pure x) (htg : ∀ i, i ∈ tgs t → i ∈ own.map (·.2))
    (hg : ∀ (s : Shared) (H : Hp) (c : Addr) (cl : List (Str × Addr)) (fp : List Addr), PG (X.blk s H scope (compEnvC scope cl c X.env) fp) tg (gOf X.K t))
    (ht : ∀ (s : Shared) (H : Hp) (c : Addr) (cl : List (Str × Addr)) (fp : List Addr), PTs (X.blk s H scope (compEnvC scope cl c X.env) fp) ifs (EvB X.K bg S0 H0 NX (evTs C ot)))
    (hb : ∀ (s : Shared) (H : Hp) (c : Addr) (cl : List (Str × Addr)) (fp : List Addr) (D' : Addr), PB (X.blk s H scope (compEnvC scope cl c X.env) fp) (own.map (·.2)) (body (.ref D') (compEnvC scope cl c X.env)) (tb D'))
    (hB : ∀ Sb H1 D', Wld bg Sb H1 → H1 D' = none → H0 D' = none → BodyOk X.K bg S0 H0 Sb H1 D' (Ac D') A (own.map (·.2)) G (tb D')) :
    CompR X bg S0 H0 EX A C e scope own oi t ot G init Ac mk pos' iter := by
  refine ⟨fun {pins s σ H Q use Qf} I ⟨O, Γ, S, a, q⟩ hQ => ?_⟩
  refine comp_shell ok0 hcl hmk hob hc hN hi ok hs hg ht hb I hQ ⟨O, Γ, S, a, T.all_imp (T.all_bind.mp q) fun ds hds J S1 H1 W1 E1 it len D' hD => ?_⟩
  have a1 := a.later E1 W1
  have Wb := a1.gwld A
  have h0 : H0 D' = none := a1.ext.unborn hD
  have nD : ¬ Gs S1 O σ A D' := fun z => Wb.dom D' z hD
  have Em : Ext bg (Gs S1 O σ A) H1 (Gs S1 O σ A) (upd H1 D' (o0 D')) := .made D' _ hD
  have Wm : Wld bg (Gs S1 O σ A) (upd H1 D' (o0 D')) := Wb.made hD (hnt D')
  have am := ((a1.freeze A).later Em Wm).wiped (own.map (·.2))
  refine loop_read (hM D') Wb hD h0 htg (fun _ z => z) (hB _ H1 D' Wb hD h0) am (fun j hj => ?_) ⟨Wm, Em, o0 D', upd_same, nD, hin D' _ _⟩ (fun i S' H' W' E' => it i S' H' W' ⟨E'.sub, fun b o sb eb => E'.keep b o sb ((upd_ne (fun z => by rw [z, hD] at eb; cases eb)).trans eb)⟩)
    (T.all_imp (T.all_still (E' := NX) hds) fun acc h S' H' L' _ => ?_)
  · obtain ⟨jO, jv⟩ := List.mem_filter.mp hj
    obtain ⟨jO, jA⟩ := List.mem_filter.mp jO
    refine ⟨⟨of_decide_eq_true jA, of_decide_eq_true jv⟩, fun p ep z => ?_⟩
    obtain ⟨d, o, _, _, _, hp, _⟩ := a1.abs.at jO (wipeS_get.mp ep).1
    rw [z, hD] at hp
    cases hp
  · obtain ⟨o, eo, nS, r⟩ := L'.obj
    obtain ⟨W6, E6, s6⟩ := a1.back L'.wld L'.ext
    refine h D' _ H' W6 (E1.trans E6) ⟨fun z => nS ?_, E1.unborn hD⟩ ⟨o, eo, hM D' _ _ _ _ _ _ r s6 fun _ _ _ z => z⟩
    rcases z with (z | ⟨z, _⟩) | ⟨i, z1, z2, z3⟩
    · exact L'.ext.sub _ (.inl z)
    · exact z
    · exact L'.ext.sub _ (.inr ⟨i, z1, z2, z3⟩)
/-- as a fresh value -/
theorem evA_N {K : PySem.W.Frag} {Ac : Addr → (Addr → Prop) → Hp → β → HO → Prop} {m : Gam → T β} {dat : β → D} (hA : ∀ D' S H acc o, Ac D' S H acc o → ObjR K bg S H (dat acc) o) {σ : L2.St} {H : Hp} {Q : VK}
    (q : EvN K bg S0 H0 EX A (fun Γ => (m Γ).bind fun acc => .ret (dat acc, true)) σ H Q) : EvA K bg S0 H0 EX A Ac m σ H Q := by
  obtain ⟨O, Γ, S, a, q⟩ := q
  exact ⟨O, Γ, S, a, T.all_imp (T.all_bind.mp q) fun acc h D' S' H' W E n ⟨o, e, r⟩ => h _ S' H' W E ⟨D', o, rfl, n.1, n.2, e, hA _ _ _ _ _ r⟩⟩
end
end Dy

set_option linter.all false
set_option maxRecDepth 10000
set_option autoImplicit false
/-! Dy, sets 7: sorted(a set of tuples). -/
namespace Dy
open PySem PySem.Spec PyProof.Rows L2

/-- the order of the items is of no matter -/
theorem sort_perm {xs ys : List D} (p : xs.Perm ys) (t : totD ys = true) : xs.mergeSort (PySem.W.dataLe false pyOf) = ys.mergeSort (PySem.W.dataLe false pyOf) := by
  have px := List.mergeSort_perm xs (PySem.W.dataLe false pyOf)
  have py := List.mergeSort_perm ys (PySem.W.dataLe false pyOf)
  refine List.Perm.eq_of_pairwise (le := fun a b => PySem.W.dataLe false pyOf a b = true) (fun a b ha hb h1 h2 => ?_) (List.pairwise_mergeSort dle_trans dle_total _) (List.pairwise_mergeSort dle_trans dle_total _) ((px.trans p).trans py.symm)
  have a1 := p.mem_iff.mp (px.mem_iff.mp ha)
  have b1 := py.mem_iff.mp hb
  have := List.all_eq_true.mp (List.all_eq_true.mp t a a1) b b1
  rw [dle] at h1 h2
  rw [Bool.or_eq_true, Bool.or_eq_true] at this
  rcases this with z | z | z
  · exact beqD_eq _ _ z
  · rw [z] at h2; cases h2
  · rw [z] at h1; cases h1
theorem perm_map {α β : Type} {f : α → β} : ∀ {l m : List β}, l.Perm m → ∀ xs : List α, m = xs.map f → ∃ ys : List α, ys.Perm xs ∧ l = ys.map f := by
  intro l m p
  induction p with
  | nil => exact fun xs e => ⟨xs, .refl _, e⟩
  | cons x _ ih =>
    intro xs e
    cases xs with
    | nil => cases e
    | cons y ys =>
      rw [List.map_cons] at e
      injection e with e1 e2
      obtain ⟨zs, q, e3⟩ := ih ys e2
      exact ⟨y :: zs, q.cons y, by rw [List.map_cons, ← e1, e3]⟩
  | swap x y l =>
    intro xs e
    cases xs with
    | nil => cases e
    | cons a xs =>
      cases xs with
      | nil => cases e
      | cons b xs =>
        rw [List.map_cons, List.map_cons] at e
        injection e with e1 e2
        injection e2 with e2 e3
        exact ⟨b :: a :: xs, .swap a b xs, by rw [List.map_cons, List.map_cons, ← e1, ← e2, ← e3]⟩
  | trans _ _ i1 i2 =>
    intro xs e
    obtain ⟨ys, p1, e1⟩ := i2 xs e
    obtain ⟨zs, p2, e2⟩ := i1 ys e1
    exact ⟨zs, p2.trans p1, e2⟩

section
variable {X : Cx} {bg : Option (Addr × Addr)} {EX : D → Prop}
/-- keys read off no list -/
theorem reads_key {h : Heap} {d : D} {k : Key} {u : Value} (e : keyD d = some k) (r : RelV (kV k) u) : Reads h u (pyOf d) [] := by
  rcases keyD_inv e with ⟨i, rfl, rfl⟩ | ⟨l, rfl, _, rfl⟩
  · obtain ⟨t, rfl⟩ := r
    exact .int i t
  · obtain ⟨t, rfl⟩ := r
    exact .str _ t
theorem reads_keys {h : Heap} : ∀ {ds : List D} {kk : List Key} {us : List Value}, keysD ds = some kk → Vals (kk.map kV) us → ∃ ps, toPys ds = some ps ∧ ReadsAll h us ps []
  | [], kk, us, e, r => by
    cases e
    cases r
    exact ⟨[], rfl, .nil⟩
  | d :: ds, kk, us, e, r => by
    obtain ⟨k, ks, e1, e2, e3⟩ := keysD_cons e
    subst e3
    cases r with
    | cons r1 r2 =>
      obtain ⟨ps, e4, q⟩ := reads_keys e2 r2
      have r0 := reads_key (h := h) e1 r1
      have e5 : ∃ p, toPy d = some p := by
        rcases keyD_inv e1 with ⟨i, rfl, _⟩ | ⟨l, rfl, _, _⟩
        · exact ⟨_, rfl⟩
        · exact ⟨_, rfl⟩
      obtain ⟨p, e5⟩ := e5
      have e6 : pyOf d = p := by unfold pyOf; rw [e5]; rfl
      rw [e6] at r0
      exact ⟨p :: ps, by unfold toPys; rw [e5, e4], .cons (as := []) (bs := []) r0 q⟩
theorem reads_tkey {pins : List (Addr × Obj)} {σ : L2.St} {s : Shared} {H : Hp} (I : Inv X pins σ H s) {d : D} {k : List Key} {b : Addr} (e : tkeyD d = some k) (hb : H b = some (.tup (k.map kV))) : Reads s.heap (.ref b) (pyOf d) [] := by
  cases d <;> first | (cases e; done) | skip
  rename_i ds
  obtain ⟨its, rv, ⟨o, eo, ec, n, ed⟩, _⟩ := I.tuple (xs := k.map kV) (.inl (.inl hb))
  obtain ⟨ps, e1, q⟩ := reads_keys (h := s.heap) (show keysD ds = some k from e) rv
  have e2 : pyOf (.tup ds) = .tuple ps := by unfold pyOf toPy; rw [e1]; rfl
  rw [e2]
  exact .tuple eo ec ed (by simpa using q)
/-- sorted(bag) -/
def rSortB (K : PySem.W.Frag) (P : Program) (w : World) (EX : D → Prop) : List V → Hp → VK → Prop := fun vs H Q => ∃ bg S D' L acc, vs = [.ref D'] ∧ H D' = some (BagO P w D' L) ∧ (Wld bg S H ∧ BagIs S H L acc) ∧
  (sortSet acc).All (fun es => ∀ p xs, H p = none → Reps K bg S H es xs → Q (.ref p) (upd H p (.lst xs))) EX
theorem call_sorted_bag (hc : X.calm = true) (hu : X.A.units + 70 < cLine) : CallR X (.builtin "sorted") (rSortB X.K X.prog X.w EX) := by
  intro pins s σ H vs us Q I r ⟨bg, S, D', L, acc, ev, hD, ⟨W, b⟩, h⟩
  subst ev
  rw [Vals.ref1 r]
  obtain ⟨c, h⟩ := T.all_need h
  simp only [Bool.and_eq_true] at c
  obtain ⟨⟨c1, c2⟩, c3⟩ := c
  have few : L.length < 64 := by
    have B0 : BagE X.prog X.w s.heap D' L := (I.hok D' _ hD).1
    obtain ⟨_, _, _, _, _, _, _, _, z⟩ := B0
    exact z
  obtain ⟨es, ep, t, B⟩ := BagE.full (I.hok D' _ hD).1 fun p hp => key_of I.hok (b.tups p hp).2
  have ⟨o, ⟨eo, ex⟩, ed⟩ := B.obj
  obtain ⟨M, pM, eM, allM⟩ := b
  refine Calls.call_function_entry kind_sorted plain_sorted entry_sorted (args_sorted1 _) ?_
  unfold Builtin.«sorted»
  refine wpAny_bind (m := checkCount "sorted" 1 1 _) (wpAny_pure ?_)
  refine wpAny_bind (collect_set (A := X.A.in1) (by show X.A.handled = none; exact I.ok.hd hc) ⟨o, eo, ex.1, ed⟩ B.fit (by rw [B.many]; unfold scanBound; omega) B.tabl.ris B.shown fun s1 vs k1 z1 g1 o1 pm => ?_)
  have es2 : es.toList.map (·.2) = L.map fun p => Value.ref p.1 := by
    rw [B.ents, List.map_map]
    rfl
  rw [es2] at pm
  have pm2 : vs.Perm (M.map fun m => Value.ref m.1.1) := by
    have := pm.trans (pM.map fun p => Value.ref p.1)
    rw [List.map_map] at this
    exact this
  obtain ⟨N, pN, eN⟩ := perm_map pm2 M rfl
  have allN : ∀ m ∈ N, tkeyD m.2 = some m.1.2 ∧ S m.1.1 ∧ H m.1.1 = some (.tup (m.1.2.map kV)) := fun m hm => allM m (pN.mem_iff.mp hm)
  have pacc : (N.map (·.2)).Perm acc := by rw [← eM]; exact pN.map _
  have nl : N.length < 64 := by
    rw [pN.length_eq]
    have := pM.length_eq
    rw [List.length_map] at this
    omega
  -- the items by data
  have rsp : Reps X.K bg S H (N.map (·.2)) (N.map fun m => V.ref m.1.1) := by
    clear pN eN pacc nl
    induction N with
    | nil => rfl
    | cons m N ih =>
      have := allN m List.mem_cons_self
      exact ⟨_, _, rfl, rep_tkey this.1 this.2.1 this.2.2, ih fun x hx => allN x (List.mem_cons_of_mem _ hx)⟩
  have rvl : Vals (N.map fun m => V.ref m.1.1) vs := by
    rw [eN]
    clear pN eN pacc nl rsp allN
    induction N with
    | nil => exact .nil
    | cons m N ih => exact .cons rfl ih
  refine wpAny_bind (wpAny_newList ?_ (by rw [eN, List.length_map, sizeLine_eq]; omega))
  have eL : (s1.heap.push (seqObj "list" vs.toArray 0)).get? s1.heap.objs.size = some (seqObj "list" vs.toArray 0) := Heap.get?_push_size _ rfl
  -- the state with the new list
  have J1 : Inv X pins σ H s1 := I.call' (ch := []) o1 (Un.kept k1) (I.hok.kept k1) (by rw [g1]; exact I.bare) (fun _ z => nomatch z)
  have fr : H s1.heap.objs.size = none := J1.hok.fresh (Nat.le_refl _)
  have J2 : Inv X pins σ (upd H s1.heap.objs.size (.lst (N.map fun m => V.ref m.1.1))) { s1 with heap := s1.heap.push (seqObj "list" vs.toArray 0) } :=
    J1.laid (t' := s1.toks) (fun b u e => Heap.get?_push_of_some _ e) (Nat.le_refl _) ⟨by rw [List.length_map, sizeLine_eq]; omega, vs, 0, rvl, eL⟩
  have er : PySem.W.EachIs (fun v d => ∃ as, Reads (s1.heap.push (seqObj "list" vs.toArray 0)) v (pyOf d) as ∧ s1.heap.objs.size ∉ as) vs (N.map (·.2)) := by
    have hr : ∀ m ∈ N, Reads (s1.heap.push (seqObj "list" vs.toArray 0)) (.ref m.1.1) (pyOf m.2) [] := fun m hm => by
      refine reads_tkey J2 (allN m hm).1 ?_
      rw [upd_ne (ne_of_none (allN m hm).2.2 fr)]
      exact (allN m hm).2.2
    generalize s1.heap.push (seqObj "list" vs.toArray 0) = hh at hr ⊢
    rw [eN]
    clear pN eN pacc nl rsp allN rvl J2
    induction N with
    | nil => exact .nil
    | cons m N ih => exact .cons ⟨[], hr m List.mem_cons_self, by simp⟩ (ih fun x hx => hr x (List.mem_cons_of_mem _ hx))
  have alN : ∀ d ∈ N.map (·.2), d ∈ acc := fun d hd => pacc.mem_iff.mp hd
  have al := List.all_eq_true.mp c1
  have lk : PySem.W.AllAlike ((N.map (·.2)).map pyOf) := fun d hd d' hd' => by
    obtain ⟨x, hx, rfl⟩ := List.mem_map.mp hd
    obtain ⟨y, hy, rfl⟩ := List.mem_map.mp hd'
    have := al x (alN x hx)
    simp only [Bool.and_eq_true] at this
    exact List.all_eq_true.mp this.2 y (alN y hy)
  have so : PySem.W.Sortable ((N.map (·.2)).map pyOf) := .inl fun d hd => by
    obtain ⟨x, hx, rfl⟩ := List.mem_map.mp hd
    have t := List.all_eq_true.mp c2 x (alN x hx)
    have sm : (toPy x).isSome = true := by
      have := al x (alN x hx)
      simp only [Bool.and_eq_true] at this
      exact this.1.1
    obtain ⟨p, e0⟩ := Option.isSome_iff_exists.mp sm
    cases x <;> first | (cases t; done) | skip
    rename_i zs
    cases zs with
    | nil => cases t
    | cons z zs =>
      have e1 : pyOf (.tup (z :: zs)) = p := by unfold pyOf; rw [e0]; rfl
      unfold toPy toPys at e0
      obtain ⟨q, eq, e2⟩ := Option.map_eq_some_iff.mp e0
      split at eq
      · cases eq
        exact ⟨_, _, by rw [e1, ← e2]⟩
      · cases eq
  have dp : ∀ d ∈ N.map (·.2), (pyOf d).depth ≤ 64 := fun d hd => by
    have := al d (alN d hd)
    simp only [Bool.and_eq_true, decide_eq_true_eq] at this
    exact this.1.2
  refine wpAny_bind (wpAny_holding (PySem.W.list_sort_data (A := X.A.in1) (s := { s1 with heap := s1.heap.push (seqObj "list" vs.toArray 0) }) (R := fun u d => ∃ v, RelV v u ∧ Rep X.K bg S H d v) (enc := pyOf) eL (each_of (X := X) rsp rvl) er lk so (by rw [List.length_map, sizeLine_eq]; omega)
    (fun d hd => by have := dp d hd; have : X.A.in1.units = X.A.units + 1 := rfl; omega) fun out ho er2 => ?_))
  obtain ⟨zs, rz, qz⟩ := each_back er2
  obtain ⟨c, he⟩ := sortedHeap_at (vs := vs) (out := out.toArray) eL
  have hlen : zs.length ≤ sizeLine := by
    rw [rz.length, ho, List.length_map, sizeLine_eq]
    omega
  rw [sort_perm pacc c3, isort_eq] at qz
  have J : Inv X pins σ (upd H s1.heap.objs.size (.lst zs)) { s1 with heap := sortedHeap (s1.heap.push (seqObj "list" vs.toArray 0)) s1.heap.objs.size vs out.toArray } :=
    J1.laid (t' := s1.toks) (fun b u e => by
      have lt := Heap.lt_size e
      rw [sortedHeap_old (Nat.ne_of_lt lt) (by rw [size_push']; exact Nat.lt_succ_of_lt lt)]
      exact Heap.get?_push_of_some _ e) (Nat.le_refl _) ⟨hlen, out, c, rz, he⟩
  exact wpAny_pure ⟨_, rfl, .ref _, _, J, rfl, h _ zs fr qz⟩
end
end Dy

set_option linter.all false
set_option maxRecDepth 10000
set_option autoImplicit false
/-! Dy, sets 8: comprehensions with two clauses, of dicts, sorted sets: the rules. -/
namespace Dy
open PySem PySem.Spec PyProof.Rows L2
section
variable {X : Cx} {bg : Option (Addr × Addr)} {S0 : Addr → Prop} {H0 : Hp} {EX : D → Prop} {A : List Nat} {C : Calls} {elt kx vx tg iter tg1 iter1 : Expr} {ifs ifs1 : List Expr} {scope : Scope} {own : List (Str × Nat)} {pos pos' : Pos} {oi oi1 : OI} {oe ok ov : OE} {ot ot1 : List OT} {t t1 : Tg}
theorem mk_list {Q : Value → Shared → Prop} {s : Shared} (q : Q (.ref s.heap.objs.size) { s with heap := s.heap.push { cls := .type "list", data := .seq ([] : List Value).toArray } }) : wpAny (model X.prog X.w) X.A (newList []) Q X.xe s := wpAny_newObj_type q (by show 0 ≤ sizeLine; decide)
theorem mk_dict {Q : Value → Shared → Prop} {s : Shared} (q : Q (.ref s.heap.objs.size) { s with heap := s.heap.push { cls := .type "dict", data := .dict #[] } }) : wpAny (model X.prog X.w) X.A newDict Q X.xe s := wpAny_newObj_type q
theorem ob_list (h : Heap) (H : Hp) : ObjOk X.prog X.w H (h.push { cls := .type "list", data := .seq ([] : List Value).toArray }) h.objs.size (.lst []) := ⟨Nat.zero_le _, [], 0, .nil, Heap.get?_push_size _ rfl⟩
def dct0 (t : Bool) : HO := match t with | false => .dK [] | true => .dT []
theorem ob_dict (t : Bool) (h : Heap) (H : Hp) (hb : sysModules < h.objs.size) : ObjOk X.prog X.w H (h.push { cls := .type "dict", data := .dict #[] }) h.objs.size (dct0 t) := by
  cases t with
  | false => exact dk_empty h hb
  | true => exact dt_empty h hb
theorem ac_list0 {K : PySem.W.Frag} (D' : Addr) (S : Addr → Prop) (H : Hp) : acL K bg S H [] (.lst []) := ⟨[], rfl, rfl⟩
theorem ac_dict0 {K : PySem.W.Frag} {b : Bool} (D' : Addr) (S : Addr → Prop) (H : Hp) : acD K bg b S H ([], []) (dct0 b) := by
  cases b with
  | false => exact ⟨[], ⟨[], rfl, rfl, rfl⟩, rfl⟩
  | true => exact ⟨[], ⟨[], rfl, rfl, rfl⟩, rfl⟩
theorem ac_set0 (D' : Addr) (S : Addr → Prop) (H : Hp) : acS X.prog X.w D' S H [] (BagO X.prog X.w D' []) := ⟨[], rfl, [], .refl _, rfl, fun _ h => absurd h (by simp)⟩
/-- a clause's second part as a body by data -/
def gIn {β : Type} (C : Calls) (oi : OI) (t : Tg) (ot : List OT) (G : Gam → β → T β) (Γ : Gam) (acc : β) : T β := (evI C oi Γ).bind fun ds => foldT (clF C t ot (wipeG Γ (tgs t)) G) acc ds
variable (hc : X.calm = true) (hN : X.N.Nodup) (hi : PI X tg iter (EvI X.K bg S0 H0 EX A (evI C oi))) (bk : BlkOk X.N X.env.scope scope own) (hs : ∀ x, foldedSetIterable iter X.env x = pure x) (htg : ∀ i, i ∈ tgs t → i ∈ own.map (·.2))
    (hg : ∀ (s : Shared) (H : Hp) (c : Addr) (cl : List (Str × Addr)) (fp : List Addr), PG (X.blk s H scope (compEnvC scope cl c X.env) fp) tg (gOf X.K t))
    (ht : ∀ (s : Shared) (H : Hp) (c : Addr) (cl : List (Str × Addr)) (fp : List Addr), PTs (X.blk s H scope (compEnvC scope cl c X.env) fp) ifs (EvB X.K bg S0 H0 NX (evTs C ot)))
include hc hN hi bk hs htg hg ht
theorem kc_dict {b : Bool} (hu : X.A.units + 1 < cLine)
    (hk : ∀ (s : Shared) (H : Hp) (c : Addr) (cl : List (Str × Addr)) (fp : List Addr), PE (X.blk s H scope (compEnvC scope cl c X.env) fp) kx (EvD X.K bg S0 H0 NX A (evE C ok)))
    (hv : ∀ (s : Shared) (H : Hp) (c : Addr) (cl : List (Str × Addr)) (fp : List Addr), PE (X.blk s H scope (compEnvC scope cl c X.env) fp) vx (EvD X.K bg S0 H0 NX A (evE C ov))) :
    CompR X bg S0 H0 EX A C (.DictComp kx vx [⟨tg, iter, ifs, 0⟩] scope pos) scope own oi t ot (gDct C b ok ov) ([], []) (fun _ => acD X.K bg b) newDict pos' iter :=
  comp_read (ok0 := ok_dict) rfl mk_dict (fun h H z => ob_dict b h H z) (fun _ => acD_mono) (fun _ ys z => by cases b <;> cases z) ac_dict0 hc hN hi bk hs htg hg ht
    (fun s H c cl fp D' => pb_dict (B := X.blk s H scope (compEnvC scope cl c X.env) fp) rfl hu (hk s H c cl fp) (hv s H c cl fp)) fun Sb H1 D' W1 hD h0 => body_dict W1 hD
theorem kc_set (hu : X.A.units + 2 < cLine)
    (he : ∀ (s : Shared) (H : Hp) (c : Addr) (cl : List (Str × Addr)) (fp : List Addr), PE (X.blk s H scope (compEnvC scope cl c X.env) fp) elt (EvD X.K bg S0 H0 NX A (evE C oe))) :
    CompR X bg S0 H0 EX A C (.SetComp elt [⟨tg, iter, ifs, 0⟩] scope pos) scope own oi t ot (gSet C oe) [] (fun D' => acS X.prog X.w D') (newSet (.type "set")) pos' iter :=
  comp_read (ok0 := ok_set) rfl (fun q => PpSet.newSet_ok q) (fun h H z => bagO_ok (bag_new (P := X.prog) (w := X.w) (Heap.get?_push_size _ rfl)).weak) (fun _ => acS_mono) (fun _ ys z => by cases z) ac_set0 hc hN hi bk hs htg hg ht
    (fun s H c cl fp D' => pb_set (B := X.blk s H scope (compEnvC scope cl c X.env) fp) rfl hu (he s H c cl fp)) fun Sb H1 D' W1 hD h0 => body_set W1 hD
variable (htg1 : ∀ i, i ∈ tgs t1 → i ∈ own.map (·.2)) (hs1 : ∀ env x, foldedSetIterable iter1 env x = pure x)
    (hi1 : ∀ (s : Shared) (H : Hp) (c : Addr) (cl : List (Str × Addr)) (fp : List Addr), PI (X.blk s H scope (compEnvC scope cl c X.env) fp) tg1 iter1 (EvI X.K bg S0 H0 NX A (evI C oi1)))
    (hg1 : ∀ (s : Shared) (H : Hp) (c : Addr) (cl : List (Str × Addr)) (fp : List Addr), PG (X.blk s H scope (compEnvC scope cl c X.env) fp) tg1 (gOf X.K t1))
    (ht1 : ∀ (s : Shared) (H : Hp) (c : Addr) (cl : List (Str × Addr)) (fp : List Addr), PTs (X.blk s H scope (compEnvC scope cl c X.env) fp) ifs1 (EvB X.K bg S0 H0 NX (evTs C ot1)))
include htg1 hs1 hi1 hg1 ht1
theorem kc_list2 (he : ∀ (s : Shared) (H : Hp) (c : Addr) (cl : List (Str × Addr)) (fp : List Addr), PE (X.blk s H scope (compEnvC scope cl c X.env) fp) elt (EvD X.K bg S0 H0 NX A (evE C oe))) :
    CompR X bg S0 H0 EX A C (.ListComp elt [⟨tg, iter, ifs, 0⟩, ⟨tg1, iter1, ifs1, 0⟩] scope pos) scope own oi t ot (gIn C oi1 t1 ot1 (gList C oe)) [] (fun _ => acL X.K bg) (newList []) pos' iter :=
  comp_read (ok0 := ok_list0) rfl mk_list (fun h H _ => ob_list h H) (fun _ => acL_mono) (fun _ ys z => by cases z) ac_list0 hc hN hi bk hs htg hg ht
    (fun s H c cl fp D' => pb_in (B := X.blk s H scope (compEnvC scope cl c X.env) fp) ok_list1 rfl hc (hs1 _) htg1 (hi1 s H c cl fp) (hg1 s H c cl fp) (ht1 s H c cl fp) (pb_list (B := X.blk s H scope (compEnvC scope cl c X.env) fp) rfl (he s H c cl fp)))
    fun Sb H1 D' W1 hD h0 => body_in acL_mono W1 hD h0 htg1 (body_list W1 hD)
theorem kc_dict2 {b : Bool} (hu : X.A.units + 1 < cLine)
    (hk : ∀ (s : Shared) (H : Hp) (c : Addr) (cl : List (Str × Addr)) (fp : List Addr), PE (X.blk s H scope (compEnvC scope cl c X.env) fp) kx (EvD X.K bg S0 H0 NX A (evE C ok)))
    (hv : ∀ (s : Shared) (H : Hp) (c : Addr) (cl : List (Str × Addr)) (fp : List Addr), PE (X.blk s H scope (compEnvC scope cl c X.env) fp) vx (EvD X.K bg S0 H0 NX A (evE C ov))) :
    CompR X bg S0 H0 EX A C (.DictComp kx vx [⟨tg, iter, ifs, 0⟩, ⟨tg1, iter1, ifs1, 0⟩] scope pos) scope own oi t ot (gIn C oi1 t1 ot1 (gDct C b ok ov)) ([], []) (fun _ => acD X.K bg b) newDict pos' iter :=
  comp_read (ok0 := ok_dict0) rfl mk_dict (fun h H z => ob_dict b h H z) (fun _ => acD_mono) (fun _ ys z => by cases b <;> cases z) ac_dict0 hc hN hi bk hs htg hg ht
    (fun s H c cl fp D' => pb_in (B := X.blk s H scope (compEnvC scope cl c X.env) fp) ok_dict1 rfl hc (hs1 _) htg1 (hi1 s H c cl fp) (hg1 s H c cl fp) (ht1 s H c cl fp) (pb_dict (B := X.blk s H scope (compEnvC scope cl c X.env) fp) rfl hu (hk s H c cl fp) (hv s H c cl fp)))
    fun Sb H1 D' W1 hD h0 => body_in acD_mono W1 hD h0 htg1 (body_dict W1 hD)
end
section
variable {X : Cx} {bg : Option (Addr × Addr)} {S0 : Addr → Prop} {H0 : Hp} {EX : D → Prop} {A : List Nat} {C : Calls} {e iter : Expr} {scope : Scope} {own : List (Str × Nat)} {oi : OI} {t : Tg} {ot : List OT} {β : Type} {G : Gam → β → T β} {init : β} {Ac : Addr → (Addr → Prop) → Hp → β → HO → Prop} {mk : Sem Value} {pos' : Pos}
/-- a comprehension as a value -/
theorem kc_val (R : CompR X bg S0 H0 EX A C e scope own oi t ot G init Ac mk pos' iter) (hev : eval e X.env = comprehension e scope X.env pos' mk false (eval iter X.env)) :
    PE X e (EvA X.K bg S0 H0 EX A Ac fun Γ => (evI C oi Γ).bind fun ds => (foldT (clF C t ot (wipeG Γ (own.map (·.2))) G) init ds).still) :=
  ⟨fun pins s σ H Q I q => by rw [hev]; exact R.run I q shell_val⟩
/-- stored in a name -/
theorem kc_name (R : CompR X bg S0 H0 EX A C e scope own oi t ot G init Ac mk pos' iter) {i : Nat} {y : Str} {py spos : Pos} (hN : X.N.Nodup) (hy : X.N[i]? = some y) (hyl : X.env.scope.names.lookup y = some .local)
    (hsw : swapsWith e (some (.Name y py)) spos.line X.env = pure true) (hev : evalThenUse e X.env (assign (.Name y py) X.env) = (do let _ ← comprehension e scope X.env pos' mk false (eval iter X.env) (some (assign (.Name y py) X.env)))) :
    PS X (.Assign [.Name y py] e spos) (tAsg (EvA X.K bg S0 H0 EX A Ac fun Γ => (evI C oi Γ).bind fun ds => (foldT (clF C t ot (wipeG Γ (own.map (·.2))) G) init ds).still) (gName i)) := by
  refine ⟨fun pins s σ H D I h => ?_⟩
  rw [exec_Assign_Name_used _ _ _ _ hsw]
  refine wpAny_bind (wpAny_standAt (wpAny_bind ?_))
  rw [hev]
  refine wpAny_bind (thn (R.run (Qf := fun _ s' => SP X pins D .next s') (Q := fun x H1 => gName i x σ H1 D.nx) I h (shell_name hN hy hyl)) fun _ s' q => wpAny_pure (wpAny_pure q))
end
/-- sorted({..}) -/
theorem kc_sorted {X : Cx} {bg : Option (Addr × Addr)} {S0 : Addr → Prop} {H0 : Hp} {EX : D → Prop} {A : List Nat} {C : Calls} {elt tg iter : Expr} {ifs : List Expr} {scope : Scope} {own : List (Str × Nat)} {oi : OI} {t : Tg} {ot : List OT} {oe : OE} {p q pos : Pos} (hc : X.calm = true) (hu : X.A.units + 70 < cLine) (hg : Gl X "sorted") (hm : X.mg "sorted" = none)
    (R : CompR X bg S0 H0 EX A C (.SetComp elt [⟨tg, iter, ifs, 0⟩] scope q) scope own oi t ot (gSet C oe) [] (fun D' => acS X.prog X.w D') (newSet (.type "set")) (firstIterPos [⟨tg, iter, ifs, 0⟩] q) iter) :
    PE X (.Call (.Name "sorted" p) [.SetComp elt [⟨tg, iter, ifs, 0⟩] scope q] [] pos) (EvD X.K bg S0 H0 EX A (evE C (.srt oe (own.map (·.2)) t oi ot))) := by
  have ps := kc_val R (PpSet.eval_SetComp elt [⟨tg, iter, ifs, 0⟩] scope q)
  refine pe_weak (pe_callB (call_sorted_bag (EX := EX) hc hu) hg hm (by decide +kernel) (pa_cons ps pa_nil (starEach_cons rfl)) (by decide +kernel) (by decide +kernel) (starEach_cons rfl) (starEach_plain _ _ rfl)) fun σ H Q ⟨O, Γ, S, a, q⟩ => ?_
  rw [evE] at q
  refine ⟨O, Γ, S, a, T.all_imp (T.all_bind.mp ((T.bind_assoc _ _ _).symm ▸ q)) fun acc hacc D' S' H' W E n ⟨o, e, ⟨L, eo, b⟩⟩ => ?_⟩
  subst eo
  have a' := a.later E W
  refine ⟨bg, Gs S' O σ A, D', L, acc, rfl, e, ⟨a'.gwld A, b⟩, T.all_imp (T.all_bind.mp hacc) fun es hes p xs hp rs => ?_⟩
  exact hes _ (plus S' p) _ (W.laid hp) (E.trans (.laid p _ hp)) (ObjR.rep ((ObjR.lst rs).mono (Gs.ext fun _ z => .inl z) (fun b u s eb => by rw [upd_ne (ne_of_none eb hp)]; exact eb)) (.inl (.inr rfl)) upd_same)
end Dy

set_option linter.all false
set_option maxRecDepth 10000
set_option autoImplicit false
/-! Dy, tuples: every other item. -/
namespace Dy
open PySem PySem.Spec PyProof.Rows L2

theorem filterMap_of {α β : Type} {f g : α → Option β} : ∀ {l : List α}, (∀ x ∈ l, f x = g x) → l.filterMap f = l.filterMap g
  | [], _ => rfl
  | x :: l, h => by
    rw [List.filterMap_cons, List.filterMap_cons, h x List.mem_cons_self, filterMap_of fun y hy => h y (List.mem_cons_of_mem _ hy)]
theorem every_at {α : Type} : ∀ (xs : List α), ((List.range ((xs.length + 1) / 2)).filterMap fun k => xs[k * 2]?) = everyL 0 xs ∧ ((List.range (xs.length / 2)).filterMap fun k => xs[1 + k * 2]?) = everyL 1 xs
  | [] => ⟨by simp [everyL], by simp [everyL]⟩
  | x :: xs => by
    obtain ⟨i1, i2⟩ := every_at xs
    refine ⟨?_, ?_⟩
    · have e : (xs.length + 1 + 1) / 2 = xs.length / 2 + 1 := by omega
      rw [List.length_cons, e, List.range_succ_eq_map, List.filterMap_cons_some (b := x) (by simp), List.filterMap_map]
      show x :: _ = x :: everyL 1 xs
      rw [← i2]
      congr 1
      refine filterMap_of fun k _ => ?_
      show (x :: xs)[(k + 1) * 2]? = xs[1 + k * 2]?
      rw [show (k + 1) * 2 = (1 + k * 2) + 1 from by omega, List.getElem?_cons_succ]
    · rw [List.length_cons]
      show _ = everyL 0 xs
      rw [← i1]
      refine filterMap_of fun k _ => ?_
      rw [show 1 + k * 2 = k * 2 + 1 from by omega, List.getElem?_cons_succ]
theorem everyL_len {α : Type} : ∀ (xs : List α), (everyL 0 xs).length ≤ xs.length ∧ (everyL 1 xs).length ≤ xs.length
  | [] => ⟨Nat.le_refl _, Nat.le_refl _⟩
  | x :: xs => by
    obtain ⟨h1, h2⟩ := everyL_len xs
    refine ⟨?_, ?_⟩
    · show (x :: everyL 1 xs).length ≤ _
      rw [List.length_cons, List.length_cons]
      omega
    · show (everyL 0 xs).length ≤ _
      rw [List.length_cons]
      omega
/-- the first place of a slice that begins at k -/
def loOf : Nat → Option Int
  | 0 => none
  | k + 1 => some ((k + 1 : Nat) : Int)
section
variable {prog : Program} {w : World} {A : Around} {E : Value → Shared → Prop} {s : Shared}
theorem applied2 {sl : Addr} {vl : Value} {tk : Tok} {k n : Nat} {Q : Int × Int × Nat → Shared → Prop} (hk : k ≤ 1) (hs : s.heap.IsSliceOf sl vl .none (.int 2 tk)) (pl : IsPart vl (loOf k)) (h : Q (((min k n : Nat) : Int), 2, (n + 1 - k) / 2) s) :
    wpAny (model prog w) A (Builtin.Slice.sliceApplied (.ref sl) (pure (n : Int))) Q E s := by
  obtain ⟨os, hos, hcs, hds⟩ := id hs
  unfold Builtin.Slice.sliceApplied Builtin.Slice.sliceFields
  refine wpAny_bind (wpAny_bind (wpAny_field hos hds (x := vl) rfl (wpAny_bind (wpAny_field hos hds (x := .none) rfl (wpAny_bind (wpAny_field hos hds (x := .int 2 tk) rfl (wpAny_pure ?_)))))))
  refine wpAny_bind (slicePart_int ?_)
  show wpAny _ _ (if ((2 : Int) == 0) = true then _ else _) _ _ s
  rw [if_neg (by decide)]
  refine wpAny_bind (HT.slicePart_ pl (wpAny_bind (slicePart_none (wpAny_bind (wpAny_pure ?_)))))
  have ad : Builtin.Slice.sliceAdjust (loOf k) none 2 (n : Int) = (((min k n : Nat) : Int), (n : Int)) := by
    unfold Builtin.Slice.sliceAdjust
    have z : ¬ ((2 : Int) < 0) := by omega
    simp only [z, if_false]
    rcases k with _ | k
    · simp [loOf]
    · have : ¬ (((k + 1 : Nat) : Int) < 0) := by omega
      simp only [loOf, this, if_false]
      refine Prod.ext ?_ rfl
      show min ((k + 1 : Nat) : Int) (n : Int) = _
      omega
  have pl2 : Builtin.Slice.slicePlaces ((min k n : Nat) : Int) (n : Int) 2 = (n + 1 - k) / 2 := by
    unfold Builtin.Slice.slicePlaces
    have z : (2 : Int) > 0 := by omega
    simp only [z, if_true]
    split <;> omega
  show wpAny _ _ (match Builtin.Slice.sliceAdjust (loOf k) none 2 (n : Int) with | (lo, hi) => pure (lo, (2 : Int), Builtin.Slice.slicePlaces lo hi 2)) _ _ s
  rw [ad]
  show wpAny _ _ (pure (((min k n : Nat) : Int), (2 : Int), Builtin.Slice.slicePlaces ((min k n : Nat) : Int) (n : Int) 2)) _ _ s
  rw [pl2]
  exact wpAny_pure h
theorem getItem_step2 {t sl : Addr} {items : Array Value} {vl : Value} {tk : Tok} {k : Nat} {Q : Value → Shared → Prop} (hk : k ≤ 1) (ht : IsTup s.heap t items) (hs : s.heap.IsSliceOf sl vl .none (.int 2 tk)) (pl : IsPart vl (loOf k)) (hsz : items.size ≤ sizeLine)
    (h : Q (.ref s.heap.objs.size) { s with heap := s.heap.push { cls := .type "tuple", data := .seq (everyL k items.toList).toArray } }) : wpAny (model prog w) A (getItem (.ref t) (.ref sl)) Q E s := by
  obtain ⟨os, hos, hcs, hds⟩ := id hs
  have hTs : s.TypeIs (.ref sl) "slice" := ⟨os, hos, hcs⟩
  have hl : sizeOk (.seq (everyL k items.toList).toArray) := by
    show (everyL k items.toList).toArray.size ≤ sizeLine
    have := everyL_len items.toList
    simp only [Array.length_toList] at this
    simp only [List.size_toArray]
    rcases (show k = 0 ∨ k = 1 from by omega) with e | e
    · subst e; omega
    · subst e; omega
  unfold getItem
  try with_reducible refine wpAny_holding ?_
  first | refine wpAny_bind (wpAny_pure ?_) | skip
  refine wpAny_bind (wpAny_sequenceKey ht.typeIs (by decide) ?_)
  refine wpAny_bind (wpAny_callSpecial?_slot (name := Str.ofString "__getitem__") ht.typeIs PyProof.Rows.slot_tuple_getitem
    (wpAny_call_entry PyProof.Rows.slot_tuple_getitem ht.typeIs entry_tuple_getitem ?_ (args_tuple_getitem _ _)))
  show wpAny _ _ (Builtin.Tuple.tupleItemsOf (.ref t) >>= _) _ _ s
  refine wpAny_bind (tupleItemsOf_ ht ?_)
  refine wpAny_bind (wpAny_typeOf hTs ?_)
  rw [if_pos (by decide)]
  refine wpAny_bind (applied2 hk hs pl ?_)
  show wpAny _ _ (if (((min k items.size : Nat) : Int) == 0 && (2 : Int) == 1 && ((items.size + 1 - k) / 2) == items.size) = true then _ else _) _ _ s
  rw [if_neg (by simp)]
  have pick : ((List.range ((items.size + 1 - k) / 2)).filterMap fun (m : Nat) => items[(((min k items.size : Nat) : Int) + (m : Int) * 2).toNat]?) = everyL k items.toList := by
    obtain ⟨e0, e1⟩ := every_at items.toList
    rw [Array.length_toList] at e0 e1
    rcases (show k = 0 ∨ k = 1 from by omega) with e | e
    · subst e
      rw [← e0]
      refine filterMap_of fun m _ => ?_
      rw [← Array.getElem?_toList]
      congr 1
      omega
    · subst e
      rw [← e1, show items.size + 1 - 1 = items.size from by omega]
      refine filterMap_of fun m hm => ?_
      have : m < items.size / 2 := List.mem_range.mp hm
      rw [← Array.getElem?_toList]
      congr 1
      omega
  rw [pick]
  first
    | exact wpAny_bind (m := Builtin.Tuple.tupleExact _) (wpAny_newObj_type (wpAny_pure ⟨_, rfl, wpAny_pure h⟩) hl)
    | exact wpAny_bind (m := Builtin.Tuple.tupleExact _) (wpAny_newObj_type (wpAny_bind (wpAny_pure (wpAny_pure ⟨_, rfl, wpAny_pure h⟩))) hl)
    | exact wpAny_bind (wpAny_bind (m := Builtin.Tuple.tupleExact _) (wpAny_newObj_type (wpAny_pure (wpAny_pure ⟨_, rfl, wpAny_pure h⟩)) hl))
    | exact wpAny_bind (wpAny_bind (m := Builtin.Tuple.tupleExact _) (wpAny_newObj_type (wpAny_pure ⟨_, rfl, wpAny_pure h⟩) hl))
end
section
variable {X : Cx} {e : Expr} {te : TE} {pos p2 : Pos}
/-- t[k::2] -/
def tEvery (K : PySem.W.Frag) (te : TE) (k : Nat) : TE := fun σ H Q => te σ H fun x H1 => ∃ a xs, x = .ref a ∧ SqT K H1 a xs ∧ ∀ p, H1 p = none → Q (.ref p) (upd H1 p (.tup (everyL k xs)))
theorem Vals.every : ∀ {xs : List V} {us : List Value}, Vals xs us → Vals (everyL 0 xs) (everyL 0 us) ∧ Vals (everyL 1 xs) (everyL 1 us)
  | [], _, .nil => ⟨.nil, .nil⟩
  | _ :: _, _, .cons r t => ⟨.cons r (Vals.every t).2, (Vals.every t).1⟩
theorem pe_every {lo : Option Expr} {k : Nat} {kk : Nat} {cp : Pos} (hk : k ≤ 1) (hgo : ∀ o r, letTemporaryGo e o r = pure ()) (he : PE X e te) (hlo : PO X lo (fun σ H Q => Q (loOf k) H)) (hst : PE X (.Constant (.int 2) kk cp) (tC (.int 2))) :
    PE X (.Subscript e (.Slice lo none (some (.Constant (.int 2) kk cp)) p2) pos) (tEvery X.K te k) := by
  refine ⟨fun pins s σ H Q I h => ?_⟩
  refine wpAny_Subscript_Slice_step (T := "tuple") slot_tuple_getitem.lookup (thn (he.run pins s σ H _ I h) fun v s1 ⟨x, H1, I1, r1, q1⟩ => ?_) hgo
  obtain ⟨a, xs, ex, hx, q⟩ := q1
  subst ex
  cases r1
  refine wpAny_Slice (thn (hlo.run pins s1 σ H1 (fun o H2 => o = loOf k ∧ H2 = H1) I1 ⟨rfl, rfl⟩) fun vl s2 ⟨l, H2, I2, pl, e1, e2⟩ => ?_)
  subst e1 e2
  rw [evalPart_none]
  refine wpAny_pure ?_
  rw [evalPart_some]
  refine thn (hst.run pins s2 σ H2 (fun y H3 => y = .int 2 ∧ H3 = H2) I2 ⟨rfl, rfl⟩) fun vs s3 ⟨y, H3, I3, ry, e3, e4⟩ => ?_
  subst e3 e4
  obtain ⟨tk, rfl⟩ := ry
  have I4 : Inv X pins σ H3 { s3 with heap := s3.heap.push { cls := .type "slice", data := .fields #[vl, .none, .int 2 tk] } } := I3.kept (t' := s3.toks) fun b ob q => Heap.get?_push_of_some _ q
  obtain ⟨its, r, ht, hz⟩ := I4.tuple hx
  refine ⟨ht.typeIs, ?_⟩
  refine getItem_step2 hk ht (Heap.IsSliceOf.new ..) pl (by rw [List.size_toArray, ← r.length]; exact hz) ?_
  have rv : Vals (everyL k xs) (everyL k its) := by
    rcases (show k = 0 ∨ k = 1 from by omega) with e | e
    · subst e; exact (Vals.every r).1
    · subst e; exact (Vals.every r).2
  have hlen : (everyL k xs).length ≤ sizeLine := by
    have := everyL_len xs
    rcases (show k = 0 ∨ k = 1 from by omega) with e | e
    · subst e; omega
    · subst e; omega
  refine ⟨.ref _, _, I4.laid (t' := s3.toks) (o := .tup (everyL k xs)) (fun b ob q => Heap.get?_push_of_some _ q) (Nat.le_refl _) ?_, rfl, q _ (I4.hok.fresh (Nat.le_refl _))⟩
  exact ⟨hlen, everyL k its, rv, IsTup.new _ _⟩
end
end Dy

set_option linter.all false
set_option maxRecDepth 100000
set_option maxHeartbeats 3200000
set_option autoImplicit false
/-! Dy, tuples: set(t) of keys, and how many it has. -/
namespace Dy
open PySem PySem.Spec PyProof.Rows L2

theorem mem_setAdd1 {acc : List D} {x d : D} : d ∈ setAdd1 acc x ↔ d ∈ acc ∨ d = x := by
  unfold setAdd1
  by_cases c : kvHas acc x = true
  · rw [if_pos c]
    exact ⟨.inl, fun z => z.elim id fun e => e ▸ kvHas_iff.mp c⟩
  · rw [if_neg c, List.mem_append, List.mem_singleton]
theorem mem_fold : ∀ (l acc : List D) (d : D), d ∈ l.foldl setAdd1 acc ↔ d ∈ acc ∨ d ∈ l
  | [], acc, d => by simp
  | x :: l, acc, d => by
    rw [List.foldl_cons, mem_fold l, mem_setAdd1, List.mem_cons]
    exact ⟨fun z => by rcases z with (z | z) | z <;> simp [z], fun z => by rcases z with z | z | z <;> simp [z]⟩
theorem many_next (xs : List D) (d : D) : manyD (xs ++ [d]) = if d ∈ xs then manyD xs else manyD xs + 1 := by
  unfold manyD
  rw [List.foldl_append]
  show (setAdd1 (xs.foldl setAdd1 []) d).length = _
  have m : kvHas (xs.foldl setAdd1 []) d = true ↔ d ∈ xs := by rw [kvHas_iff, mem_fold]; simp
  generalize xs.foldl setAdd1 [] = acc at m ⊢
  unfold setAdd1
  by_cases c : d ∈ xs
  · rw [if_pos c, if_pos (m.mpr c)]
  · rw [if_neg c, if_neg (fun z => c (m.mp z)), List.length_append]
    rfl
section
variable {P : Program} {w : World} {A : Around} {E : Value → Shared → Prop} {s : Shared}
/-- the key that an item is -/
theorem keys_at : ∀ {xs : List D} {kk : List Key} {i : Nat} {k : Key}, xs.map keyD = kk.map some → kk[i]? = some k → ∃ d, xs[i]? = some d ∧ keyD d = some k
  | [], kk, i, k, e, h => by
    have : kk = [] := by simpa using e.symm
    rw [this] at h
    simp at h
  | x :: xs, kk, i, k, e, h => by
    cases kk with
    | nil => simp at e
    | cons k0 kk =>
      rw [List.map_cons, List.map_cons] at e
      injection e with e1 e2
      cases i with
      | zero =>
        cases (show some k0 = some k from h)
        exact ⟨x, rfl, e1⟩
      | succ i => exact keys_at (xs := xs) e2 h
theorem keys_mem {xs : List D} {kk : List Key} {d : D} {k : Key} (e : xs.map keyD = kk.map some) (hd : keyD d = some k) : d ∈ xs ↔ k ∈ kk := by
  constructor
  · intro h
    have : some k ∈ kk.map some := by rw [← e, ← hd]; exact List.mem_map.mpr ⟨d, h, rfl⟩
    obtain ⟨j, hj, ej⟩ := List.mem_map.mp this
    cases ej
    exact hj
  · intro h
    have : some k ∈ xs.map keyD := by rw [e]; exact List.mem_map.mpr ⟨k, h, rfl⟩
    obtain ⟨y, hy, ey⟩ := List.mem_map.mp this
    rw [keyD_inj hd ey]
    exact hy
def hasK (kk : List Key) (j : Key) : Bool := kk.any fun x => decide (x = j)
theorem hasK_iff {kk : List Key} {j : Key} : hasK kk j = true ↔ j ∈ kk := by
  unfold hasK
  rw [List.any_eq_true]
  constructor
  · rintro ⟨x, hx, e⟩
    rw [← of_decide_eq_true e]
    exact hx
  · exact fun h => ⟨j, h, decide_eq_true rfl⟩
abbrev SetIs (P : Program) (w : World) (h : Heap) (a : Addr) (xs : List D) (kk : List Key) : Prop := h.SetOf (mixKind P w) a (hasK kk) (manyD xs)
theorem SetIs.at {h h' : Heap} {a : Addr} {xs : List D} {kk : List Key} (x : SetIs P w h a xs kk) (k : ∀ o, h.get? a = some o → h'.get? a = some o) : SetIs P w h' a xs kk := setOf_at x k
theorem many_le (xs : List D) : manyD xs ≤ xs.length := by
  have key : ∀ (l acc : List D), (l.foldl setAdd1 acc).length ≤ acc.length + l.length := by
    intro l
    induction l with
    | nil => exact fun acc => Nat.le_refl _
    | cons x l ih =>
      intro acc
      have h1 := ih (setAdd1 acc x)
      have h2 : (setAdd1 acc x).length ≤ acc.length + 1 := by
        unfold setAdd1
        split
        · omega
        · rw [List.length_append]; exact Nat.le_refl _
      rw [List.foldl_cons, List.length_cons]
      omega
  have := key xs []
  simpa [manyD] using this
/-- the loop that fills -/
theorem fill_keys {I : Addr} {fp wr : List Addr} {G : Array GenState → Array GenState → Prop} {n : Nat} {Pv : Nat → Value → Prop} {St : Nat → Shared → Prop} {R : Result → Shared → Prop} (W : WalksS P w A.in1 I fp wr G n Pv St) (a : Addr) (ha : a ∉ fp) {xs : List D} {kk : List Key}
    (he : xs.map keyD = kk.map some) (hn : n = kk.length) (hb : kk.length < 64) (hv : ∀ i v, Pv i v → ∃ k, kk[i]? = some k ∧ (mixKind P w).is k v = true) :
    ∀ (m i : Nat) (s : Shared), n - i = m → i ≤ n → St i s → SetIs P w s.heap a (xs.take i) (kk.take i) →
      (∀ s', Moved (a :: wr) G s s' → SetIs P w s'.heap a xs kk → R (.ok (.ret .none)) s') → codeAny (model P w) A (.builtin "set.update.loop" ⟨[.ref a, .ref I], []⟩) R s := by
  have hl : xs.length = kk.length := by simpa using congrArg List.length he
  have aw : a ∉ wr := fun z => ha (W.sub _ z)
  have up : ∀ b ∈ wr, b ∈ a :: wr := fun b hb => List.mem_cons_of_mem _ hb
  intro m
  induction m with
  | zero =>
    intro i s hm hi st x fin
    have ei : i = n := by omega
    subst ei
    refine codeAny_builtin F.entry_set_update_loop ?_
    rw [Around.under_plainId F.plain_set_update_loop _]
    refine wpAny_bind (W.done s _ _ st fun s' mv => wpAny_pure (fin s' (mv.mono up) ?_))
    have t1 : kk.take i = kk := List.take_of_length_le (by omega)
    have t2 : xs.take i = xs := List.take_of_length_le (by omega)
    rw [t1, t2] at x
    exact x.at fun o e => mv.heap a o aw e
  | succ m ih =>
    intro i s hm hi st x fin
    have lt : i < n := by omega
    refine codeAny_builtin F.entry_set_update_loop ?_
    rw [Around.under_plainId F.plain_set_update_loop _]
    refine wpAny_bind (W.item i s _ _ lt st fun v s' pv st' mv => ?_)
    obtain ⟨k, hk, iv⟩ := hv i v pv
    obtain ⟨d, hd, ed⟩ := keys_at he hk
    have x1 := x.at fun o e => mv.heap a o aw e
    have sc : v.scannable = true := by
      rcases keyIs_shape iv with ⟨z, t, rfl, rfl⟩ | ⟨z, t, rfl, rfl⟩ <;> rfl
    show wpAny _ A.in1 (holding [v] (setAdd a v) >>= _) _ _ s'
    refine wpAny_bind (wpAny_holding ?_)
    unfold setAdd
    refine wpAny_holding ?_
    refine wpAny_bind ((mixKind P w).pyHash iv ?_)
    have ml := many_le (xs.take i)
    rw [List.length_take] at ml
    refine wpAny_setAddHashed_of (knd := mixKind P w) (s := { s' with toks := s'.toks + 1 }) iv sc x1 (by unfold scanBound; omega) fun h' sb x2 => ?_
    have x3 : SetIs P w h' a (xs.take (i + 1)) (kk.take (i + 1)) := by
      have e1 : kk.take (i + 1) = kk.take i ++ [k] := by rw [List.take_succ, hk]; rfl
      have e2 : xs.take (i + 1) = xs.take i ++ [d] := by rw [List.take_succ, hd]; rfl
      have et : (xs.take i).map keyD = (kk.take i).map some := by rw [List.map_take, List.map_take, he]
      unfold SetIs
      rw [e1, e2, many_next]
      have f1 : (fun k' => hasK (kk.take i) k' || decide (k' = k)) = hasK (kk.take i ++ [k]) := by
        funext j
        unfold hasK
        rw [List.any_append]
        congr 1
        by_cases z : j = k
        · subst z; simp
        · have z' : ¬ k = j := fun q => z q.symm
          simp [z, z']
      have f2 : (if hasK (kk.take i) k = true then manyD (xs.take i) else manyD (xs.take i) + 1) = if d ∈ xs.take i then manyD (xs.take i) else manyD (xs.take i) + 1 := by
        by_cases c : k ∈ kk.take i
        · rw [if_pos (hasK_iff.mpr c), if_pos ((keys_mem et ed).mpr c)]
        · rw [if_neg (fun z => c (hasK_iff.mp z)), if_neg (fun z => c ((keys_mem et ed).mp z))]
      rw [f1, f2] at x2
      exact x2
    refine wpAny_pure ⟨plainId_quiet F.plain_set_update_loop _, ih (i + 1) _ (by omega) lt (W.frame _ s' _ _ st' (Nat.le_succ _) fun b hb o e => ?_) x3 fun s2 mv2 x4 => ?_⟩
    · rw [sb.2 b (fun z : b = a => ha (z ▸ hb))]; exact e
    · refine fin s2 (Moved.trans W.gtrans ((mv.mono up).then_heap (Nat.le_succ _) fun b o hb e => ?_) mv2) x4
      rw [sb.2 b (fun z : b = a => hb (by rw [z]; exact List.mem_cons_self))]; exact e
abbrev newSetO (w : World) : Obj := { cls := .type "set", dict := none, data := .set #[] 0 (.fresh 0 0 (!w.params.followText "set-order")) }
/-- what set.__init__ does with a tuple of keys -/
theorem init_keys {l : Addr} {items : Array Value} {xs : List D} {kk : List Key} (hh : A.handled = none) (hl : s.heap.IsTuple l items) (hit : ItemsAre (mixKind P w) kk items.toList) (he : xs.map keyD = kk.map some) (hb : kk.length < 64) {Q : Value → Shared → Prop}
    (h : ∀ (h' : Heap) (tk : Nat), SetIs P w h' s.heap.objs.size xs kk → (∀ b o, s.heap.get? b = some o → h'.get? b = some o) → Q .none { s with heap := h', toks := tk }) :
    wpAny (model P w) A (pyIter (.ref l)) (fun it s' => wpAny (model P w) A (runValue (.builtin "set.update.loop" ⟨[.ref s.heap.objs.size, it], []⟩)) Q E s') E { s with heap := s.heap.push (newSetO w) } := by
  have lt : l < s.heap.objs.size := let ⟨_, e, _⟩ := hl; Heap.lt_size e
  have hl1 : (s.heap.push (newSetO w)).IsTuple l items := let ⟨o, e, r⟩ := hl; ⟨o, Heap.get?_push_of_some _ e, r⟩
  have z1 : (s.heap.push (newSetO w)).objs.size = s.heap.objs.size + 1 := Heap.size_push ..
  have ne : l ≠ (s.heap.push (newSetO w)).objs.size := by rw [z1]; exact Nat.ne_of_lt (Nat.lt_succ_of_lt lt)
  have isz : items.size = kk.length := by
    have := hit.length
    rw [Array.length_toList] at this
    exact this.symm
  have new : (s.heap.push (newSetO w)).get? s.heap.objs.size = some (newSetO w) := Heap.get?_push_size _ rfl
  refine wpAny_pyIter_tuple hl1 ?_
  refine wpAny_runValue ?_
  refine fill_keys ((Walks.tuple (prog := P) (w := w) (A := A.in1) (by simp [hh]) _ l ne items).toS) s.heap.objs.size ?_ he isz hb ?_ (items.size - 0) 0 _ (by omega) (Nat.zero_le _) ⟨⟨_, Heap.get?_push_size _ rfl, rfl, rfl⟩, hl1.push _⟩ ?_ ?_
  · rw [z1]
    simp only [List.mem_cons, List.mem_singleton, List.not_mem_nil, or_false, not_or]
    exact ⟨Nat.ne_of_lt (Nat.lt_succ_self _), Nat.ne_of_gt lt⟩
  · intro i v hv
    have key : ∀ {ks : List Key} {us : List Value} {i : Nat} {v : Value}, ItemsAre (mixKind P w) ks us → us[i]? = some v → ∃ k, ks[i]? = some k ∧ (mixKind P w).is k v = true := by
      intro ks us i v it
      induction it generalizing i with
      | nil => intro z; simp at z
      | cons h1 _ ih =>
        intro z
        cases i with
        | zero =>
          cases (show some _ = some v from z)
          exact ⟨_, rfl, h1⟩
        | succ i => exact ih z
    exact key hit (by rw [Array.getElem?_toList]; exact hv)
  · exact ⟨_, #[], 0, _, Heap.get?_push_of_some _ new, ⟨rfl, rfl, rfl⟩, rfl, (fun e he => by simp at he), (fun k => by simp [hasK]), (by decide), (by rfl), rfl⟩
  · intro s' mv x
    obtain ⟨h', g', d', tk', o'⟩ := s'
    have e1 : g' = s.gens := mv.gens
    have e2 : d' = s.drawn := mv.drawn
    have e3 : o' = s.os := mv.os
    subst e1 e2 e3
    refine h h' tk' x fun b o e => ?_
    have b0 := Heap.lt_size e
    refine mv.heap b o ?_ (Heap.get?_push_of_some _ (Heap.get?_push_of_some _ e))
    rw [z1]
    simp only [List.mem_cons, List.mem_singleton, List.not_mem_nil, or_false, not_or]
    exact ⟨Nat.ne_of_lt b0, Nat.ne_of_lt (Nat.lt_succ_of_lt b0)⟩
end
end Dy

set_option linter.all false
set_option maxRecDepth 100000
set_option maxHeartbeats 3200000
set_option autoImplicit false
/-! Dy, tuples: len(set(t)). -/
namespace Dy
open PySem PySem.Spec PyProof.Rows L2
section
variable {P : Program} {w : World} {A : Around} {E : Value → Shared → Prop} {s : Shared}
theorem call_set_keys {l : Addr} {items : Array Value} {xs : List D} {kk : List Key} {Q : Value → Shared → Prop} (hh : A.handled = none) (hl : s.heap.IsTuple l items) (hit : ItemsAre (mixKind P w) kk items.toList) (he : xs.map keyD = kk.map some) (hb : kk.length < 64)
    (h : ∀ (h' : Heap) (tk : Nat), SetIs P w h' s.heap.objs.size xs kk → (∀ b o, s.heap.get? b = some o → h'.get? b = some o) → Q (.ref s.heap.objs.size) { s with heap := h', toks := tk }) :
    wpAny (model P w) A (call (.type "set") [.ref l]) Q E s := by
  have ⟨cc, tl, hmro⟩ := F.called_set.mro
  have hmade := F.called_set.made
  have hsub := F.called_set.sub
  refine wpAny_call (codeAny_of_tree ?_)
  show wpAny _ _ (callAny (.type "set") _) _ _ _
  refine wpAny_pure ⟨Code.quiet_builtin _ (by decide +kernel), codeAny_builtin F.entry_type_call ?_⟩
  rw [Around.under_plain (weight_type_call_type "set" [.ref l] []) rfl]
  have g1 := F.called_set.notType
  have g2 := F.called_set.canCreate
  have g3 := F.typeCall_set_1 (.ref l)
  repeat (any_goals (first | assumption | wp_step))
  refine codeAny_mono (code_set_led1 (.ref l) (E := E) (Q₁ := fun obj s1 => obj = .ref s.heap.objs.size ∧ s1 = { s with heap := s.heap.push (newSetO w) }) ⟨rfl, rfl⟩) fun r s1 hr => ?_
  cases r with
  | error e => exact hr
  | ok fl =>
    cases fl with
    | ret obj =>
      obtain ⟨rfl, rfl⟩ := hr
      have hT : Shared.TypeIs { s with heap := s.heap.push (newSetO w) } (.ref s.heap.objs.size) "set" := ⟨_, Heap.get?_push_size _ rfl, rfl⟩
      have g4 := F.called_set.init.lookup
      have g5 := F.called_set.init.bind (.ref s.heap.objs.size)
      repeat (any_goals (first | assumption | wp_step))
      refine codeAny_mono (codeAny_call_builtin (R := wants (fun r s2 => r = .none ∧ ∃ h' tk, s2 = { s with heap := h', toks := tk } ∧ SetIs P w h' s.heap.objs.size xs kk ∧ (∀ b o, s.heap.get? b = some o → h'.get? b = some o)) E)
        F.called_set.init.plain F.entry_set_init (check_set_init_1 hT ?_)) fun r2 s2 hr2 => ?_
      · have ⟨ol, hol, hcl, nl, hdl⟩ := id hl
        obtain ⟨ocls, odict, odata, oslots⟩ := ol
        simp only at hcl hdl
        subst hcl; subst hdl
        have hol' : (s.heap.push (newSetO w)).get? l = some { cls := .type "tuple", dict := odict, data := .seq items nl, slots := oslots } := Heap.get?_push_of_some _ hol
        have g6 := F.sub_tuple_set
        have g7 := F.sub_tuple_frozenset
        have g8 : (Value.type "tuple" == Value.type "dict") = false := by decide
        unfold Builtin.«set.__init__» noKeywords Builtin.Frozenset.updateFrom
        generalize hPI : pyIter = PI
        wp_walk
        subst hPI
        refine thn (init_keys (P := P) (w := w) (s := s) (by simp [hh]) hl hit he hb (Q := fun v s2 => v = .none ∧ ∃ h' tk, s2 = { s with heap := h', toks := tk } ∧ SetIs P w h' s.heap.objs.size xs kk ∧ (∀ b o, s.heap.get? b = some o → h'.get? b = some o))
          (fun h' tk x k => ⟨rfl, h', tk, rfl, x, k⟩)) fun it s3 q => wpAny_bind (thn q fun v s4 ⟨ev, h', tk, e4, x, k⟩ => ?_)
        subst ev e4
        refine wpAny_pure ?_
        show wpAny _ _ (ret Value.none) _ _ _
        exact wpAny_pure ⟨rfl, h', tk, rfl, x, k⟩
      · cases r2 with
        | error e => exact hr2
        | ok fl2 =>
          cases fl2 with
          | ret r =>
            obtain ⟨rfl, h', tk, rfl, x, k⟩ := hr2
            repeat (any_goals (first | assumption | wp_step))
            exact h _ _ x k
          | _ => exact hr2.elim
    | _ => exact hr.elim
end
section
variable {X : Cx} {bg : Option (Addr × Addr)} {EX : D → Prop} {a : Expr} {ta : TE} {p p2 q pos : Pos}
/-- len(set(t)), t a tuple of keys -/
def tLenK (K : PySem.W.Frag) (ta : TE) : TE := fun σ H Q => ta σ H fun x H1 => ∃ (l : Addr) (kk : List Key) (xs : List D), x = V.ref l ∧ SqT K H1 l (kk.map kV) ∧ xs.map keyD = kk.map some ∧ kk.length < 64 ∧ Q (.int (manyD xs)) H1
theorem pe_lenK (hc : X.calm = true) (hg : Gl X "len") (hm : X.mg "len" = none) (hg2 : Gl X "set") (hm2 : X.mg "set" = none) (ha : PE X a ta) (na : starEach [a] X.env = [(false, eval a X.env)]) :
    PE X (.Call (.Name "len" p) [.Call (.Name "set" p2) [a] [] q] [] pos) (tLenK X.K ta) := by
  refine ⟨fun pins s σ H Q I h => ?_⟩
  refine Call_ (ld_blt I hg hm boot_len ?_)
  refine PyProof.Rows.callWith_builtin1 (PyProof.Rows.args_cons ?_ rfl) rfl rfl
  refine Call_ (ld_blt I hg2 hm2 boot_set ?_)
  refine PyProof.Rows.callWith_type1 (PyProof.Rows.args_cons (thn (ha.run pins s σ H _ I h) fun v s1 ⟨x, H1, I1, r1, q1⟩ => PyProof.Rows.args_nil ?_) na) na rfl
  obtain ⟨l, kk, xs, ex, hq, he, hb, q1⟩ := q1
  subst ex
  cases r1
  obtain ⟨its, r, pl, hz⟩ := I1.tuple hq
  refine call_set_keys (xs := xs) (kk := kk) (I1.ok.hd hc) pl (by simpa using items_are r) he hb fun h' tk x k => ?_
  refine PyProof.Rows.args_nil ?_
  have I2 : Inv X pins σ H1 { s1 with heap := h', toks := tk } := I1.kept k
  have ml := many_le xs
  have hl : xs.length = kk.length := by simpa using congrArg List.length he
  obtain ⟨o, es, ep, t, ho, hex, hd, _, _, _, hf, hn⟩ := x
  exact call_len_set ho hex hd hf (by rw [hn]; omega) ⟨.int (manyD xs), H1, I2.tok _, ⟨_, by rw [hn]⟩, q1⟩
end
end Dy

set_option linter.all false
set_option maxRecDepth 10000
set_option autoImplicit false
/-! Dy, part 10b: instances: attributes, methods, new ones. -/
namespace Dy
open PySem PySem.Spec PyProof.Rows L2
section
variable {K : PySem.W.Frag} {bg : Option (Addr × Addr)} {S : Addr → Prop} {H : Hp}
theorem fld_rel : ∀ {ns : List Str} {vs : List D} {xs : List V} {f : Str}, ns.length = vs.length → Reps K bg S H vs xs → (∀ d, (ns.zip vs).lookup f = some d → ∃ x, (ns.zip xs).lookup f = some x ∧ Rep K bg S H d x) ∧ (ns.contains f = false → (ns.zip xs).lookup f = none)
  | [], vs, xs, f, _, _ => by
    refine ⟨fun d h => ?_, fun _ => ?_⟩
    · rw [List.zip_nil_left] at h
      cases h
    · rw [List.zip_nil_left]
      rfl
  | n :: ns, [], xs, f, l, _ => by cases l
  | n :: ns, v :: vs, xs, f, l, r => by
    obtain ⟨x, xs', ex, r1, r2⟩ := r
    subst ex
    obtain ⟨i1, i2⟩ := fld_rel (f := f) (by simpa using l) r2
    rw [List.zip_cons_cons, List.zip_cons_cons, List.lookup_cons, List.lookup_cons]
    cases e : f == n with
    | true => exact ⟨fun d h => ⟨x, rfl, by cases h; exact r1⟩, fun h => by
        rw [List.contains_cons, e] at h
        cases h⟩
    | false => exact ⟨i1, fun h => i2 (by
        rw [List.contains_cons, e] at h
        exact h)⟩
theorem ins_at {c : Str} {ns : List Str} {vs : List D} {v : V} (r : Rep K bg S H (.ins c ns vs) v) : ∃ a dx xs, v = .ref a ∧ S a ∧ H a = some (.ins (He.ga K c) dx (ns.zip xs)) ∧ ns.length = vs.length ∧ Reps K bg S H vs xs := r
theorem fldD_some {x : D} {f : Str} {cs : List Str} {d : D} (h : fldD x f cs = some d) : ∃ c ns vs, x = .ins c ns vs ∧ cs.contains c = true ∧ (ns.zip vs).lookup f = some d := by
  unfold fldD at h
  split at h
  · split at h
    · exact ⟨_, _, _, rfl, ‹_›, h⟩
    · cases h
  · cases h
end
section
variable {X : Cx} {bg : Option (Addr × Addr)} {S0 : Addr → Prop} {H0 : Hp} {EX : D → Prop} {A : List Nat} {C : Calls}
/-- e.f -/
theorem k_fld {e : Expr} {o : OE} {f : Str} {cs : List Str} {pos : Pos} (hb : attributeBase e f X.env (eval e X.env) = eval e X.env) (hf : ∀ x, cs.contains x = true → Cls X.K (He.ga X.K x) ∧ NoAttr X.K (He.ga X.K x) f)
    (h : PE X e (EvD X.K bg S0 H0 EX A (evE C o))) : PE X (.Attribute e f pos) (EvD X.K bg S0 H0 EX A (evE C (.fld o f cs))) :=
  pe_weak (pe_fld h hb) fun σ H Q ⟨O, Γ, S, a, q⟩ => by
    rw [evE] at q
    refine ⟨O, Γ, S, a, T.all_imp (T.all_bind.mp q) fun x hx v S1 H1 W1 E1 r1 => ?_⟩
    obtain ⟨d, e1, hd⟩ := T.all_ofOpt hx
    obtain ⟨c, ns, vs, rfl, hc, hl⟩ := fldD_some e1
    obtain ⟨b, dx, xs, ev, sb, hp, hn, rs⟩ := ins_at r1
    obtain ⟨y, hy, ry⟩ := (fld_rel hn rs).1 d hl
    exact ⟨b, _, dx, _, y, ev, hp, (hf c hc).1, (hf c hc).2, hy, hd y S1 H1 W1 E1 ry⟩
/-- x.f: what an instance holds is frozen -/
theorem k_fldV {x : Str} {i : Nat} {f : Str} {cs : List Str} {p pos : Pos} (hN : X.N[i]? = some x) (hv : Vis X.env.scope x) (hd : (x == ("__debug__" : Str)) = false) (hcd : (x == ("__classdict__" : Str)) = false)
    (hb : attributeBase (.Name x p) f X.env (eval (.Name x p) X.env) = eval (.Name x p) X.env) (hf : ∀ x, cs.contains x = true → Cls X.K (He.ga X.K x) ∧ NoAttr X.K (He.ga X.K x) f) :
    PE X (.Attribute (.Name x p) f pos) (EvD X.K bg S0 H0 EX A (evE C (.fld (.var i) f cs))) :=
  pe_weak (pe_fld (pe_var hN hv hd hcd) hb) fun σ H Q ⟨O, Γ, S, a, q⟩ => by
    rw [evE, evE] at q
    split at q
    · rename_i x hx
      obtain ⟨d, e1, hd⟩ := T.all_ofOpt (show (T.ofOpt (fldD x f cs)).All _ EX from q)
      obtain ⟨c, ns, vs, rfl, hc, hl⟩ := fldD_some e1
      have key : ∃ v b dx xs, σ[i]? = some (some v) ∧ v = .ref b ∧ H b = some (.ins (He.ga X.K c) dx (ns.zip xs)) ∧ ns.length = vs.length ∧ Reps X.K bg S H vs xs := by
        by_cases m : i ∈ O
        · obtain ⟨d', v, g, e, b, o, ev, n1, h0, hp, r⟩ := a.abs.own i m
          rw [hx] at g
          cases g
          obtain ⟨dx, xs, eo, hn, rs⟩ := r
          subst eo
          exact ⟨v, b, dx, xs, e, ev, hp, hn, rs⟩
        · obtain ⟨v, e, r⟩ := a.abs.dat i _ m hx
          obtain ⟨b, dx, xs, ev, sb, hp, hn, rs⟩ := ins_at r
          exact ⟨v, b, dx, xs, e, ev, hp, hn, rs⟩
      obtain ⟨v, b, dx, xs, e, ev, hp, hn, rs⟩ := key
      obtain ⟨y, hy, ry⟩ := (fld_rel hn rs).1 d hl
      exact ⟨v, e, b, _, dx, _, y, ev, hp, (hf c hc).1, (hf c hc).2, hy, hd y S H a.wld .refl (ry.mono (fun _ h => .inl h) (fun _ _ _ z => z) d y)⟩
    · exact q.elim
/-- X.f, a constant of a class -/
theorem k_cat {x f : Str} {d : D} {p pos : Pos} {a : Addr} {v : V} {u mc : Value} (hg : Gl X x) (hm : X.mg x = some (.ref a)) (hdb : (x == ("__debug__" : Str)) = false) (hr : ClX.CRead X.K a mc) (hc : ClX.CVal X.K a mc f v u) (rd : ∀ bg S H, Rep X.K bg S H d v)
    (hb : attributeBase (.Name x p) f X.env (eval (.Name x p) X.env) = eval (.Name x p) X.env) : PE X (.Attribute (.Name x p) f pos) (EvD X.K bg S0 H0 EX A (evE C (.const d))) :=
  pe_weak (ClX.pe_cval (pe_glob (v := .ref a) hg hm rfl hdb) hb) fun σ H Q ⟨O, Γ, S, a0, q⟩ => by
    rw [evE] at q
    exact ⟨a, mc, v, u, rfl, hr, hc, q v S H a0.wld .refl (rd _ _ _)⟩
/-! ### calls of methods -/
section
variable {prog : Program} {w : World} {Ar : Around} {E : Value → Shared → Prop} {s : Shared} {env : Env}
theorem meth_call {o : Expr} {name : Str} {apos pos : Pos} {args : List Expr} {kws : List Keyword} {Q : Value → Shared → Prop} (hbase : attributeBase o name env (eval o env) = eval o env)
    (hform : methodCallForm (args.length + kws.length) (backTo pos (starEach args env)) (backToKw pos (keywordEach kws env)) = true) (hline : (apos.endLine == pos.line) = true)
    (h : wpAny (model prog w) Ar (eval o env) (fun ov s₁ => ∀ pl, wpAny (model prog w) Ar (getMethod ov name pl) (fun fx s₂ => wpAny (model prog w) Ar (callWith pos fx.1 fx.2 (backTo pos (starEach args env)) (backToKw pos (keywordEach kws env))) Q E s₂) E s₁) E s) :
    wpAny (model prog w) Ar (eval (.Call (.Attribute o name apos) args kws pos) env) Q E s := by
  rw [arm_eval_Call, hbase]
  refine wpAny_bind (wpAny_mono h (fun ov s₁ h₁ => wpAny_bind (wpAny_standAt ?_)) fun _ _ e => e)
  have hpos : methodCallPos true o env apos pos = pure pos := by unfold methodCallPos; simp [hline]
  unfold methodCall calleeOf
  rw [hform]
  refine wpAny_bind (wpAny_holding (wpAny_mono (h₁ _) (fun fx s₂ h₂ => ?_) fun _ _ e => e))
  exact wpAny_bind (wpAny_of_eq hpos h₂)
end
theorem form_ok {args : List Expr} {kws : List Keyword} {env : Env} {pos : Pos} (hs : args.any isStar = false) (hk : (kws.all fun q => q.arg.isSome) = true) (hn : args.length + kws.length ≤ 28) : methodCallForm (args.length + kws.length) (backTo pos (starEach args env)) (backToKw pos (keywordEach kws env)) = true := by
  have h1 := starEach_plain env pos hs
  have h2 := (kw_all env pos hk).1
  unfold methodCallForm
  rw [Bool.and_eq_true, Bool.and_eq_true]
  refine ⟨⟨?_, h2⟩, decide_eq_true ?_⟩
  · rw [List.all_eq_true]
    intro x hx
    have := List.any_eq_false.mp h1 x hx
    simpa using this
  · split <;> omega
/-- values for a call, behind others -/
theorem callWith_G {first : List Value} {f : Value} {e : Expr} {es : List Expr} {kws : List Keyword} {p : Pos} {t tk : TA} {pins : List (Addr × Obj)} {σ : L2.St} {H : Hp} {s : Shared} {Q : Value → Shared → Prop} (hk : PySem.W.keepIn X.K f = true) (hs : (e :: es).any isStar = false) (hkw : (kws.all fun q => q.arg.isSome) = true) (h : PA X (e :: es) t) (hk2 : PK X kws tk) (I : L2.Inv X pins σ H s)
    (q : t σ H fun vs H1 => tk σ H1 fun zs H2 => ∀ us ws s2, L2.Inv X pins σ H2 s2 → Vals vs us → Vals zs ws → wpAny (model X.prog X.w) X.A (call f (first ++ us) ((kws.filterMap (·.arg)).zip ws)) Q X.xe s2) :
    wpAny (model X.prog X.w) X.A (callWith p f first (backTo p (starEach (e :: es) X.env)) (backToKw p (keywordEach kws X.env))) Q X.xe s := by
  obtain ⟨k1, k2⟩ := kw_all X.env p hkw
  have hs' := hs
  rw [List.any_cons, Bool.or_eq_false_iff] at hs
  refine PySem.W.callWith_KW (h₀ := X.base) I.ok.mod.kin hk k1 (thn (h.run p pins s σ H _ I q) fun us s1 ⟨vs, H1, I1, r1, q1⟩ => thn (hk2.run p pins s1 σ H1 _ I1 q1) fun ws s2 ⟨zs, H2, I2, r2, q2⟩ => ⟨I2.kIn, ?_⟩) (by rw [k2, starEach_plain _ _ hs']; rfl) (starEach_cons hs.1)
  rw [kw_names]
  exact q2 us ws s2 I2 r1 r2
theorem callWith_G0 {first : List Value} {f : Value} {kws : List Keyword} {p : Pos} {tk : TA} {pins : List (Addr × Obj)} {σ : L2.St} {H : Hp} {s : Shared} {Q : Value → Shared → Prop} (hk : PySem.W.keepIn X.K f = true) (hkw : (kws.all fun q => q.arg.isSome) = true) (hk2 : PK X kws tk) (I : L2.Inv X pins σ H s)
    (q : tk σ H fun zs H2 => ∀ ws s2, L2.Inv X pins σ H2 s2 → Vals zs ws → wpAny (model X.prog X.w) X.A (call f (first ++ []) ((kws.filterMap (·.arg)).zip ws)) Q X.xe s2) :
    wpAny (model X.prog X.w) X.A (callWith p f first (backTo p (starEach [] X.env)) (backToKw p (keywordEach kws X.env))) Q X.xe s := by
  obtain ⟨k1, k2⟩ := kw_all X.env p hkw
  refine PySem.W.callWith_KW0 (h₀ := X.base) I.ok.mod.kin hk k1 (thn (hk2.run p pins s σ H _ I q) fun ws s2 ⟨zs, H2, I2, r2, q2⟩ => ⟨I2.kIn, ?_⟩) (by rw [k2]; rfl)
  rw [kw_names]
  exact q2 ws s2 I2 r2
/-- o.m(..) of an instance: its class tells which def -/
def mcX (C : Calls) (m : Str) (o : OE) (args kws : List OE) (rows : List (Str × Str × List Sr × List D)) (Γ : Gam) : T (D × Bool) := (evE C o Γ).bind fun x => match x with
    | .ins c ns _ => (match rows.lookup c with
      | some (key, sel, dfts) => .need (!ns.contains m) ((evEs C args Γ).bind fun ds => (evEs C kws Γ).bind fun zs => .need (decide ((selL sel (x :: ds) zs dfts).length = sel.length)) (C key (selL sel (x :: ds) zs dfts)))
      | none => .bad)
    | _ => .bad
theorem mcX_eq (m : Str) (o : OE) (args kws : List OE) (rows : List (Str × Str × List Sr × List D)) (Γ : Gam) : evE C (.mcall m o args kws rows) Γ = (mcX C m o args kws rows Γ).bind fun r => .ret r.1 := by
  rw [evE]
  unfold mcX
  rw [T.bind_assoc]
  congr 1
  funext x
  cases x <;> first | rfl | skip
  rename_i c ns vs
  dsimp only
  cases rows.lookup c with
  | none => rfl
  | some q =>
    obtain ⟨key, sel, dfts⟩ := q
    dsimp only
    cases ns.contains m with
    | true => rfl
    | false =>
      show _ = T.bind ((evEs C args Γ).bind _) _
      rw [T.bind_assoc]
      show (evEs C args Γ).bind _ = _
      congr 1
      funext ds
      rw [T.bind_assoc]
      congr 1
      funext zs
      cases decide ((selL sel (.ins c ns vs :: ds) zs dfts).length = sel.length) <;> rfl
theorem k_mcallN {o : Expr} {es : List Expr} {kws : List Keyword} {m : Str} {oo : OE} {os kos : List OE} {ap pos : Pos} {k : Nat} {rows : List (Str × Str × List Sr × List D)} (hr : Room k X.A) (hbase : attributeBase o m X.env (eval o X.env) = eval o X.env) (hline : (ap.endLine == pos.line) = true) (hn : es.length + kws.length ≤ 28)
    (hm : ∀ x key sel dfts, rows.lookup x = some (key, sel, dfts) → ∃ fd ps, Cls X.K (He.ga X.K x) ∧ Meth X.K (He.ga X.K x) m (He.ma X.K (He.ga X.K x) m) ∧ FnOk X.prog X.w X.K X.mg X.base (L2.CX X.prog X.w) k (He.ma X.K (He.ga X.K x) m) fd ps (spD X.K sel.length (C key)) ∧ Shape X.K fd ps (es.length + 1) (kws.filterMap (·.arg)) sel dfts)
    (hx : Passes (L2.CX X.prog X.w) X (eX X.K bg S0 H0 EX)) (hs : es.any isStar = false) (hkw : (kws.all fun q => q.arg.isSome) = true) (hol : es.length = os.length) (hkl : kws.length = kos.length)
    (ho : PE X o (EvD X.K bg S0 H0 EX A (evE C oo))) (h : PA X es (EvL X.K bg S0 H0 EX A (evEs C os))) (h2 : PK X kws (EvL X.K bg S0 H0 EX A (evEs C kos))) : PE X (.Call (.Attribute o m ap) es kws pos) (EvN X.K bg S0 H0 EX A (mcX C m oo os kos rows)) := by
  refine ⟨fun pins s σ H Q I ⟨O, Γ, S, a0, q⟩ => ?_⟩
  have run := ho.run pins s σ H (fun v H1 => ∃ x S1, Wld bg S1 H1 ∧ Ext bg S H S1 H1 ∧ Rep X.K bg (Gs S1 O σ A) H1 x v ∧ (match x with
    | .ins c ns _ => (match rows.lookup c with
      | some (key, sel, dfts) => T.need (!ns.contains m) ((evEs C os Γ).bind fun ds => (evEs C kos Γ).bind fun zs => .need (decide ((selL sel (x :: ds) zs dfts).length = sel.length)) (C key (selL sel (x :: ds) zs dfts)))
      | none => .bad)
    | _ => .bad).All (fun r => ∀ v S' H', Wld bg S' H' → Ext bg S H S' H' → ResN X.K bg (Gs S' O σ A) H H' r v → Q v H') EX) I ⟨O, Γ, S, a0, T.all_imp (T.all_bind.mp q) fun x hx' v S1 H1 W1 E1 r1 => ⟨x, S1, W1, E1, r1, hx'⟩⟩
  refine meth_call hbase (form_ok hs hkw hn) hline (thn run fun u s1 h1 pl => ?_)
  obtain ⟨v, H1, I1, rv, x, S1, W1, E1, r1, hx'⟩ := h1
  cases x <;> first | exact hx'.elim | skip
  rename_i c ns vs
  dsimp only at hx'
  cases hrow : rows.lookup c with
  | none =>
    rw [hrow] at hx'
    exact hx'.elim
  | some row =>
    obtain ⟨key, sel, dfts⟩ := row
    rw [hrow] at hx'
    obtain ⟨hno, hx'⟩ := T.all_need hx'
    obtain ⟨fd, ps, hcls, hmeth, F, dv, du, rd, dr, hb⟩ := hm c key sel dfts hrow
    obtain ⟨b, dx, xs, ev, sb, hp, hnl, rs⟩ := ins_at r1
    subst ev
    cases rv
    have a1 := a0.later E1 W1
    refine getmeth_ok I1 hp hcls hmeth ((fld_rel hnl rs).2 (by simpa using hno)) ?_
    have hkn := kw_len hkw
    -- the call, once its values lie there
    have fin : ∀ (ds zs : List D) (vs' zv : List V) (us ws : List Value) (s2 : Shared) (H2 : Hp) (S2 : Addr → Prop), At X.K bg S0 H0 O Γ S2 σ H2 → Ext bg S1 H1 S2 H2 → L2.Inv X pins σ H2 s2 → Vals vs' us → Vals zv ws → Reps X.K bg (Gs S2 O σ A) H2 ds vs' → Reps X.K bg (Gs S2 O σ A) H2 zs zv → ds.length = es.length → zs.length = kws.length →
        (T.need (decide ((selL sel (.ins c ns vs :: ds) zs dfts).length = sel.length)) (C key (selL sel (.ins c ns vs :: ds) zs dfts))).All (fun r => ∀ v S' H', Wld bg S' H' → Ext bg S H S' H' → ResN X.K bg (Gs S' O σ A) H H' r v → Q v H') EX →
        wpAny (model X.prog X.w) X.A (call (.ref (He.ma X.K (He.ga X.K c) m)) (.ref b :: us) ((kws.filterMap (·.arg)).zip ws)) (EP X pins σ Q) X.xe s2 := by
      intro ds zs vs' zv us ws s2 H2 S2 a2 E2 I2 ru rw' rds rzs ld lz hall
      obtain ⟨cl, hall⟩ := T.all_need hall
      have cl := of_decide_eq_true cl
      have l1 : us.length = es.length := by rw [← ru.length, rds.length, ld]
      have l2 : ws.length = (kws.filterMap (·.arg)).length := by rw [← rw'.length, rzs.length, lz, hkn]
      have rr := selL_vals (vs := .ref b :: vs') (us := .ref b :: us) (.cons rfl ru) rw' rd sel
      have rx : Reps X.K bg (Gs S2 O σ A) H2 (.ins c ns vs :: ds) (.ref b :: vs') := ⟨_, _, rfl, a1.rep E2 r1, rds⟩
      refine wpAny_call (codeAny_mono (F.run X.A X.stack s2 H2 _ _ _ Q _ hr I2.env0 (hb s2 (.ref b :: us) ws I2.kIn (by rw [List.length_cons, l1]) l2) rr (call_res a2 (E1.trans E2) cl (selL_reps rx rzs (dr _ _ _) sel) hall)) fun r s' hq => ?_)
      match r, hq with
      | .error e, hq => exact hx pins σ H2 s2 e s' I2 hq
      | .ok (.ret u), hq => exact I2.after hq
      | .ok .next, hq => exact hq.elim
      | .ok .brk, hq => exact hq.elim
      | .ok .cont, hq => exact hq.elim
    cases es with
    | nil =>
      have e0 : os = [] := by cases os with | nil => rfl | cons _ _ => cases hol
      subst e0
      have hx' := T.all_bind.mp hx'
      rw [evEs] at hx'
      refine callWith_G0 (first := [.ref b]) hmeth.kp hkw h2 I1 ⟨O, Γ, S1, a1, T.all_imp (evEs_len kos Γ _ _ (T.all_bind.mp (show ((evEs C kos Γ).bind _).All _ EX from hx'))) fun zs hzs ws S2 H2 W2 E2 r2 => ?_⟩
      obtain ⟨hzs, hzn⟩ := hzs
      intro ws' s2 I2 rw'
      exact fin [] zs [] ws [] ws' s2 H2 S2 (a1.later E2 W2) E2 I2 .nil rw' rfl r2 rfl (by rw [hzn, hkl]) hzs
    | cons e es =>
      refine callWith_G (first := [.ref b]) hmeth.kp hs hkw h h2 I1 ⟨O, Γ, S1, a1, T.all_imp (evEs_len os Γ _ _ (T.all_bind.mp hx')) fun ds hds vs' S2 H2 W2 E2 r2 => ?_⟩
      obtain ⟨hds, hdn⟩ := hds
      have a2 := a1.later E2 W2
      refine ⟨O, Γ, S2, a2, T.all_imp (evEs_len kos Γ _ _ (T.all_bind.mp hds)) fun zs hzs ws S3 H3 W3 E3 r3 => ?_⟩
      obtain ⟨hzs, hzn⟩ := hzs
      intro us ws' s2 I2 ru rw'
      exact fin ds zs vs' ws us ws' s2 H3 S3 (a2.later E3 W3) (E2.trans E3) I2 ru rw' (a2.reps E3 r2) r3 (by rw [hdn, hol]) (by rw [hzn, hkl]) hzs
/-- any call by name, its object frozen -/
theorem k_callD {e : Expr} {os kos : List OE} {f : Str} {sel : List Sr} {dfts : List D} (h : PE X e (EvN X.K bg S0 H0 EX A fun Γ => (evEs C os Γ).bind fun ds => (evEs C kos Γ).bind fun zs => .need (decide ((selL sel ds zs dfts).length = sel.length)) (C f (selL sel ds zs dfts)))) : PE X e (EvD X.K bg S0 H0 EX A (evE C (.call f os kos sel dfts))) :=
  pe_weak h fun σ H Q ⟨O, Γ, S, a, q⟩ => evN_D ⟨O, Γ, S, a, by
    rw [evE] at q
    refine T.all_bind.mpr (T.all_bind.mpr (T.all_imp (T.all_bind.mp q) fun ds hds => T.all_bind.mpr (T.all_imp (T.all_bind.mp hds) fun zs hzs => ?_)))
    obtain ⟨cl, hzs⟩ := T.all_need hzs
    rw [cl]
    exact T.all_imp (T.all_bind.mp hzs) fun r hr => hr⟩
theorem k_mcall {e : Expr} {m : Str} {o : OE} {args kws : List OE} {rows : List (Str × Str × List Sr × List D)} (h : PE X e (EvN X.K bg S0 H0 EX A (mcX C m o args kws rows))) : PE X e (EvD X.K bg S0 H0 EX A (evE C (.mcall m o args kws rows))) :=
  pe_weak h fun σ H Q ⟨O, Γ, S, a, q⟩ => evN_D ⟨O, Γ, S, a, by rw [mcX_eq] at q; exact q⟩
/-- {} -/
theorem k_dnewN {t : Bool} {pos : Pos} : PE X (.Dict [] [] pos) (EvN X.K bg S0 H0 EX A fun _ => .ret (.dct t [] [], true)) := by
  have fin : ∀ {o : HO}, DctO t [] [] o → ∀ (σ : L2.St) (H : Hp) (Q : VK), EvN X.K bg S0 H0 EX A (fun _ => .ret (.dct t [] [], true)) σ H Q → ∀ p, H p = none → Q (.ref p) (upd H p o) := fun {o} ho σ H Q ⟨O, Γ, S, a, q⟩ p hp =>
    q _ S _ (a.wld.made hp (ho.notup)) (.made p _ hp) ⟨p, o, rfl, fun z => (a.gwld A).dom p z hp, hp, upd_same, [], ho, rfl⟩
  cases t with
  | false => exact pe_weak pe_dnewK fun σ H Q q => fin ⟨[], rfl, rfl, rfl⟩ σ H Q q
  | true => exact pe_weak pe_dnewT fun σ H Q q => fin ⟨[], rfl, rfl, rfl⟩ σ H Q q
/-! ### new instances -/
theorem selL_up {α : Type} (x : α) (us ws ds : List α) : ∀ sel : List Sr, selL (sel.map Sr.up) (x :: us) ws ds = selL sel us ws ds
  | [] => rfl
  | s :: sel => by
    have ih := selL_up x us ws ds sel
    unfold selL at ih ⊢
    rw [List.map_cons, List.filterMap_cons, List.filterMap_cons, ih]
    cases s <;> rfl
theorem selL_self {α : Type} (x : α) (us ws ds : List α) (sel : List Sr) : selL (.pos 0 :: sel.map Sr.up) (x :: us) ws ds = x :: selL sel us ws ds := by
  have := selL_up x us ws ds sel
  unfold selL at this ⊢
  rw [List.filterMap_cons, this]
  rfl
theorem new_heap {H : Hp} {x dx : Addr} {o o' : HO} (hx : H x = none) (ne : dx ≠ x) : (fun a => if a = x then none else upd (upd H dx o) x o' a) = upd H dx o := by
  funext a
  by_cases e : a = x
  · rw [if_pos e, e, upd_ne (fun z => ne z.symm), hx]
  · rw [if_neg e, upd_ne e]
theorem k_makeN {es : List Expr} {kws : List Keyword} {os kos : List OE} {f : Str} {p pos : Pos} {k j i : Nat} {fd : FuncData} {ps : List Str} {sel : List Sr} {dfts : List D} {F : List D → T D} (hr : Room k X.A) (hk : k = j + 1 ∨ ∀ ds, F ds = .bad) (hg : Gl X f) (hm : X.mg f = some (.ref (He.ga X.K f))) (M : Mk X.K (He.ga X.K f) i)
    (G : FnOk X.prog X.w X.K X.mg X.base (L2.CX X.prog X.w) j i fd ps (spI X.K f sel.length F)) (sh : Shape X.K fd ps (es.length + 1) (kws.filterMap (·.arg)) (.pos 0 :: sel.map Sr.up) dfts) (hC : ∀ ds, C f ds = (F ds).bind fun d => .ret (d, false))
    (hx : Passes (L2.CX X.prog X.w) X (eX X.K bg S0 H0 EX)) (hs : es.any isStar = false) (hkw : (kws.all fun q => q.arg.isSome) = true) (hol : es.length = os.length) (hkl : kws.length = kos.length) (hdb : (f == ("__debug__" : Str)) = false)
    (h : PA X es (EvL X.K bg S0 H0 EX A (evEs C os))) (h2 : PK X kws (EvL X.K bg S0 H0 EX A (evEs C kos))) : PE X (.Call (.Name f p) es kws pos) (EvN X.K bg S0 H0 EX A fun Γ => (evEs C os Γ).bind fun ds => (evEs C kos Γ).bind fun zs => .need (decide ((selL sel ds zs dfts).length = sel.length)) (C f (selL sel ds zs dfts))) := by
  obtain ⟨dv, du, rd, dr, hb⟩ := sh
  have hkn := kw_len hkw
  refine ⟨fun pins s σ H Q I ⟨O, Γ, S, a0, q⟩ => wpAny_Call_Name_kw (ld_glob I hg hm ?_ hdb)⟩
  have kb : KBn X.K fd ps (es.length + 1) (kws.filterMap (·.arg)) (fun us ws => selL (.pos 0 :: sel.map Sr.up) us ws du) (fun vs zs => selL (.pos 0 :: sel.map Sr.up) vs zs dv) := ⟨fun s us ws X l1 l2 => hb s us ws X l1 l2, fun r1 r2 => selL_vals r1 r2 rd _⟩
  have fin : ∀ (ds zs : List D) (vs' zv : List V) (us ws : List Value) (s2 : Shared) (H2 : Hp) (S2 : Addr → Prop), At X.K bg S0 H0 O Γ S2 σ H2 → Ext bg S H S2 H2 → L2.Inv X pins σ H2 s2 → Vals vs' us → Vals zv ws → Reps X.K bg (Gs S2 O σ A) H2 ds vs' → Reps X.K bg (Gs S2 O σ A) H2 zs zv → ds.length = es.length → zs.length = kws.length →
      (T.need (decide ((selL sel ds zs dfts).length = sel.length)) (C f (selL sel ds zs dfts))).All (fun r => ∀ v S' H', Wld bg S' H' → Ext bg S H S' H' → ResN X.K bg (Gs S' O σ A) H H' r v → Q v H') EX →
      wpAny (model X.prog X.w) X.A (call (.ref (He.ga X.K f)) us ((kws.filterMap (·.arg)).zip ws)) (EP X pins σ Q) X.xe s2 := by
    intro ds zs vs' zv us ws s2 H2 S2 a2 E2 I2 ru rw' rds rzs ld lz hall
    obtain ⟨cl, hall⟩ := T.all_need hall
    have cl := of_decide_eq_true cl
    rw [hC] at hall
    have hall := T.all_bind.mp hall
    rcases hk with hk | hk
    rotate_left 1
    · rw [hk] at hall
      exact hall.elim
    subst hk
    refine run_makeN (n := es.length) M G hr kb hx I2 ru rw' (by rw [rds.length, ld]) (by rw [rzs.length, lz, hkn]) fun x dx hx0 hd0 ne => ?_
    have r2 : Reps X.K bg (Gs S2 O σ A) (upd H2 dx (.own x)) (selL sel ds zs dfts) (selL sel vs' zv dv) := (Ext.made (bg := bg) dx (.own x) hd0).reps (a2.gwld A) (selL_reps rds rzs (dr _ _ _) sel)
    refine ⟨bg, Gs S2 O σ A, x, dx, _, _, selL_self _ _ _ _ _, cl, fun z => (a2.gwld A).dom x z hx0, upd_same, ?_, ?_, ?_⟩
    · rw [new_heap hx0 ne]
      exact (a2.gwld A).made hd0 (fun _ z => by cases z)
    · exact (r2.write fun z => (a2.gwld A).dom x z hx0)
    · rw [new_heap hx0 ne]
      refine T.all_mono (fun e he cls dx' S' H' W' E' rx => ?_) hall fun d hd S' H' W' E' rv => ?_
      · have E' := (Ext.made (bg := bg) (S := Gs S2 O σ A) dx (.own x) hd0).trans E'
        refine ⟨e, S', he, W', ⟨fun b hb => E'.sub b (.inl (a2.ext.sub b hb)), fun b hb => ?_, fun b o h1 h2 => E'.keep b o (a2.ext.keep b o h1 h2) h2, fun b h1 => E'.dom b (a2.ext.dom b h1)⟩, rx⟩
        rcases E'.new b hb with z | z
        · rcases z with z | ⟨i, _, mo, ei⟩
          · exact a2.ext.new b z
          · obtain ⟨_, _, _, _, h00, _⟩ := a2.abs.at mo ei
            exact .inr h00
        · exact .inr (a2.ext.unborn z)
      · have E' := (Ext.made (bg := bg) (S := Gs S2 O σ A) dx (.own x) hd0).trans E'
        obtain ⟨W3, E3, s3⟩ := a2.back W' E'
        exact ⟨rfl, hd (.ref x) _ H' W3 (E2.trans E3) (Rep.mono s3 (fun _ _ _ q => q) d _ rv)⟩
  cases es with
  | nil =>
    have e0 : os = [] := by cases os with | nil => rfl | cons _ _ => cases hol
    subst e0
    have q := T.all_bind.mp q
    rw [evEs] at q
    refine callWith_G0 (first := []) M.kp hkw h2 I ⟨O, Γ, S, a0, T.all_imp (evEs_len kos Γ _ _ (T.all_bind.mp (show ((evEs C kos Γ).bind _).All _ EX from q))) fun zs hzs ws S2 H2 W2 E2 r2 => ?_⟩
    obtain ⟨hzs, hzn⟩ := hzs
    intro ws' s2 I2 rw'
    exact fin [] zs [] ws [] ws' s2 H2 S2 (a0.later E2 W2) E2 I2 .nil rw' rfl r2 rfl (by rw [hzn, hkl]) hzs
  | cons e es =>
    refine callWith_G (first := []) M.kp hs hkw h h2 I ⟨O, Γ, S, a0, T.all_imp (evEs_len os Γ _ _ (T.all_bind.mp q)) fun ds hds vs' S2 H2 W2 E2 r2 => ?_⟩
    obtain ⟨hds, hdn⟩ := hds
    have a2 := a0.later E2 W2
    refine ⟨O, Γ, S2, a2, T.all_imp (evEs_len kos Γ _ _ (T.all_bind.mp hds)) fun zs hzs ws S3 H3 W3 E3 r3 => ?_⟩
    obtain ⟨hzs, hzn⟩ := hzs
    intro us ws' s2 I2 ru rw'
    exact fin ds zs vs' ws us ws' s2 H3 S3 (a2.later E3 W3) (E2.trans E3) I2 ru rw' (a2.reps E3 r2) r3 (by rw [hdn, hol]) (by rw [hzn, hkl]) hzs
end
end Dy

set_option linter.all false
set_option maxRecDepth 10000
set_option autoImplicit false
/-! Dy, part 10c: every other item, how many keys, list.count, static methods. -/
namespace Dy
open PySem PySem.Spec PyProof.Rows L2
section
variable {X : Cx} {bg : Option (Addr × Addr)} {S0 : Addr → Prop} {H0 : Hp} {EX : D → Prop} {A : List Nat} {C : Calls}
theorem Reps.every {K : PySem.W.Frag} {S : Addr → Prop} {H : Hp} : ∀ {ds : List D} {vs : List V}, Reps K bg S H ds vs → Reps K bg S H (everyL 0 ds) (everyL 0 vs) ∧ Reps K bg S H (everyL 1 ds) (everyL 1 vs)
  | [], vs, r => by
    rw [show vs = [] from r]
    exact ⟨rfl, rfl⟩
  | d :: ds, vs, r => by
    obtain ⟨v, ys, e, r1, r2⟩ := r
    subst e
    obtain ⟨h1, h2⟩ := Reps.every r2
    exact ⟨⟨v, everyL 1 ys, rfl, r1, h2⟩, h1⟩
/-- x[k::2] -/
theorem k_step {a st : Expr} {lo hi : Option Expr} {k : Nat} {o : OE} {p2 pos : Pos} (hst : evryE a lo hi st = some k) (h : PE X a (EvD X.K bg S0 H0 EX A (evE C o))) : PE X (.Subscript a (.Slice lo hi (some st) p2) pos) (EvD X.K bg S0 H0 EX A (evE C (.step o k))) := by
  have fin : ∀ {σ : L2.St} {H : Hp} {Q : VK} (k1 : k ≤ 1), EvD X.K bg S0 H0 EX A (evE C (.step o k)) σ H Q → tEvery X.K (EvD X.K bg S0 H0 EX A (evE C o)) k σ H Q := fun {σ H Q} k1 ⟨O, Γ, S, a0, q⟩ => by
    rw [evE] at q
    refine ⟨O, Γ, S, a0, T.all_imp (T.all_bind.mp q) fun x hx v S1 H1 W1 E1 r1 => ?_⟩
    unfold stepD at hx
    split at hx
    · rename_i xs0
      obtain ⟨c, hx⟩ := T.all_need hx
      obtain ⟨b, xs, ev, tt, rs⟩ := r1
      refine ⟨b, xs, ev, tt.sq, fun p hp => ?_⟩
      have a1 := a0.later E1 W1
      refine hx (.ref p) (plus S1 p) _ (W1.laid hp) (E1.trans (.laid p _ hp)) ?_
      have re : Reps X.K bg (Gs S1 O σ A) H1 (everyL k xs0) (everyL k xs) := by
        rcases (show k = 0 ∨ k = 1 from by omega) with e | e
        · subst e; exact (Reps.every rs).1
        · subst e; exact (Reps.every rs).2
      exact ⟨p, everyL k xs, rfl, ⟨.inl (.inr rfl), upd_same⟩, re.mono (Gs.ext fun _ z => .inl z) (fun b u s e => by rw [upd_ne (ne_of_none e hp)]; exact e) _ _⟩
    · exact hx.elim
  unfold evryE at hst
  split at hst
  · cases hst
    exact pe_weak (pe_every (k := 0) (by omega) (fun _ _ => rfl) h ⟨fun pins s σ H Q I q => po_none.run pins s σ H Q I q⟩ pe_int) fun σ H Q q => fin (by omega) q
  · cases hst
    exact pe_weak (pe_every (k := 1) (by omega) (fun _ _ => rfl) h ⟨fun pins s σ H Q I q => (po_some (pe_int (i := 1))).run pins s σ H Q I ⟨1, rfl, q⟩⟩ pe_int) fun σ H Q q => fin (by omega) q
  · cases hst
theorem keysD_map : ∀ {ds : List D} {kk : List Key}, keysD ds = some kk → ds.map keyD = kk.map some
  | [], kk, h => by
    cases h
    rfl
  | d :: ds, kk, h => by
    obtain ⟨k, r, e1, e2, e3⟩ := keysD_cons h
    subst e3
    rw [List.map_cons, List.map_cons, e1, keysD_map e2]
/-- len(set(a)) -/
theorem k_lenset {a : Expr} {o : OE} {p p2 q pos : Pos} (A' : List Nat) (hc : X.calm = true) (hg : Gl X "len") (hm : X.mg "len" = none) (hg2 : Gl X "set") (hm2 : X.mg "set" = none) (hs : isStar a = false) (h : PE X a (EvD X.K bg S0 H0 EX A' (evE C o))) :
    PE X (.Call (.Name "len" p) [.Call (.Name "set" p2) [a] [] q] [] pos) (EvD X.K bg S0 H0 EX A (evE C (.lenset o))) :=
  pe_weak (pe_lenK hc hg hm hg2 hm2 h (starEach_cons hs)) fun σ H Q ⟨O, Γ, S, a0, q⟩ => by
    rw [evE] at q
    refine ⟨O, Γ, S, a0, T.all_imp (T.all_bind.mp q) fun x hx v S1 H1 W1 E1 r1 => ?_⟩
    unfold lensetD at hx
    split at hx
    · obtain ⟨c, hx⟩ := T.all_need hx
      rw [Bool.and_eq_true, decide_eq_true_eq] at c
      obtain ⟨kk, ek⟩ := keysD_of c.1
      obtain ⟨b, xs, ev, tt, rs⟩ := r1
      have em := keysD_map ek
      have l := congrArg List.length em
      rw [List.length_map, List.length_map] at l
      refine ⟨b, kk, _, ev, ?_, em, by omega, hx _ S1 H1 W1 E1 rfl⟩
      rw [← keysD_reps ek rs]
      exact tt.sq
    · exact hx.elim
theorem strs_of_vals : ∀ {ys : List (List Nat)} {us : List Value}, Vals (ys.map fun l => V.str ⟨l.toArray⟩) us → StrsAre us (ys.map fun l => (⟨l.toArray⟩ : Str))
  | [], _, r => by
    rw [List.map_nil] at r
    cases r
    exact .nil
  | y :: ys, _, r => by
    rw [List.map_cons] at r
    cases r with
    | cons r1 r2 =>
      obtain ⟨t, rfl⟩ := r1
      exact .cons _ t (strs_of_vals r2)
theorem count_strs {l : List Nat} : ∀ {ys : List (List Nat)} {us : List Value}, Vals (ys.map fun l => V.str ⟨l.toArray⟩) us → us.countP (isStrOf ⟨l.toArray⟩) = (ys.filter fun y => decide (y = l)).length
  | [], _, r => by
    rw [List.map_nil] at r
    cases r
    rfl
  | y :: ys, _, r => by
    rw [List.map_cons] at r
    cases r with
    | cons r1 r2 =>
      obtain ⟨t, rfl⟩ := r1
      rw [List.countP_cons, count_strs r2, List.filter_cons]
      have e : isStrOf (⟨l.toArray⟩ : Str) (Value.str ⟨y.toArray⟩ t) = decide (y = l) := by
        show ((⟨y.toArray⟩ : Str) == ⟨l.toArray⟩) = _
        by_cases q : y = l
        · subst q; simp
        · rw [decide_eq_false q]
          refine beq_eq_false_iff_ne.mpr fun z => q ?_
          have := congrArg (fun s : Str => s.cps.toList) z
          simpa using this
      rw [e]
      by_cases q : y = l <;> simp [q]
/-- xs.count(x) of texts -/
theorem mt_count_dat : MtR X "list.count" (rDm X.K EX (methD .count)) := by
  intro pins s σ H v vs u us Q I r rs ⟨bg, S, d, ds, W, hd, hds, h⟩
  replace h : (countD d ds).All (Rs X.K bg S H Q) EX := h
  unfold countD at h
  split at h
  · rename_i xs0 l
    split at h
    · rename_i ys e
      obtain ⟨c, h⟩ := T.all_need h
      obtain ⟨w, rfl, rw'⟩ := hds.one
      obtain ⟨p, xs, ep, sp, hp, rp⟩ := hd
      obtain ⟨e1, e2⟩ := rp.strs e
      subst e1 ep
      cases r
      obtain ⟨u2, rfl, ru⟩ := rs.one
      rw [rw'.1] at ru
      obtain ⟨t, rfl⟩ := ru
      obtain ⟨its, rv, ⟨⟨cls, dd, data, sl⟩, n, ho, hc, hdn, hd2⟩, hlen⟩ := I.list (xs := (ys.map fun l => (⟨l.toArray⟩ : Str)).map V.str) (.inl hp)
      simp only at hc hd2
      subst hc hd2
      rw [List.map_map] at rv
      have sa : StrsAre its (ys.map fun l => (⟨l.toArray⟩ : Str)) := strs_of_vals rv
      refine call_meets PySem.F.slot_list_count ⟨_, ho, rfl⟩ PySem.F.entry_list_count (PySem.F.args_list_count_2 _ _) (SeqAt.list_countAt p its.toArray n dd sl (.str ⟨l.toArray⟩ t) (isStrOf ⟨l.toArray⟩)) ⟨ho, fun y hy => (eq_isStrOf _ t sa y (by simpa using hy)).at _ _, ?_⟩
      refine ⟨.int _, H, I.tok _, ⟨s.toks, ?_⟩, h _ S H W .refl rfl⟩
      show Value.int ((its.toArray.toList.countP (isStrOf ⟨l.toArray⟩) : Nat) : Int) s.toks = _
      rw [show its.toArray.toList = its from by simp, count_strs rv]
    · exact h.elim
  · exact h.elim
theorem count_flat {d : D} {ds : List D} {P : D → Prop} {E : D → Prop} (h : (methD .count d ds).All P E) : (methD .count d ds).All (fun d => P d ∧ isFlat d = true) E := by
  unfold methD at h ⊢
  dsimp only at h ⊢
  unfold countD at h ⊢
  split at h
  · split at h
    · exact need_bl rfl h
    · exact h.elim
  · exact h.elim
theorem k_count {o e : Expr} {oo : OE} {os : List OE} {ap pos : Pos} (A' : List Nat) (hs : isStar e = false) (hline : (ap.endLine == pos.line) = true) (hbase : attributeBase o "count" X.env (eval o X.env) = eval o X.env) (ho : PE X o (EvD X.K bg S0 H0 EX A' (evE C oo))) (ha : PA X [e] (EvL X.K bg S0 H0 EX A' (evEs C os))) :
    PE X (.Call (.Attribute o "count" ap) [e] [] pos) (EvD X.K bg S0 H0 EX A (evE C (.meth .count oo os))) := by
  refine pe_weak (pe_bm PySem.F.plainAttrs_list PySem.F.slot_list_count PySem.F.type_list_count (mt_count_dat (EX := EX)) ho ha hbase ?_ hline (starEach_cons hs) (starEach_plain _ _ rfl)) fun σ H Q ⟨O, Γ, S, a0, q⟩ => ?_
  · rw [starEach_cons hs]; rfl
  · rw [evE] at q
    refine ⟨O, Γ, S, a0, T.all_imp (T.all_bind.mp q) fun x hx v S1 H1 W1 E1 r1 => ?_⟩
    have a1 := a0.later E1 W1
    obtain ⟨c, hx⟩ := T.all_need hx
    cases x <;> first | (cases c; done) | skip
    refine ⟨?_, O, Γ, S1, a1, T.all_imp (T.all_bind.mp hx) fun ds hds vs S2 H2 W2 E2 r2 => ?_⟩
    · obtain ⟨p, xs, ep, sp, hp, rp⟩ := r1
      subst ep
      exact .inl ⟨rfl, xs, .inl hp⟩
    have a2 := a1.later E2 W2
    refine ⟨bg, Gs S2 O σ A', _, ds, a2.gwld A', a1.rep E2 r1, r2, T.all_imp (count_flat hds) fun d hd u S' H' W' E' r' => ?_⟩
    obtain ⟨W3, E3, s3⟩ := a2.back W' E'
    exact hd.1 u _ H' W3 (E1.trans (E2.trans E3)) (r'.flat hd.2)
/-- C.m(), m a static method -/
theorem k_sta0 {x : Str} {m key : Str} {px ap pos : Pos} {k : Nat} {a p gf : Addr} {mc : Value} {fd : FuncData} (hr : Room k X.A) (hg : Gl X x) (hm : X.mg x = some (.ref a)) (hdb : (x == ("__debug__" : Str)) = false) (r : ClX.CRead X.K a mc)
    (h1 : PySem.W.findCls X.K (.ref a) mc m = some (.get (.builtin "staticmethod.__get__") (.ref p) .none (.ref a))) (h2 : ∃ rest, PySem.W.recIn X.K p "staticmethod" = some (.ref gf :: rest)) (hk : PySem.W.keepIn X.K (.ref gf) = true)
    (F : FnOk X.prog X.w X.K X.mg X.base (L2.CX X.prog X.w) k gf fd [] (spD X.K 0 (C key))) (sh : Shape X.K fd [] 0 [] [] []) (hx : Passes (L2.CX X.prog X.w) X (eX X.K bg S0 H0 EX)) (hline : (ap.endLine == pos.line) = true)
    (hbase : attributeBase (.Name x px) m X.env (eval (.Name x px) X.env) = eval (.Name x px) X.env) :
    PE X (.Call (.Attribute (.Name x px) m ap) [] [] pos) (EvN X.K bg S0 H0 EX A fun Γ => (evEs C [] Γ).bind fun ds => (evEs C [] Γ).bind fun zs => .need (decide ((selL [] ds zs []).length = ([] : List Sr).length)) (C key (selL [] ds zs []))) := by
  obtain ⟨dv, du, rd, dr, hb⟩ := sh
  refine ⟨fun pins s σ H Q I ⟨O, Γ, S, a0, q⟩ => ?_⟩
  have e0 : evEs C [] Γ = .ret [] := by rw [evEs]
  dsimp only at q
  rw [e0] at q
  have q : (T.need (decide ((selL ([] : List Sr) ([] : List D) [] []).length = ([] : List Sr).length)) (C key (selL [] [] [] []))).All (fun r => ∀ v S' H', Wld bg S' H' → Ext bg S H S' H' → ResN X.K bg (Gs S' O σ A) H H' r v → Q v H') EX := q
  have q := (T.all_need q).2
  refine meth_call hbase (form_ok (env := X.env) (pos := pos) rfl rfl (by decide)) hline (thn ((pe_glob (pos := px) (v := .ref a) hg hm rfl hdb).run pins s σ H (fun v H1 => v = .ref a ∧ H1 = H) I ⟨rfl, rfl⟩) fun ov s1 ⟨v, H1, I1, r1, ev, eH⟩ pl => ?_)
  subst ev eH
  cases r1
  obtain ⟨rest, h2⟩ := h2
  refine PySem.W.method_cls I1.kIn r.ga (PySem.W.cls_bind I1.kIn r.rd h1 (wpAny_call (PySem.W.sm_get (s := { s1 with toks := s1.toks + 1 }) I1.kIn h2 (PySem.W.handed_on rfl ?_))))
  have I2 : Inv X pins σ H1 { s1 with toks := s1.toks + 1 } := I1.tok _
  refine callWith_G0 (first := []) hk (kws := []) rfl pk_nil I2 ?_
  intro ws s2 I3 r2
  cases r2
  exact call_finG (es := []) (kws := []) (sel := []) hr F rd hb hx I3 .nil .nil rfl rfl (call_res (A := A) a0 .refl rfl (show Reps X.K bg (Gs S O σ A) H1 [] [] from rfl) q)
end
end Dy

set_option linter.all false
set_option maxRecDepth 100000
set_option autoImplicit false
/-! Dy, part L: len(x) of an instance whose class has its own __len__. -/
namespace Dy
open PySem PySem.Spec PySem.Calls PyProof.Rows PySem.W L2 Builtin
theorem len_own {prog : Program} {w : World} {A : Around} {E : Value → Shared → Prop} {s : Shared} {K : PySem.W.Frag} {x C f : Addr} {ox : Obj} {od : Option Obj} {Q : Value → Shared → Prop} (X : K.In s.heap) (I : InstAt s.heap x ox C od) (hs : findIn K (.ref C) "__len__" = some (some (.ref f))) (hf : isFn K (.ref f) = true)
    (h : wpAny (model prog w) A.in1 (call (.ref f) [.ref x]) (PySem.W.LenBack Q) E s) : wpAny (model prog w) A (call (.builtin "len") [.ref x]) Q E s := by
  refine Calls.call_function_entry kind_len plain_len entry_len (args_len1 _) ?_
  unfold Builtin.«len»
  refine wpAny_bind (m := oneArg "len" _) (wpAny_pure ?_)
  refine wpAny_bind (m := callSpecial? (.ref x) (Str.ofString "__len__")) (special_fn X I hs (beq_iff_eq.mp hf) (wpAny_mono h (fun r s' hr => ?_) fun _ _ y => y))
  cases r <;> first | exact hr.elim | skip
  rename_i n u
  obtain ⟨⟨h0, h1⟩, hq⟩ := hr
  refine wpAny_bind (wpAny_holding (wpAny_pure ?_))
  refine wpAny_bind (wpAny_letGo ?_)
  show wpAny _ _ (if n < 0 then _ else _) _ _ _
  rw [if_neg (by omega)]
  show wpAny _ _ (if n ≥ 2 ^ 63 then _ else _) _ _ _
  rw [if_neg (by omega)]
  exact wpAny_bind (wpAny_mkInt (wpAny_pure ⟨_, rfl, hq⟩))
/-- what len(x) asks of an instance -/
def rLenI (X : Cx) (E : XK) : List V → Hp → VK → Prop := fun vs H Q => ∃ (b dx D f : Addr) (fs : List (Str × V)) (fd : FuncData) (ps : List Str) (sp : Sp) (j : Nat), vs = [.ref b] ∧ H b = some (.ins D dx fs) ∧ Meth X.K D "__len__" f ∧ Room (j + 1) X.A ∧
  FnOk X.prog X.w X.K X.mg X.base (L2.CX X.prog X.w) j f fd ps sp ∧ (∃ du dv, Vals dv du ∧ (∀ (s : Shared) (us : List Value), X.K.In s.heap → us.length = 1 → BindsTo s fd ⟨us, []⟩ (ps.zip (us ++ du))) ∧
  sp (.ref b :: dv) H (fun v H' => ∃ n : Int, v = .int n ∧ 0 ≤ n ∧ n < 2 ^ 63 ∧ Q (.int n) H') E)
section
variable {X : Cx} {bg : Option (Addr × Addr)} {S0 : Addr → Prop} {H0 : Hp} {EX : D → Prop} {A : List Nat} {C : Calls}
theorem call_lenI {E : XK} (hx : Passes (L2.CX X.prog X.w) X E) : CallR X (.builtin "len") (rLenI X E) := by
  intro pins s σ H xs us Q I r ⟨b, dx, D, f, fs, fd, ps, sp, j, e, hb, hm, hr, F, du, dv, hd, hbi, q⟩
  subst e
  have eu : us = [.ref b] := by
    cases r with
    | cons r1 r2 =>
      cases r2
      cases r1
      rfl
  subst eu
  obtain ⟨mA, O, _⟩ := ins_get I.hok hb
  obtain ⟨od, J, _⟩ := O.look
  refine len_own I.kIn J hm.at_ hm.fn (wpAny_call (codeAny_mono (F.run X.A.in1 X.stack s H ⟨[.ref b], []⟩ (.ref b :: du) (.ref b :: dv) _ E hr.in1 I.env0.in1 (hbi s [.ref b] I.kIn rfl) (.cons rfl hd) q) fun r s' hq => ?_))
  match r, hq with
  | .error e, hq => exact hx pins σ H s e s' I hq
  | .ok (.ret u), hq =>
    obtain ⟨v, H', I2, rv, n, ev, h0, h1, q2⟩ := I.after hq
    subst ev
    obtain ⟨t, rfl⟩ := rv
    exact ⟨⟨h0, h1⟩, .int n, H', I2.tok _, ⟨_, rfl⟩, q2⟩
  | .ok .next, hq => exact hq.elim
  | .ok .brk, hq => exact hq.elim
  | .ok .cont, hq => exact hq.elim
/-- len(x) -/
theorem k_lenm {a : Expr} {o : OE} {rows : List (Str × Str)} {p pos : Pos} {k : Nat} (hr : Room k X.A) (hg : Gl X "len") (hm : X.mg "len" = none) (hs : isStar a = false)
    (hd : ∀ c key, rows.lookup c = some key → ∃ j G fd ps, (k = j + 1 ∨ ∀ ds, G ds = .bad) ∧ Meth X.K (He.ga X.K c) "__len__" (He.ma X.K (He.ga X.K c) "__len__") ∧ FnOk X.prog X.w X.K X.mg X.base (L2.CX X.prog X.w) j (He.ma X.K (He.ga X.K c) "__len__") fd ps (spD X.K 1 G) ∧ Shape X.K fd ps 1 [] [.pos 0] [] ∧ ∀ d, C key [d] = G [d])
    (hx : Passes (L2.CX X.prog X.w) X (eX X.K bg S0 H0 EX)) (h : PE X a (EvD X.K bg S0 H0 EX A (evE C o))) : PE X (.Call (.Name "len" p) [a] [] pos) (EvD X.K bg S0 H0 EX A (evE C (.lenm o rows))) :=
  pe_weak (pe_callB (call_lenI hx) hg hm (by rfl) (pa_cons h pa_nil (starEach_cons hs)) (he := starEach_cons hs)) fun σ H Q ⟨O, Γ, S, a0, q⟩ => by
    rw [evE] at q
    refine ⟨O, Γ, S, a0, T.all_imp (T.all_bind.mp q) fun x hx v S1 H1 W1 E1 r1 => ?_⟩
    cases x <;> first | exact hx.elim | skip
    rename_i c ns vs
    unfold lenmD at hx
    dsimp only at hx
    cases hrow : rows.lookup c with
    | none =>
      rw [hrow] at hx
      exact hx.elim
    | some key =>
      rw [hrow] at hx
      have hx := T.all_bind.mp hx
      obtain ⟨j, G, fd, ps, hj, hmeth, F, ⟨dv, du, rd, _, hb⟩, eC⟩ := hd c key hrow
      rw [eC] at hx
      rcases hj with hj | hj
      · subst hj
        have a1 := a0.later E1 W1
        obtain ⟨b, dx, xs, ev, sb, hp, hnl, rs⟩ := ins_at r1
        subst ev
        refine ⟨b, dx, _, _, _, fd, ps, _, j, rfl, hp, hmeth, hr, F, [], [], .nil, fun s us X l => ?_, ?_⟩
        · have z := hb s us [] X l rfl
          have e : selL [.pos 0] us [] du = us ++ [] := by
            match us, l with
            | [u], _ => rfl
          rw [e] at z
          exact z
        · refine call_res a1 E1 rfl (show Reps X.K bg (Gs S1 O σ A) H1 [.ins c ns vs] [.ref b] from ⟨_, _, rfl, r1, rfl⟩) (T.all_imp hx fun r hr v S' H' W' E' rv => ?_)
          obtain ⟨d, fr⟩ := r
          unfold lenR at hr
          cases d <;> first | exact hr.elim | skip
          rename_i n
          obtain ⟨cn, hr2⟩ := T.all_need (c := decide (0 ≤ n ∧ n < 2 ^ 63)) (k := T.ret (D.int n)) hr
          have hr2 : ∀ (v : V) (S' : Addr → Prop) (H' : Hp), Wld bg S' H' → Ext bg S H S' H' → Rep X.K bg (Gs S' O σ A) H' (.int n) v → Q v H' := hr2
          have cn := of_decide_eq_true cn
          cases fr with
          | false =>
            have rv : v = .int n := rv
            exact ⟨n, rv, cn.1, cn.2, hr2 _ S' H' W' E' rfl⟩
          | true =>
            obtain ⟨_, _, _, _, _, _, z⟩ := rv
            exact z.elim
      · rw [hj] at hx
        exact hx.elim
end
end Dy

set_option linter.all false
set_option maxRecDepth 10000
set_option autoImplicit false
/-! Dy, part 11: every expression that has an own form does what its data says. -/
namespace Dy
open PySem PySem.Spec PyProof.Rows L2
theorem als_mem : ∀ {os : List OE} {i j : Nat} {o : OE}, os[i]? = some o → j ∈ al o → j ∈ als os
  | [], _, _, _, h, _ => by simp at h
  | o :: os, 0, j, o', h, m => by
    have : o = o' := by simpa using h
    subst this
    unfold als
    exact List.mem_append_left _ m
  | o :: os, i + 1, j, o', h, m => by
    unfold als
    exact List.mem_append_right _ (als_mem (i := i) (by simpa using h) m)
theorem super_base {o : Expr} {m : Str} {env : Env} (h : superE o = false) : attributeBase o m env (eval o env) = eval o env := by
  unfold superE at h
  split at h
  · cases h
  · rename_i hn
    unfold attributeBase
    split
    · rename_i id p pos
      exact absurd rfl (hn _ _ _)
    · rfl
theorem ownOf_mem {N : List Str} {sc : Scope} {x : Str} {i : Nat} (h : isLoc sc x = true) (hi : N.idxOf? x = some i) : i ∈ (ownOf N sc).map (·.2) := by
  rw [List.mem_map]
  refine ⟨(x, i), ?_, rfl⟩
  unfold ownOf
  rw [List.mem_filterMap]
  rcases isLoc_loc h with e | e
  · exact ⟨(x, .local), PySem.mem_of_lookup e, by show (N.idxOf? x).map _ = _; rw [hi]; rfl⟩
  · exact ⟨(x, .cell), PySem.mem_of_lookup e, by show (N.idxOf? x).map _ = _; rw [hi]; rfl⟩
mutual
theorem tgs_own {c : Cf} {sc : Scope} : ∀ (n : Nat) (e : Expr) (t : Tg), stripG c sc n e = some t → ∀ i, i ∈ tgs t → i ∈ (ownOf c.N sc).map (·.2)
  | 0, _, _, h => by cases h
  | n + 1, e, t, h => by
    unfold stripG at h
    split at h
    · split at h
      · rename_i hl
        obtain ⟨i, hi, e⟩ := Option.map_eq_some_iff.mp h
        subst e
        intro j hj
        have : j = i := by simpa [tgs] using hj
        subst this
        exact ownOf_mem hl hi
      · cases h
    · split at h
      · cases h
      · obtain ⟨ts, hts, e⟩ := Option.map_eq_some_iff.mp h
        subst e
        intro j hj
        unfold tgs at hj
        exact tgss_own n _ ts hts j hj
    · cases h
theorem tgss_own {c : Cf} {sc : Scope} : ∀ (n : Nat) (es : List Expr) (ts : List Tg), stripGs c sc n es = some ts → ∀ i, i ∈ tgss ts → i ∈ (ownOf c.N sc).map (·.2)
  | _, [], ts, h => by
    unfold stripGs at h
    cases h
    intro i hi
    simp [tgss] at hi
  | 0, _ :: _, _, h => by cases h
  | n + 1, e :: es, ts, h => by
    unfold stripGs at h
    cases h1 : stripG c sc n e with
    | none => rw [h1] at h; cases h
    | some t =>
      cases h2 : stripGs c sc n es with
      | none => rw [h1, h2] at h; cases h
      | some r =>
        rw [h1, h2] at h
        cases h
        intro i hi
        unfold tgss at hi
        rcases List.mem_append.mp hi with z | z
        · exact tgs_own n e t h1 i z
        · exact tgss_own n es r h2 i z
end
theorem var_of {c : Cf} {sc : Scope} {n i : Nat} {e : Expr} (h : stripE c n sc e = .var i) : ∃ x p, e = .Name x p ∧ okName x = true ∧ seen sc x = true ∧ c.N.idxOf? x = some i := by
  cases n with
  | zero => cases h
  | succ n =>
    unfold stripE at h
    split at h <;> first | (cases h; done) | skip
    · rename_i v _ _
      unfold constD at h
      split at h <;> first | (cases h; done) | (split at h <;> cases h)
    · rename_i x p
      split at h
      · rename_i h1
        split at h
        · rename_i h2
          split at h
          · rename_i j hj
            cases h
            exact ⟨x, p, rfl, h1, h2, hj⟩
          · cases h
        · split at h
          · split at h <;> cases h
          · cases h
      · cases h
    all_goals repeat' (first | (cases h; done) | split at h)
/-- a comprehension's block -/
theorem Good.blk {c : Cf} {C : Calls} {k : Nat} {sc sc2 : Scope} {X : Cx} (G : Good c C k sc X) (hk : sc2.kind = .function) (s : Shared) (H : Hp) (a : Addr) (cl : List (Str × Addr)) (fp : List Addr) : Good c C k (relS sc2 sc) (X.blk s H sc2 (compEnvC sc2 cl a X.env) fp) :=
  ⟨G.hN, G.nd, by rw [← G.hsc]; rfl, G.calm, G.room, PassesOwn.never, hk, G.mo⟩
theorem pas0 {X : Cx} {bg : Option (Addr × Addr)} {S0 : Addr → Prop} {H0 : Hp} : Passes (L2.CX X.prog X.w) X (eX X.K bg S0 H0 NX) := fun _ _ _ _ _ _ _ h => by
  obtain ⟨_, _, _, _, _, _, _, _, _, _, _, _, z⟩ := h
  obtain ⟨_, _, z, _⟩ := z
  exact z.elim
theorem TgOk.blk {sc2 : Scope} {X : Cx} (s : Shared) (H : Hp) (a : Addr) (cl : List (Str × Addr)) (fp : List Addr) : TgOk sc2 (X.blk s H sc2 (compEnvC sc2 cl a X.env) fp) := fun x h => by
  have e : (compEnvC sc2 cl a X.env).scope = relS sc2 X.env.scope := rfl
  rcases isLoc_loc h with z | z
  · have q : (relS sc2 X.env.scope).names.lookup x = some .local := lookup_relS_keep (sc := X.env.scope) (by decide) z
    exact ⟨.inl q, .inr q⟩
  · have q : (relS sc2 X.env.scope).names.lookup x = some .cell := lookup_relS_keep (sc := X.env.scope) (by decide) z
    refine ⟨.inr q, .inl ?_⟩
    show (sc2.names.lookup x == some .cell) = true
    rw [z]
    rfl
structure Snd (c : Cf) (C : Calls) (k n : Nat) : Prop where
  e : ∀ {sc : Scope} {X : Cx} {bg : Option (Addr × Addr)} {S0 : Addr → Prop} {H0 : Hp} {EX : D → Prop} (A : List Nat) (e : Expr), Good c C k sc X → Passes (L2.CX X.prog X.w) X (eX X.K bg S0 H0 EX) → (∀ i, i ∈ al (stripE c n sc e) → i ∈ A) →
    PE X e (EvD X.K bg S0 H0 EX A (evE C (stripE c n sc e)))
  t : ∀ {sc : Scope} {X : Cx} {bg : Option (Addr × Addr)} {S0 : Addr → Prop} {H0 : Hp} {EX : D → Prop} (e : Expr), Good c C k sc X → Passes (L2.CX X.prog X.w) X (eX X.K bg S0 H0 EX) →
    PT X e (EvB X.K bg S0 H0 EX (evT C (stripT c n sc e)))
  i : ∀ {sc : Scope} {X : Cx} {bg : Option (Addr × Addr)} {S0 : Addr → Prop} {H0 : Hp} {EX : D → Prop} (A : List Nat) (tg e : Expr), Good c C k sc X → Passes (L2.CX X.prog X.w) X (eX X.K bg S0 H0 EX) → (∀ i, i ∈ alI (stripI c n sc tg e) → i ∈ A) →
    PI X tg e (EvI X.K bg S0 H0 EX A (evI C (stripI c n sc tg e)))
section
variable {c : Cf} {C : Calls} {k : Nat} {sc : Scope} {X : Cx} {bg : Option (Addr × Addr)} {S0 : Addr → Prop} {H0 : Hp} {EX : D → Prop}
/-- the parts of a list -/
theorem snd_list {n : Nat} (I : Snd c C k n) (G : Good c C k sc X) (P : Passes (L2.CX X.prog X.w) X (eX X.K bg S0 H0 EX)) (A : List Nat) (es : List Expr) (hA : ∀ i, i ∈ als (es.map (stripE c n sc)) → i ∈ A) :
    ∀ (i : Nat) (e : Expr) (o : OE), es[i]? = some e → (es.map (stripE c n sc))[i]? = some o → PE X e (EvD X.K bg S0 H0 EX A (evE C o)) := fun i e o h1 h2 => by
  have h2' := h2
  rw [List.getElem?_map, h1] at h2
  cases h2
  exact I.e A e G P fun j hj => hA j (als_mem h2' hj)
theorem not_set {e : Expr} (h : ¬ isSetE e = true) : ∀ es k p, e ≠ .Set es k p := fun es k p z => h (by rw [z]; rfl)
theorem not_slice {e : Expr} (h : ¬ isSliceE e = true) : ∀ lo hi st p, e ≠ .Slice lo hi st p := fun lo hi st p z => h (by rw [z]; rfl)
theorem isGl_Gl {f : Str} (G : Good c C k sc X) (h : isGl sc f = true) : Gl X f := by
  show X.env.scope.names.lookup f = _
  rw [G.hsc]
  exact isGl_gl h
theorem okName_of {x : Str} (h : okName x = true) : (x == ("__debug__" : Str)) = false ∧ (x == ("__classdict__" : Str)) = false := by
  unfold okName at h
  rw [Bool.and_eq_true] at h
  exact ⟨by simpa using h.1, by simpa using h.2⟩
/-- a list comprehension's parts -/
theorem lc_parts {n : Nat} {elt tg it : Expr} {ifs : List Expr} {sc2 : Scope} {t : Tg} (I : Snd c C k n) (G : Good c C k sc X) (P : Passes (L2.CX X.prog X.w) X (eX X.K bg S0 H0 EX)) (A : List Nat) (hblk : blkC c.N sc sc2 (ownOf c.N sc2) = true) (htg : stripG c sc2 n tg = some t) (hset : ¬ isSetE it = true)
    (hA1 : ∀ i, i ∈ al (stripE c n (relS sc2 sc) elt) → i ∈ A) (hA2 : ∀ i, i ∈ alI (stripI c n sc tg it) → i ∈ A) :
    PI X tg it (EvI X.K bg S0 H0 EX A (evI C (stripI c n sc tg it))) ∧ BlkOk X.N X.env.scope sc2 (ownOf c.N sc2) ∧
    (∀ (s : Shared) (H : Hp) (a : Addr) (cl : List (Str × Addr)) (fp : List Addr), PG (X.blk s H sc2 (compEnvC sc2 cl a X.env) fp) tg (gOf X.K t)) ∧
    (∀ (s : Shared) (H : Hp) (a : Addr) (cl : List (Str × Addr)) (fp : List Addr), PTs (X.blk s H sc2 (compEnvC sc2 cl a X.env) fp) ifs (EvB X.K bg S0 H0 NX (evTs C (ifs.map (stripT c n (relS sc2 sc)))))) ∧
    (∀ (s : Shared) (H : Hp) (a : Addr) (cl : List (Str × Addr)) (fp : List Addr), PE (X.blk s H sc2 (compEnvC sc2 cl a X.env) fp) elt (EvD X.K bg S0 H0 NX A (evE C (stripE c n (relS sc2 sc) elt)))) ∧
    (∀ x, foldedSetIterable it X.env x = pure x) ∧ ∀ i, i ∈ tgs t → i ∈ (ownOf c.N sc2).map (·.2) := by
  have ok : BlkOk X.N X.env.scope sc2 (ownOf c.N sc2) := by
    rw [G.hN, G.hsc]
    exact blkOk_by hblk
  refine ⟨I.i A tg it G P hA2, ok, fun s H a cl fp => ?_, fun s H a cl fp => ?_, fun s H a cl fp => ?_, fun x => ?_, tgs_own n tg t htg⟩
  · exact pg_ok (X := X.blk s H sc2 (compEnvC sc2 cl a X.env) fp) G.hN G.nd G.calm (TgOk.blk s H a cl fp) n tg t htg
  · have Gb := G.blk (sc2 := sc2) ok.kind s H a cl fp
    cases ifs with
    | nil => exact ⟨fun pins s' σ H' Q J ⟨O, Γ, S, aa, q⟩ => pts_nil.run pins s' σ H' Q J (by rw [List.map_nil, evTs] at q; exact q S H' aa.wld .refl)⟩
    | cons e r =>
      cases r with
      | nil =>
        have h1 := I.t (sc := relS sc2 sc) (bg := bg) (S0 := S0) (H0 := H0) (EX := NX) e Gb pas0
        exact ⟨fun pins s' σ H' Q J ⟨O, Γ, S, aa, q⟩ => (pts_one h1).run pins s' σ H' Q J ⟨O, Γ, S, aa, by rw [List.map_cons, List.map_nil, evTs] at q; exact q⟩⟩
      | cons e2 r => exact ⟨fun pins s' σ H' Q J ⟨O, Γ, S, aa, q⟩ => by rw [List.map_cons, List.map_cons, evTs] at q; exact q.elim⟩
  · exact I.e (sc := relS sc2 sc) (bg := bg) (S0 := S0) (H0 := H0) (EX := NX) A elt (G.blk ok.kind s H a cl fp) pas0 hA1
  · cases it <;> first | rfl | exact absurd rfl hset
/-- the second clause's parts -/
theorem lc_parts2 {n : Nat} {tg it : Expr} {ifs : List Expr} {sc2 : Scope} {t : Tg} (I : Snd c C k n) (G : Good c C k sc X) (A : List Nat) (ok : BlkOk X.N X.env.scope sc2 (ownOf c.N sc2)) (htg : stripG c sc2 n tg = some t) (hset : ¬ isSetE it = true)
    (hA2 : ∀ i, i ∈ alI (stripI c n (relS sc2 sc) tg it) → i ∈ A) :
    (∀ (s : Shared) (H : Hp) (a : Addr) (cl : List (Str × Addr)) (fp : List Addr), PI (X.blk s H sc2 (compEnvC sc2 cl a X.env) fp) tg it (EvI X.K bg S0 H0 NX A (evI C (stripI c n (relS sc2 sc) tg it)))) ∧
    (∀ (s : Shared) (H : Hp) (a : Addr) (cl : List (Str × Addr)) (fp : List Addr), PG (X.blk s H sc2 (compEnvC sc2 cl a X.env) fp) tg (gOf X.K t)) ∧
    (∀ (s : Shared) (H : Hp) (a : Addr) (cl : List (Str × Addr)) (fp : List Addr), PTs (X.blk s H sc2 (compEnvC sc2 cl a X.env) fp) ifs (EvB X.K bg S0 H0 NX (evTs C (ifs.map (stripT c n (relS sc2 sc)))))) ∧
    (∀ env x, foldedSetIterable it env x = pure x) ∧ ∀ i, i ∈ tgs t → i ∈ (ownOf c.N sc2).map (·.2) := by
  refine ⟨fun s H a cl fp => ?_, fun s H a cl fp => ?_, fun s H a cl fp => ?_, fun env x => ?_, tgs_own n tg t htg⟩
  · exact I.i (sc := relS sc2 sc) (bg := bg) (S0 := S0) (H0 := H0) (EX := NX) A tg it (G.blk ok.kind s H a cl fp) pas0 hA2
  · exact pg_ok (X := X.blk s H sc2 (compEnvC sc2 cl a X.env) fp) G.hN G.nd G.calm (TgOk.blk s H a cl fp) n tg t htg
  · have Gb := G.blk (sc2 := sc2) ok.kind s H a cl fp
    cases ifs with
    | nil => exact ⟨fun pins s' σ H' Q J ⟨O, Γ, S, aa, q⟩ => pts_nil.run pins s' σ H' Q J (by rw [List.map_nil, evTs] at q; exact q S H' aa.wld .refl)⟩
    | cons e r =>
      cases r with
      | nil =>
        have h1 := I.t (sc := relS sc2 sc) (bg := bg) (S0 := S0) (H0 := H0) (EX := NX) e Gb pas0
        exact ⟨fun pins s' σ H' Q J ⟨O, Γ, S, aa, q⟩ => (pts_one h1).run pins s' σ H' Q J ⟨O, Γ, S, aa, by rw [List.map_cons, List.map_nil, evTs] at q; exact q⟩⟩
      | cons e2 r => exact ⟨fun pins s' σ H' Q J ⟨O, Γ, S, aa, q⟩ => by rw [List.map_cons, List.map_cons, evTs] at q; exact q.elim⟩
  · cases it <;> first | rfl | exact absurd rfl hset
/-- an expression in a block -/
theorem blk_e {n : Nat} {e : Expr} {sc2 : Scope} (I : Snd c C k n) (G : Good c C k sc X) (A : List Nat) (ok : BlkOk X.N X.env.scope sc2 (ownOf c.N sc2)) (hA : ∀ i, i ∈ al (stripE c n (relS sc2 sc) e) → i ∈ A) :
    ∀ (s : Shared) (H : Hp) (a : Addr) (cl : List (Str × Addr)) (fp : List Addr), PE (X.blk s H sc2 (compEnvC sc2 cl a X.env) fp) e (EvD X.K bg S0 H0 NX A (evE C (stripE c n (relS sc2 sc) e))) := fun s H a cl fp =>
  I.e (sc := relS sc2 sc) (bg := bg) (S0 := S0) (H0 := H0) (EX := NX) A e (G.blk ok.kind s H a cl fp) pas0 hA
/-- the comprehensions of the new forms -/
theorem cr_list2 {n : Nat} {elt tg it tg1 it1 : Expr} {ifs ifs1 : List Expr} {sc2 : Scope} {p p' : Pos} {t t1 : Tg} (I : Snd c C k n) (G : Good c C k sc X) (P : Passes (L2.CX X.prog X.w) X (eX X.K bg S0 H0 EX)) (A : List Nat) (hblk : blkC c.N sc sc2 (ownOf c.N sc2) = true) (h1 : stripG c sc2 n tg = some t) (h2 : stripG c sc2 n tg1 = some t1) (s1 : ¬ isSetE it = true) (s2 : ¬ isSetE it1 = true)
    (a1 : ∀ i, i ∈ al (stripE c n (relS sc2 sc) elt) → i ∈ A) (a2 : ∀ i, i ∈ alI (stripI c n sc tg it) → i ∈ A) (a3 : ∀ i, i ∈ alI (stripI c n (relS sc2 sc) tg1 it1) → i ∈ A) :
    CompR X bg S0 H0 EX A C (.ListComp elt [⟨tg, it, ifs, 0⟩, ⟨tg1, it1, ifs1, 0⟩] sc2 p) sc2 (ownOf c.N sc2) (stripI c n sc tg it) t (ifs.map (stripT c n (relS sc2 sc))) (gIn C (stripI c n (relS sc2 sc) tg1 it1) t1 (ifs1.map (stripT c n (relS sc2 sc))) (gList C (stripE c n (relS sc2 sc) elt))) [] (fun _ => acL X.K bg) (newList []) p' it := by
  obtain ⟨p1, p2, p3, p4, p5, p6, p7⟩ := lc_parts (elt := elt) (ifs := ifs) I G P A hblk h1 s1 a1 a2
  obtain ⟨q1, q2, q3, q4, q5⟩ := lc_parts2 (ifs := ifs1) (bg := bg) (S0 := S0) (H0 := H0) I G A p2 h2 s2 a3
  exact kc_list2 G.calm (by rw [G.hN]; exact G.nd) p1 p2 p6 p7 p3 p4 q5 q4 q1 q2 q3 p5
theorem cr_dict {n : Nat} {kx vx tg it : Expr} {ifs : List Expr} {sc2 : Scope} {p p' : Pos} {t : Tg} {b : Bool} (I : Snd c C k n) (G : Good c C k sc X) (P : Passes (L2.CX X.prog X.w) X (eX X.K bg S0 H0 EX)) (A : List Nat) (hblk : blkC c.N sc sc2 (ownOf c.N sc2) = true) (h1 : stripG c sc2 n tg = some t) (s1 : ¬ isSetE it = true)
    (a1 : ∀ i, i ∈ al (stripE c n (relS sc2 sc) kx) → i ∈ A) (a1' : ∀ i, i ∈ al (stripE c n (relS sc2 sc) vx) → i ∈ A) (a2 : ∀ i, i ∈ alI (stripI c n sc tg it) → i ∈ A) :
    CompR X bg S0 H0 EX A C (.DictComp kx vx [⟨tg, it, ifs, 0⟩] sc2 p) sc2 (ownOf c.N sc2) (stripI c n sc tg it) t (ifs.map (stripT c n (relS sc2 sc))) (gDct C b (stripE c n (relS sc2 sc) kx) (stripE c n (relS sc2 sc) vx)) ([], []) (fun _ => acD X.K bg b) newDict p' it := by
  obtain ⟨p1, p2, p3, p4, p5, p6, p7⟩ := lc_parts (elt := kx) (ifs := ifs) I G P A hblk h1 s1 a1 a2
  exact kc_dict G.calm (by rw [G.hN]; exact G.nd) p1 p2 p6 p7 p3 p4 (by have := G.room.un; omega) p5 (blk_e I G A p2 a1')
theorem cr_dict2 {n : Nat} {kx vx tg it tg1 it1 : Expr} {ifs ifs1 : List Expr} {sc2 : Scope} {p p' : Pos} {t t1 : Tg} {b : Bool} (I : Snd c C k n) (G : Good c C k sc X) (P : Passes (L2.CX X.prog X.w) X (eX X.K bg S0 H0 EX)) (A : List Nat) (hblk : blkC c.N sc sc2 (ownOf c.N sc2) = true) (h1 : stripG c sc2 n tg = some t) (h2 : stripG c sc2 n tg1 = some t1) (s1 : ¬ isSetE it = true) (s2 : ¬ isSetE it1 = true)
    (a1 : ∀ i, i ∈ al (stripE c n (relS sc2 sc) kx) → i ∈ A) (a1' : ∀ i, i ∈ al (stripE c n (relS sc2 sc) vx) → i ∈ A) (a2 : ∀ i, i ∈ alI (stripI c n sc tg it) → i ∈ A) (a3 : ∀ i, i ∈ alI (stripI c n (relS sc2 sc) tg1 it1) → i ∈ A) :
    CompR X bg S0 H0 EX A C (.DictComp kx vx [⟨tg, it, ifs, 0⟩, ⟨tg1, it1, ifs1, 0⟩] sc2 p) sc2 (ownOf c.N sc2) (stripI c n sc tg it) t (ifs.map (stripT c n (relS sc2 sc))) (gIn C (stripI c n (relS sc2 sc) tg1 it1) t1 (ifs1.map (stripT c n (relS sc2 sc))) (gDct C b (stripE c n (relS sc2 sc) kx) (stripE c n (relS sc2 sc) vx))) ([], []) (fun _ => acD X.K bg b) newDict p' it := by
  obtain ⟨p1, p2, p3, p4, p5, p6, p7⟩ := lc_parts (elt := kx) (ifs := ifs) I G P A hblk h1 s1 a1 a2
  obtain ⟨q1, q2, q3, q4, q5⟩ := lc_parts2 (ifs := ifs1) (bg := bg) (S0 := S0) (H0 := H0) I G A p2 h2 s2 a3
  exact kc_dict2 G.calm (by rw [G.hN]; exact G.nd) p1 p2 p6 p7 p3 p4 q5 q4 q1 q2 q3 (by have := G.room.un; omega) p5 (blk_e I G A p2 a1')
/-- keywords' values -/
theorem snd_pk {n : Nat} (I : Snd c C k n) (G : Good c C k sc X) (P : Passes (L2.CX X.prog X.w) X (eX X.K bg S0 H0 EX)) {A : List Nat} {kws : List Keyword} (hA2 : ∀ i, i ∈ als (kws.map fun q => stripE c n sc q.value) → i ∈ A) : PK X kws (EvL X.K bg S0 H0 EX A (evEs C (kws.map fun q => stripE c n sc q.value))) :=
  k_pk (by rw [List.length_map]) fun i q o g1 g2 => by
    have g2' := g2
    rw [List.getElem?_map, g1] at g2
    cases g2
    exact I.e A q.value G P fun j hj => hA2 j (als_mem g2' hj)
/-- calls of defs and classes -/
theorem snd_calls {n : Nat} (I : Snd c C k n) (G : Good c C k sc X) (P : Passes (L2.CX X.prog X.w) X (eX X.K bg S0 H0 EX)) {A : List Nat} {f : Str} {p pos : Pos} {es : List Expr} {kws : List Keyword} {sel : List Sr} {dfts : List D} (hg : Gl X f) (hm : c.g.fns.lookup (f, es.length, kws.filterMap (·.arg)) = some (sel, dfts)) (h3 : es.any isStar = false) (h4 : (kws.all fun q => q.arg.isSome) = true) (hd : (f == ("__debug__" : Str)) = false)
    (hA1 : ∀ i, i ∈ als (es.map (stripE c n sc)) → i ∈ A) (hA2 : ∀ i, i ∈ als (kws.map fun q => stripE c n sc q.value) → i ∈ A) :
    PE X (.Call (.Name f p) es kws pos) (EvN X.K bg S0 H0 EX A fun Γ => (evEs C (es.map (stripE c n sc)) Γ).bind fun ds => (evEs C (kws.map fun q => stripE c n sc q.value) Γ).bind fun zs => .need (decide ((selL sel ds zs dfts).length = sel.length)) (C f (selL sel ds zs dfts))) := by
  rcases G.mo.fns _ _ _ _ _ hm with ⟨a, fd, ps, e1, e2, e3, e4⟩ | ⟨j, i, fd, ps, F, e0, e1, e2, e3, e4, e5⟩
  · exact k_callN G.room hg e1 e2 e3 e4 P h3 h4 (by rw [List.length_map]) (by rw [List.length_map]) hd (k_pa h3 (by rw [List.length_map]) (snd_list I G P A es hA1)) (snd_pk I G P hA2)
  · exact k_makeN G.room e0 hg e1 e2 e3 e4 e5 P h3 h4 (by rw [List.length_map]) (by rw [List.length_map]) hd (k_pa h3 (by rw [List.length_map]) (snd_list I G P A es hA1)) (snd_pk I G P hA2)
/-- calls of methods -/
theorem snd_meths {n : Nat} (I : Snd c C k n) (G : Good c C k sc X) (P : Passes (L2.CX X.prog X.w) X (eX X.K bg S0 H0 EX)) {A : List Nat} {o : Expr} {m : Str} {ap pos : Pos} {es : List Expr} {kws : List Keyword} {rows : List (Str × Str × List Sr × List D)} (hm : c.g.mths.lookup (m, es.length, kws.filterMap (·.arg)) = some rows) (h3 : es.any isStar = false) (h4 : (kws.all fun q => q.arg.isSome) = true) (hsu : superE o = false) (hl : (ap.endLine == pos.line) = true) (hn : es.length + kws.length ≤ 28)
    (hA0 : ∀ i, i ∈ al (stripE c n sc o) → i ∈ A) (hA1 : ∀ i, i ∈ als (es.map (stripE c n sc)) → i ∈ A) (hA2 : ∀ i, i ∈ als (kws.map fun q => stripE c n sc q.value) → i ∈ A) :
    PE X (.Call (.Attribute o m ap) es kws pos) (EvN X.K bg S0 H0 EX A (mcX C m (stripE c n sc o) (es.map (stripE c n sc)) (kws.map fun q => stripE c n sc q.value) rows)) :=
  k_mcallN G.room (super_base hsu) hl hn (G.mo.mths m es.length (kws.filterMap (·.arg)) rows hm) P h3 h4 (by rw [List.length_map]) (by rw [List.length_map]) (I.e A o G P hA0) (k_pa h3 (by rw [List.length_map]) (snd_list I G P A es hA1)) (snd_pk I G P hA2)
theorem snd_sta (G : Good c C k sc X) (P : Passes (L2.CX X.prog X.w) X (eX X.K bg S0 H0 EX)) {A : List Nat} {o : Expr} {m key : Str} {ap pos : Pos} {es : List Expr} {kws : List Keyword} (h : staE c sc o m es kws = some key) (hl : (ap.endLine == pos.line) = true) :
    PE X (.Call (.Attribute o m ap) es kws pos) (EvN X.K bg S0 H0 EX A fun Γ => (evEs C [] Γ).bind fun ds => (evEs C [] Γ).bind fun zs => .need (decide ((selL [] ds zs []).length = ([] : List Sr).length)) (C key (selL [] ds zs []))) := by
  obtain ⟨x, p, rfl, rfl, rfl, h1, h2, h3⟩ := staE_of h
  obtain ⟨a, mc, p', gf, fd, e1, e2, ⟨e3, e4⟩, e5, e6, e7⟩ := G.mo.sts x m key h3
  exact k_sta0 G.room (isGl_Gl G h2) e1 (okName_of h1).1 e2 e3 e4 e5 e6 e7 P hl (super_base rfl)
theorem snd_e {n : Nat} (I : Snd c C k n) (G : Good c C k sc X) (P : Passes (L2.CX X.prog X.w) X (eX X.K bg S0 H0 EX)) (A : List Nat) (e : Expr) (hA : ∀ i, i ∈ al (stripE c (n + 1) sc e) → i ∈ A) :
    PE X e (EvD X.K bg S0 H0 EX A (evE C (stripE c (n + 1) sc e))) := by
  have bad : ∀ (e : Expr), PE X e (EvD X.K bg S0 H0 EX A (evE C .bad)) := fun e => pe_false fun Γ => by rw [evE]
  generalize ho : stripE c (n + 1) sc e = o at hA ⊢
  unfold stripE at ho
  split at ho
  · -- constants
    rename_i v kk p
    unfold constD at ho
    split at ho
    · subst ho; exact pe_weak (k_const (d := .non) pe_non fun _ _ => rfl) fun σ H Q q => ev_fun (fun Γ => by rw [evE]) q
    · subst ho; exact pe_weak (k_const (d := .bl _) pe_bl fun _ _ => rfl) fun σ H Q q => ev_fun (fun Γ => by rw [evE]) q
    · subst ho; exact pe_weak (k_const (d := .int _) pe_int fun _ _ => rfl) fun σ H Q q => ev_fun (fun Γ => by rw [evE]) q
    · split at ho
      · rename_i hs
        subst ho
        exact pe_weak (k_const (d := .str _) pe_str fun _ _ => ⟨rfl, hs⟩) fun σ H Q q => ev_fun (fun Γ => by rw [evE]) q
      · subst ho; exact bad _
    · subst ho; exact bad _
  · -- names
    rename_i x p
    split at ho
    · rename_i hok
      obtain ⟨d1, d2⟩ := okName_of hok
      split at ho
      · rename_i hv
        split at ho
        · rename_i i hi
          subst ho
          exact k_var (by rw [G.hN]; exact idxOf_get hi) (by rw [G.hsc]; exact seen_vis hv) d1 d2 (hA i (by simp [al]))
        · subst ho; exact bad _
      · split at ho
        · rename_i hg
          split at ho
          · rename_i d hd
            subst ho
            obtain ⟨u, v, h1, h2, h3⟩ := G.mo.glb x d hd
            exact pe_weak (k_const (d := d) (pe_glob (isGl_Gl G hg) h1 h2 d1) fun S H => h3 _ S H) fun σ H Q q => ev_fun (fun Γ => by rw [evE]) q
          · subst ho; exact bad _
        · subst ho; exact bad _
    · subst ho; exact bad _
  · rename_i es kk p
    split at ho
    · subst ho; exact bad _
    · rename_i hs
      simp only [Bool.or_eq_true, not_or, Bool.not_eq_true, decide_eq_true_eq] at hs
      subst ho
      have hA' : ∀ i, i ∈ als (es.map (stripE c n sc)) → i ∈ A := fun i hi => hA i (by unfold al; exact hi)
      exact k_tup (by rw [List.length_map]; omega) (k_pa hs.1 (by rw [List.length_map]) (snd_list I G P A es hA')) fun Γ PP E h => evEs_len _ Γ PP E h
  · rename_i es p
    split at ho
    · subst ho; exact bad _
    · rename_i hs
      simp only [Bool.or_eq_true, not_or, Bool.not_eq_true, decide_eq_true_eq] at hs
      subst ho
      have hA' : ∀ i, i ∈ als (es.map (stripE c n sc)) → i ∈ A := fun i hi => hA i (by unfold al; exact hi)
      exact k_lst (by rw [List.length_map]; omega) (k_pa hs.1 (by rw [List.length_map]) (snd_list I G P A es hA')) fun Γ PP E h => evEs_len _ Γ PP E h
  · rename_i a op b p
    subst ho
    exact k_bin (I.e A a G P fun i hi => hA i (by unfold al; exact List.mem_append_left _ hi)) (I.e A b G P fun i hi => hA i (by unfold al; exact List.mem_append_right _ hi))
  · rename_i a p
    subst ho
    exact k_not _ (I.e (al (stripE c n sc a)) a G P fun i hi => hi)
  · rename_i a p
    subst ho
    exact k_neg _ (I.e (al (stripE c n sc a)) a G P fun i hi => hi)
  · rename_i es p
    subst ho
    have hA' : ∀ i, i ∈ als (es.map (stripE c n sc)) → i ∈ A := fun i hi => hA i (by unfold al; exact hi)
    exact pe_weak (k_and (by rw [List.length_map]) (snd_list I G P A es hA')).1 fun σ H Q q => ev_fun (fun Γ => by rw [evE]) q
  · rename_i es p
    subst ho
    have hA' : ∀ i, i ∈ als (es.map (stripE c n sc)) → i ∈ A := fun i hi => hA i (by unfold al; exact hi)
    exact pe_weak (k_and (by rw [List.length_map]) (snd_list I G P A es hA')).2 fun σ H Q q => ev_fun (fun Γ => by rw [evE]) q
  · rename_i a op b p
    split at ho
    · split at ho
      · rename_i hb
        subst ho
        exact (k_isN _ hb (I.e (al (stripE c n sc a)) a G P fun i hi => hi)).1
      · subst ho; exact bad _
    · split at ho
      · rename_i hb
        subst ho
        exact (k_isN _ hb (I.e (al (stripE c n sc a)) a G P fun i hi => hi)).2
      · subst ho; exact bad _
    · split at ho
      · subst ho; exact bad _
      · rename_i hse
        subst ho
        exact k_cmp G.room (al (stripE c n sc a) ++ al (stripE c n sc b)) (not_set hse) (I.e _ a G P fun i hi => List.mem_append_left _ hi) (I.e _ b G P fun i hi => List.mem_append_right _ hi)
  · rename_i a op op' b d p
    split at ho
    · subst ho; exact bad _
    · rename_i hse
      subst ho
      exact (k_chain G.room (al (stripE c n sc a) ++ (al (stripE c n sc b) ++ al (stripE c n sc d))) (not_set hse) (I.e _ a G P fun i hi => List.mem_append_left _ hi) (I.e _ b G P fun i hi => List.mem_append_right _ (List.mem_append_left _ hi))
        (I.e _ d G P fun i hi => List.mem_append_right _ (List.mem_append_right _ hi))).1
  · rename_i t a b p
    subst ho
    exact k_ifx (I.t t G P) (I.e A a G P fun i hi => hA i (by unfold al; exact List.mem_append_left _ hi)) (I.e A b G P fun i hi => hA i (by unfold al; exact List.mem_append_right _ hi))
  · rename_i a lo hi p2 p
    subst ho
    have po : ∀ o : Option Expr, PO X o (EvO X.K bg S0 H0 EX (evO C (o.map (stripE c n sc)))) := fun o => by
      cases o with
      | none => exact k_po [] (fun e h => by cases h) fun _ => rfl
      | some e => exact k_po (al (stripE c n sc e)) (fun e' h => by cases h; exact ⟨_, rfl, I.e _ e G P fun i hi => hi⟩) fun h => by cases h
    exact k_slice (I.e A a G P fun i hi => hA i (by unfold al; exact hi)) (po lo) (po hi)
  · rename_i a lo hi st p2 p
    split at ho
    · rename_i k hst
      subst ho
      exact k_step hst (I.e A a G P fun i hi => hA i (by unfold al; exact hi))
    · subst ho; exact bad _
  · rename_i a i p _ _
    split at ho
    · subst ho; exact bad _
    · rename_i hse
      subst ho
      exact k_sub G.room (al (stripE c n sc i)) (not_slice hse) (I.e A a G P fun j hj => hA j (by unfold al; exact hj)) (I.e _ i G P fun j hj => hj)
  · -- calls by name
    rename_i f p es kws pos
    split at ho
    · subst ho; exact bad _
    · rename_i hh
      simp only [Bool.or_eq_true, not_or, Bool.not_eq_true, Bool.not_eq_eq_eq_not, Bool.not_true, Bool.not_eq_false] at hh
      obtain ⟨⟨⟨h1, h2⟩, h3⟩, h4⟩ := hh
      have hg : Gl X f := isGl_Gl G h2
      split at ho
      · rename_i sel dfts hm
        subst ho
        have hA1 : ∀ i, i ∈ als (es.map (stripE c n sc)) → i ∈ A := fun i hi => hA i (by unfold al; exact List.mem_append_left _ hi)
        have hA2 : ∀ i, i ∈ als (kws.map fun q => stripE c n sc q.value) → i ∈ A := fun i hi => hA i (by unfold al; exact List.mem_append_right _ hi)
        exact k_callD (snd_calls I G P hg hm h3 (by simpa using h4) (okName_of h1).1 hA1 hA2)
      · rename_i hnone
        clear hnone
        split at ho
        · subst ho; exact bad _
        rename_i hkw0
        have hkw0 : kws = [] := by simpa using hkw0
        subst hkw0
        split at ho
        · rename_i e
          subst e
          split at ho
          · rename_i a ts kk p2
            split at ho
            · rename_i t ts' hts
              split at ho
              · subst ho; exact bad _
              · rename_i hs
                simp only [Bool.or_eq_true, not_or, Bool.not_eq_true, decide_eq_true_eq] at hs
                subst ho
                exact k_isiT (al (stripE c n sc a)) G.hsc G.mo.free hg hs.1 hts (by omega) (by simp) (I.e _ a G P fun i hi => hi)
            · subst ho; exact bad _
          · rename_i a t _
            split at ho
            · rename_i ty hty
              split at ho
              · subst ho; exact bad _
              · rename_i hs
                subst ho
                exact k_isi1 (al (stripE c n sc a)) G.hsc G.mo.free hg (by simpa using hs) hty (I.e _ a G P fun i hi => hi)
            · subst ho; exact bad _
          · subst ho; exact bad _
        · split at ho
          · rename_i elt tg it ifs sc2 hsrt
            obtain ⟨ef, p2, ees⟩ := srtE_of hsrt
            subst ef ees
            split at ho
            · rename_i hb
              simp only [Bool.and_eq_true, Bool.not_eq_true', Bool.not_eq_true] at hb
              split at ho
              · rename_i t htg
                subst ho
                have s1 : ¬ isSetE it = true := by rw [hb.2]; exact Bool.false_ne_true
                obtain ⟨p1, p2, p3, p4, p5, p6, p7⟩ := lc_parts (elt := elt) (ifs := ifs) I G P A hb.1 htg s1 (fun i hi => hA i (by unfold al; exact List.mem_append_left _ hi)) (fun i hi => hA i (by unfold al; exact List.mem_append_right _ hi))
                exact kc_sorted G.calm (by have := G.room.un; omega) hg (G.mo.free _ (by decide +kernel)) (kc_set G.calm (by rw [G.hN]; exact G.nd) p1 p2 p6 p7 p3 p4 (by have := G.room.un; omega) p5)
              · subst ho; exact bad _
            · subst ho; exact bad _
          split at ho
          · rename_i a hlse
            obtain ⟨ef, g2, na, p2, q, ees⟩ := lseE_of hlse
            subst ef ees ho
            exact k_lenset (al (stripE c n sc a)) G.calm hg (G.mo.free _ (by decide +kernel)) (isGl_Gl G g2) (G.mo.free _ (by decide +kernel)) na (I.e _ a G P fun i hi => hi)
          split at ho
          · rename_i a hlen
            obtain ⟨ef, ees, na⟩ := lenE_of hlen
            subst ef ees ho
            exact k_lenm G.room hg (G.mo.free _ (by decide +kernel)) na G.mo.lens P (I.e A a G P fun i hi => hA i (by unfold al; exact hi))
          split at ho
          · rename_i b hb
            subst ho
            have hf := bf_free hb
            have hm0 := G.mo.free f hf.1
            by_cases hfl : flatRes b = true
            · exact k_bcall G.room (als (es.map (stripE c n sc))) hb hg hm0 G.calm h3 (by rw [List.length_map]) (.inl hfl) (k_pa h3 (by rw [List.length_map]) (snd_list I G P _ es fun i hi => hi))
            · have hA' : ∀ i, i ∈ als (es.map (stripE c n sc)) → i ∈ A := fun i hi => hA i (by
                cases b <;> first | exact absurd rfl hfl | (unfold al; exact hi))
              exact k_bcall G.room A hb hg hm0 G.calm h3 (by rw [List.length_map]) (.inr fun i hi => hi) (k_pa h3 (by rw [List.length_map]) (snd_list I G P A es hA'))
          · subst ho; exact bad _
  · -- methods
    rename_i o' m ap es kws p
    split at ho
    · subst ho; exact bad _
    · rename_i hh
      simp only [Bool.or_eq_true, not_or, Bool.not_eq_true, Bool.not_eq_eq_eq_not, Bool.not_true, Bool.not_eq_false, decide_eq_true_eq] at hh
      obtain ⟨⟨⟨⟨h1, h2⟩, h3⟩, h4⟩, h5⟩ := hh
      split at ho
      · rename_i b hb
        split at ho
        · subst ho; exact bad _
        rename_i hkw0
        have hkw0 : kws = [] := by simpa using hkw0
        subst hkw0
        split at ho
        · rename_i e
          subst ho
          unfold mfOf at hb
          have h1' : isStar e = false := by simpa using h1
          split at hb
          · rename_i em
            subst em
            cases hb
            refine k_join (al (stripE c n sc o') ++ als [stripE c n sc e]) h1' h2 (super_base h4) (I.e _ o' G P fun i hi => List.mem_append_left _ hi) ?_
            exact k_pa (os := [stripE c n sc e]) h1 rfl (snd_list I G P _ [e] fun i hi => List.mem_append_right _ hi)
          split at hb
          · rename_i em
            subst em
            cases hb
            refine k_count (al (stripE c n sc o') ++ als [stripE c n sc e]) h1' h2 (super_base h4) (I.e _ o' G P fun i hi => List.mem_append_left _ hi) ?_
            exact k_pa (os := [stripE c n sc e]) h1 rfl (snd_list I G P _ [e] fun i hi => List.mem_append_right _ hi)
          · cases hb
        · subst ho; exact bad _
      · split at ho
        · rename_i key hkey
          subst ho
          exact k_callD (snd_sta G P hkey h2)
        split at ho
        · rename_i rows hrows
          subst ho
          exact k_mcall (snd_meths I G P hrows h1 (by simpa using h3) h4 h2 (by omega) (fun i hi => hA i (by unfold al; exact List.mem_append_left _ hi)) (fun i hi => hA i (by unfold al; exact List.mem_append_right _ (List.mem_append_left _ hi))) (fun i hi => hA i (by unfold al; exact List.mem_append_right _ (List.mem_append_right _ hi))))
        · subst ho; exact bad _
  · -- attributes
    rename_i a f p
    split at ho
    · subst ho; exact bad _
    rename_i hsu
    have hb := super_base (m := f) (env := X.env) (by simpa using hsu : superE a = false)
    split at ho
    · rename_i d hd
      subst ho
      unfold catE at hd
      split at hd
      · split at hd
        · rename_i hx
          rw [Bool.and_eq_true] at hx
          obtain ⟨a0, v, u, mc, e1, e2, e3, e4⟩ := G.mo.cats _ _ _ hd
          exact k_cat (isGl_Gl G hx.2) e1 (okName_of hx.1).1 e2 e3 e4 hb
        · cases hd
      · cases hd
    · split at ho
      · rename_i cs hcs
        subst ho
        have hf := G.mo.flds f cs hcs
        by_cases hv : ∃ i, stripE c n sc a = .var i
        · obtain ⟨i, hi⟩ := hv
          obtain ⟨x, p', rfl, o1, o2, o3⟩ := var_of hi
          rw [hi]
          exact k_fldV (by rw [G.hN]; exact idxOf_get o3) (by rw [G.hsc]; exact seen_vis o2) (okName_of o1).1 (okName_of o1).2 hb hf
        · refine k_fld hb hf (I.e A a G P fun i hi => hA i ?_)
          generalize stripE c n sc a = o at hv hi
          cases o <;> first | (exact absurd ⟨_, rfl⟩ hv) | (unfold al; exact hi)
      · subst ho; exact bad _
  · subst ho
    exact pe_weak k_dnewN fun σ H Q ⟨O, Γ, S, a, q⟩ => evN_D ⟨O, Γ, S, a, by rw [evE] at q; exact q⟩
  · -- list comprehensions
    rename_i elt tg it ifs sc2 p
    split at ho
    · rename_i hblk
      split at ho
      · rename_i t ht
        subst ho
        have ok : BlkOk X.N X.env.scope sc2 (ownOf c.N sc2) := by
          rw [G.hN, G.hsc]
          exact blkOk_by hblk
        by_cases hset : isSetE it = true
        · refine pe_false fun Γ => ?_
          have : stripI c n sc tg it = .e .bad := by
            cases n with
            | zero => rfl
            | succ n =>
              cases it <;> first | exact absurd hset Bool.false_ne_true | rfl
          rw [evE, this, evI, evE]
          rfl
        · have hA1 : ∀ i, i ∈ al (stripE c n (relS sc2 sc) elt) → i ∈ A := fun i hi => hA i (by unfold al; exact List.mem_append_left _ hi)
          have hA2 : ∀ i, i ∈ alI (stripI c n sc tg it) → i ∈ A := fun i hi => hA i (by unfold al; exact List.mem_append_right _ hi)
          obtain ⟨p1, _, p3, p4, p5, p6, p7⟩ := lc_parts (ifs := ifs) I G P A hblk ht hset hA1 hA2
          exact k_lc (k_lcN G.calm (by rw [G.hN]; exact G.nd) p1 ok p3 p4 p5 p6 p7)
      · subst ho; exact bad _
    · subst ho; exact bad _
  · -- two clauses
    rename_i elt tg it ifs tg1 it1 ifs1 sc2 p
    split at ho
    · rename_i hb
      simp only [Bool.and_eq_true, Bool.not_eq_true', Bool.not_eq_true] at hb
      split at ho
      · rename_i t t1 h1 h2
        subst ho
        have R := cr_list2 (p := p) (p' := firstIterPos [⟨tg, it, ifs, 0⟩, ⟨tg1, it1, ifs1, 0⟩] p) (ifs := ifs) (ifs1 := ifs1) I G P A hb.1 h1 h2 (by rw [hb.2.1]; exact Bool.false_ne_true) (by rw [hb.2.2]; exact Bool.false_ne_true) (fun i hi => hA i (by unfold al; exact List.mem_append_left _ hi)) (fun i hi => hA i (by unfold al; exact List.mem_append_right _ (List.mem_append_left _ hi))) (fun i hi => hA i (by unfold al; exact List.mem_append_right _ (List.mem_append_right _ hi)))
        refine pe_weak (kc_val R rfl) fun σ H Q q => evA_N (dat := fun xs => .lst xs) (fun _ _ _ _ _ r => r) (evN_D (ev_fun (fun Γ => ?_) q))
        rw [evE, T.bind_assoc, T.bind_assoc]
        rfl
      · subst ho; exact bad _
    · subst ho; exact bad _
  · rename_i kx vx tg it ifs sc2 p
    split at ho
    · rename_i hb
      simp only [Bool.and_eq_true, Bool.not_eq_true', Bool.not_eq_true] at hb
      split at ho
      · rename_i t h1
        subst ho
        have R := cr_dict (p := p) (p' := firstIterPos [⟨tg, it, ifs, 0⟩] p) (ifs := ifs) (b := c.g.tdl.contains p.line) I G P A hb.1 h1 (by rw [hb.2]; exact Bool.false_ne_true) (fun i hi => hA i (by unfold al; exact List.mem_append_left _ hi)) (fun i hi => hA i (by unfold al; exact List.mem_append_right _ (List.mem_append_left _ hi))) (fun i hi => hA i (by unfold al; exact List.mem_append_right _ (List.mem_append_right _ hi)))
        refine pe_weak (kc_val R rfl) fun σ H Q q => evA_N (dat := fun q : List D × List D => .dct (c.g.tdl.contains p.line) q.1 q.2) (fun _ _ _ _ _ r => r) (evN_D (ev_fun (fun Γ => ?_) q))
        rw [evE, T.bind_assoc, T.bind_assoc]
        rfl
      · subst ho; exact bad _
    · subst ho; exact bad _
  · rename_i kx vx tg it ifs tg1 it1 ifs1 sc2 p
    split at ho
    · rename_i hb
      simp only [Bool.and_eq_true, Bool.not_eq_true', Bool.not_eq_true] at hb
      split at ho
      · rename_i t t1 h1 h2
        subst ho
        have R := cr_dict2 (p := p) (p' := firstIterPos [⟨tg, it, ifs, 0⟩, ⟨tg1, it1, ifs1, 0⟩] p) (ifs := ifs) (ifs1 := ifs1) (b := c.g.tdl.contains p.line) I G P A hb.1 h1 h2 (by rw [hb.2.1]; exact Bool.false_ne_true) (by rw [hb.2.2]; exact Bool.false_ne_true) (fun i hi => hA i (by unfold al; exact List.mem_append_left _ (List.mem_append_left _ hi))) (fun i hi => hA i (by unfold al; exact List.mem_append_left _ (List.mem_append_right _ hi)))
          (fun i hi => hA i (by unfold al; exact List.mem_append_right _ (List.mem_append_left _ hi))) (fun i hi => hA i (by unfold al; exact List.mem_append_right _ (List.mem_append_right _ hi)))
        refine pe_weak (kc_val R rfl) fun σ H Q q => evA_N (dat := fun q : List D × List D => .dct (c.g.tdl.contains p.line) q.1 q.2) (fun _ _ _ _ _ r => r) (evN_D (ev_fun (fun Γ => ?_) q))
        rw [evE, T.bind_assoc, T.bind_assoc]
        rfl
      · subst ho; exact bad _
    · subst ho; exact bad _
  · subst ho; exact bad _
theorem snd_cmp {n : Nat} (I : Snd c C k n) (G : Good c C k sc X) (P : Passes (L2.CX X.prog X.w) X (eX X.K bg S0 H0 EX)) (l : Expr) (ops : List CmpOp) (rs : List Expr) (p : Pos) :
    PT X (.Compare l ops rs p) (EvB X.K bg S0 H0 EX (evT C (.e (stripE c (n + 1) sc (.Compare l ops rs p))))) := by
  have bad : ∀ (e : Expr), PT X e (EvB X.K bg S0 H0 EX (evT C (.e .bad))) := fun e => pt_false fun Γ => by rw [evT, evE]; rfl
  generalize ho : stripE c (n + 1) sc (.Compare l ops rs p) = o
  unfold stripE at ho
  split at ho <;> first | (rename_i he; cases he; done) | skip
  · rename_i a op b p' he
    cases he
    split at ho
    · split at ho
      · rename_i hb
        subst ho
        exact (kt_isN _ hb (I.e (al (stripE c n sc l)) l G P fun i hi => hi)).1
      · subst ho; exact bad _
    · split at ho
      · rename_i hb
        subst ho
        exact (kt_isN _ hb (I.e (al (stripE c n sc l)) l G P fun i hi => hi)).2
      · subst ho; exact bad _
    · split at ho
      · subst ho; exact bad _
      · rename_i hse
        subst ho
        exact kt_cmp G.room (al (stripE c n sc l) ++ al (stripE c n sc b)) (not_set hse) (I.e _ l G P fun i hi => List.mem_append_left _ hi) (I.e _ b G P fun i hi => List.mem_append_right _ hi)
  · rename_i a op op' b d p' he
    cases he
    split at ho
    · subst ho; exact bad _
    · rename_i hse
      subst ho
      exact (k_chain (A := []) G.room (al (stripE c n sc l) ++ (al (stripE c n sc b) ++ al (stripE c n sc d))) (not_set hse) (I.e _ l G P fun i hi => List.mem_append_left _ hi) (I.e _ b G P fun i hi => List.mem_append_right _ (List.mem_append_left _ hi))
        (I.e _ d G P fun i hi => List.mem_append_right _ (List.mem_append_right _ hi))).2
  · subst ho; exact bad _
theorem snd_t {n : Nat} (I : Snd c C k n) (I' : ∀ m, n = m + 1 → Snd c C k m) (G : Good c C k sc X) (P : Passes (L2.CX X.prog X.w) X (eX X.K bg S0 H0 EX)) (e : Expr) : PT X e (EvB X.K bg S0 H0 EX (evT C (stripT c (n + 1) sc e))) := by
  have bad : ∀ (e : Expr), PT X e (EvB X.K bg S0 H0 EX (evT C (.e .bad))) := fun e => pt_false fun Γ => by rw [evT, evE]; rfl
  have pl : (∀ whole, isTrue e X.env whole = (do let v ← whole; standAt e.pos; holding [v] (truthy v))) → PT X e (EvB X.K bg S0 H0 EX (evT C (.e (stripE c n sc e)))) := fun he => kt_plain _ he (I.e (al (stripE c n sc e)) e G P fun i hi => hi)
  cases e with
  | UnaryOp op a p =>
    cases op with
    | Not => exact kt_not (I.t a G P)
    | _ => exact pl (fun _ => rfl)
  | BoolOp op es p =>
    have hpt : ∀ (i : Nat) (e : Expr) (o : OT), es[i]? = some e → (es.map (stripT c n sc))[i]? = some o → PT X e (EvB X.K bg S0 H0 EX (evT C o)) := fun i e o h1 h2 => by
      rw [List.getElem?_map, h1] at h2
      cases h2
      exact I.t e G P
    cases op with
    | And => exact (pw_weak (kt_and (pos := p) (by rw [List.length_map]) hpt).1 fun σ H Q ⟨O, Γ, S, a, q⟩ => ⟨O, Γ, S, a, by rw [stripT, evT] at q; exact q⟩).pt
    | Or => exact (pw_weak (kt_and (pos := p) (by rw [List.length_map]) hpt).2 fun σ H Q ⟨O, Γ, S, a, q⟩ => ⟨O, Γ, S, a, by rw [stripT, evT] at q; exact q⟩).pt
  | IfExp t a b p => exact bad _
  | Compare l ops rs p =>
    show PT X _ (EvB X.K bg S0 H0 EX (evT C (.e (stripE c n sc (.Compare l ops rs p)))))
    cases n with
    | zero => exact bad _
    | succ m => exact snd_cmp (I' m rfl) G P l ops rs p
  | _ => exact pl (fun _ => rfl)
theorem snd_i {n : Nat} (I : Snd c C k n) (G : Good c C k sc X) (P : Passes (L2.CX X.prog X.w) X (eX X.K bg S0 H0 EX)) (A : List Nat) (tg e : Expr) (hA : ∀ i, i ∈ alI (stripI c (n + 1) sc tg e) → i ∈ A) :
    PI X tg e (EvI X.K bg S0 H0 EX A (evI C (stripI c (n + 1) sc tg e))) := by
  have bad : ∀ (e : Expr), PI X tg e (EvI X.K bg S0 H0 EX A (evI C (.e .bad))) := fun e => pi_false fun Γ => by rw [evI, evE]; rfl
  have pl : (∀ i, i ∈ alI (.e (stripE c n sc e)) → i ∈ A) → PI X tg e (EvI X.K bg S0 H0 EX A (evI C (.e (stripE c n sc e)))) := fun h => ki_any (I.e A e G P fun i hi => h i (by unfold alI; exact hi))
  generalize ho : stripI c (n + 1) sc tg e = o at hA ⊢
  unfold stripI at ho
  split at ho
  · rename_i f p es pos
    split at ho
    · rename_i hh
      simp only [Bool.and_eq_true, Bool.not_eq_eq_eq_not, Bool.not_true] at hh
      obtain ⟨⟨h1, h2⟩, -⟩ := hh
      have hg : Gl X f := isGl_Gl G h1
      split at ho
      · rename_i ef
        subst ef
        split at ho
        · rename_i a
          subst ho
          exact ki_rng1 (al (stripE c n sc a)) hg (G.mo.free _ (by decide +kernel)) (by simpa using h2) (I.e _ a G P fun i hi => hi)
        · rename_i a b
          subst ho
          have h2' : isStar a = false ∧ isStar b = false := by simpa using h2
          exact ki_rng2 (al (stripE c n sc a) ++ al (stripE c n sc b)) hg (G.mo.free _ (by decide +kernel)) h2'.1 h2'.2 (I.e _ a G P fun i hi => List.mem_append_left _ hi) (I.e _ b G P fun i hi => List.mem_append_right _ hi)
        · subst ho; exact bad _
      · split at ho
        · rename_i ef
          subst ef
          split at ho
          · subst ho
            exact ki_enum hg (G.mo.free _ (by decide +kernel)) (by simpa using h2) (I.e A _ G P fun i hi => hA i (by unfold alI; exact hi))
          · subst ho; exact bad _
        · split at ho
          · rename_i ef
            subst ef
            split at ho
            · rename_i a b
              subst ho
              have h2' : isStar a = false ∧ isStar b = false := by simpa using h2
              exact ki_zip hg (G.mo.free _ (by decide +kernel)) h2'.1 h2'.2 (I.e A a G P fun i hi => hA i (by unfold alI; exact List.mem_append_left _ hi)) (I.e A b G P fun i hi => hA i (by unfold alI; exact List.mem_append_right _ hi))
            · subst ho; exact bad _
          · subst ho
            exact pl hA
    · subst ho
      exact pl hA
  · subst ho; exact bad _
  · subst ho
    exact pl hA
end
/-- every own form is sound -/
theorem snd (c : Cf) (C : Calls) (k : Nat) : ∀ n, Snd c C k n := by
  intro n
  induction n using Nat.strongRecOn with
  | ind n ih =>
    cases n with
    | zero =>
      refine ⟨fun {sc X bg S0 H0 EX} A e G P hA => ?_, fun {sc X bg S0 H0 EX} e G P => ?_, fun {sc X bg S0 H0 EX} A tg e G P hA => ?_⟩
      · exact pe_false fun Γ => by rw [stripE, evE]
      · exact pt_false fun Γ => by rw [stripT, evT, evE]; rfl
      · exact pi_false fun Γ => by show evI C (.e .bad) Γ = _; rw [evI, evE]; rfl
    | succ n =>
      have I := ih n (Nat.lt_succ_self n)
      exact ⟨fun A e G P hA => snd_e I G P A e hA, fun e G P => snd_t I (fun m hm => ih m (by omega)) G P e, fun A tg e G P hA => snd_i I G P A tg e hA⟩
end Dy

set_option linter.all false
set_option maxRecDepth 10000
set_option autoImplicit false
/-! Dy, part 12: statements, by data. -/
namespace Dy
open PySem PySem.Spec PyProof.Rows L2

/-- how a statement ends -/
inductive Fl where
  | nx (Γ : Gam) (O : List Nat)
  | bk (Γ : Gam) (O : List Nat)
  | ct (Γ : Gam) (O : List Nat)
  | rt (r : D × Bool) (Γ : Gam) (O : List Nat)
/-- an expression's data, and whether its object is new -/
def evX (C : Calls) : OE → Gam → T (D × Bool)
  | .lst es, Γ => (evEs C es Γ).bind fun ds => .ret (.lst ds, true)
  | .lc elt own tg it ifs, Γ => (evI C it Γ).bind fun ds => (lcLoop (lcF C tg own ifs elt Γ) ds).bind fun xs => .ret (.lst xs, true)
  | .call f args kws sel dfts, Γ => (evEs C args Γ).bind fun ds => (evEs C kws Γ).bind fun zs => .need (decide ((selL sel ds zs dfts).length = sel.length)) (C f (selL sel ds zs dfts))
  | .bcall b args, Γ => match newL b with
    | some L => (evEs C args Γ).bind fun ds => (L ds).bind fun es => .ret (.lst es, true)
    | none => (evE C (.bcall b args) Γ).bind fun d => .ret (d, false)
  | .mcall m o args kws rows, Γ => mcX C m o args kws rows Γ
  | .dnew t, _ => .ret (.dct t [] [], true)
  | .lc2 elt own tg it ifs tg1 it1 ifs1, Γ => (evE C (.lc2 elt own tg it ifs tg1 it1 ifs1) Γ).bind fun d => .ret (d, true)
  | .dc t k v own tg it ifs, Γ => (evE C (.dc t k v own tg it ifs) Γ).bind fun d => .ret (d, true)
  | .dc2 t k v own tg it ifs tg1 it1 ifs1, Γ => (evE C (.dc2 t k v own tg it ifs tg1 it1 ifs1) Γ).bind fun d => .ret (d, true)
  | e, Γ => (evE C e Γ).bind fun d => .ret (d, false)
/-- a slot's list -/
def lstAt (Γ : Gam) (i : Nat) : Option (List D) := match Γ[i]? with
  | some (some (.lst xs)) => some xs
  | _ => none
theorem lstAt_some {Γ : Gam} {i : Nat} {xs : List D} (h : lstAt Γ i = some xs) : Γ[i]? = some (some (.lst xs)) := by
  unfold lstAt at h
  split at h
  · rename_i ys e
    cases h
    exact e
  · cases h
/-- an own list's item, taken out -/
def popD (C : Calls) (j : Nat) (ix : Option OE) (Γ : Gam) (O : List Nat) : T (D × List D) := .need (decide (j ∈ O)) (match lstAt Γ j with
  | some xs => (match ix with
    | none => (match xs[xs.length - 1]? with | some d => .ret (d, xs.dropLast) | none => .bad)
    | some oe => (evE C oe Γ).bind fun k => match k with
      | .int i => .need (decide (-(2 ^ 62) ≤ i ∧ i < 2 ^ 62)) (match ixD xs.length i with
        | some n => (match xs[n]? with | some d => .ret (d, xs.eraseIdx n) | none => .bad)
        | none => .bad)
      | _ => .bad)
  | none => .bad)
def keepO (A : List Nat) (fl : Bool) (O : List Nat) : List Nat := if fl then O else O.filter fun i => decide (i ∉ A)
def gainO (b : Bool) (i : Nat) (O : List Nat) : List Nat := if b then i :: O else O
/-- a for's turns -/
def forL (f : Gam → List Nat → T Fl) (tg : Tg) : List D → Gam → List Nat → T Fl
  | [], Γ, O => .ret (.nx Γ O)
  | d :: ds, Γ, O => (T.ofOpt (bindTg tg d Γ)).bind fun Γ1 => (f Γ1 (dropT tg O)).bind fun r => match r with
    | .nx Γ2 O2 => forL f tg ds Γ2 O2
    | .ct Γ2 O2 => forL f tg ds Γ2 O2
    | .bk Γ2 O2 => .ret (.nx Γ2 O2)
    | .rt r Γ2 O2 => .ret (.rt r Γ2 O2)
def whL (t : Gam → T Bool) (f : Gam → List Nat → T Fl) : Nat → Gam → List Nat → T Fl
  | 0, _, _ => .bad
  | n + 1, Γ, O => (t Γ).bind fun c => match c with
    | false => .ret (.nx Γ O)
    | true => (f Γ O).bind fun r => match r with
      | .nx Γ2 O2 => whL t f n Γ2 O2
      | .ct Γ2 O2 => whL t f n Γ2 O2
      | .bk Γ2 O2 => .ret (.nx Γ2 O2)
      | .rt r Γ2 O2 => .ret (.rt r Γ2 O2)
mutual
def exS (C : Calls) : OS → Gam → List Nat → T Fl
  | .bad, _, _ => .bad
  | .set i e, Γ, O => (evX C e Γ).bind fun r => .need (decide (i < Γ.length)) (.ret (.nx (Γ.set i (some r.1)) (gainO r.2 i ((keepO (al e) (isFlat r.1) O).filter fun j => decide (j ≠ i)))))
  | .seti tg e, Γ, O => (evE C e Γ).bind fun d => (T.ofOpt (bindTg tg d Γ)).bind fun Γ' => .ret (.nx Γ' (dropT tg (keepO (al e) false O)))
  | .par2 i j a b, Γ, O => .need (decide (i < Γ.length ∧ j < Γ.length ∧ i ≠ j)) ((evX C a Γ).bind fun x => (evX C b Γ).bind fun y =>
    .ret (.nx ((Γ.set i (some x.1)).set j (some y.1)) (gainO y.2 j ((gainO x.2 i ((keepO (als [a, b]) (isFlat x.1 && isFlat y.1) O).filter fun l => decide (l ≠ i))).filter fun l => decide (l ≠ j)))))
  | .par3 i j l a b c, Γ, O => .need (decide (i < Γ.length ∧ j < Γ.length ∧ l < Γ.length ∧ i ≠ j ∧ i ≠ l ∧ j ≠ l)) ((evX C a Γ).bind fun x => (evX C b Γ).bind fun y => (evX C c Γ).bind fun z =>
    .ret (.nx (((Γ.set i (some x.1)).set j (some y.1)).set l (some z.1)) (gainO z.2 l ((gainO y.2 j ((gainO x.2 i ((keepO (als [a, b, c]) (isFlat x.1 && isFlat y.1 && isFlat z.1) O).filter fun q => decide (q ≠ i))).filter fun q => decide (q ≠ j))).filter fun q => decide (q ≠ l)))))
  | .app i e, Γ, O => .need (decide (i ∈ O)) (match lstAt Γ i with
    | some xs => (evE C e Γ).bind fun d => .need (decide (i ∈ keepO (al e) (isFlat d) O ∧ xs.length < most)) (.ret (.nx (Γ.set i (some (.lst (xs ++ [d])))) (keepO (al e) (isFlat d) O)))
    | none => .bad)
  | .put i ix e, Γ, O => .need (decide (i ∈ O)) <| (evE C e Γ).bind fun d => (evE C ix Γ).bind fun k => match Γ[i]?, k with
    | some (some (.lst xs)), .int j => (match ixD xs.length j with
      | some p => .need (decide (i ∈ keepO (al e) (isFlat d) O)) (.ret (.nx (Γ.set i (some (.lst (xs.set p d)))) (keepO (al e) (isFlat d) O)))
      | none => .bad)
    | some (some (.dct t ks vs)), k => .need (isKeyT t k && decide (i ∈ keepO (al e) (isFlat d) O ∧ ks.length < most)) (.ret (.nx (Γ.set i (some (.dct t (kvPut ks vs k d).1 (kvPut ks vs k d).2))) (keepO (al e) (isFlat d) O)))
    | _, _ => .bad
  | .fset i f cs e, Γ, O => .need (decide (i ∈ O)) <| (evE C e Γ).bind fun d => match Γ[i]? with
    | some (some (.ins c ns vs)) => .need (cs.contains c && decide (i ∈ keepO (al e) (isFlat d) O ∧ ns.length < 1000)) (.ret (.nx (Γ.set i (some (.ins c (insF f d ns vs).1 (insF f d ns vs).2))) (keepO (al e) (isFlat d) O)))
    | _ => .bad
  | .pop i j ix, Γ, O => .need (decide (i < Γ.length ∧ i ≠ j)) ((popD C j ix Γ O).bind fun q => .ret (.nx ((Γ.set j (some (.lst q.2))).set i (some q.1)) (O.filter fun l => decide (l ≠ i))))
  | .popA i j ix, Γ, O => .need (decide (i ∈ O ∧ i ≠ j)) (match lstAt Γ i with
    | some ys => .need (decide (ys.length < most)) ((popD C j ix Γ O).bind fun q => .ret (.nx ((Γ.set j (some (.lst q.2))).set i (some (.lst (ys ++ [q.1])))) O))
    | none => .bad)
  | .popC i t j e, Γ, O => .need (decide (i < Γ.length ∧ i ≠ j)) ((evT C t Γ).bind fun c => match c with
    | true => (popD C j none Γ O).bind fun q => .ret (.nx ((Γ.set j (some (.lst q.2))).set i (some q.1)) (O.filter fun l => decide (l ≠ i)))
    | false => (evE C e Γ).bind fun d => .ret (.nx (Γ.set i (some d)) ((keepO (al e) (isFlat d) O).filter fun l => decide (l ≠ i))))
  | .expr e, Γ, O => (evE C e Γ).bind fun _ => .ret (.nx Γ O)
  | .ret e, Γ, O => match e with
    | .var i => if i ∈ O then (match Γ[i]? with | some (some d) => .ret (.rt (d, true) Γ O) | _ => .bad) else (evE C (.var i) Γ).bind fun d => .ret (.rt (d, false) Γ (keepO [i] (isFlat d) O))
    | e => (evX C e Γ).bind fun r => .ret (.rt r Γ (keepO (al e) (isFlat r.1) O))
  | .retN, Γ, O => .ret (.rt (.non, false) Γ O)
  | .if_ t a b, Γ, O => (evT C t Γ).bind fun c => match c with | true => exSs C a Γ O | false => exSs C b Γ O
  | .for_ tg it b, Γ, O => (evI C it Γ).bind fun ds => forL (exSs C b) tg ds Γ (keepO (alI it) false O)
  | .while_ n t b, Γ, O => whL (evT C t) (exSs C b) n Γ O
  | .pass, Γ, O => .ret (.nx Γ O)
  | .brk, Γ, O => .ret (.bk Γ O)
  | .cont, Γ, O => .ret (.ct Γ O)
def exSs (C : Calls) : List OS → Gam → List Nat → T Fl
  | [], Γ, O => .ret (.nx Γ O)
  | s :: r, Γ, O => (exS C s Γ O).bind fun f => match f with
    | .nx Γ' O' => exSs C r Γ' O'
    | .bk Γ' O' => .ret (.bk Γ' O')
    | .ct Γ' O' => .ret (.ct Γ' O')
    | .rt r Γ2 O2 => .ret (.rt r Γ2 O2)
end

/-! ### readings -/
mutual
/-- the slots that a statement may store in -/
def wrS : OS → List Nat
  | .bad => []
  | .set i _ => [i]
  | .seti tg _ => tgs tg
  | .par2 i j _ _ => [i, j]
  | .par3 i j l _ _ _ => [i, j, l]
  | .app _ _ => []
  | .put _ _ _ => []
  | .fset _ _ _ _ => []
  | .pop i _ _ => [i]
  | .popA _ _ _ => []
  | .popC i _ _ _ => [i]
  | .expr _ => []
  | .ret _ => []
  | .retN => []
  | .if_ _ a b => wrSs a ++ wrSs b
  | .for_ tg _ b => tgs tg ++ wrSs b
  | .while_ _ _ b => wrSs b
  | .pass => [] | .brk => [] | .cont => []
def wrSs : List OS → List Nat
  | [] => []
  | s :: r => wrS s ++ wrSs r
end
/-- alike but for the slots of w -/
def Agr (w : List Nat) (σ σ' : L2.St) : Prop := ∀ j, j ∉ w → σ'[j]? = σ[j]?
theorem Agr.refl {w : List Nat} {σ : L2.St} : Agr w σ σ := fun _ _ => rfl
theorem Agr.trans {w : List Nat} {σ σ' σ2 : L2.St} (h : Agr w σ σ') (h' : Agr w σ' σ2) : Agr w σ σ2 := fun j n => (h' j n).trans (h j n)
theorem Agr.mono {w w' : List Nat} {σ σ' : L2.St} (h : Agr w σ σ') (s : ∀ i, i ∈ w → i ∈ w') : Agr w' σ σ' := fun j n => h j fun z => n (s j z)
theorem Agr.set {w : List Nat} {σ : L2.St} {i : Nat} {v : Option V} (h : i ∈ w) : Agr w σ (σ.set i v) := fun j n => List.getElem?_set_ne (fun (z : i = j) => n (z ▸ h))
theorem Agr.wipe {w : List Nat} {σ σ' : L2.St} (h : L2.wipe σ' w = L2.wipe σ w) : Agr w σ σ' := fun j n => by
  have h1 : (L2.wipe σ' w)[j]? = (L2.wipe σ w)[j]? := congrArg (fun τ : L2.St => τ[j]?) h
  rw [wipe_at, wipe_at, if_neg n, if_neg n] at h1
  exact h1
def Post (K : PySem.W.Frag) (bg : Option (Addr × Addr)) (S0 : Addr → Prop) (H0 : Hp) (w : List Nat) (S : Addr → Prop) (σ : L2.St) (H : Hp) (D : Ends) : Fl → Prop
  | .nx Γ O => ∀ σ' S' H', At K bg S0 H0 O Γ S' σ' H' → Sta S H S' H' → Agr w σ σ' → D.nx σ' H'
  | .bk Γ O => ∀ σ' S' H', At K bg S0 H0 O Γ S' σ' H' → Sta S H S' H' → Agr w σ σ' → D.bk σ' H'
  | .ct Γ O => ∀ σ' S' H', At K bg S0 H0 O Γ S' σ' H' → Sta S H S' H' → Agr w σ σ' → D.ct σ' H'
  | .rt r Γ O => ∀ v σ' S' H', At K bg S0 H0 O Γ S' σ' H' → Sta S H S' H' → Agr w σ σ' → ResV K bg H0 S' H' r v → D.rt v H'
def ExS (K : PySem.W.Frag) (bg : Option (Addr × Addr)) (S0 : Addr → Prop) (H0 : Hp) (EX : D → Prop) (w : List Nat) (m : Gam → List Nat → T Fl) : TS := fun D σ H => ∃ O Γ S, At K bg S0 H0 O Γ S σ H ∧ (m Γ O).All (Post K bg S0 H0 w S σ H D) EX
section
variable {X : Cx} {bg : Option (Addr × Addr)} {S0 S S1 S' : Addr → Prop} {H0 H H1 H' : Hp} {EX : D → Prop} {A : List Nat} {C : Calls} {K : PySem.W.Frag} {w w' : List Nat} {σ σ1 : L2.St}
theorem Post.later {D : Ends} {f : Fl} (s : Sta S H S1 H1) (g : Agr w σ σ1) (sub : ∀ i, i ∈ w' → i ∈ w) (h : Post K bg S0 H0 w S σ H D f) : Post K bg S0 H0 w' S1 σ1 H1 D f := by
  cases f with
  | nx Γ O => exact fun σ' S' H' a t u => h σ' S' H' a (s.trans t) (g.trans (u.mono sub))
  | bk Γ O => exact fun σ' S' H' a t u => h σ' S' H' a (s.trans t) (g.trans (u.mono sub))
  | ct Γ O => exact fun σ' S' H' a t u => h σ' S' H' a (s.trans t) (g.trans (u.mono sub))
  | rt r Γ O => exact fun v σ' S' H' a t u => h v σ' S' H' a (s.trans t) (g.trans (u.mono sub))
theorem ps_weak {st : Stmt} {t t' : TS} (h : PS X st t) (w : ∀ D σ H, t' D σ H → t D σ H) : PS X st t' := ⟨fun pins s σ H D I q => h.run pins s σ H D I (w D σ H q)⟩
theorem pss_weak {st : List Stmt} {t t' : TS} (h : PSs X st t) (w : ∀ D σ H, t' D σ H → t D σ H) : PSs X st t' := ⟨fun pins s σ H D I q => h.run pins s σ H D I (w D σ H q)⟩
theorem ps_false {st : Stmt} {m : Gam → List Nat → T Fl} (h : ∀ Γ O, m Γ O = .bad) : PS X st (ExS K bg S0 H0 EX w m) := ⟨fun pins s σ H D I ⟨O, Γ, S, a, q⟩ => by rw [h] at q; exact q.elim⟩
/-- frozen, or flat -/
theorem keep_at {O : List Nat} {Γ : Gam} {σ : L2.St} (a : At K bg S0 H0 O Γ S σ H) (A : List Nat) (fl : Bool) : ∃ S', At K bg S0 H0 (keepO A fl O) Γ S' σ H ∧ Sta S H S' H ∧ (∀ d v, (fl = true → isFlat d = true) → Rep K bg (Gs S O σ A) H d v → Rep K bg S' H d v) := by
  cases fl with
  | true => exact ⟨S, a, .refl, fun d v h r => r.flat (h rfl)⟩
  | false => exact ⟨Gs S O σ A, a.freeze A, ⟨fun _ h => .inl h, fun _ _ _ h => h⟩, fun d v _ r => r⟩
theorem St1 (s : Sta S H S1 H1) (h : ∀ a, S1 a → S' a) : Sta S H S' H1 := ⟨fun a z => h a (s.sub a z), s.keep⟩
/-- a new list becomes one's own -/
theorem At.own_put {O : List Nat} {Γ : Gam} {σ : L2.St} {p : Addr} {d : D} {o : HO} (a : At K bg S0 H0 O Γ S σ H) (i : Nat) (hi : i < Γ.length) (np : ¬ S p) (h0 : H0 p = none) (hp : H p = some o) (r : ObjR K bg S H d o) (ap : ∀ j, j ∈ O → σ[j]? ≠ some (some (V.ref p))) :
    At K bg S0 H0 (i :: O.filter fun j => decide (j ≠ i)) (Γ.set i (some d)) S (σ.set i (some (.ref p))) H := by
  have hl := a.abs.len
  refine ⟨a.wld0, a.wld, a.ext, by rw [List.length_set, List.length_set]; exact hl, fun j d' n g => ?_, fun j m => ?_, fun j k b mj mk jk e e' => ?_⟩
  · have ji : j ≠ i := fun z => n (by rw [z]; exact List.mem_cons_self)
    have jo : j ∉ O := fun z => n (List.mem_cons_of_mem _ (List.mem_filter.mpr ⟨z, decide_eq_true ji⟩))
    rw [List.getElem?_set_ne (fun z => ji z.symm)] at g ⊢
    exact a.abs.dat j d' jo g
  · rcases List.mem_cons.mp m with z | z
    · subst z
      exact ⟨_, _, List.getElem?_set_self hi, List.getElem?_set_self (by rw [hl]; exact hi), p, o, rfl, np, h0, hp, r⟩
    · obtain ⟨mo, q⟩ := List.mem_filter.mp z
      have q := of_decide_eq_true q
      obtain ⟨d', v', g, e, r'⟩ := a.abs.own j mo
      exact ⟨d', v', by rw [List.getElem?_set_ne (fun z => q z.symm)]; exact g, by rw [List.getElem?_set_ne (fun z => q z.symm)]; exact e, r'⟩
  · rcases List.mem_cons.mp mj with z | z
    · subst z
      rw [List.getElem?_set_self (by rw [hl]; exact hi)] at e
      cases e
      rcases List.mem_cons.mp mk with y | y
      · exact jk y.symm
      · obtain ⟨mo, q⟩ := List.mem_filter.mp y
        have q := of_decide_eq_true q
        rw [List.getElem?_set_ne (fun z => q z.symm)] at e'
        exact ap k mo e'
    · obtain ⟨mo, q⟩ := List.mem_filter.mp z
      have q := of_decide_eq_true q
      rw [List.getElem?_set_ne (fun z => q z.symm)] at e
      rcases List.mem_cons.mp mk with y | y
      · subst y
        rw [List.getElem?_set_self (by rw [hl]; exact hi)] at e'
        cases e'
        exact ap j mo e
      · obtain ⟨mo2, q2⟩ := List.mem_filter.mp y
        have q2 := of_decide_eq_true q2
        rw [List.getElem?_set_ne (fun z => q2 z.symm)] at e'
        exact a.abs.apart j k b mo mo2 jk e e'
/-- a value that may be stored: frozen, or no slot's yet -/
def PutOk (K : PySem.W.Frag) (bg : Option (Addr × Addr)) (S : Addr → Prop) (H0 H : Hp) (O : List Nat) (σ : L2.St) (r : D × Bool) (v : V) : Prop := match r.2 with
  | false => Rep K bg S H r.1 v
  | true => ∃ p o, v = .ref p ∧ ¬ S p ∧ H0 p = none ∧ H p = some o ∧ ObjR K bg S H r.1 o ∧ ∀ j, j ∈ O → σ[j]? ≠ some (some (V.ref p))
theorem At.putR {O : List Nat} {Γ : Gam} {σ : L2.St} {r : D × Bool} {v : V} (a : At K bg S0 H0 O Γ S σ H) (i : Nat) (hi : i < Γ.length) (h : PutOk K bg S H0 H O σ r v) : At K bg S0 H0 (gainO r.2 i (O.filter fun j => decide (j ≠ i))) (Γ.set i (some r.1)) S (σ.set i (some v)) H := by
  obtain ⟨d, fr⟩ := r
  cases fr with
  | false => exact a.put i h
  | true =>
    obtain ⟨p, o, ev, np, h0, hp, r, ap⟩ := h
    subst ev
    exact a.own_put i hi np h0 hp r ap
/-- .. also behind another's store -/
theorem PutOk.behind {O : List Nat} {σ : L2.St} {r r' : D × Bool} {v v' : V} {i : Nat} (h : PutOk K bg S H0 H O σ r v) (ne : r'.2 = true → r.2 = true → v ≠ v') (hi : i < σ.length) : PutOk K bg S H0 H (gainO r'.2 i (O.filter fun j => decide (j ≠ i))) (σ.set i (some v')) r v := by
  obtain ⟨d, fr⟩ := r
  cases fr with
  | false => exact h
  | true =>
    obtain ⟨p, o, ev, np, h0, hp, r, ap⟩ := h
    refine ⟨p, o, ev, np, h0, hp, r, fun j hj e => ?_⟩
    subst ev
    have old : j ∈ (O.filter fun j => decide (j ≠ i)) → False := fun hj => by
      obtain ⟨mo, q⟩ := List.mem_filter.mp hj
      have q := of_decide_eq_true q
      rw [List.getElem?_set_ne (fun z => q z.symm)] at e
      exact ap j mo e
    cases hf : r'.2 with
    | false =>
      rw [hf] at hj
      exact old hj
    | true =>
      rw [hf] at hj
      rcases List.mem_cons.mp hj with z | z
      · subst z
        rw [List.getElem?_set_self hi] at e
        cases e
        exact ne hf rfl rfl
      · exact old z
/-- what an evaluation gave, at the end of all -/
theorem resN_put {O : List Nat} {Γ : Gam} {σ : L2.St} {A : List Nat} {r : D × Bool} {v : V} {fl : Bool} (a : At K bg S0 H0 O Γ S σ H) {S1 S2 S3 : Addr → Prop} {H1 H2 : Hp} (E1 : Ext bg S H S1 H1) (h : ResN K bg (Gs S1 O σ A) H H1 r v) (a1 : At K bg S0 H0 O Γ S1 σ H1) (E2 : Ext bg S1 H1 S2 H2) (hS3 : S3 = if fl = true then S2 else Gs S2 O σ A) (hfl : fl = true → isFlat r.1 = true) :
    PutOk K bg S3 H0 H2 (keepO A fl O) σ r v := by
  obtain ⟨d, fr⟩ := r
  cases fr with
  | false =>
    have h2 : Rep K bg (Gs S2 O σ A) H2 d v := a1.rep E2 h
    cases fl with
    | true => exact Rep.flat (hfl rfl) h2
    | false =>
      rw [hS3]
      exact h2
  | true =>
    obtain ⟨p, o, ev, np, hp0, hp, rr⟩ := h
    have nb : ¬ isBag bg p := fun ⟨b, eb, z⟩ => ((a.wld.bag b eb).1.there).1 (z ▸ hp0)
    cases fl with
    | true =>
      have := ObjR.unflat rr
      rw [hfl rfl] at this
      cases this
    | false =>
      rw [hS3]
      refine ⟨p, o, ev, fun z => np ?_, a.ext.unborn hp0, E2.keep p o hp nb, rr.mono (Gs.ext E2.sub) (fun b u s e => E2.keep b u e ((a1.gwld A).nob s)), fun j hj e => ?_⟩
      · rcases z with z | z
        · rcases E2.new p z with y | y
          · exact .inl y
          · rw [hp] at y; cases y
        · exact .inr z
      · have mj := (List.mem_filter.mp hj).1
        obtain ⟨_, _, _, _, _, hh, _⟩ := a.abs.at mj e
        rw [hp0] at hh
        cases hh
theorem keepS {O : List Nat} {Γ : Gam} {σ : L2.St} (a : At K bg S0 H0 O Γ S σ H) (A : List Nat) (fl : Bool) : At K bg S0 H0 (keepO A fl O) Γ (if fl = true then S else Gs S O σ A) σ H ∧ Sta S H (if fl = true then S else Gs S O σ A) H := by
  cases fl with
  | true => exact ⟨a, .refl⟩
  | false => exact ⟨a.freeze A, ⟨fun _ h => .inl h, fun _ _ _ h => h⟩⟩
/-! ### the statements -/
theorem s_set {st : Stmt} {i : Nat} {oe : OE} (h : PS X st (tAsg (EvN X.K bg S0 H0 EX (al oe) (evX C oe)) (gName i))) : PS X st (ExS X.K bg S0 H0 EX (wrS (.set i oe)) (exS C (.set i oe))) :=
  ps_weak h fun D σ H ⟨O, Γ, S, a, q⟩ => by
    rw [exS] at q
    refine ⟨O, Γ, S, a, T.all_imp (T.all_bind.mp q) fun r hr v S1 H1 W1 E1 rv => ?_⟩
    have a1 := a.later E1 W1
    obtain ⟨ci, hr⟩ := T.all_need hr
    have ci := of_decide_eq_true ci
    obtain ⟨a2, s2⟩ := keepS a1 (al oe) (isFlat r.1)
    exact hr _ _ H1 (a2.putR i ci (resN_put a E1 rv a1 .refl rfl fun z => z)) ((E1.sta a.wld).trans s2) (.set (by simp [wrS]))
theorem s_seti {st : Stmt} {tg : Tg} {oe : OE} (h : PS X st (tAsg (EvD X.K bg S0 H0 EX (al oe) (evE C oe)) (gOf X.K tg))) : PS X st (ExS X.K bg S0 H0 EX (wrS (.seti tg oe)) (exS C (.seti tg oe))) :=
  ps_weak h fun D σ H ⟨O, Γ, S, a, q⟩ => by
    rw [exS] at q
    refine ⟨O, Γ, S, a, T.all_imp (T.all_bind.mp q) fun d hd v S1 H1 W1 E1 rv => ?_⟩
    have a1 := a.later E1 W1
    have hd := T.all_bind.mp hd
    obtain ⟨Γ', eΓ, hd⟩ := T.all_ofOpt hd
    obtain ⟨S2, a2, s2, k2⟩ := keep_at a1 (al oe) false
    exact gOf_ok tg d v _ _ Γ' σ _ a2 (k2 d v (fun z => by cases z) rv) eΓ fun σ' a3 u => hd σ' S2 H1 a3 ((E1.sta a.wld).trans s2) (.wipe (u _ fun i h => by unfold wrS; exact h))
theorem Reps.three {x y z : D} {vs : List V} (r : Reps K bg S H [x, y, z] vs) : ∃ v w u, vs = [v, w, u] ∧ Rep K bg S H x v ∧ Rep K bg S H y w ∧ Rep K bg S H z u := by
  obtain ⟨v, r1, e, h1, h2⟩ := r
  obtain ⟨w, u, e2, h3, h4⟩ := Reps.two h2
  subst e2
  exact ⟨v, w, u, e, h1, h3, h4⟩
theorem ResN.ne {r r' : D × Bool} {G G' : Addr → Prop} {v v' : V} {Hb H1 H2 : Hp} (h : ResN K bg G H H1 r v) (hk : ∀ p o, H1 p = some o → H p = none → Hb p ≠ none) (h' : ResN K bg G' Hb H2 r' v') : r.2 = true → r'.2 = true → v' ≠ v := by
  obtain ⟨d, fr⟩ := r
  obtain ⟨d', fr'⟩ := r'
  intro e e'
  subst e e'
  obtain ⟨p, o, ev, _, h0, hp, _⟩ := h
  obtain ⟨p', o', ev', _, h0', _⟩ := h'
  intro z
  subst ev ev'
  injection z with z
  subst z
  exact hk _ o hp h0 h0'
theorem s_par2 {st : Stmt} {i j : Nat} {oa ob : OE} (h : PS X st (tPar i j (tCons (EvN X.K bg S0 H0 EX (als [oa, ob]) (evX C oa)) (tCons (EvN X.K bg S0 H0 EX (als [oa, ob]) (evX C ob)) tNil)))) : PS X st (ExS X.K bg S0 H0 EX (wrS (.par2 i j oa ob)) (exS C (.par2 i j oa ob))) :=
  ps_weak h fun D σ H ⟨O, Γ, S, a, q⟩ => by
    rw [exS] at q
    obtain ⟨c, q⟩ := T.all_need q
    obtain ⟨ci, cj, cij⟩ := of_decide_eq_true c
    refine ⟨O, Γ, S, a, T.all_imp (T.all_bind.mp q) fun x hx v S1 H1 W1 E1 r1 => ?_⟩
    have a1 := a.later E1 W1
    refine ⟨O, Γ, S1, a1, T.all_imp (T.all_bind.mp hx) fun y hy w S2 H2 W2 E2 r2 => ?_⟩
    have a2 := a1.later E2 W2
    refine ⟨v, w, rfl, ?_⟩
    have f1 : (isFlat x.1 && isFlat y.1) = true → isFlat x.1 = true := fun z => (Bool.and_eq_true _ _ ▸ z).1
    have f2 : (isFlat x.1 && isFlat y.1) = true → isFlat y.1 = true := fun z => (Bool.and_eq_true _ _ ▸ z).2
    obtain ⟨a3, s3⟩ := keepS a2 (als [oa, ob]) (isFlat x.1 && isFlat y.1)
    have p1 := resN_put (K := X.K) a E1 r1 a1 E2 rfl f1
    have p2 := resN_put (K := X.K) a1 E2 r2 a2 .refl rfl f2
    have ne := ResN.ne r1 (fun p o hp _ => by rw [hp]; simp) r2
    have hσ : i < σ.length := by rw [a.abs.len]; exact ci
    refine hy _ _ H2 ((a3.putR i ci p1).putR j (by rw [List.length_set]; exact cj) (p2.behind ne hσ)) (((E1.sta a.wld).trans (E2.sta a1.wld)).trans s3) (.trans (.set (by simp [wrS])) (.set (by simp [wrS])))
theorem s_par3 {st : Stmt} {i j l : Nat} {oa ob oc : OE} (h : PS X st (tPar3 i j l (tCons (EvN X.K bg S0 H0 EX (als [oa, ob, oc]) (evX C oa)) (tCons (EvN X.K bg S0 H0 EX (als [oa, ob, oc]) (evX C ob)) (tCons (EvN X.K bg S0 H0 EX (als [oa, ob, oc]) (evX C oc)) tNil))))) : PS X st (ExS X.K bg S0 H0 EX (wrS (.par3 i j l oa ob oc)) (exS C (.par3 i j l oa ob oc))) :=
  ps_weak h fun D σ H ⟨O, Γ, S, a, q⟩ => by
    rw [exS] at q
    obtain ⟨c, q⟩ := T.all_need q
    obtain ⟨ci, cj, cl, cij, cil, cjl⟩ := of_decide_eq_true c
    refine ⟨O, Γ, S, a, T.all_imp (T.all_bind.mp q) fun x hx v S1 H1 W1 E1 r1 => ?_⟩
    have a1 := a.later E1 W1
    refine ⟨O, Γ, S1, a1, T.all_imp (T.all_bind.mp hx) fun y hy w S2 H2 W2 E2 r2 => ?_⟩
    have a2 := a1.later E2 W2
    refine ⟨O, Γ, S2, a2, T.all_imp (T.all_bind.mp hy) fun z hz u S3 H3 W3 E3 r3 => ?_⟩
    have a3 := a2.later E3 W3
    refine ⟨v, w, u, rfl, ?_⟩
    have f0 : (isFlat x.1 && isFlat y.1 && isFlat z.1) = true → (isFlat x.1 = true ∧ isFlat y.1 = true) ∧ isFlat z.1 = true := fun h => by simpa using h
    obtain ⟨a4, s4⟩ := keepS a3 (als [oa, ob, oc]) (isFlat x.1 && isFlat y.1 && isFlat z.1)
    have p1 := resN_put (K := X.K) a E1 r1 a1 (E2.trans E3) rfl fun h => (f0 h).1.1
    have p2 := resN_put (K := X.K) a1 E2 r2 a2 E3 rfl fun h => (f0 h).1.2
    have p3 := resN_put (K := X.K) a2 E3 r3 a3 .refl rfl fun h => (f0 h).2
    have ne1 := ResN.ne r1 (fun p o hp _ => by rw [hp]; simp) r2
    have ne2 := ResN.ne r1 (fun p o hp _ => E2.dom p (by rw [hp]; simp)) r3
    have ne3 := ResN.ne r2 (fun p o hp _ => by rw [hp]; simp) r3
    have hσ : i < σ.length := by rw [a.abs.len]; exact ci
    have hσj : j < (σ.set i (some v)).length := by rw [List.length_set, a.abs.len]; exact cj
    refine hz _ _ H3 (((a4.putR i ci p1).putR j (by rw [List.length_set]; exact cj) (p2.behind ne1 hσ)).putR l (by rw [List.length_set, List.length_set]; exact cl) ((p3.behind ne2 hσ).behind ne3 hσj)) ((((E1.sta a.wld).trans (E2.sta a1.wld)).trans (E3.sta a2.wld)).trans s4) (.trans (.trans (.set (by simp [wrS])) (.set (by simp [wrS]))) (.set (by simp [wrS])))
theorem s_expr {st : Stmt} {oe : OE} (h : PS X st (tDrop (EvD X.K bg S0 H0 EX (al oe) (evE C oe)))) : PS X st (ExS X.K bg S0 H0 EX (wrS (.expr oe)) (exS C (.expr oe))) :=
  ps_weak h fun D σ H ⟨O, Γ, S, a, q⟩ => by
    rw [exS] at q
    exact ⟨O, Γ, S, a, T.all_imp (T.all_bind.mp q) fun d hd v S1 H1 W1 E1 rv => hd σ S1 H1 (a.later E1 W1) (E1.sta a.wld) .refl⟩
theorem At.wr {O : List Nat} {Γ : Gam} {σ : L2.St} {i : Nat} {p : Addr} {d d' : D} {o o' : HO} (a : At K bg S0 H0 O Γ S σ H) (hi : i ∈ O) (g : Γ[i]? = some (some d)) (e : σ[i]? = some (some (V.ref p))) (hp : H p = some o) (np : ¬ S p) (h0 : H0 p = none) (r : ObjR K bg S H d' o') :
    At K bg S0 H0 O (Γ.set i (some d')) S σ (upd H p o') := by
  have up : ∀ {e : D} {w : V}, Rep K bg S H e w → Rep K bg S (upd H p o') e w := fun r => Rep.write r np
  have upO : ∀ {e : D} {w : HO}, ObjR K bg S H e w → ObjR K bg S (upd H p o') e w := fun r => r.mono (fun _ h => h) fun b u s q => by
    rw [upd_ne (fun z => np (by rw [← z]; exact s))]
    exact q
  refine ⟨a.wld0, Wld.write a.wld0 a.wld h0 hp r.notup, a.ext.write h0, by rw [List.length_set]; exact a.abs.len, fun j d' n q => ?_, fun j m => ?_, a.abs.apart⟩
  · by_cases ij : i = j
    · subst ij; exact absurd hi n
    · rw [List.getElem?_set_ne ij] at q
      obtain ⟨w, z, rw'⟩ := a.abs.dat j d' n q
      exact ⟨w, z, up rw'⟩
  · by_cases ij : i = j
    · subst ij
      have hil : i < Γ.length := (List.getElem?_eq_some_iff.mp g).1
      exact ⟨_, _, List.getElem?_set_self hil, e, p, _, rfl, np, h0, upd_same, upO r⟩
    · obtain ⟨d2, v2, g2, e2, p2, o2, ev2, np2, h02, hp2, rr2⟩ := a.abs.own j m
      subst ev2
      have pp : p2 ≠ p := fun z => a.abs.apart i j p hi m ij e (by rw [← z]; exact e2)
      exact ⟨d2, _, by rw [List.getElem?_set_ne ij]; exact g2, e2, p2, o2, rfl, np2, h02, by rw [upd_ne pp]; exact hp2, upO rr2⟩
theorem Sta.wr {p : Addr} {o : HO} (s : Sta S H S1 H1) (np : ¬ S1 p) : Sta S H S1 (upd H1 p o) := ⟨s.sub, fun b u z hz => by
  rw [upd_ne (fun y => np (by rw [← y]; exact s.sub b z))]
  exact s.keep b u z hz⟩
/-- an own slot's list -/
theorem At.lst {O : List Nat} {Γ : Gam} {σ : L2.St} (a : At K bg S0 H0 O Γ S σ H) {i : Nat} {ds : List D} (hi : i ∈ O) (g : Γ[i]? = some (some (.lst ds))) : ∃ p xs, σ[i]? = some (some (V.ref p)) ∧ ¬ S p ∧ H0 p = none ∧ H p = some (.lst xs) ∧ Reps K bg S H ds xs := by
  obtain ⟨d, v, g', e, p, o, ev, np, h0, hp, r⟩ := a.abs.own i hi
  rw [g] at g'
  cases g'
  subst ev
  obtain ⟨xs, eo, rs⟩ := r
  subst eo
  exact ⟨p, xs, e, np, h0, hp, rs⟩
/-- an own list grows -/
theorem s_app {st : Stmt} {i : Nat} {oe : OE} (h : PS X st (tDrop (tBM X.K "list" rAppend (tVar i) (EvL X.K bg S0 H0 EX (al oe) (evEs C [oe]))))) : PS X st (ExS X.K bg S0 H0 EX (wrS (.app i oe)) (exS C (.app i oe))) :=
  ps_weak h fun Dn σ H ⟨O, Γ, S, a, q⟩ => by
    rw [exS] at q
    obtain ⟨hi, q⟩ := T.all_need q
    have hi := of_decide_eq_true hi
    cases hl : lstAt Γ i with
    | none => rw [hl] at q; exact q.elim
    | some ds =>
      rw [hl] at q
      have g0 := lstAt_some hl
      obtain ⟨p, xs0, e0, np0, h00, hp0, rr0⟩ := a.lst hi g0
      refine ⟨_, e0, .inl ⟨rfl, xs0, .inl (.inl hp0)⟩, O, Γ, S, a, ?_⟩
      show ((evEs C [oe] Γ).All _ EX)
      rw [evEs, evEs]
      refine T.all_bind.mpr (T.all_imp (T.all_bind.mp q) fun d hd => ?_)
      show ∀ vs S1 H1, Wld bg S1 H1 → Ext bg S H S1 H1 → Reps X.K bg (Gs S1 O σ (al oe)) H1 [d] vs → rAppend (.ref p) vs H1 fun _ H2 => Dn.nx σ H2
      intro vs S1 H1 W1 E1 r1
      obtain ⟨c, post⟩ := T.all_need hd
      obtain ⟨hk, hlen⟩ := of_decide_eq_true c
      obtain ⟨v, rfl, rv⟩ := r1.one
      have a1 := a.later E1 W1
      obtain ⟨S2, a2, s2, k2⟩ := keep_at a1 (al oe) (isFlat d)
      obtain ⟨p1, xs1, e1, np1, h01, hp1, rr1⟩ := a2.lst hk g0
      rw [e0] at e1; cases e1
      refine ⟨p, xs1, v, rfl, rfl, hp1, by rw [rr1.length, ← lineM]; exact hlen, ?_⟩
      exact post σ S2 _ (a2.wr hk g0 e0 hp1 np1 h00 (.lst (rr1.append ⟨v, [], rfl, k2 d v (fun z => z) rv, rfl⟩))) (((E1.sta a.wld).trans s2).wr np1) .refl
theorem ixD_N {n j : Nat} {i : Int} (h : ixD n i = some j) : ixN n i = some j := by
  unfold ixD at h
  unfold ixN
  split at h
  · rename_i h0
    rw [if_pos h0]
    split at h
    · rename_i h1
      rw [if_pos h1]
      exact h
    · cases h
  · rename_i h0
    rw [if_neg h0]
    split at h
    · rename_i h1
      rw [if_pos h1]
      exact h
    · cases h
theorem Reps.set : ∀ {ds : List D} {vs : List V} {d : D} {v : V} (j : Nat), Reps K bg S H ds vs → Rep K bg S H d v → Reps K bg S H (ds.set j d) (vs.set j v)
  | [], vs, d, v, j, h, _ => by
    rw [show vs = [] from h]
    rfl
  | x :: ds, vs, d, v, j, h, r => by
    obtain ⟨y, ys, e, h1, h2⟩ := h
    subst e
    cases j with
    | zero => exact ⟨v, ys, rfl, r, h2⟩
    | succ j => exact ⟨y, ys.set j v, rfl, h1, Reps.set j h2 r⟩
/-- a list or a dict is written -/
def rSetLD : TSet := fun o i v H Q => rSetL o i v H Q ∨ ∃ a H', o = .ref a ∧ DPut H a i v H' ∧ Q H'
theorem set_ld (hu : X.A.units + 1 < cLine) : PSet X rSetLD := by
  intro pins s σ H o i v ov iv u Q I ro ri rv h
  rcases h with h | ⟨a, H', eo, g, q⟩
  · exact set_list pins s σ H o i v ov iv u Q I ro ri rv h
  · subst eo
    cases ro
    exact d_setItem hu I g ri rv fun s2 I2 => ⟨H', I2, q⟩
theorem s_put {st : Stmt} {i : Nat} {oi oe : OE} (h : PS X st (tAsg (EvD X.K bg S0 H0 EX (al oe) (evE C oe)) (gSub (tVar i) (EvD X.K bg S0 H0 EX (al oi) (evE C oi)) rSetLD))) : PS X st (ExS X.K bg S0 H0 EX (wrS (.put i oi oe)) (exS C (.put i oi oe))) :=
  ps_weak h fun Dn σ H ⟨O, Γ, S, a, q⟩ => by
    rw [exS] at q
    obtain ⟨hi, q⟩ := T.all_need q
    have hi := of_decide_eq_true hi
    obtain ⟨d0, v0, g0, e0, p, o0, ev0, np0, h00, hp0, rr0⟩ := a.abs.own i hi
    subst ev0
    refine ⟨O, Γ, S, a, T.all_imp (T.all_bind.mp q) fun d hd v S1 H1 W1 E1 rv => ⟨_, e0, ?_⟩⟩
    have a1 := a.later E1 W1
    refine ⟨O, Γ, S1, a1, T.all_imp (T.all_bind.mp hd) fun k hk w S2 H2 W2 E2 rw' => ?_⟩
    have a2 := a1.later E2 W2
    rw [g0] at hk
    split at hk
    · rename_i xs j hx
      cases hx
      split at hk
      · rename_i pl hpl
        obtain ⟨hm, post⟩ := T.all_need hk
        have hm := of_decide_eq_true hm
        obtain ⟨S3, a3, s3, k3⟩ := keep_at a2 (al oe) (isFlat d)
        obtain ⟨p1, xs1, e1, np1, h01, hp1, rr1⟩ := a3.lst hm g0
        rw [e0] at e1; cases e1
        refine .inl ⟨p, xs1, j, pl, rfl, by rw [show w = _ from rw'], hp1, by rw [rr1.length]; exact ixD_N hpl, ?_⟩
        exact post σ S3 _ (a3.wr hm g0 e0 hp1 np1 h00 (.lst (rr1.set pl (k3 d v (fun z => z) (a1.rep E2 rv))))) ((((E1.sta a.wld).trans (E2.sta a1.wld)).trans s3).wr np1) .refl
      · exact hk.elim
    · rename_i k' _ _ t ks vs hx
      cases hx
      obtain ⟨c, post⟩ := T.all_need hk
      rw [Bool.and_eq_true, decide_eq_true_eq] at c
      obtain ⟨ck, hm, hlen⟩ := c
      obtain ⟨S3, a3, s3, k3⟩ := keep_at a2 (al oe) (isFlat d)
      obtain ⟨d1, v1, g1, e1, p1, o1, ev1, np1, h01, hp1, rr1⟩ := a3.abs.own i hm
      rw [g0] at g1; cases g1
      rw [e0] at e1; cases e1
      cases ev1
      have rw3 : Rep X.K bg S3 H2 k' w := Rep.key ck a3.wld rw'
      obtain ⟨o', hput, ro'⟩ := dct_put hp1 rr1 rw3 ck (k3 d v (fun z => z) (a1.rep E2 rv)) (by rw [← lineM]; exact hlen)
      exact .inr ⟨p, _, rfl, hput, post σ S3 _ (a3.wr hm g0 e0 hp1 np1 h00 ro') ((((E1.sta a.wld).trans (E2.sta a1.wld)).trans s3).wr np1) .refl⟩
    · exact hk.elim
/-- an attribute of an own instance is stored -/
theorem insF_rel {f : Str} {d : D} {y : V} (ry : Rep K bg S H d y) : ∀ {ns : List Str} {vs : List D} {xs : List V}, ns.length = vs.length → Reps K bg S H vs xs → ∃ xs', putF f y (ns.zip xs) = (insF f d ns vs).1.zip xs' ∧ (insF f d ns vs).1.length = (insF f d ns vs).2.length ∧ Reps K bg S H (insF f d ns vs).2 xs'
  | [], vs, xs, _, _ => ⟨[y], by rw [List.zip_nil_left]; unfold insF; rfl, by unfold insF; rfl, by unfold insF; exact ⟨y, [], rfl, ry, rfl⟩⟩
  | g :: ns, [], xs, l, _ => by cases l
  | g :: ns, v :: vs, xs, l, r => by
    obtain ⟨x, xs', ex, r1, r2⟩ := r
    subst ex
    rw [List.zip_cons_cons]
    unfold putF insF
    by_cases e : g = f
    · rw [if_pos e, if_pos e]
      exact ⟨y :: xs', rfl, l, y, xs', rfl, ry, r2⟩
    · rw [if_neg e, if_neg e]
      obtain ⟨zs, i1, i2, i3⟩ := insF_rel (f := f) ry (by simpa using l) r2
      exact ⟨x :: zs, by rw [i1]; rfl, by show _ + 1 = _ + 1; rw [i2], x, zs, rfl, r1, i3⟩
theorem s_fset {st : Stmt} {i : Nat} {f : Str} {cs : List Str} {oe : OE} (hf : ∀ x, cs.contains x = true → Cls X.K (He.ga X.K x) ∧ NoAttr X.K (He.ga X.K x) f) (h : PS X st (sFld X.K (tVar i) (EvD X.K bg S0 H0 EX (al oe) (evE C oe)) f)) : PS X st (ExS X.K bg S0 H0 EX (wrS (.fset i f cs oe)) (exS C (.fset i f cs oe))) :=
  ps_weak h fun Dn σ H ⟨O, Γ, S, a, q⟩ => by
    rw [exS] at q
    obtain ⟨hi, q⟩ := T.all_need q
    have hi := of_decide_eq_true hi
    obtain ⟨d0, v0, g0, e0, p, o0, ev0, np0, h00, hp0, rr0⟩ := a.abs.own i hi
    subst ev0
    refine ⟨O, Γ, S, a, T.all_imp (T.all_bind.mp q) fun d hd v S1 H1 W1 E1 rv => ⟨_, e0, ?_⟩⟩
    have a1 := a.later E1 W1
    rw [g0] at hd
    split at hd
    · rename_i c ns vs hx
      cases hx
      obtain ⟨cc, post⟩ := T.all_need hd
      rw [Bool.and_eq_true, decide_eq_true_eq] at cc
      obtain ⟨ck, hm, hlen⟩ := cc
      obtain ⟨S3, a3, s3, k3⟩ := keep_at a1 (al oe) (isFlat d)
      obtain ⟨d1, v1, g1, e1, p1, o1, ev1, np1, h01, hp1, rr1⟩ := a3.abs.own i hm
      rw [g0] at g1; cases g1
      rw [e0] at e1; cases e1
      cases ev1
      obtain ⟨dx, xs, eo, hn, rs⟩ := rr1
      subst eo
      obtain ⟨xs', i1, i2, i3⟩ := insF_rel (f := f) (k3 d v (fun z => z) rv) hn rs
      refine ⟨p, He.ga X.K c, dx, ns.zip xs, rfl, hp1, (hf c ck).1, (hf c ck).2, by rw [List.length_zip]; omega, ?_⟩
      refine post σ S3 _ (a3.wr hm g0 e0 hp1 np1 h00 ⟨dx, xs', by rw [i1], i2, i3⟩) (((E1.sta a.wld).trans s3).wr np1) .refl
    · exact hd.elim
end
end Dy

set_option linter.all false
set_option maxRecDepth 10000
set_option autoImplicit false
/-! Dy, part 12b: an own list's item is taken out. -/
namespace Dy
open PySem PySem.Spec PyProof.Rows L2
section
variable {X : Cx} {bg : Option (Addr × Addr)} {S0 S S1 S' : Addr → Prop} {H0 H H1 H' : Hp} {EX : D → Prop} {A : List Nat} {C : Calls} {K : PySem.W.Frag} {w w' : List Nat} {σ σ1 : L2.St}
theorem Reps.erase : ∀ {ds : List D} {vs : List V} (n : Nat), Reps K bg S H ds vs → Reps K bg S H (ds.eraseIdx n) (vs.eraseIdx n)
  | [], vs, n, h => by
    rw [show vs = [] from h]
    rfl
  | d :: ds, vs, n, h => by
    obtain ⟨x, r, e, h1, h2⟩ := h
    subst e
    cases n with
    | zero => exact h2
    | succ n => exact ⟨x, r.eraseIdx n, rfl, h1, Reps.erase n h2⟩
theorem Reps.dropLast : ∀ {ds : List D} {vs : List V}, Reps K bg S H ds vs → Reps K bg S H ds.dropLast vs.dropLast
  | [], vs, h => by
    rw [show vs = [] from h]
    rfl
  | [d], vs, h => by
    obtain ⟨x, r, e, h1, h2⟩ := h
    rw [show r = [] from h2] at e
    subst e
    rfl
  | d :: d2 :: ds, vs, h => by
    obtain ⟨x, r, e, h1, h2⟩ := h
    obtain ⟨x2, r2, e2, _, _⟩ := id h2
    subst e2
    subst e
    exact ⟨x, _, rfl, h1, Reps.dropLast h2⟩
/-- x.pop(), x.pop(i) of the own list in slot j -/
def tPop (K : PySem.W.Frag) (bg : Option (Addr × Addr)) (S0 : Addr → Prop) (H0 : Hp) (EX : D → Prop) (C : Calls) (j : Nat) : Option OE → TE
  | none => tBM0 K "list" rPop (tVar j)
  | some oe => tBM K "list" rPopAt (tVar j) (EvL K bg S0 H0 EX (al oe) (evEs C [oe]))
theorem pop_read {O : List Nat} {Γ : Gam} {j : Nat} {ix : Option OE} {Q : VK} (a : At K bg S0 H0 O Γ S σ H) (h : (popD C j ix Γ O).All (fun q => ∀ v S' H', At K bg S0 H0 O (Γ.set j (some (.lst q.2))) S' σ H' → Sta S H S' H' → Rep K bg S' H' q.1 v → Q v H') EX) : tPop K bg S0 H0 EX C j ix σ H Q := by
  unfold popD at h
  obtain ⟨hj, h⟩ := T.all_need h
  have hj := of_decide_eq_true hj
  cases hl : lstAt Γ j with
  | none => rw [hl] at h; exact h.elim
  | some ds =>
    rw [hl] at h
    have g0 := lstAt_some hl
    obtain ⟨p, xs, e0, np, h0, hp, rs⟩ := a.lst hj g0
    have hlen := rs.length
    cases ix with
    | none =>
      dsimp only at h
      cases hd : ds[ds.length - 1]? with
      | none => rw [hd] at h; exact h.elim
      | some d =>
        rw [hd] at h
        obtain ⟨x, hx, rx⟩ := rs.get hd
        refine ⟨_, e0, .inl ⟨rfl, xs, .inl (.inl hp)⟩, p, xs, x, rfl, rfl, hp, by rw [hlen]; exact hx, ?_⟩
        exact h x S _ (a.wr hj g0 e0 hp np h0 (.lst rs.dropLast)) (Sta.refl.wr np) (rx.write np)
    | some oe =>
      dsimp only at h
      refine ⟨_, e0, .inl ⟨rfl, xs, .inl (.inl hp)⟩, O, Γ, S, a, ?_⟩
      show ((evEs C [oe] Γ).All _ EX)
      rw [evEs, evEs]
      refine T.all_bind.mpr (T.all_imp (T.all_bind.mp h) fun k hk => ?_)
      show ∀ vs S1 H1, Wld bg S1 H1 → Ext bg S H S1 H1 → Reps K bg (Gs S1 O σ (al oe)) H1 [k] vs → rPopAt (.ref p) vs H1 Q
      intro vs S1 H1 W1 E1 r1
      obtain ⟨v, rfl, rv⟩ := r1.one
      cases k <;> first | exact hk.elim | skip
      rename_i i
      obtain ⟨c, hk⟩ := T.all_need hk
      obtain ⟨c1, c2⟩ := of_decide_eq_true c
      have rv : v = .int i := rv
      subst rv
      cases hn : ixD ds.length i with
      | none => rw [hn] at hk; exact hk.elim
      | some n =>
        rw [hn] at hk
        dsimp only at hk
        cases hd : ds[n]? with
        | none => rw [hd] at hk; exact hk.elim
        | some d =>
          rw [hd] at hk
          have a1 := a.later E1 W1
          obtain ⟨p1, xs1, e1, np1, h01, hp1, rs1⟩ := a1.lst hj g0
          rw [e0] at e1
          cases e1
          obtain ⟨x, hx, rx⟩ := rs1.get hd
          refine ⟨p, xs1, i, n, x, rfl, rfl, hp1, by omega, by omega, ?_, hx, ?_⟩
          · rw [rs1.length]
            exact (ixN_seq (ixD_N hn)).1
          · exact hk x S1 _ (a1.wr hj g0 e0 hp1 np1 h01 (.lst (rs1.erase n))) ((E1.sta a.wld).wr np1) (rx.write np1)
theorem s_pop {st : Stmt} {i j : Nat} {ix : Option OE} (h : PS X st (tAsg (tPop X.K bg S0 H0 EX C j ix) (gName i))) : PS X st (ExS X.K bg S0 H0 EX (wrS (.pop i j ix)) (exS C (.pop i j ix))) :=
  ps_weak h fun Dn σ H ⟨O, Γ, S, a, q⟩ => by
    rw [exS] at q
    obtain ⟨c, q⟩ := T.all_need q
    obtain ⟨ci, cij⟩ := of_decide_eq_true c
    refine pop_read a (T.all_imp (T.all_bind.mp q) fun r hr v S1 H1 a1 s1 rv => ?_)
    exact hr _ S1 H1 (a1.put i rv) s1 (.set (by simp [wrS]))
theorem s_popA {st : Stmt} {i j : Nat} {ix : Option OE} (h : PS X st (tDrop (tBM X.K "list" rAppend (tVar i) (tCons (tPop X.K bg S0 H0 EX C j ix) tNil)))) : PS X st (ExS X.K bg S0 H0 EX (wrS (.popA i j ix)) (exS C (.popA i j ix))) :=
  ps_weak h fun Dn σ H ⟨O, Γ, S, a, q⟩ => by
    rw [exS] at q
    obtain ⟨c, q⟩ := T.all_need q
    obtain ⟨hi, cij⟩ := of_decide_eq_true c
    cases hl : lstAt Γ i with
    | none => rw [hl] at q; exact q.elim
    | some ys =>
      rw [hl] at q
      obtain ⟨c, q⟩ := T.all_need q
      have c := of_decide_eq_true c
      have g0 := lstAt_some hl
      obtain ⟨p, xs0, e0, np0, h00, hp0, rr0⟩ := a.lst hi g0
      refine ⟨_, e0, .inl ⟨rfl, xs0, .inl (.inl hp0)⟩, ?_⟩
      refine pop_read a (T.all_imp (T.all_bind.mp q) fun r hr v S1 H1 a1 s1 rv => ?_)
      have g1 : (Γ.set j (some (.lst r.2)))[i]? = some (some (.lst ys)) := by rw [List.getElem?_set_ne (fun z => cij z.symm)]; exact g0
      obtain ⟨p1, xs1, e1, np1, h01, hp1, rr1⟩ := a1.lst hi g1
      rw [e0] at e1; cases e1
      refine ⟨p, xs1, v, rfl, rfl, hp1, by rw [rr1.length, ← lineM]; exact c, ?_⟩
      exact hr σ S1 _ (a1.wr hi g1 e0 hp1 np1 h01 (.lst (rr1.append ⟨v, [], rfl, rv, rfl⟩))) (s1.wr np1) .refl
theorem s_popC {st : Stmt} {i j : Nat} {ot : OT} {oe : OE} (h : PS X st (tAsg (tIf (EvB X.K bg S0 H0 EX (evT C ot)) (tPop X.K bg S0 H0 EX C j none) (EvD X.K bg S0 H0 EX (al oe) (evE C oe))) (gName i))) : PS X st (ExS X.K bg S0 H0 EX (wrS (.popC i ot j oe)) (exS C (.popC i ot j oe))) :=
  ps_weak h fun Dn σ H ⟨O, Γ, S, a, q⟩ => by
    rw [exS] at q
    obtain ⟨c, q⟩ := T.all_need q
    obtain ⟨ci, cij⟩ := of_decide_eq_true c
    refine ⟨O, Γ, S, a, T.all_imp (T.all_bind.mp q) fun b hb S1 H1 W1 E1 => ?_⟩
    have a1 := a.later E1 W1
    cases b with
    | true =>
      refine iteT (pop_read a1 (T.all_imp (T.all_bind.mp hb) fun r hr v S2 H2 a2 s2 rv => ?_))
      exact hr _ S2 H2 (a2.put i rv) ((E1.sta a.wld).trans s2) (.set (by simp [wrS]))
    | false =>
      refine iteF ⟨O, Γ, S1, a1, T.all_imp (T.all_bind.mp hb) fun d hd v S2 H2 W2 E2 rv => ?_⟩
      have a2 := a1.later E2 W2
      obtain ⟨S3, a3, s3, k3⟩ := keep_at a2 (al oe) (isFlat d)
      exact hd _ S3 H2 (a3.put i (k3 d v (fun z => z) rv)) (((E1.sta a.wld).trans (E2.sta a1.wld)).trans s3) (.set (by simp [wrS]))
end
end Dy

set_option linter.all false
set_option maxRecDepth 10000
set_option autoImplicit false
/-! Dy, part 13: blocks, tests, loops, returns. -/
namespace Dy
open PySem PySem.Spec PyProof.Rows L2
section
variable {X : Cx} {bg : Option (Addr × Addr)} {S0 S S1 S' : Addr → Prop} {H0 H H1 H' : Hp} {EX : D → Prop} {A : List Nat} {C : Calls} {K : PySem.W.Frag} {w w' : List Nat} {σ : L2.St}
theorem s_pass {st : Stmt} (h : PS X st tNext) : PS X st (ExS X.K bg S0 H0 EX (wrS .pass) (exS C .pass)) :=
  ps_weak h fun Dn σ H ⟨O, Γ, S, a, q⟩ => by
    rw [exS] at q
    exact q σ S H a .refl .refl
theorem s_brk {st : Stmt} (h : PS X st tBreak) : PS X st (ExS X.K bg S0 H0 EX (wrS .brk) (exS C .brk)) :=
  ps_weak h fun Dn σ H ⟨O, Γ, S, a, q⟩ => by
    rw [exS] at q
    exact q σ S H a .refl .refl
theorem s_cont {st : Stmt} (h : PS X st tCont) : PS X st (ExS X.K bg S0 H0 EX (wrS .cont) (exS C .cont)) :=
  ps_weak h fun Dn σ H ⟨O, Γ, S, a, q⟩ => by
    rw [exS] at q
    exact q σ S H a .refl .refl
theorem s_retN {st : Stmt} (h : PS X st tRetN) : PS X st (ExS X.K bg S0 H0 EX (wrS .retN) (exS C .retN)) :=
  ps_weak h fun Dn σ H ⟨O, Γ, S, a, q⟩ => by
    rw [exS] at q
    exact q .non σ S H a .refl .refl rfl
/-- a value handed back -/
theorem ret_ok {O : List Nat} {Γ : Gam} {σ : L2.St} (a : At K bg S0 H0 O Γ S σ H) (A : List Nat) (W1 : Wld bg S1 H1) (E1 : Ext bg S H S1 H1) {r : D × Bool} {v : V} (rv : ResN K bg (Gs S1 O σ A) H H1 r v) {Dn : Ends} (q : Post K bg S0 H0 w S σ H Dn (.rt r Γ (keepO A (isFlat r.1) O))) : Dn.rt v H1 := by
  have a1 := a.later E1 W1
  obtain ⟨d, fr⟩ := r
  cases fr with
  | false =>
    obtain ⟨S2, a2, s2, k2⟩ := keep_at a1 A (isFlat d)
    exact q v σ S2 H1 a2 ((E1.sta a.wld).trans s2) .refl (k2 d v (fun z => z) rv)
  | true =>
    obtain ⟨p, o, ev, np, hp0, hp, rr⟩ := rv
    have hf : isFlat d = false := ObjR.unflat rr
    rw [show keepO A (isFlat (d, true).1) O = keepO A false O from by show keepO A (isFlat d) O = _; rw [hf]] at q
    exact q v σ _ H1 (a1.freeze A) (St1 (E1.sta a.wld) fun _ h => .inl h) .refl ⟨p, o, ev, np, a.ext.unborn hp0, hp, rr⟩
theorem s_ret {st : Stmt} {oe : OE} (hv : ∀ i, oe ≠ .var i) (h : PS X st (tRet (EvN X.K bg S0 H0 EX (al oe) (evX C oe)))) : PS X st (ExS X.K bg S0 H0 EX (wrS (.ret oe)) (exS C (.ret oe))) :=
  ps_weak h fun Dn σ H ⟨O, Γ, S, a, q⟩ => by
    rw [exS] at q
    · exact ⟨O, Γ, S, a, T.all_imp (T.all_bind.mp q) fun r hr v S1 H1 W1 E1 rv => ret_ok a (al oe) W1 E1 rv hr⟩
    · exact fun i z => hv i z
theorem s_retV {st : Stmt} {i : Nat} (h : PS X st (tRet (tVar i))) (h2 : PS X st (tRet (EvD X.K bg S0 H0 EX [i] (evE C (.var i))))) : PS X st (ExS X.K bg S0 H0 EX (wrS (.ret (.var i))) (exS C (.ret (.var i)))) :=
  ⟨fun pins s σ H Dn I ⟨O, Γ, S, a, q⟩ => by
    rw [exS] at q
    by_cases hi : i ∈ O
    · rw [if_pos hi] at q
      obtain ⟨d, v, g, e, own⟩ := a.abs.own i hi
      rw [g] at q
      refine h.run pins s σ H Dn I ⟨v, e, ?_⟩
      exact q v σ S H a .refl .refl own
    · rw [if_neg hi] at q
      refine h2.run pins s σ H Dn I ⟨O, Γ, S, a, T.all_imp (T.all_bind.mp q) fun d hd v S1 H1 W1 E1 rv => ?_⟩
      exact ret_ok (r := (d, false)) a [i] W1 E1 rv hd⟩
theorem s_if {c : Expr} {x y : List Stmt} {pos : Pos} {ot : OT} {oa ob : List OS} (hc : PT X c (EvB X.K bg S0 H0 EX (evT C ot))) (ha : PSs X x (ExS X.K bg S0 H0 EX (wrSs oa) (exSs C oa))) (hb : PSs X y (ExS X.K bg S0 H0 EX (wrSs ob) (exSs C ob))) :
    PS X (.If c x y pos) (ExS X.K bg S0 H0 EX (wrS (.if_ ot oa ob)) (exS C (.if_ ot oa ob))) :=
  ps_weak (ps_if hc ha hb) fun Dn σ H ⟨O, Γ, S, a, q⟩ => by
    rw [exS] at q
    refine ⟨O, Γ, S, a, T.all_imp (T.all_bind.mp q) fun b hb S1 H1 W1 E1 => ?_⟩
    have a1 := a.later E1 W1
    cases b with
    | true => exact iteT ⟨O, Γ, S1, a1, T.all_imp hb fun f hf => hf.later (E1.sta a.wld) .refl fun i h => by unfold wrS; exact List.mem_append_left _ h⟩
    | false => exact iteF ⟨O, Γ, S1, a1, T.all_imp hb fun f hf => hf.later (E1.sta a.wld) .refl fun i h => by unfold wrS; exact List.mem_append_right _ h⟩
theorem ss_nil : PSs X [] (ExS X.K bg S0 H0 EX (wrSs []) (exSs C [])) :=
  pss_weak pss_nil fun Dn σ H ⟨O, Γ, S, a, q⟩ => by
    rw [exSs] at q
    exact q σ S H a .refl .refl
theorem ss_cons {st : Stmt} {rest : List Stmt} {o : OS} {os : List OS} (h1 : PS X st (ExS X.K bg S0 H0 EX (wrS o) (exS C o))) (h2 : PSs X rest (ExS X.K bg S0 H0 EX (wrSs os) (exSs C os))) : PSs X (st :: rest) (ExS X.K bg S0 H0 EX (wrSs (o :: os)) (exSs C (o :: os))) :=
  pss_weak (pss_cons h1 h2) fun Dn σ H ⟨O, Γ, S, a, q⟩ => by
    rw [exSs] at q
    have sl : ∀ i, i ∈ wrS o → i ∈ wrSs (o :: os) := fun i h => by unfold wrSs; exact List.mem_append_left _ h
    have sr : ∀ i, i ∈ wrSs os → i ∈ wrSs (o :: os) := fun i h => by unfold wrSs; exact List.mem_append_right _ h
    refine ⟨O, Γ, S, a, T.all_imp (T.all_bind.mp q) fun f hf => ?_⟩
    cases f with
    | nx Γ' O' => exact fun σ' S' H' a' s' u => ⟨O', Γ', S', a', T.all_imp hf fun f hf => hf.later s' (u.mono sl) sr⟩
    | bk Γ' O' => exact Post.later (f := .bk Γ' O') .refl .refl sl hf
    | ct Γ' O' => exact Post.later (f := .ct Γ' O') .refl .refl sl hf
    | rt r Γ' O' => exact Post.later (f := .rt r Γ' O') .refl .refl sl hf
/-- a loop's body, seen from its turn -/
theorem turn_post {Dn : Ends} {N : L2.St → Hp → Prop} {f : Fl} {m : Gam → List Nat → T Fl} {S3 : Addr → Prop} {H3 : Hp} {σ3 : L2.St} (s : Sta S H S3 H3) (g : Agr w σ σ3) (sub : ∀ i, i ∈ w' → i ∈ w)
    (hN : ∀ σ' S' H' Γ O, At K bg S0 H0 O Γ S' σ' H' → Sta S3 H3 S' H' → Agr w σ3 σ' → (m Γ O).All (Post K bg S0 H0 w S σ H Dn) EX → N σ' H')
    (h : (match f with | .nx Γ2 O2 => m Γ2 O2 | .ct Γ2 O2 => m Γ2 O2 | .bk Γ2 O2 => .ret (.nx Γ2 O2) | .rt r Γ2 O2 => .ret (.rt r Γ2 O2) : T Fl).All (Post K bg S0 H0 w S σ H Dn) EX) : Post K bg S0 H0 w' S3 σ3 H3 { Dn with nx := N, ct := N, bk := Dn.nx } f := by
  cases f with
  | nx Γ O => exact fun σ' S' H' a t u => hN σ' S' H' Γ O a t (u.mono sub) h
  | ct Γ O => exact fun σ' S' H' a t u => hN σ' S' H' Γ O a t (u.mono sub) h
  | bk Γ O => exact fun σ' S' H' a t u => h σ' S' H' a (s.trans t) (g.trans (u.mono sub))
  | rt r Γ O => exact fun v σ' S' H' a t u => h v σ' S' H' a (s.trans t) (g.trans (u.mono sub))
theorem s_for {tg iter : Expr} {body : List Stmt} {pos : Pos} {t : Tg} {oi : OI} {ob : List OS} (hp : PassesOwn (model X.prog X.w) X.A X.env X.xe) (hc : X.calm = true) (hi : PI X tg iter (EvI X.K bg S0 H0 EX (alI oi) (evI C oi))) (hg : PG X tg (gOf X.K t)) (hb : PSs X body (ExS X.K bg S0 H0 EX (wrSs ob) (exSs C ob)))
    (hs : ∀ x, foldedSetIterable iter X.env x = pure x) : PS X (.For tg iter body [] pos) (ExS X.K bg S0 H0 EX (wrS (.for_ t oi ob)) (exS C (.for_ t oi ob))) :=
  ps_weak (ps_for hp hc hi hg hb hs) fun Dn σ H ⟨O, Γ, S, a, q⟩ => by
    rw [exS] at q
    refine ⟨O, Γ, S, a, T.all_imp (T.all_bind.mp q) fun ds hds J S1 H1 W1 E1 it hlen => ?_⟩
    have a1 := a.later E1 W1
    have af := a1.freeze (alI oi)
    have sf : Sta S H (Gs S1 O σ (alI oi)) H1 := St1 (E1.sta a.wld) fun _ h => .inl h
    refine ⟨fun i m σ' H' => m = ds.length - i ∧ i ≤ ds.length ∧ ∃ O' Γ' S', At X.K bg S0 H0 O' Γ' S' σ' H' ∧ Agr (wrS (.for_ t oi ob)) σ σ' ∧ Sta (Gs S1 O σ (alI oi)) H1 S' H' ∧ (forL (exSs C ob) t (ds.drop i) Γ' O').All (Post X.K bg S0 H0 (wrS (.for_ t oi ob)) S σ H Dn) EX,
      ⟨ds.length, by simp, Nat.zero_le _, _, Γ, _, af, .refl, .refl, hds⟩, ?_⟩
    rintro i m σ2 H2 ⟨rfl, hi, O2, Γ2, S2, a2, g2, s2, q2⟩
    obtain ⟨it1, it2⟩ := it i S2 H2 a2.wld s2
    by_cases hlt : i < ds.length
    · obtain ⟨d, hd⟩ : ∃ d, ds[i]? = some d := ⟨ds[i], List.getElem?_eq_getElem hlt⟩
      have e_drop : ds.drop i = d :: ds.drop (i + 1) := by
        rw [List.drop_eq_getElem_cons hlt]
        rw [List.getElem?_eq_getElem hlt] at hd
        cases hd
        rfl
      obtain ⟨go, yl⟩ := it2 d hd
      refine .inr ⟨go, fun σ' H' => ∃ O' Γ' S', At X.K bg S0 H0 O' Γ' S' σ' H' ∧ Agr (wrS (.for_ t oi ob)) σ σ' ∧ Sta (Gs S1 O σ (alI oi)) H1 S' H' ∧ (forL (exSs C ob) t (ds.drop (i + 1)) Γ' O').All (Post X.K bg S0 H0 (wrS (.for_ t oi ob)) S σ H Dn) EX,
        fun σ' H' z => ⟨ds.length - (i + 1), by omega, rfl, hlt, z⟩, fun x H3 hy => ?_⟩
      obtain ⟨S3, W3, E3, r3⟩ := yl x H3 hy
      rw [e_drop] at q2
      unfold forL at q2
      have q2 := T.all_bind.mp q2
      obtain ⟨Γ', eΓ, q2⟩ := T.all_ofOpt q2
      have q2 := T.all_bind.mp q2
      have s3 : Sta (Gs S1 O σ (alI oi)) H1 S3 H3 := s2.trans (E3.sta a2.wld)
      refine gOf_ok t d x _ _ Γ' _ _ (a2.later E3 W3) r3 eΓ fun σ4 a4 u4 => ⟨_, Γ', S3, a4, T.all_imp q2 fun f hf => ?_⟩
      have g4 : Agr (wrS (.for_ t oi ob)) σ σ4 := g2.trans (Agr.mono (.wipe (u4 (tgs t) fun _ h => h)) fun i h => by unfold wrS; exact List.mem_append_left _ h)
      exact turn_post (m := fun Γ O => forL (exSs C ob) t (ds.drop (i + 1)) Γ O) (sf.trans s3) g4 (fun i h => by unfold wrS; exact List.mem_append_right _ h) (fun σ' S' H' Γ O a' s' u h => ⟨O, Γ, S', a', g4.trans u, s3.trans s', h⟩) (by cases f <;> exact hf)
    · have ei : i = ds.length := by omega
      subst ei
      refine .inl ⟨it1 (Nat.le_refl _), ?_⟩
      rw [List.drop_length] at q2
      unfold forL at q2
      exact q2 σ2 S2 H2 a2 (sf.trans s2) g2
theorem s_while {c : Expr} {body : List Stmt} {pos : Pos} {ot : OT} {ob : List OS} {n : Nat} (hp : PassesOwn (model X.prog X.w) X.A X.env X.xe) (hc : PT X c (EvB X.K bg S0 H0 EX (evT C ot))) (hb : PSs X body (ExS X.K bg S0 H0 EX (wrSs ob) (exSs C ob))) :
    PS X (.While c body [] pos) (ExS X.K bg S0 H0 EX (wrS (.while_ n ot ob)) (exS C (.while_ n ot ob))) :=
  ps_weak (ps_while hp hc hb) fun Dn σ H ⟨O, Γ, S, a, q⟩ => by
    rw [exS] at q
    refine ⟨fun m σ' H' => ∃ O' Γ' S', At X.K bg S0 H0 O' Γ' S' σ' H' ∧ Agr (wrS (.while_ n ot ob)) σ σ' ∧ Sta S H S' H' ∧ (whL (evT C ot) (exSs C ob) m Γ' O').All (Post X.K bg S0 H0 (wrS (.while_ n ot ob)) S σ H Dn) EX, ⟨n, O, Γ, S, a, .refl, .refl, q⟩, ?_⟩
    rintro m σ2 H2 ⟨O2, Γ2, S2, a2, g2, s2, q2⟩
    cases m with
    | zero => exact q2.elim
    | succ m =>
      unfold whL at q2
      refine ⟨O2, Γ2, S2, a2, T.all_imp (T.all_bind.mp q2) fun b hb S3 H3 W3 E3 => ?_⟩
      have s3 := s2.trans (E3.sta a2.wld)
      cases b with
      | false => exact iteF (hb σ2 S3 H3 (a2.later E3 W3) s3 g2)
      | true =>
        refine iteT ⟨fun σ' H' => ∃ O' Γ' S', At X.K bg S0 H0 O' Γ' S' σ' H' ∧ Agr (wrS (.while_ n ot ob)) σ σ' ∧ Sta S H S' H' ∧ (whL (evT C ot) (exSs C ob) m Γ' O').All (Post X.K bg S0 H0 (wrS (.while_ n ot ob)) S σ H Dn) EX, fun σ' H' z => ⟨m, Nat.lt_succ_self m, z⟩, ?_⟩
        refine ⟨O2, Γ2, S3, a2.later E3 W3, T.all_imp (T.all_bind.mp hb) fun f hf => ?_⟩
        exact turn_post (m := fun Γ O => whL (evT C ot) (exSs C ob) m Γ O) s3 g2 (fun i h => by unfold wrS; exact h) (fun σ' S' H' Γ O a' s' u h => ⟨O, Γ, S', a', g2.trans u, s3.trans s', h⟩) (by cases f <;> exact hf)
end
end Dy

set_option linter.all false
set_option maxRecDepth 10000
set_option autoImplicit false
/-! Dy, part 14: a text's statements and their data. -/
namespace Dy
open PySem PySem.Spec PyProof.Rows L2

def isCompE : Expr → Bool
  | .ListComp _ _ _ _ => true | .SetComp _ _ _ _ => true | .DictComp _ _ _ _ _ => true
  | _ => false
def isTupE : Expr → Bool
  | .Tuple _ _ _ => true
  | _ => false
def isLcE : Expr → Bool
  | .ListComp _ _ _ _ => true | .DictComp _ _ _ _ _ => true
  | _ => false
/-- a pair's names: stored from the right? -/
def parOk (sc : Scope) (x y : Str) (px py : Pos) : Bool := (sc.names.lookup x == some .local) && (sc.names.lookup y == some .local) && px.line == py.line && !(x == y)
def par3Ok (sc : Scope) (x y z : Str) (px py pz : Pos) : Bool := (sc.names.lookup x == some .local) && (sc.names.lookup y == some .local) && (sc.names.lookup z == some .local) && px.line == py.line && px.line == pz.line && !(x == y) && !(x == z) && !(y == z)
/-- y.pop(), y.pop(e) -/
def popE (c : Cf) (sc : Scope) : Expr → Option (Nat × Option Expr)
  | .Call (.Attribute (.Name y _) m ap) es [] cp => if m = "pop" ∧ (okName y && seen sc y && (ap.endLine == cp.line)) = true then (match c.N.idxOf? y with
    | some j => (match es with
      | [] => some (j, none)
      | [a] => if isStar a then none else some (j, some a)
      | _ => none)
    | none => none) else none
  | _ => none
/-- x = e -/
def stripA (c : Cf) (sc : Scope) (n : Nat) (i : Nat) (e : Expr) : OS := match popE c sc e with
  | some (j, ix) => .pop i j (ix.map (stripE c n sc))
  | none => (match e with
    | .IfExp t a b _ => (match popE c sc a with
      | some (j, none) => .popC i (stripT c n sc t) j (stripE c n sc b)
      | _ => .set i (stripE c n sc e))
    | e => .set i (stripE c n sc e))
mutual
def stripS (c : Cf) (sc : Scope) : Nat → Stmt → OS
  | 0, _ => .bad
  | n + 1, s => match s with
    | .Pass _ => .pass
    | .Break _ => .brk
    | .Continue _ => .cont
    | .Expr (.Constant (.str _) _ _) _ => .pass
    | .Expr (.Call (.Attribute (.Name x px) m ap) [a] [] cp) _ => if m = "append" ∧ (okName x && seen sc x && !isStar a && ap.endLine == cp.line) = true then (match c.N.idxOf? x with | some i => (match popE c sc a with | some (j, ix) => .popA i j (ix.map (stripE c n sc)) | none => .app i (stripE c n sc a)) | none => .bad) else .bad
    | .Expr e _ => if isCompE e then .bad else .expr (stripE c n sc e)
    | .Return (some e) _ => .ret (stripE c n sc e)
    | .Return none _ => .retN
    | .If t a b _ => .if_ (stripT c n sc t) (stripSs c sc n a) (stripSs c sc n b)
    | .For tg it b [] _ => if isSetE it then .bad else (match stripG c sc n tg with | some t => .for_ t (stripI c n sc tg it) (stripSs c sc n b) | none => .bad)
    | .While t b [] _ => .while_ 1000000 (stripT c n sc t) (stripSs c sc n b)
    | .Assign [.Name x px] e _ => if isLoc sc x then (match c.N.idxOf? x with
      | some i => if isCompE e && !isLcE e then .bad else stripA c sc n i e
      | none => .bad) else .bad
    | .Assign [.Tuple [.Name x px, .Name y py] _ _] (.Tuple [a, b] _ _) _ => if (parOk sc x y px py && !([a, b].any isStar) && !([a, b].all (foldedForSure 8)) && !([a, b].all (constantsAlone 8))) = true then
        (match c.N.idxOf? x, c.N.idxOf? y with | some i, some j => .par2 i j (stripE c n sc a) (stripE c n sc b) | _, _ => .bad) else .bad
    | .Assign [.Tuple [.Name x px, .Name y py, .Name z pz] _ _] (.Tuple [a, b, d] _ _) _ => if (par3Ok sc x y z px py pz && !([a, b, d].any isStar) && !([a, b, d].all (foldedForSure 8)) && !([a, b, d].all (constantsAlone 8))) = true then
        (match c.N.idxOf? x, c.N.idxOf? y, c.N.idxOf? z with | some i, some j, some l => .par3 i j l (stripE c n sc a) (stripE c n sc b) (stripE c n sc d) | _, _, _ => .bad) else .bad
    | .Assign [.Subscript (.Name x px) ix _] e _ => if (okName x && seen sc x && !isSliceE ix) = true then (match c.N.idxOf? x with | some i => .put i (stripE c n sc ix) (stripE c n sc e) | none => .bad) else .bad
    | .Assign [.Attribute (.Name x px) f _] e _ => if (okName x && seen sc x) = true then (match c.N.idxOf? x, c.g.flds.lookup f with | some i, some cs => .fset i f cs (stripE c n sc e) | _, _ => .bad) else .bad
    | .Assign [.Tuple ts k p] e _ => if isTupE e || isCompE e then .bad else (match stripG c sc n (.Tuple ts k p) with | some t => .seti t (stripE c n sc e) | none => .bad)
    | _ => .bad
def stripSs (c : Cf) (sc : Scope) : Nat → List Stmt → List OS
  | _, [] => []
  | 0, _ :: _ => [.bad]
  | n + 1, s :: r => stripS c sc n s :: stripSs c sc n r
end
def newE : OE → Bool
  | .lst _ => true
  | .lc _ _ _ _ _ => true
  | .call _ _ _ _ _ => true
  | .bcall b _ => (newL b).isSome
  | .mcall _ _ _ _ _ => true
  | .dnew _ => true
  | .lc2 _ _ _ _ _ _ _ _ => true
  | .dc _ _ _ _ _ _ _ => true
  | .dc2 _ _ _ _ _ _ _ _ _ _ => true
  | _ => false
theorem evX_old {C : Calls} {o : OE} (h : newE o = false) (Γ : Gam) : evX C o Γ = (evE C o Γ).bind fun d => .ret (d, false) := by
  cases o <;> first | rfl | (cases h; done) | skip
  rename_i b args
  cases hb : newL b with
  | some L =>
    have h : (newL b).isSome = false := h
    rw [hb] at h
    cases h
  | none => rw [evX, hb]
theorem new_of {c : Cf} {n : Nat} {sc : Scope} {e : Expr} (h : newE (stripE c n sc e) = true) : (∃ es p, e = .List es p) ∨ (∃ elt tg it ifs sc2 p, e = .ListComp elt [⟨tg, it, ifs, 0⟩] sc2 p) ∨ (∃ f p es kws pos, e = .Call (.Name f p) es kws pos) ∨ (∃ o m ap es kws pos, e = .Call (.Attribute o m ap) es kws pos) ∨ (∃ pos, e = .Dict [] [] pos) ∨ (∃ elt tg it ifs tg1 it1 ifs1 sc2 p, e = .ListComp elt [⟨tg, it, ifs, 0⟩, ⟨tg1, it1, ifs1, 0⟩] sc2 p) ∨ (∃ kx vx tg it ifs sc2 p, e = .DictComp kx vx [⟨tg, it, ifs, 0⟩] sc2 p) ∨ ∃ kx vx tg it ifs tg1 it1 ifs1 sc2 p, e = .DictComp kx vx [⟨tg, it, ifs, 0⟩, ⟨tg1, it1, ifs1, 0⟩] sc2 p := by
  cases n with
  | zero => cases h
  | succ n =>
    cases e with
    | List es p => exact .inl ⟨_, _, rfl⟩
    | ListComp elt gs sc2 p =>
      unfold stripE at h
      split at h <;> first | (rename_i z; cases z; done) | skip
      · rename_i z
        cases z
        exact .inr (.inl ⟨_, _, _, _, _, _, rfl⟩)
      · rename_i z
        cases z
        exact .inr (.inr (.inr (.inr (.inr (.inl ⟨_, _, _, _, _, _, _, _, _, rfl⟩)))))
      · cases h
    | DictComp kx vx gs sc2 p =>
      unfold stripE at h
      split at h <;> first | (rename_i z; cases z; done) | skip
      · rename_i z
        cases z
        exact .inr (.inr (.inr (.inr (.inr (.inr (.inl ⟨_, _, _, _, _, _, _, rfl⟩))))))
      · rename_i z
        cases z
        exact .inr (.inr (.inr (.inr (.inr (.inr (.inr ⟨_, _, _, _, _, _, _, _, _, _, rfl⟩))))))
      · cases h
    | Call f es kws p =>
      cases f with
      | Name f q => exact .inr (.inr (.inl ⟨_, _, _, _, _, rfl⟩))
      | Attribute o m ap => exact .inr (.inr (.inr (.inl ⟨_, _, _, _, _, _, rfl⟩)))
      | _ => cases h
    | Dict ks vs p =>
      cases ks with
      | nil => cases vs with
        | nil => exact .inr (.inr (.inr (.inr (.inl ⟨_, rfl⟩))))
        | cons _ _ => cases h
      | cons _ _ => cases h
    | Constant v kk p =>
      exfalso
      unfold stripE at h
      dsimp only at h
      unfold constD at h
      split at h <;> first | (cases h; done) | (split at h <;> cases h)
    | Name x p =>
      exfalso
      unfold stripE at h
      dsimp only at h
      repeat' (first | contradiction | (cases h; done) | split at h)
    | _ =>
      exfalso
      unfold stripE at h
      repeat' (first | contradiction | (cases h; done) | split at h)
end Dy

set_option linter.all false
set_option maxRecDepth 10000
set_option autoImplicit false
/-! Dy, part 15: every statement that has an own form does what its data says. -/
namespace Dy
open PySem PySem.Spec PyProof.Rows L2
section
variable {c : Cf} {C : Calls} {k : Nat} {sc : Scope} {X : Cx} {bg : Option (Addr × Addr)} {S0 : Addr → Prop} {H0 : Hp} {EX : D → Prop}
theorem stripE_lc {n : Nat} {elt tg it : Expr} {ifs : List Expr} {sc2 : Scope} {p : Pos} : stripE c (n + 1) sc (.ListComp elt [⟨tg, it, ifs, 0⟩] sc2 p) = (if blkC c.N sc sc2 (ownOf c.N sc2) then (match stripG c sc2 n tg with
      | some t => .lc (stripE c n (relS sc2 sc) elt) ((ownOf c.N sc2).map (·.2)) t (stripI c n sc tg it) (ifs.map (stripT c n (relS sc2 sc)))
      | none => .bad) else .bad) := rfl
theorem stripE_lc2 {n : Nat} {elt tg it tg1 it1 : Expr} {ifs ifs1 : List Expr} {sc2 : Scope} {p : Pos} : stripE c (n + 1) sc (.ListComp elt [⟨tg, it, ifs, 0⟩, ⟨tg1, it1, ifs1, 0⟩] sc2 p) = (if blkC c.N sc sc2 (ownOf c.N sc2) && (!isSetE it && !isSetE it1) then (match stripG c sc2 n tg, stripG c sc2 n tg1 with
      | some t, some t1 => .lc2 (stripE c n (relS sc2 sc) elt) ((ownOf c.N sc2).map (·.2)) t (stripI c n sc tg it) (ifs.map (stripT c n (relS sc2 sc))) t1 (stripI c n (relS sc2 sc) tg1 it1) (ifs1.map (stripT c n (relS sc2 sc)))
      | _, _ => .bad) else .bad) := rfl
theorem stripE_dc {n : Nat} {kx vx tg it : Expr} {ifs : List Expr} {sc2 : Scope} {p : Pos} : stripE c (n + 1) sc (.DictComp kx vx [⟨tg, it, ifs, 0⟩] sc2 p) = (if blkC c.N sc sc2 (ownOf c.N sc2) && !isSetE it then (match stripG c sc2 n tg with
      | some t => .dc (c.g.tdl.contains p.line) (stripE c n (relS sc2 sc) kx) (stripE c n (relS sc2 sc) vx) ((ownOf c.N sc2).map (·.2)) t (stripI c n sc tg it) (ifs.map (stripT c n (relS sc2 sc)))
      | none => .bad) else .bad) := rfl
theorem stripE_dc2 {n : Nat} {kx vx tg it tg1 it1 : Expr} {ifs ifs1 : List Expr} {sc2 : Scope} {p : Pos} : stripE c (n + 1) sc (.DictComp kx vx [⟨tg, it, ifs, 0⟩, ⟨tg1, it1, ifs1, 0⟩] sc2 p) = (if blkC c.N sc sc2 (ownOf c.N sc2) && (!isSetE it && !isSetE it1) then (match stripG c sc2 n tg, stripG c sc2 n tg1 with
      | some t, some t1 => .dc2 (c.g.tdl.contains p.line) (stripE c n (relS sc2 sc) kx) (stripE c n (relS sc2 sc) vx) ((ownOf c.N sc2).map (·.2)) t (stripI c n sc tg it) (ifs.map (stripT c n (relS sc2 sc))) t1 (stripI c n (relS sc2 sc) tg1 it1) (ifs1.map (stripT c n (relS sc2 sc)))
      | _, _ => .bad) else .bad) := rfl
/-- a comprehension of a new form, as a value and stored in a name: m is what it comes to -/
structure CmpX (X : Cx) (bg : Option (Addr × Addr)) (S0 : Addr → Prop) (H0 : Hp) (EX : D → Prop) (A : List Nat) (e : Expr) (m : Gam → T (D × Bool)) : Prop where
  val : PE X e (EvN X.K bg S0 H0 EX A m)
  asg : ∀ {i : Nat} {y : Str} {py spos : Pos}, X.N.Nodup → X.N[i]? = some y → X.env.scope.names.lookup y = some .local → swapsWith e (some (.Name y py)) spos.line X.env = pure true → PS X (.Assign [.Name y py] e spos) (tAsg (EvN X.K bg S0 H0 EX A m) (gName i))
theorem CmpX.of {β : Type} {A : List Nat} {e iter : Expr} {scope : Scope} {own : List (Str × Nat)} {oi : OI} {t : Tg} {ot : List OT} {F : Gam → β → T β} {init : β} {Ac : Addr → (Addr → Prop) → Hp → β → HO → Prop} {mk : Sem Value} {pos' : Pos} {dat : β → D} (hA : ∀ D' S H acc o, Ac D' S H acc o → ObjR X.K bg S H (dat acc) o)
    (R : CompR X bg S0 H0 EX A C e scope own oi t ot F init Ac mk pos' iter) (hev : eval e X.env = comprehension e scope X.env pos' mk false (eval iter X.env))
    (hev2 : ∀ (y : Str) (py : Pos), evalThenUse e X.env (assign (.Name y py) X.env) = (do let _ ← comprehension e scope X.env pos' mk false (eval iter X.env) (some (assign (.Name y py) X.env)))) :
    CmpX X bg S0 H0 EX A e fun Γ => ((evI C oi Γ).bind fun ds => ((foldT (clF C t ot (wipeG Γ (own.map (·.2))) F) init ds).still).bind fun acc => .ret (dat acc)).bind fun d => .ret (d, true) := by
  have eq : (fun Γ => ((evI C oi Γ).bind fun ds => (foldT (clF C t ot (wipeG Γ (own.map (·.2))) F) init ds).still).bind fun acc => T.ret (dat acc, true)) = fun Γ => ((evI C oi Γ).bind fun ds => ((foldT (clF C t ot (wipeG Γ (own.map (·.2))) F) init ds).still).bind fun acc => .ret (dat acc)).bind fun d => .ret (d, true) := by
    funext Γ
    rw [T.bind_assoc, T.bind_assoc]
    congr 1
    funext ds
    rw [T.bind_assoc]
    rfl
  refine ⟨pe_weak (kc_val R hev) fun σ H Q q => evA_N hA (by rw [eq]; exact q), fun {i y py spos} hN hy hl hsw => ?_⟩
  refine ps_weak (kc_name R hN hy hl hsw (hev2 y py)) fun Dn σ H q => ?_
  refine evA_N hA ?_
  rw [eq]
  exact q
theorem cx_new (I : ∀ n, Snd c C k n) (G : Good c C k sc X) (P : Passes (L2.CX X.prog X.w) X (eX X.K bg S0 H0 EX)) (n : Nat) {e : Expr} (hn : newE (stripE c n sc e) = true)
    (h : (∃ elt tg it ifs tg1 it1 ifs1 sc2 p, e = .ListComp elt [⟨tg, it, ifs, 0⟩, ⟨tg1, it1, ifs1, 0⟩] sc2 p) ∨ (∃ kx vx tg it ifs sc2 p, e = .DictComp kx vx [⟨tg, it, ifs, 0⟩] sc2 p) ∨ ∃ kx vx tg it ifs tg1 it1 ifs1 sc2 p, e = .DictComp kx vx [⟨tg, it, ifs, 0⟩, ⟨tg1, it1, ifs1, 0⟩] sc2 p) :
    CmpX X bg S0 H0 EX (al (stripE c n sc e)) e (evX C (stripE c n sc e)) := by
  cases n with
  | zero => cases hn
  | succ n =>
    rcases h with ⟨elt, tg, it, ifs, tg1, it1, ifs1, sc2, p, rfl⟩ | ⟨kx, vx, tg, it, ifs, sc2, p, rfl⟩ | ⟨kx, vx, tg, it, ifs, tg1, it1, ifs1, sc2, p, rfl⟩
    · rw [stripE_lc2] at hn ⊢
      split at hn
      · rename_i hb
        rw [if_pos hb]
        simp only [Bool.and_eq_true, Bool.not_eq_true', Bool.not_eq_true] at hb
        split at hn
        · rename_i t t1 h1 h2
          exact CmpX.of (dat := fun xs => .lst xs) (fun _ _ _ _ _ r => r) (cr_list2 (p' := firstIterPos [⟨tg, it, ifs, 0⟩, ⟨tg1, it1, ifs1, 0⟩] p) (I n) G P _ hb.1 h1 h2 (by rw [hb.2.1]; exact Bool.false_ne_true) (by rw [hb.2.2]; exact Bool.false_ne_true) (fun i hi => by unfold al; exact List.mem_append_left _ hi) (fun i hi => by unfold al; exact List.mem_append_right _ (List.mem_append_left _ hi)) (fun i hi => by unfold al; exact List.mem_append_right _ (List.mem_append_right _ hi))) rfl (fun _ _ => rfl)
        · cases hn
      · cases hn
    · rw [stripE_dc] at hn ⊢
      split at hn
      · rename_i hb
        rw [if_pos hb]
        simp only [Bool.and_eq_true, Bool.not_eq_true', Bool.not_eq_true] at hb
        split at hn
        · rename_i t h1
          exact CmpX.of (dat := fun q : List D × List D => .dct (c.g.tdl.contains p.line) q.1 q.2) (fun _ _ _ _ _ r => r) (cr_dict (p' := firstIterPos [⟨tg, it, ifs, 0⟩] p) (I n) G P _ hb.1 h1 (by rw [hb.2]; exact Bool.false_ne_true) (fun i hi => by unfold al; exact List.mem_append_left _ hi) (fun i hi => by unfold al; exact List.mem_append_right _ (List.mem_append_left _ hi)) (fun i hi => by unfold al; exact List.mem_append_right _ (List.mem_append_right _ hi))) rfl (fun _ _ => rfl)
        · cases hn
      · cases hn
    · rw [stripE_dc2] at hn ⊢
      split at hn
      · rename_i hb
        rw [if_pos hb]
        simp only [Bool.and_eq_true, Bool.not_eq_true', Bool.not_eq_true] at hb
        split at hn
        · rename_i t t1 h1 h2
          exact CmpX.of (dat := fun q : List D × List D => .dct (c.g.tdl.contains p.line) q.1 q.2) (fun _ _ _ _ _ r => r) (cr_dict2 (p' := firstIterPos [⟨tg, it, ifs, 0⟩, ⟨tg1, it1, ifs1, 0⟩] p) (I n) G P _ hb.1 h1 h2 (by rw [hb.2.1]; exact Bool.false_ne_true) (by rw [hb.2.2]; exact Bool.false_ne_true) (fun i hi => by unfold al; exact List.mem_append_left _ (List.mem_append_left _ hi)) (fun i hi => by unfold al; exact List.mem_append_left _ (List.mem_append_right _ hi)) (fun i hi => by unfold al; exact List.mem_append_right _ (List.mem_append_left _ hi)) (fun i hi => by unfold al; exact List.mem_append_right _ (List.mem_append_right _ hi))) rfl (fun _ _ => rfl)
        · cases hn
      · cases hn
theorem snd_x (I : ∀ n, Snd c C k n) (G : Good c C k sc X) (P : Passes (L2.CX X.prog X.w) X (eX X.K bg S0 H0 EX)) (n : Nat) (e : Expr) :
    PE X e (EvN X.K bg S0 H0 EX (al (stripE c n sc e)) (evX C (stripE c n sc e))) := by
  by_cases hn : newE (stripE c n sc e) = true
  · by_cases hcx : (∃ elt tg it ifs tg1 it1 ifs1 sc2 p, e = .ListComp elt [⟨tg, it, ifs, 0⟩, ⟨tg1, it1, ifs1, 0⟩] sc2 p) ∨ (∃ kx vx tg it ifs sc2 p, e = .DictComp kx vx [⟨tg, it, ifs, 0⟩] sc2 p) ∨ ∃ kx vx tg it ifs tg1 it1 ifs1 sc2 p, e = .DictComp kx vx [⟨tg, it, ifs, 0⟩, ⟨tg1, it1, ifs1, 0⟩] sc2 p
    · exact (cx_new I G P n hn hcx).val
    cases n with
    | zero => cases hn
    | succ n =>
      rcases new_of hn with ⟨es, p, rfl⟩ | ⟨elt, tg, it, ifs, sc2, p, rfl⟩ | ⟨f, p, es, kws, pos, rfl⟩ | ⟨o2, m, ap, es, kws, pos, rfl⟩ | ⟨pos, rfl⟩ | hz
      · generalize ho : stripE c (n + 1) sc (.List es p) = o at hn ⊢
        unfold stripE at ho
        try dsimp only at ho
        split at ho
        · subst ho; cases hn
        · rename_i hs
          simp only [Bool.or_eq_true, not_or, Bool.not_eq_true, decide_eq_true_eq] at hs
          subst ho
          exact k_lstN (by rw [List.length_map]; omega) (k_pa hs.1 (by rw [List.length_map]) (snd_list (I n) G P _ es fun i hi => by unfold al; exact hi)) fun Γ PP E h => evEs_len _ Γ PP E h
      · generalize ho : stripE c (n + 1) sc (.ListComp elt [⟨tg, it, ifs, 0⟩] sc2 p) = o at hn ⊢
        rw [stripE_lc] at ho
        split at ho
        · rename_i hblk
          split at ho
          · rename_i t ht
            subst ho
            by_cases hset : isSetE it = true
            · have e0 : stripI c n sc tg it = .e .bad := by
                cases n with
                | zero => rfl
                | succ n => cases it <;> first | exact absurd hset Bool.false_ne_true | rfl
              refine ⟨fun pins s σ H Q J ⟨O, Γ, S, a, q⟩ => ?_⟩
              rw [e0] at q
              rw [evX, evI, evE] at q
              exact q.elim
            · obtain ⟨p1, p2, p3, p4, p5, p6, p7⟩ := lc_parts (elt := elt) (ifs := ifs) (I n) G P (al (.lc (stripE c n (relS sc2 sc) elt) ((ownOf c.N sc2).map (·.2)) t (stripI c n sc tg it) (ifs.map (stripT c n (relS sc2 sc))))) hblk ht hset (fun i hi => by unfold al; exact List.mem_append_left _ hi) (fun i hi => by unfold al; exact List.mem_append_right _ hi)
              exact k_lcN G.calm (by rw [G.hN]; exact G.nd) p1 p2 p3 p4 p5 p6 p7
          · subst ho; cases hn
        · subst ho; cases hn
      · generalize ho : stripE c (n + 1) sc (.Call (.Name f p) es kws pos) = o at hn ⊢
        unfold stripE at ho
        try dsimp only at ho
        split at ho
        · subst ho; cases hn
        · rename_i hh
          simp only [Bool.or_eq_true, not_or, Bool.not_eq_true, Bool.not_eq_eq_eq_not, Bool.not_true, Bool.not_eq_false] at hh
          obtain ⟨⟨⟨h1, h2⟩, h3⟩, h4⟩ := hh
          have hg : Gl X f := isGl_Gl G h2
          split at ho
          · rename_i sel dfts hm
            subst ho
            exact snd_calls (I n) G P hg hm h3 (by simpa using h4) (okName_of h1).1 (fun i hi => by unfold al; exact List.mem_append_left _ hi) (fun i hi => by unfold al; exact List.mem_append_right _ hi)
          · rename_i hnone
            clear hnone
            split at ho
            · subst ho; cases hn
            rename_i hkw0
            have hkw0 : kws = [] := by simpa using hkw0
            subst hkw0
            split at ho
            · exfalso
              split at ho
              · split at ho
                · split at ho <;> (subst ho; cases hn)
                · subst ho; cases hn
              · split at ho
                · split at ho <;> (subst ho; cases hn)
                · subst ho; cases hn
              · subst ho; cases hn
            · split at ho
              · exfalso
                split at ho
                · split at ho <;> (subst ho; cases hn)
                · subst ho; cases hn
              split at ho
              · subst ho; cases hn
              split at ho
              · subst ho; cases hn
              split at ho
              · rename_i b hb
                subst ho
                cases hL : newL b with
                | none =>
                  have hn : (newL b).isSome = true := hn
                  rw [hL] at hn
                  cases hn
                | some L =>
                  have hA : ∀ i, i ∈ als (es.map (stripE c n sc)) → i ∈ al (.bcall b (es.map (stripE c n sc))) := fun i hi => by
                    cases b <;> first | (cases hL; done) | (unfold al; exact hi)
                  refine pe_weak (k_bcallN G.room G.calm hb hL hg (G.mo.free f (bf_free hb).1) h3 (by rw [List.length_map]) (k_pa h3 (by rw [List.length_map]) (snd_list (I n) G P _ es hA))) fun σ H Q ⟨O, Γ, S, a, q⟩ => ?_
                  rw [evX, hL] at q
                  exact ⟨O, Γ, S, a, q⟩
              · subst ho; cases hn
      · generalize ho : stripE c (n + 1) sc (.Call (.Attribute o2 m ap) es kws pos) = o at hn ⊢
        unfold stripE at ho
        try dsimp only at ho
        split at ho
        · subst ho; cases hn
        · rename_i hh
          simp only [Bool.or_eq_true, not_or, Bool.not_eq_true, Bool.not_eq_eq_eq_not, Bool.not_true, Bool.not_eq_false, decide_eq_true_eq] at hh
          obtain ⟨⟨⟨⟨h1, h2⟩, h3⟩, h4⟩, h5⟩ := hh
          split at ho
          · split at ho
            · subst ho; cases hn
            · split at ho <;> (subst ho; cases hn)
          · split at ho
            · rename_i key hkey
              subst ho
              exact pe_weak (snd_sta G P hkey h2) fun σ H Q ⟨O, Γ, S, a, q⟩ => ⟨O, Γ, S, a, by rw [evX] at q; exact q⟩
            split at ho
            · rename_i rows hrows
              subst ho
              exact pe_weak (snd_meths (A := al (.mcall m (stripE c n sc o2) (es.map (stripE c n sc)) (kws.map fun q => stripE c n sc q.value) rows)) (I n) G P hrows h1 (by simpa using h3) h4 h2 (by omega) (fun i hi => by unfold al; exact List.mem_append_left _ hi) (fun i hi => by unfold al; exact List.mem_append_right _ (List.mem_append_left _ hi)) (fun i hi => by unfold al; exact List.mem_append_right _ (List.mem_append_right _ hi))) fun σ H Q ⟨O, Γ, S, a, q⟩ => ⟨O, Γ, S, a, by rw [evX] at q; exact q⟩
            · subst ho; cases hn
      · exact pe_weak k_dnewN fun σ H Q ⟨O, Γ, S, a, q⟩ => ⟨O, Γ, S, a, q⟩
      · exact absurd hz hcx
  · have hn : newE (stripE c n sc e) = false := by simpa using hn
    refine pe_weak ((I n).e (al (stripE c n sc e)) e G P fun i h => h) fun σ H Q ⟨O, Γ, S, a, q⟩ => evD_N ⟨O, Γ, S, a, by rw [evX_old hn] at q; exact q⟩
theorem notComp_swap {e : Expr} {t : Option Expr} {l : Nat} {env : Env} (h : isCompE e = false) : swapsWith e t l env = pure false := by
  cases e <;> first | rfl | cases h
theorem swap_tup {e : Expr} {ts : List Expr} {k : Nat} {p : Pos} {l : Nat} {env : Env} : swapsWithSole [.Tuple ts k p] e l env = pure false := by
  show swapsWith e (some (.Tuple ts k p)) l env = pure false
  cases e <;> rfl
theorem stores_none {e : Expr} {t : Expr} {env : Env} (h : isTupE e = false) : swappedStores [t] e env = pure none := by
  cases e <;> first | (cases h; done) | (cases t <;> rfl)
theorem blockF {env : Env} (h : env.scope.kind = .function) : env.blockKind = .function := by
  unfold Env.blockKind
  rw [h]
  rfl
theorem isStar_eq : (fun e : Expr => match e with | .Starred .. => true | _ => false) = isStar := by
  funext e
  cases e <;> rfl
theorem stores2 {env : Env} {x y : Str} {px py kp : Pos} {kt k2 : Nat} {pt : Pos} {a b : Expr} (hk : env.scope.kind = .function) (h : parOk env.scope x y px py = true) (hs : [a, b].any isStar = false) (hf : [a, b].all (foldedForSure 8) = false) (hc : [a, b].all (constantsAlone 8) = false) :
    swappedStores [.Tuple [.Name x px, .Name y py] kt pt] (.Tuple [a, b] k2 kp) env = pure (some [x, y]) := by
  unfold parOk at h
  simp only [Bool.and_eq_true, Bool.not_eq_true', beq_iff_eq] at h
  obtain ⟨⟨⟨h1, h2⟩, h3⟩, h4⟩ := h
  have h4 : (x == y) = false := by simpa using h4
  have hb := blockF hk
  have k1 : env.kindOf x = some .local := h1
  have k2 : env.kindOf y = some .local := h2
  have h5 : (y == x) = false := by rw [BEq.comm]; exact h4
  have sa : ∀ {e : Expr}, isStar e = false → (match e with | .Starred .. => true | _ => false) = false := fun {e} h => by cases e <;> first | rfl | cases h
  have hs0 : isStar a = false ∧ isStar b = false := by simpa using hs
  have e2 : [x, y].eraseDups.length = 2 := by
    simp [List.eraseDups_cons, h5]
  unfold swappedStores
  simp only [hb]
  simp [hf, hc, e2, Expr.pos, k1, k2, h3]
  intro h
  exfalso
  obtain ⟨s1, s2⟩ := hs0
  rcases h with h | h
  · cases a <;> first | (cases h; done) | cases s1
  · cases b <;> first | (cases h; done) | cases s2
theorem stores3 {env : Env} {x y z : Str} {px py pz kp : Pos} {kt k2 : Nat} {pt : Pos} {a b d : Expr} (hk : env.scope.kind = .function) (h : par3Ok env.scope x y z px py pz = true) (hs : [a, b, d].any isStar = false) (hf : [a, b, d].all (foldedForSure 8) = false) (hc : [a, b, d].all (constantsAlone 8) = false) :
    swappedStores [.Tuple [.Name x px, .Name y py, .Name z pz] kt pt] (.Tuple [a, b, d] k2 kp) env = pure (some [x, y, z]) := by
  unfold par3Ok at h
  simp only [Bool.and_eq_true, Bool.not_eq_true', beq_iff_eq] at h
  obtain ⟨⟨⟨⟨⟨⟨⟨h1, h2⟩, h3⟩, h4⟩, h5⟩, h6⟩, h7⟩, h8⟩ := h
  have h6 : (x == y) = false := by simpa using h6
  have h7 : (x == z) = false := by simpa using h7
  have h8 : (y == z) = false := by simpa using h8
  have hb := blockF hk
  have k1 : env.kindOf x = some .local := h1
  have k2 : env.kindOf y = some .local := h2
  have k3 : env.kindOf z = some .local := h3
  have h6' : (y == x) = false := by rw [BEq.comm]; exact h6
  have h7' : (z == x) = false := by rw [BEq.comm]; exact h7
  have h8' : (z == y) = false := by rw [BEq.comm]; exact h8
  have hs0 : isStar a = false ∧ isStar b = false ∧ isStar d = false := by simpa using hs
  have e2 : [x, y, z].eraseDups.length = 3 := by
    simp [List.eraseDups_cons, h6', h7', h8']
  have h5' : pz.line = px.line := h5.symm
  have h4' : py.line = px.line := h4.symm
  unfold swappedStores
  simp only [hb]
  simp [hf, hc, e2, Expr.pos, k1, k2, k3, h4', h5']
  intro h
  exfalso
  obtain ⟨s1, s2, s3⟩ := hs0
  rcases h with h | h | h
  · cases a <;> first | (cases h; done) | cases s1
  · cases b <;> first | (cases h; done) | cases s2
  · cases d <;> first | (cases h; done) | cases s3
theorem swap_dc {kx vx : Expr} {gs : List Comprehension} {sc2 : Scope} {pos py : Pos} {y : Str} {l : Nat} {env : Env} : ∃ b, swapsWith (.DictComp kx vx gs sc2 pos) (some (.Name y py)) l env = pure b ∧ (b = true → env.scope.names.lookup y = some .local) := by
  refine ⟨_, rfl, fun h => ?_⟩
  simp only [Bool.and_eq_true, beq_iff_eq] at h
  exact h.1.1.2
theorem attr_swap {e a : Expr} {f : Str} {p : Pos} {l : Nat} {env : Env} : swapsWith e (some (.Attribute a f p)) l env = pure false := by
  cases e <;> rfl
/-- a comprehension's value stored in a name: exchanged or not -/
theorem swap_lc {elt : Expr} {gs : List Comprehension} {sc2 : Scope} {pos py : Pos} {y : Str} {l : Nat} {env : Env} : ∃ b, swapsWith (.ListComp elt gs sc2 pos) (some (.Name y py)) l env = pure b ∧ (b = true → env.scope.names.lookup y = some .local) := by
  refine ⟨_, rfl, fun h => ?_⟩
  simp only [Bool.and_eq_true, beq_iff_eq] at h
  exact h.1.1.2
end
end Dy

set_option linter.all false
set_option maxRecDepth 10000
set_option autoImplicit false
/-! Dy, part 16: statements, joined. -/
namespace Dy
open PySem PySem.Spec PyProof.Rows L2
theorem lc_bad {c : Cf} {sc : Scope} {n : Nat} {e : Expr} (hl : isLcE e = true) (h : newE (stripE c n sc e) = false) : stripE c n sc e = .bad := by
  cases n with
  | zero => rfl
  | succ n =>
    generalize ho : stripE c (n + 1) sc e = o at h ⊢
    unfold stripE at ho
    cases e <;> first | (cases hl; done) | skip
    all_goals
      split at ho <;> first | (rename_i z; cases z; done) | (exact ho.symm) | skip
      all_goals
        split at ho
        · split at ho
          · subst ho; cases h
          · exact ho.symm
        · exact ho.symm
section
variable {c : Cf} {C : Calls} {k : Nat} {sc : Scope} {X : Cx} {bg : Option (Addr × Addr)} {S0 : Addr → Prop} {H0 : Hp} {EX : D → Prop}
/-- y.pop(..) of an own list -/
theorem pop_pe {n : Nat} (I : Snd c C k n) (G : Good c C k sc X) (P : Passes (L2.CX X.prog X.w) X (eX X.K bg S0 H0 EX)) {e : Expr} {j : Nat} {ix : Option Expr} (h : popE c sc e = some (j, ix)) : PE X e (tPop X.K bg S0 H0 EX C j (ix.map (stripE c n sc))) := by
  unfold popE at h
  split at h
  · rename_i y p m ap es cp
    split at h
    · rename_i hh
      obtain ⟨h1, h2⟩ := hh
      subst h1
      simp only [Bool.and_eq_true] at h2
      obtain ⟨⟨h2, h3⟩, h4⟩ := h2
      split at h
      · rename_i j' hj
        have pv := pe_var (X := X) (pos := p) (by rw [G.hN]; exact idxOf_get hj) (by rw [G.hsc]; exact seen_vis h3) (okName_of h2).1 (okName_of h2).2
        split at h
        · cases h
          exact pe_bm0 PySem.F.plainAttrs_list PySem.F.slot_list_pop PySem.F.type_list_pop mt_pop pv rfl h4
        · rename_i a
          split at h
          · cases h
          · rename_i hs
            cases h
            have hs : isStar a = false := by simpa using hs
            refine pe_bm PySem.F.plainAttrs_list PySem.F.slot_list_pop PySem.F.type_list_pop mt_popAt pv (k_pa (es := [a]) (os := [stripE c n sc a]) (by simpa using hs) rfl fun i e o g1 g2 => ?_) rfl ?_ h4 (starEach_cons hs) (starEach_plain _ _ rfl)
            · cases i with
              | zero =>
                have q1 : a = e := by simpa using g1
                have q2 : stripE c n sc a = o := by simpa using g2
                subst q1 q2
                exact I.e _ a G P fun i h => h
              | succ i => simp at g1
            · rw [starEach_cons hs]; rfl
        · cases h
      · cases h
    · cases h
  · cases h
theorem evN_sub {K : PySem.W.Frag} {A A' : List Nat} {m : Gam → T (D × Bool)} (h : ∀ i, i ∈ A' → i ∈ A) {σ : L2.St} {H : Hp} {Q : VK} (q : EvN K bg S0 H0 EX A m σ H Q) : EvN K bg S0 H0 EX A' m σ H Q := by
  obtain ⟨O, Γ, S, a, q⟩ := q
  refine ⟨O, Γ, S, a, T.all_imp q fun r k v S' H' W E rv => k v S' H' W E ?_⟩
  obtain ⟨d, fr⟩ := r
  cases fr with
  | false => exact Rep.mono (Gs.sub h) (fun _ _ _ z => z) d v rv
  | true =>
    obtain ⟨p, o, ev, np, hp0, hp, rr⟩ := rv
    have n2 : ¬ Gs S' O σ A p := fun z => by
      rcases z with z | ⟨i, _, mo, e⟩
      · exact np (.inl z)
      · obtain ⟨_, _, _, _, _, hh, _⟩ := a.abs.at mo e
        rw [hp0] at hh
        cases hh
    exact ⟨p, o, ev, n2, hp0, hp, rr.mono (Gs.sub h) (fun _ _ _ z => z)⟩
theorem snd_xA (I : ∀ n, Snd c C k n) (G : Good c C k sc X) (P : Passes (L2.CX X.prog X.w) X (eX X.K bg S0 H0 EX)) (n : Nat) (e : Expr) {A : List Nat} (hA : ∀ i, i ∈ al (stripE c n sc e) → i ∈ A) : PE X e (EvN X.K bg S0 H0 EX A (evX C (stripE c n sc e))) :=
  pe_weak (snd_x I G P n e) fun σ H Q q => evN_sub hA q
theorem snd_set (I : ∀ n, Snd c C k n) (G : Good c C k sc X) (P : Passes (L2.CX X.prog X.w) X (eX X.K bg S0 H0 EX)) (Tg : TgOk sc X) (n : Nat) {x : Str} {px pos : Pos} {e : Expr} {i : Nat} (hl : isLoc sc x = true) (hi : c.N.idxOf? x = some i) (hc : (isCompE e && !isLcE e) = false) :
    PS X (.Assign [.Name x px] e pos) (ExS X.K bg S0 H0 EX (wrS (.set i (stripE c n sc e))) (exS C (.set i (stripE c n sc e)))) := by
  obtain ⟨t1, t2⟩ := Tg x hl
  have hN : X.N.Nodup := by rw [G.hN]; exact G.nd
  have hx : X.N[i]? = some x := by rw [G.hN]; exact idxOf_get hi
  by_cases hcomp : isCompE e = true
  · have hlc : isLcE e = true := by
      rw [hcomp] at hc
      simpa using hc
    have hsw : ∃ b, swapsWith e (some (.Name x px)) pos.line X.env = pure b ∧ (b = true → X.env.scope.names.lookup x = some .local) := by
      cases e <;> first | (cases hlc; done) | exact swap_lc | exact swap_dc
    obtain ⟨b, hb, hbl⟩ := hsw
    cases b with
    | false => exact s_set (ps_set hN hx t1 (snd_x I G P n _) hb t2)
    | true =>
      by_cases hn : newE (stripE c n sc e) = true
      · by_cases hcx : (∃ elt tg it ifs tg1 it1 ifs1 sc2 p, e = .ListComp elt [⟨tg, it, ifs, 0⟩, ⟨tg1, it1, ifs1, 0⟩] sc2 p) ∨ (∃ kx vx tg it ifs sc2 p, e = .DictComp kx vx [⟨tg, it, ifs, 0⟩] sc2 p) ∨ ∃ kx vx tg it ifs tg1 it1 ifs1 sc2 p, e = .DictComp kx vx [⟨tg, it, ifs, 0⟩, ⟨tg1, it1, ifs1, 0⟩] sc2 p
        · exact s_set ((cx_new I G P n hn hcx).asg hN hx (hbl rfl) hb)
        rcases new_of hn with ⟨es, p', z⟩ | ⟨elt, tg, it, ifs, sc2, p, z⟩ | ⟨f, p', es, kws, pos', z⟩ | ⟨_, _, _, _, _, _, z⟩ | ⟨_, z⟩ | hz
        · subst z; cases hlc
        · subst z
          cases n with
          | zero => cases hn
          | succ n =>
            generalize ho : stripE c (n + 1) sc (.ListComp elt [⟨tg, it, ifs, 0⟩] sc2 p) = o at hn ⊢
            rw [stripE_lc] at ho
            split at ho
            · rename_i hblk
              split at ho
              · rename_i t ht
                subst ho
                by_cases hset : isSetE it = true
                · have e0 : stripI c n sc tg it = .e .bad := by
                    cases n with
                    | zero => rfl
                    | succ n => cases it <;> first | exact absurd hset Bool.false_ne_true | rfl
                  rw [e0]
                  refine ps_false fun Γ O => ?_
                  rw [exS, evX, evI, evE]
                  rfl
                · obtain ⟨p1, p2, p3, p4, p5, p6, p7⟩ := lc_parts (elt := elt) (ifs := ifs) (I n) G P (al (.lc (stripE c n (relS sc2 sc) elt) ((ownOf c.N sc2).map (·.2)) t (stripI c n sc tg it) (ifs.map (stripT c n (relS sc2 sc))))) hblk ht hset (fun i hi => by unfold al; exact List.mem_append_left _ hi) (fun i hi => by unfold al; exact List.mem_append_right _ hi)
                  exact s_set (ps_weak (ps_setLc G.calm hN hx (hbl rfl) hb p1 p2 p3 p4 p5 p6) fun Dn σ H q => lc_read p7 q)
              · subst ho; cases hn
            · subst ho; cases hn
        · subst z; cases hlc
        · subst z; cases hlc
        · subst z; cases hlc
        · exact absurd hz hcx
      · rw [lc_bad hlc (by simpa using hn)]
        refine ps_false fun Γ O => ?_
        rw [exS, evX, evE]
        · rfl
        all_goals (intros; rename_i z; cases z)
  · exact s_set (ps_set hN hx t1 (snd_x I G P n e) (notComp_swap (by simpa using hcomp)) t2)
/-- x = e, also where e takes an own list's item out -/
theorem snd_asg (I : ∀ n, Snd c C k n) (G : Good c C k sc X) (P : Passes (L2.CX X.prog X.w) X (eX X.K bg S0 H0 EX)) (Tg : TgOk sc X) (n : Nat) {x : Str} {px pos : Pos} {e : Expr} {i : Nat} (hl : isLoc sc x = true) (hi : c.N.idxOf? x = some i) (hc : (isCompE e && !isLcE e) = false) :
    PS X (.Assign [.Name x px] e pos) (ExS X.K bg S0 H0 EX (wrS (stripA c sc n i e)) (exS C (stripA c sc n i e))) := by
  obtain ⟨t1, t2⟩ := Tg x hl
  have hN : X.N.Nodup := by rw [G.hN]; exact G.nd
  have hx : X.N[i]? = some x := by rw [G.hN]; exact idxOf_get hi
  unfold stripA
  split
  · rename_i j ix hpop
    refine s_pop (ps_set hN hx t1 (pop_pe (I n) G P hpop) ?_ t2)
    unfold popE at hpop
    split at hpop
    · rfl
    · cases hpop
  · split
    · rename_i t a b p hp0
      split
      · rename_i j hpop
        refine s_popC (ps_set hN hx t1 (pe_ifExp ((I n).t _ G P) (pop_pe (I n) G P hpop) ((I n).e _ b G P fun i h => h)) rfl t2)
      · exact snd_set I G P Tg n hl hi hc
    · exact snd_set I G P Tg n hl hi hc
theorem snd_s (I : ∀ n, Snd c C k n) (G : Good c C k sc X) (P : Passes (L2.CX X.prog X.w) X (eX X.K bg S0 H0 EX)) (Tg : TgOk sc X) : ∀ n : Nat,
    (∀ s : Stmt, PS X s (ExS X.K bg S0 H0 EX (wrS (stripS c sc n s)) (exS C (stripS c sc n s)))) ∧ ∀ ss : List Stmt, PSs X ss (ExS X.K bg S0 H0 EX (wrSs (stripSs c sc n ss)) (exSs C (stripSs c sc n ss))) := by
  have bad : ∀ s : Stmt, PS X s (ExS X.K bg S0 H0 EX (wrS .bad) (exS C .bad)) := fun s => ps_false fun Γ O => by rw [exS]
  have hN : X.N.Nodup := by rw [G.hN]; exact G.nd
  have nth : ∀ {x : Str} {i : Nat}, c.N.idxOf? x = some i → X.N[i]? = some x := fun h => by rw [G.hN]; exact idxOf_get h
  intro n
  induction n with
  | zero =>
    refine ⟨fun s => bad s, fun ss => ?_⟩
    cases ss with
    | nil => exact ss_nil
    | cons s r => exact ⟨fun pins s' σ H Dn J ⟨O, Γ, S, a, q⟩ => by
        rw [stripSs, exSs, exS] at q
        exact q.elim⟩
  | succ n ih =>
    obtain ⟨ih1, ih2⟩ := ih
    refine ⟨fun s => ?_, fun ss => ?_⟩
    · generalize ho : stripS c sc (n + 1) s = o
      unfold stripS at ho
      split at ho
      · subst ho; exact s_pass ps_pass
      · subst ho; exact s_brk ps_break
      · subst ho; exact s_cont ps_continue
      · subst ho; exact s_pass ps_doc
      · rename_i x px m ap a cp pos
        split at ho
        · rename_i hh
          obtain ⟨h1, h2⟩ := hh
          subst h1
          simp only [Bool.and_eq_true, Bool.not_eq_true'] at h2
          obtain ⟨⟨⟨h2, h3⟩, h4⟩, h5⟩ := h2
          split at ho
          · rename_i i hi
            subst ho
            have hv : Vis X.env.scope x := by rw [G.hsc]; exact seen_vis h3
            split
            · rename_i j ix hpop
              refine s_popA (ps_expr (pe_bm PySem.F.plainAttrs_list slot_list_append type_list_append mt_append (pe_var (nth hi) hv (okName_of h2).1 (okName_of h2).2) (pa_cons (pop_pe (I n) G P hpop) pa_nil (starEach_cons h4)) rfl ?_ h5 (starEach_cons h4) (starEach_plain _ _ rfl)) rfl)
              rw [starEach_cons h4]; rfl
            refine s_app (ps_expr (pe_bm PySem.F.plainAttrs_list slot_list_append type_list_append mt_append (pe_var (nth hi) hv (okName_of h2).1 (okName_of h2).2) (k_pa (es := [a]) (os := [stripE c n sc a]) (by simpa using h4) rfl fun j e o g1 g2 => ?_) rfl ?_ h5 (starEach_cons h4) (starEach_plain _ _ rfl)) rfl)
            · cases j with
              | zero =>
                have q1 : a = e := by simpa using g1
                have q2 : stripE c n sc a = o := by simpa using g2
                subst q1 q2
                exact (I n).e _ a G P fun i h => h
              | succ j => simp at g1
            · rw [starEach_cons h4]; rfl
          · subst ho; exact bad _
        · subst ho; exact bad _
      · rename_i e pos _ _
        split at ho
        · subst ho; exact bad _
        · rename_i hcmp
          subst ho
          exact s_expr (ps_expr ((I n).e _ e G P fun i h => h) (notComp_swap (by simpa using hcmp)))
      · rename_i e pos
        subst ho
        by_cases hv : ∃ i, stripE c n sc e = .var i
        · obtain ⟨i, hi⟩ := hv
          rw [hi]
          have h2 := (I n).e (bg := bg) (S0 := S0) (H0 := H0) (EX := EX) [i] e G P (by rw [hi]; intro j hj; simpa [al] using hj)
          rw [hi] at h2
          have h1 : ∃ x p, e = .Name x p ∧ okName x = true ∧ seen sc x = true ∧ c.N.idxOf? x = some i := var_of hi
          obtain ⟨x, p, rfl, o1, o2, o3⟩ := h1
          exact s_retV (ps_ret (pe_var (nth o3) (by rw [G.hsc]; exact seen_vis o2) (okName_of o1).1 (okName_of o1).2)) (ps_ret h2)
        · exact s_ret (fun i z => hv ⟨i, z⟩) (ps_ret (snd_x I G P n e))
      · subst ho; exact s_retN ps_retN
      · subst ho
        exact s_if ((I n).t _ G P) (ih2 _) (ih2 _)
      · rename_i tg it b pos
        split at ho
        · subst ho; exact bad _
        · rename_i hset
          split at ho
          · rename_i t ht
            subst ho
            exact s_for G.own G.calm ((I n).i _ tg it G P fun i h => h) (pg_ok G.hN G.nd G.calm Tg n tg t ht) (ih2 _) (fun x => by cases it <;> first | rfl | exact absurd rfl hset)
          · subst ho; exact bad _
      · subst ho
        exact s_while G.own ((I n).t _ G P) (ih2 _)
      · rename_i x px e pos
        split at ho
        · rename_i hl
          split at ho
          · rename_i i hi
            split at ho
            · subst ho; exact bad _
            · rename_i hc
              subst ho
              exact snd_asg I G P Tg n hl hi (by simpa using hc)
          · subst ho; exact bad _
        · subst ho; exact bad _
      · rename_i x px y py kt pt a b k2 p2 pos
        split at ho
        · rename_i hh
          simp only [Bool.and_eq_true, Bool.not_eq_true'] at hh
          obtain ⟨⟨⟨h1, h2⟩, h3⟩, h4⟩ := hh
          split at ho
          · rename_i i j hi hj
            subst ho
            have h1' := h1
            unfold parOk at h1'
            simp only [Bool.and_eq_true, Bool.not_eq_true', beq_iff_eq] at h1'
            obtain ⟨⟨⟨q1, q2⟩, q3⟩, q4⟩ := h1'
            have ij : i ≠ j := fun z => by
              subst z
              have e1 := nth hi
              rw [nth hj] at e1
              cases e1
              simp at q4
            have hs2 : isStar a = false ∧ isStar b = false := by simpa using h2
            exact s_par2 (ps_par G.calm hN (nth hi) (nth hj) ij (by rw [G.hsc]; exact q1) (by rw [G.hsc]; exact q2) (pa_cons (snd_xA (I := I) G P n a fun i h => by unfold als; exact List.mem_append_left _ h) (pa_cons (snd_xA (I := I) G P n b fun i h => by unfold als als; exact List.mem_append_right _ (List.mem_append_left _ h)) pa_nil (starEach_cons hs2.2)) (starEach_cons hs2.1)) (stores2 G.kind (by rw [G.hsc]; exact h1) h2 h3 h4) swap_tup)
          · subst ho; exact bad _
        · subst ho; exact bad _
      · rename_i x px y py z pz kt pt a b d k2 p2 pos
        split at ho
        · rename_i hh
          simp only [Bool.and_eq_true, Bool.not_eq_true'] at hh
          obtain ⟨⟨⟨h1, h2⟩, h3⟩, h4⟩ := hh
          split at ho
          · rename_i i j l hi hj hl
            subst ho
            have h1' := h1
            unfold par3Ok at h1'
            simp only [Bool.and_eq_true, Bool.not_eq_true', beq_iff_eq] at h1'
            obtain ⟨⟨⟨⟨⟨⟨⟨q1, q2⟩, q3⟩, _⟩, _⟩, q4⟩, q5⟩, q6⟩ := h1'
            have ne : ∀ {u w : Str} {i j : Nat}, c.N.idxOf? u = some i → c.N.idxOf? w = some j → (u == w) = false → i ≠ j := fun {u w i j} hi hj q z => by
              subst z
              have e1 := nth hi
              rw [nth hj] at e1
              cases e1
              simp at q
            have hs2 : isStar a = false ∧ isStar b = false ∧ isStar d = false := by simpa using h2
            exact s_par3 (ps_par3 G.calm hN (nth hi) (nth hj) (nth hl) (ne hi hj (by simpa using q4)) (ne hi hl (by simpa using q5)) (ne hj hl (by simpa using q6)) (by rw [G.hsc]; exact q1) (by rw [G.hsc]; exact q2) (by rw [G.hsc]; exact q3) (pa_cons (snd_xA (I := I) G P n a fun i h => by unfold als; exact List.mem_append_left _ h) (pa_cons (snd_xA (I := I) G P n b fun i h => by unfold als als; exact List.mem_append_right _ (List.mem_append_left _ h)) (pa_cons (snd_xA (I := I) G P n d fun i h => by unfold als als als; exact List.mem_append_right _ (List.mem_append_right _ (List.mem_append_left _ h))) pa_nil (starEach_cons hs2.2.2)) (starEach_cons hs2.2.1)) (starEach_cons hs2.1)) (stores3 G.kind (by rw [G.hsc]; exact h1) h2 h3 h4) swap_tup)
          · subst ho; exact bad _
        · subst ho; exact bad _
      · rename_i x px ix sp e pos
        split at ho
        · rename_i hh
          simp only [Bool.and_eq_true, Bool.not_eq_true'] at hh
          obtain ⟨⟨h1, h2⟩, h3⟩ := hh
          split at ho
          · rename_i i hi
            subst ho
            have pv := pe_var (X := X) (pos := px) (nth hi) (by rw [G.hsc]; exact seen_vis h2) (okName_of h1).1 (okName_of h1).2
            refine s_put (ps_asg ((I n).e _ e G P fun i h => h) (pg_sub pv ((I n).e _ ix G P fun i h => h) (set_ld (by have := room65 G.room; omega)) ?_) ?_ ?_)
            · intro v
              cases ix <;> first | rfl | cases h3
            · show swapsWith e (some ((Expr.Name x px).Subscript ix sp)) pos.line X.env = pure false
              cases e <;> rfl
            · cases e <;> rfl
          · subst ho; exact bad _
        · subst ho; exact bad _
      · rename_i x px f sp e pos
        split at ho
        · rename_i hh
          simp only [Bool.and_eq_true, Bool.not_eq_true'] at hh
          obtain ⟨h1, h2⟩ := hh
          split at ho
          · rename_i i cs hi hcs
            subst ho
            refine s_fset (G.mo.flds f cs hcs) (ps_fld (pe_var (nth hi) (by rw [G.hsc]; exact seen_vis h2) (okName_of h1).1 (okName_of h1).2) ((I n).e _ e G P fun i h => h) ?_)
            first
              | exact attr_swap
              | (cases e <;> rfl)
          · subst ho; exact bad _
        · subst ho; exact bad _
      · rename_i ts kt p e pos _ _
        split at ho
        · subst ho; exact bad _
        · rename_i hh
          simp only [Bool.or_eq_true, not_or, Bool.not_eq_true] at hh
          split at ho
          · rename_i t ht
            subst ho
            exact s_seti (ps_asg ((I n).e _ e G P fun i h => h) (pg_ok G.hN G.nd G.calm Tg n _ t ht) swap_tup (stores_none hh.1))
          · subst ho; exact bad _
      · subst ho; exact bad _
    · cases ss with
      | nil => exact ss_nil
      | cons s r => exact ss_cons (ih1 s) (ih2 r)
end
end Dy

set_option linter.all false
set_option maxRecDepth 10000
set_option autoImplicit false
/-! Dy, part 17: defs. -/
namespace Dy
open PySem PySem.Spec PyProof.Rows L2
/-- a body's outcome -/
def runB (C : Calls) (n : Nat) (os : List OS) (ds : List D) : T (D × Bool) := (exSs C os (ds.map some ++ List.replicate (n - ds.length) none) []).bind fun f => match f with
  | .nx _ _ => .ret (.non, false)
  | .rt r _ _ => .ret r
  | _ => .bad
/-- a new instance's data: what __init__ leaves -/
def runI (C : Calls) (x : Str) (n : Nat) (os : List OS) (ds : List D) : T D := (exSs C os (some (.ins x [] []) :: (ds.map some ++ List.replicate (n - (ds.length + 1)) none)) [0]).bind fun f => match f with
  | .nx Γ O => .need (decide (0 ∈ O)) (match Γ[0]? with | some (some d) => .ret d | _ => .bad)
  | .rt r Γ O => .need (isNonD r.1 && decide (0 ∈ O)) (match Γ[0]? with | some (some d) => .ret d | _ => .bad)
  | _ => .bad
/-- the defs: by name, how many slots, the body, whether it is an __init__ -/
abbrev Tb := List (Str × Nat × List OS × Bool)
/-- one level of calls -/
def stepC (tb : Tb) (hd : Str → Option (List D → T (D × Bool))) (C : Calls) (I : Str → Nat → List OS → List D → T D) : Calls := fun f ds => match hd f with
    | some g => g ds
    | none => match tb.lookup f with
      | some (n, os, false) => runB C n os ds
      | some (n, os, true) => (I f n os ds).bind fun d => .ret (d, false)
      | none => .bad
def run (tb : Tb) (hd : Str → Option (List D → T (D × Bool))) : Nat → Calls
  | 0 => fun _ _ => .bad
  | 1 => stepC tb hd (fun _ _ => .bad) fun _ _ _ _ => .bad
  | j + 2 => stepC tb hd (run tb hd (j + 1)) (runI (run tb hd j))
theorem pasX {X : Cx} {bg : Option (Addr × Addr)} {S0 : Addr → Prop} {H0 : Hp} {EX : D → Prop} : Passes (L2.CX X.prog X.w) X (eX X.K bg S0 H0 EX) := fun _ _ _ _ _ _ _ h => by
  obtain ⟨_, _, _, _, _, _, _, _, _, _, _, _, z⟩ := h
  obtain ⟨_, _, _, _, _, z⟩ := z
  exact z.elim
section
variable {P : Program} {w : World} {K : PySem.W.Frag} {mg : Str → Option Value} {base : Heap} {g : Gf} {C : Calls} {k : Nat}
theorem At.start {bg : Option (Addr × Addr)} {S : Addr → Prop} {H : Hp} {N : List Str} {ds : List D} {vs : List V} (W : Wld bg S H) (r : Reps K bg S H ds vs) : At K bg S H [] (ds.map some ++ List.replicate (N.length - ds.length) none) S (L2.start N vs) H := by
  have hl := r.length
  refine ⟨W, W, .refl, ?_, fun i d _ g => ?_, fun i m => (List.not_mem_nil m).elim, fun i j a m => (List.not_mem_nil m).elim⟩
  · unfold L2.start
    rw [List.length_append, List.length_append, List.length_map, List.length_map, List.length_replicate, List.length_replicate, hl]
  · unfold L2.start
    by_cases h : i < ds.length
    · rw [List.getElem?_append_left (by rw [List.length_map]; exact h), List.getElem?_map] at g
      obtain ⟨d', e, z⟩ := Option.map_eq_some_iff.mp g
      cases z
      obtain ⟨v, hv, rv⟩ := r.get e
      refine ⟨v, ?_, rv⟩
      rw [List.getElem?_append_left (by rw [List.length_map, hl]; exact h), List.getElem?_map, hv]
      rfl
    · rw [List.getElem?_append_right (by rw [List.length_map]; omega)] at g
      exfalso
      rw [List.getElem?_replicate] at g
      split at g <;> cases g
/-- a body's own context -/
theorem Mo.good (M : Mo P w K mg base g C k) {N ps : List Str} {qual : Str} {sc : Scope} {f : Addr} {cdv : Value} {A : Around} {outer : List Env} {s : Shared} {H : Hp} {E : XK} (S : FnScope N ps sc) (hr : Room k (A.deeper (envOfC qual sc s.heap.objs.size f cdv))) :
    Good ⟨N, g⟩ C k sc (cxOf (L2.CX P w) P w K mg base N qual sc f cdv A outer s H E).nox :=
  ⟨rfl, S.nd, rfl, rfl, hr, PassesOwn.never, S.kind, M⟩
theorem tg_start {N : List Str} {qual : Str} {sc : Scope} {f : Addr} {cdv : Value} {A : Around} {outer : List Env} {s : Shared} {H : Hp} {E : XK} : TgOk sc (cxOf (L2.CX P w) P w K mg base N qual sc f cdv A outer s H E).nox := fun x h => ⟨by
  rcases isLoc_loc h with z | z
  · exact .inl z
  · exact .inr z, .inl rfl⟩
/-- a body does what its data says -/
theorem body_dy (M : Mo P w K mg base g C k) {N ps : List Str} {qual : Str} {sc : Scope} {f : Addr} {cdv : Value} {A : Around} {outer : List Env} {s : Shared} {H : Hp} {E : XK} (S : FnScope N ps sc) (hr : Room k (A.deeper (envOfC qual sc s.heap.objs.size f cdv)))
    (body : List Stmt) (n : Nat) (bg : Option (Addr × Addr)) (S0 : Addr → Prop) (H0 : Hp) (EX : D → Prop) :
    PSs (cxOf (L2.CX P w) P w K mg base N qual sc f cdv A outer s H E) body (ExS K bg S0 H0 EX (wrSs (stripSs ⟨N, g⟩ sc n body)) (exSs C (stripSs ⟨N, g⟩ sc n body))) :=
  (((snd_s (fun n => snd _ _ _ n) (M.good S hr) pasX tg_start n).2 body)).nox
theorem fn_dy (M : Mo P w K mg base g C k) {x qual : Str} {st : Stmt} {f : Addr} {fd : FuncData} {N ps : List Str} (F : L2.Fun K x qual st f fd) (S : FnScope N ps (defScope st)) (n : Nat) :
    FnOk P w K mg base (L2.CX P w) (k + 1) f fd ps (spD K ps.length (runB C N.length (stripSs ⟨N, g⟩ (defScope st) n (defBody st)))) := by
  refine F.okX S (fun vs H Q E ⟨bg, S, ds, hn, W, r, q⟩ => by rw [r.length, hn]) fun cdv A outer s H vs Q E hr ⟨bg, S0, ds, hn, W, r, q⟩ => ?_
  refine ⟨_, body_dy M S hr (defBody st) n bg S0 H _, _, _, S0, At.start W r, T.all_imp (T.all_bind.mp q) fun fl hf => ?_⟩
  cases fl with
  | nx Γ O => exact fun σ' S' H' a _ _ => hf .non S' H' a.wld a.ext rfl
  | bk Γ O => exact hf.elim
  | ct Γ O => exact hf.elim
  | rt r Γ O => exact fun v σ' S' H' a _ _ rv => hf v S' H' a.wld a.ext rv
/-- nothing is promised at the lowest level -/
theorem fn_none {a : Addr} {fd : FuncData} {ps : List Str} {m : Nat} : FnOk P w K mg base (L2.CX P w) k a fd ps (spD K m fun _ => .bad) :=
  ⟨fun vs H Q E ⟨_, _, _, _, _, _, q⟩ => q.elim, fun A outer s H args us vs Q E _ _ _ _ ⟨_, _, _, _, _, _, q⟩ => q.elim⟩
/-- a new instance at the start of __init__ -/
theorem At.startI {bg : Option (Addr × Addr)} {S : Addr → Prop} {H : Hp} {N : List Str} {x : Str} {p dx : Addr} {ds : List D} {vs : List V} (np : ¬ S p) (hp : H p = some (.ins (He.ga K x) dx [])) (W : Wld bg S (fun a => if a = p then none else H a)) (r : Reps K bg S H ds vs) : At K bg S (fun a => if a = p then none else H a) [0] (some (.ins x [] []) :: (ds.map some ++ List.replicate (N.length - (ds.length + 1)) none)) S (L2.start N (.ref p :: vs)) H := by
  have hl := r.length
  have e0 : L2.start N (.ref p :: vs) = some (.ref p) :: (vs.map some ++ List.replicate (N.length - (vs.length + 1)) none) := by
    unfold L2.start
    rw [List.map_cons, List.length_cons]
    rfl
  have keep : ∀ a o, (fun a => if a = p then none else H a) a = some o → H a = some o := fun a o h => by
    have h : (if a = p then none else H a) = some o := h
    split at h
    · cases h
    · exact h
  refine ⟨W, ⟨fun a z => ?_, fun b e => ?_, fun a xs z => ?_⟩, ⟨fun _ h => h, fun _ h => .inl h, fun a o h _ => keep a o h, fun a h => ?_⟩, ?_, fun i d n g => ?_, fun i m => ?_, fun i j a mi mj ij => ?_⟩
  · obtain ⟨o, ho⟩ := Option.ne_none_iff_exists'.mp (W.dom a z)
    rw [keep a o ho]
    simp
  · obtain ⟨B, n, ne⟩ := W.bag b e
    exact ⟨B.stay (fun o q => keep _ _ q) (fun o q => keep _ _ q), n, ne⟩
  · refine W.tup a xs ?_
    show (if a = p then none else H a) = _
    by_cases e : a = p
    · subst e
      rw [hp] at z
      cases z
    · rw [if_neg e]
      exact z
  · obtain ⟨o, ho⟩ := Option.ne_none_iff_exists'.mp h
    rw [keep a o ho]
    simp
  · rw [e0, List.length_cons, List.length_cons, List.length_append, List.length_append, List.length_map, List.length_map, List.length_replicate, List.length_replicate, hl]
  · rw [e0]
    cases i with
    | zero => exact absurd (List.mem_singleton.mpr rfl) n
    | succ i =>
      rw [List.getElem?_cons_succ] at g ⊢
      by_cases h : i < ds.length
      · rw [List.getElem?_append_left (by rw [List.length_map]; exact h), List.getElem?_map] at g
        obtain ⟨d', e, z⟩ := Option.map_eq_some_iff.mp g
        cases z
        obtain ⟨v, hv, rv⟩ := r.get e
        refine ⟨v, ?_, rv⟩
        rw [List.getElem?_append_left (by rw [List.length_map, hl]; exact h), List.getElem?_map, hv]
        rfl
      · rw [List.getElem?_append_right (by rw [List.length_map]; omega)] at g
        exfalso
        rw [List.getElem?_replicate] at g
        split at g <;> cases g
  · have : i = 0 := List.mem_singleton.mp m
    subst this
    rw [e0]
    exact ⟨_, _, rfl, rfl, p, _, rfl, np, if_pos rfl, hp, dx, [], rfl, rfl, rfl⟩
  · have z1 : i = 0 := List.mem_singleton.mp mi
    have z2 : j = 0 := List.mem_singleton.mp mj
    exact absurd (z1.trans z2.symm) ij
end
end Dy

set_option linter.all false
set_option maxRecDepth 10000
set_option autoImplicit false
/-! Dy, the head's facts: globals, classes, methods, static methods, constants of classes. -/
namespace Dy
open PySem PySem.Spec PyProof.Rows L2 PySem.W

/-- further facts of a class: read by type.__getattribute__; a constant; a static method -/
inductive Fx where
  | rd (x : Str)
  | cat (x f : Str) (i : Int)
  | sta (x m : Str)
def Fx.ok (K : Frag) : Fx → Bool
  | .rd x => readsIn K (He.ga K x) (.type "type") && decide (specialIn K (.ref (He.ga K x)) "__getattribute__" = some (some (.builtin "type.__getattribute__")))
  | .cat x f i => (match findCls K (.ref (He.ga K x)) (.type "type") f with
    | some (.val (.int j _)) => decide (j = i)
    | _ => false)
  | .sta x m => He5.wrapB K (He.ga K x) "staticmethod" "staticmethod.__get__" m
/-- a default that is an object -/
def dfA (K : Frag) (f : Addr) (j : Nat) : Addr := match K.lookup f with
  | some ⟨_, _, .func fd, _⟩ => (match fd.defaults with
    | .ref T => (match K.lookup T with
      | some ⟨_, _, .seq its _, _⟩ => (match its[j]? with
        | some (.ref a) => a
        | _ => 0)
      | _ => 0)
    | _ => 0)
  | _ => 0
/-- the def of a static method -/
def stA (K : Frag) (x m : Str) : Addr := He5.wf K (He.ga K x) "staticmethod" m
theorem rd_ok {K : Frag} {x : Str} (h : (Fx.rd x).ok K = true) : ClX.CRead K (He.ga K x) (.type "type") := by
  have h : (readsIn K (He.ga K x) (.type "type") && decide (specialIn K (.ref (He.ga K x)) "__getattribute__" = some (some (.builtin "type.__getattribute__")))) = true := h
  rw [Bool.and_eq_true, decide_eq_true_eq] at h
  exact ⟨h.1, h.2⟩
theorem cat_ok {K : Frag} {x f : Str} {i : Int} (h : (Fx.cat x f i).ok K = true) : ∃ u, ClX.CVal K (He.ga K x) (.type "type") f (.int i) u := by
  have h : (match findCls K (.ref (He.ga K x)) (.type "type") f with
    | some (.val (.int j _)) => decide (j = i)
    | _ => false) = true := h
  split at h
  · rename_i j t e
    have e2 := of_decide_eq_true h
    subst e2
    exact ⟨_, e, t, rfl⟩
  · cases h
/-- what a name, a class, a static method stands for: the law's table of facts -/
def obsM (fa : List He.Fa) (fx : List Fx) (fn : List He5.DefA) (K : Frag) : He.AlD := ((fa.all fun f => f.ok K) && ((fx.all fun f => f.ok K) && fn.all fun d => d.ok K), fn.map fun d => He5.fnA K (d.at_ K))
def valM (fn : List He5.DefA) : He.AlD := (true, fn.map He5.DefA.val)
def SaysM (fa : List He.Fa) (fx : List Fx) (fn : List He5.DefA) (K : Frag) : Prop := obsM fa fx fn K = valM fn
def obsMG (n : Nat) (fa : List He.Fa) (fx : List Fx) (fn : List He5.DefA) (g : Addr → Option Obj) : He.AlD := obsM fa fx fn (He.frG g (He5.asA g n))
def hookM (n : Nat) (fa : List He.Fa) (fx : List Fx) (fn : List He5.DefA) : PySem.W.Hook where
  α := He.AlD
  obs := fun s => obsMG n fa fx fn s.heap.get?
  val := fun _ => valM fn
  says := fun _ h => ∃ K : Frag, K.In h ∧ SaysM fa fx fn K
  of := fun _ _ e => ⟨_, He.frG_in, e⟩
  keeps := fun _ _ _ ⟨K, X, c⟩ k => ⟨K, Frag.In.keeps X k, c⟩
theorem obsM_eq {n : Nat} {fa : List He.Fa} {fx : List Fx} {fn : List He5.DefA} {g : Addr → Option Obj} {s : Shared} (h : ∀ a, g a = s.heap.get? a) : obsMG n fa fx fn g = (hookM n fa fx fn).obs s := by
  rw [show g = s.heap.get? from funext h]
  rfl
section
variable {fa : List He.Fa} {fx : List Fx} {fn : List He5.DefA} {K : Frag}
theorem SaysM.all (c : SaysM fa fx fn K) : (fa.all fun f => f.ok K) = true ∧ (fx.all fun f => f.ok K) = true ∧ (fn.all fun d => d.ok K) = true := by
  have z : ((fa.all fun f => f.ok K) && ((fx.all fun f => f.ok K) && fn.all fun d => d.ok K)) = true := congrArg (fun z : He.AlD => z.1) c
  simp only [Bool.and_eq_true] at z
  exact z
theorem says_mem (c : SaysM fa fx fn K) {f : He.Fa} (h : f ∈ fa) : f.ok K = true := List.all_eq_true.mp c.all.1 f h
theorem says_fx (c : SaysM fa fx fn K) {f : Fx} (h : f ∈ fx) : f.ok K = true := List.all_eq_true.mp c.all.2.1 f h
theorem says_def (c : SaysM fa fx fn K) {d : He5.DefA} (h : d ∈ fn) : ∃ fd, L2.FunD K d.name d.qual d.params d.body d.scope (d.dvs K) (d.kws K) (d.at_ K) fd := by
  obtain ⟨i, e⟩ := List.getElem?_of_mem h
  have e1 : fn.map (fun d => He5.fnA K (d.at_ K)) = fn.map He5.DefA.val := congrArg (fun z : He.AlD => z.2) c
  have e2 : (fn.map fun d => He5.fnA K (d.at_ K))[i]? = (fn.map He5.DefA.val)[i]? := by rw [e1]
  rw [List.getElem?_map, List.getElem?_map, e] at e2
  exact He5.DefA.funD (Option.some.inj e2) (List.all_eq_true.mp c.all.2.2 d h)
end
end Dy

set_option linter.all false
set_option maxRecDepth 10000
set_option autoImplicit false
/-! Dy, part 18: a table of defs; the draws; a law. -/
namespace Dy
open PySem PySem.Spec PyProof.Rows L2
/-- a def: the name of its data, its statement, its slots, its parameters, its body's data; where it stands (a global's name; a class and its method), its own names, its defaults; whether it is an __init__ -/
structure Dn where
  x : Str
  st : Stmt
  N : List Str
  ps : List Str
  os : List OS
  at_ : Str × Option Str
  name : Str
  qual : Str
  dfl : List He.Dv := []
  ini : Bool := false
  /-- a static method -/
  sta : Bool := false
def Dn.ad (d : Dn) (K : PySem.W.Frag) : Addr := match d.sta with
  | true => stA K d.at_.1 (d.at_.2.getD Str.empty)
  | false => He.fAd K d.at_
def Dn.dd (d : Dn) : He5.DefA := { at_ := d.ad, name := d.name, qual := d.qual, params := defArgs d.st, body := defBody d.st, scope := defScope d.st, dfl := d.dfl }
def Dn.FunIs (d : Dn) (K : PySem.W.Frag) (f : Addr) (fd : FuncData) : Prop := FunD K d.name d.qual (defArgs d.st) (defBody d.st) (defScope d.st) (d.dfl.map (He.Dv.v K)) [] f fd
section
variable {P : Program} {w : World} {K : PySem.W.Frag} {mg : Str → Option Value} {base : Heap} {g : Gf} {C : Calls} {k : Nat}
theorem fn_dyD (M : Mo P w K mg base g C k) (d : Dn) {f : Addr} {fd : FuncData} (F : d.FunIs K f fd) (S : FnScope d.N d.ps (defScope d.st)) (n : Nat) (ht : stripSs ⟨d.N, g⟩ (defScope d.st) n (defBody d.st) = d.os) :
    FnOk P w K mg base (L2.CX P w) (k + 1) f fd d.ps (spD K d.ps.length (runB C d.N.length d.os)) := by
  refine FunD.ok F S (fun vs H Q E ⟨bg, S, ds, hn, W, r, q⟩ => by rw [r.length, hn]) fun cdv A outer s H vs Q E hr ⟨bg, S0, ds, hn, W, r, q⟩ => ?_
  refine ⟨_, body_dy M S hr (defBody d.st) n bg S0 H (fun e => ∀ (cls : Value) (dx : Option Addr) (S' : Addr → Prop) (H' : Hp), Wld bg S' H' → Ext bg S0 H S' H' → RepX K bg S' H' e cls dx → E cls dx H'), _, _, S0, At.start W r, ?_⟩
  rw [ht]
  refine T.all_imp (T.all_bind.mp q) fun fl hf => ?_
  cases fl with
  | nx Γ O => exact fun σ' S' H' a _ _ => hf .non S' H' a.wld a.ext rfl
  | bk Γ O => exact hf.elim
  | ct Γ O => exact hf.elim
  | rt r Γ O => exact fun v σ' S' H' a _ _ rv => hf v S' H' a.wld a.ext rv
/-- an own instance at the end of __init__ is frozen -/
theorem At.done {bg : Option (Addr × Addr)} {S0 S' : Addr → Prop} {H0 H' : Hp} {O : List Nat} {Γ : Gam} {σ : L2.St} {p : Addr} {d : D} (a : At K bg S0 H0 O Γ S' σ H') (h0 : 0 ∈ O) (g0 : Γ[0]? = some (some d)) (s0 : σ[0]? = some (some (.ref p))) : Wld bg (plus S' p) H' ∧ Ext bg S0 H0 (plus S' p) H' ∧ Rep K bg (plus S' p) H' d (.ref p) := by
  obtain ⟨d', v, gg, e, p', o, ev, np, hz, hp, r⟩ := a.abs.own 0 h0
  rw [g0] at gg
  cases gg
  rw [s0] at e
  cases e
  cases ev
  exact ⟨Wld.froze a.wld0 a.wld hz (by rw [hp]; simp), a.ext.froze hz, (r.mono (fun _ h => .inl h) (fun _ _ _ z => z)).rep (.inr rfl) hp⟩
theorem fn_init (M : Mo P w K mg base g C k) (d : Dn) {f : Addr} {fd : FuncData} {m : Nat} {x : Str} (F : d.FunIs K f fd) (S : FnScope d.N d.ps (defScope d.st)) (n : Nat) (ht : stripSs ⟨d.N, g⟩ (defScope d.st) n (defBody d.st) = d.os) (hp2 : d.ps.length = m + 1) (w0 : 0 ∉ wrSs d.os) :
    FnOk P w K mg base (L2.CX P w) (k + 1) f fd d.ps (spI K x m (runI C x d.N.length d.os)) := by
  refine FunD.ok F S (fun vs H Q E ⟨bg, S, p, dx, ws, ds, e, hn, _, _, _, r, _⟩ => by rw [e, List.length_cons, r.length, hn, hp2]) fun cdv A outer s H vs Q E hr ⟨bg, S0, p, dx, ws, ds, e, hn, np, hp, W, r, q⟩ => ?_
  subst e
  refine ⟨_, body_dy M S hr (defBody d.st) n bg S0 (fun a => if a = p then none else H a) (fun e => ∀ (cls : Value) (dx : Option Addr) (S' : Addr → Prop) (H' : Hp), Wld bg S' H' → Ext bg S0 (fun a => if a = p then none else H a) S' H' → RepX K bg S' H' e cls dx → E cls dx H'), _, _, S0, At.startI (N := d.N) np hp W r, ?_⟩
  rw [ht]
  refine T.all_imp (T.all_bind.mp q) fun fl hf => ?_
  have hs0 : ∀ σ' : L2.St, Agr (wrSs d.os) (L2.start d.N (.ref p :: ws)) σ' → σ'[0]? = some (some (.ref p)) := fun σ' u => by
    rw [u 0 w0]
    rfl
  cases fl with
  | nx Γ O =>
    intro σ' S' H' a _ u
    obtain ⟨c, hf⟩ := T.all_need hf
    have c := of_decide_eq_true c
    split at hf
    · rename_i dd hd
      obtain ⟨w1, w2, w3⟩ := At.done a c hd (hs0 σ' u)
      exact hf _ H' w1 w2 w3
    · exact hf.elim
  | bk Γ O => exact hf.elim
  | ct Γ O => exact hf.elim
  | rt rr Γ O =>
    intro v σ' S' H' a _ u rv
    obtain ⟨c, hf⟩ := T.all_need hf
    rw [Bool.and_eq_true, decide_eq_true_eq] at c
    obtain ⟨c0, c⟩ := c
    have ev : v = .non := by
      obtain ⟨dd, fr⟩ := rr
      cases dd <;> first | (cases c0; done) | skip
      cases fr with
      | false => exact rv
      | true =>
        obtain ⟨_, _, _, _, _, _, z⟩ := rv
        exact z.elim
    subst ev
    split at hf
    · rename_i dd hd
      obtain ⟨w1, w2, w3⟩ := At.done a c hd (hs0 σ' u)
      exact hf _ H' w1 w2 w3
    · exact hf.elim
theorem fn_noneI {a : Addr} {fd : FuncData} {ps : List Str} {m : Nat} {x : Str} : FnOk P w K mg base (L2.CX P w) k a fd ps (spI K x m fun _ => .bad) :=
  ⟨fun vs H Q E ⟨_, _, _, _, _, _, _, _, _, _, _, _, q⟩ => q.elim, fun A outer s H args us vs Q E _ _ _ _ ⟨_, _, _, _, _, _, _, _, _, _, _, _, q⟩ => q.elim⟩
/-- a draw below many -/
def pullD : List D → T (D × Bool)
  | [.bag, .int many] => .need (decide (0 < many ∧ many < 2 ^ 70)) (.draw many.toNat fun i => .ret (.int (i : Nat), false))
  | _ => .bad
/-- what the draws' body must do -/
def PullOk (C : Calls) (os : List OS) (n : Nat) : Prop := ∀ (cc : Nat) (cells : List Int) (i m st c many : Int), 0 ≤ i → 0 ≤ m → 0 ≤ st → st < 2147483399 → i ≤ cells.length → 0 < many → many < 2 ^ 70 →
  (exSs C os (some (.lst [.scr cc cells, .int i, .int m, .int st, .int c]) :: some (.int many) :: List.replicate (n - 2) none) [0]).All (fun f => ∃ (r i' m' st' c' : Int) (Γ : Gam), f = .rt (.int r, false) (some (.lst [.scr cc cells, .int i', .int m', .int st', .int c']) :: Γ) [0] ∧
    0 ≤ i' ∧ 0 ≤ m' ∧ 0 ≤ st' ∧ st' < 2147483399 ∧ i' ≤ cells.length ∧ 0 ≤ r ∧ r < many) NX
theorem fn_pull (M : Mo P w K mg base g C k) (d : Dn) {f : Addr} {fd : FuncData} (F : d.FunIs K f fd) (S : FnScope d.N d.ps (defScope d.st)) (n : Nat) (ht : stripSs ⟨d.N, g⟩ (defScope d.st) n (defBody d.st) = d.os) (hp2 : d.ps.length = 2) (hN : 2 ≤ d.N.length) (w0 : 0 ∉ wrSs d.os) (hall : PullOk C d.os d.N.length) :
    FnOk P w K mg base (L2.CX P w) (k + 1) f fd d.ps (spD K d.ps.length pullD) := by
  refine FunD.ok F S (fun vs H Q E ⟨bg, S, ds, hn, W, r, q⟩ => by rw [r.length, hn]) fun cdv A outer s H vs Q E hr ⟨bg, S0, ds, hn, W, r, q⟩ => ?_
  unfold pullD at q
  split at q
  · rename_i many
    obtain ⟨c, q⟩ := T.all_need q
    obtain ⟨c1, c2⟩ := of_decide_eq_true c
    obtain ⟨v1, v2, ev, r1, r2⟩ := Reps.two r
    obtain ⟨b, eb, e1⟩ := r1
    have e2 : v2 = .int many := r2
    subst ev e1 e2
    obtain ⟨⟨cells, i, m, st, cn, h1, h2, h3, h4, h5, h6, h7⟩, nB, ne⟩ := W.bag b eb
    -- the body's own world: the draws' list is its own
    have t0 : ∀ (a : Addr) (xs : List V), (fun a => if a = b.1 then none else H a) a = some (.tup xs) → S0 a ∨ a = b.2 := fun a xs z => by
      have z : (if a = b.1 then none else H a) = some (.tup xs) := z
      split at z
      · cases z
      · exact .inl (W.tup a xs z)
    have W0 : Wld none (fun a => S0 a ∨ a = b.2) (fun a => if a = b.1 then none else H a) := ⟨fun a z => by
      rcases z with z | z
      · show (if a = b.1 then none else H a) ≠ none
        rw [if_neg (fun (y : a = b.1) => nB (y ▸ z))]
        exact W.dom a z
      · subst z
        show (if b.2 = b.1 then none else H b.2) ≠ none
        rw [if_neg ne]
        rcases h2 with h2 | ⟨o, h2⟩ <;> (rw [h2]; simp), (fun b' e => by cases e), t0⟩
    have WH : Wld none (fun a => S0 a ∨ a = b.2) H := ⟨fun a z => by
      rcases z with z | z
      · exact W.dom a z
      · subst z
        rcases h2 with h2 | ⟨o, h2⟩ <;> (rw [h2]; simp), (fun b' e => by cases e), fun a xs z => .inl (W.tup a xs z)⟩
    have hstart : L2.start d.N [V.ref b.1, V.int many] = some (V.ref b.1) :: some (V.int many) :: List.replicate (d.N.length - 2) none := rfl
    have a0 : At K none (fun a => S0 a ∨ a = b.2) (fun a => if a = b.1 then none else H a) [0] (some (.lst [.scr b.2 cells, .int i, .int m, .int st, .int cn]) :: some (.int many) :: List.replicate (d.N.length - 2) none) (fun a => S0 a ∨ a = b.2) (L2.start d.N [V.ref b.1, V.int many]) H := by
      rw [hstart]
      refine ⟨W0, WH, ⟨fun _ h => h, fun a h => .inl h, fun a o h _ => ?_, fun a h => ?_⟩, by simp, fun j dd nj g => ?_, fun j hj => ?_, fun j j' a hj hj' jj => ?_⟩
      · have h : (if a = b.1 then none else H a) = some o := h
        split at h
        · cases h
        · exact h
      · have h : (if a = b.1 then none else H a) ≠ none := h
        split at h
        · exact absurd rfl h
        · exact h
      · match j, g with
        | 0, _ => exact absurd (List.mem_singleton.mpr rfl) nj
        | 1, g =>
          cases g
          exact ⟨_, rfl, rfl⟩
        | j + 2, g =>
          exfalso
          have g : (List.replicate (d.N.length - 2) (none : Option D))[j]? = some (some dd) := g
          rw [List.getElem?_replicate] at g
          split at g <;> cases g
      · have : j = 0 := List.mem_singleton.mp hj
        subst this
        have nn : ¬ (S0 b.1 ∨ b.1 = b.2) := fun z => by
          rcases z with z | z
          · exact nB z
          · exact ne z.symm
        exact ⟨_, _, rfl, rfl, b.1, _, rfl, nn, if_pos rfl, h1, _, rfl, _, _, rfl, ⟨rfl, .inl ⟨.inr rfl, h2⟩⟩, _, _, rfl, rfl, _, _, rfl, rfl, _, _, rfl, rfl, _, _, rfl, rfl, rfl⟩
      · have z1 : j = 0 := List.mem_singleton.mp hj
        have z2 : j' = 0 := List.mem_singleton.mp hj'
        exact absurd (z1.trans z2.symm) jj
    refine ⟨_, body_dy M S hr (defBody d.st) n none _ _ NX, [0], _, _, a0, ?_⟩
    rw [ht]
    refine T.all_imp (hall b.2 cells i m st cn many h3 h4 h5 h6 h7 c1 c2) fun fl hf => ?_
    obtain ⟨rr, i', m', st', cn', Γ, efl, g1, g2, g3, g4, g5, g6, g7⟩ := hf
    subst efl
    intro v σ' S' H' a' t' u rv
    have rv : v = .int rr := rv
    subst rv
    have s0 : σ'[0]? = some (some (.ref b.1)) := u 0 w0
    obtain ⟨d', v', g, e, p, o', ev', np, hz, hp, rs⟩ := a'.abs.own 0 (by simp)
    rw [s0] at e
    cases e
    cases ev'
    cases g
    obtain ⟨xs, eo, rs⟩ := rs
    subst eo
    obtain ⟨x0, xs, q0, ⟨q1, _⟩, x1, xs1, q2, q3, x2, xs2, q4, q5, x3, xs3, q6, q7, x4, xs4, q8, q9, q10⟩ := rs
    have q3 : x1 = .int i' := q3
    have q5 : x2 = .int m' := q5
    have q7 : x3 = .int st' := q7
    have q9 : x4 = .int cn' := q9
    have q10 : xs4 = [] := q10
    subst q10 q9 q8 q7 q6 q5 q4 q3 q2 q1 q0
    have stay : ∀ a o, H a = some o → a ≠ b.1 → H' a = some o := fun a o h n => a'.ext.keep a o (by show (if a = b.1 then none else H a) = some o; rw [if_neg n]; exact h) (fun ⟨_, e, _⟩ => by cases e)
    have key := q rr.toNat (by omega) (.int rr) (fun a => S0 a ∨ ∃ ys, H' a = some (.tup ys)) H' ⟨fun a z => ?_, fun b' e => ?_, fun a ys z => .inr ⟨ys, z⟩⟩ ⟨fun _ h => .inl h, fun a h => ?_, fun a o h nb => stay a o h (fun z => nb ⟨b, eb, z⟩), fun a h => ?_⟩ (by show V.int rr = V.int _; rw [Int.toNat_of_nonneg g6])
    · exact key
    · rcases z with z | ⟨ys, z⟩
      · have := W.dom a z
        obtain ⟨o, ho⟩ := Option.ne_none_iff_exists'.mp this
        rw [stay a o ho (fun y => nB (y ▸ z))]
        simp
      · rw [z]; simp
    · rw [eb] at e
      cases e
      refine ⟨⟨cells, i', m', st', cn', hp, h2.imp (fun z => stay _ _ z ne) (fun ⟨o, z⟩ => ⟨o, stay _ _ z ne⟩), g1, g2, g3, g4, g5⟩, fun z => ?_, ne⟩
      rcases z with z | ⟨ys, z⟩
      · exact nB z
      · rw [hp] at z; cases z
    · rcases h with h | ⟨ys, h⟩
      · exact .inl h
      · cases e0 : H a with
        | none => exact .inr rfl
        | some o =>
          have ab : a ≠ b.1 := fun z => by
            rw [z, hp] at h
            cases h
          have := stay a o e0 ab
          rw [h] at this
          cases this
          exact .inl (W.tup a ys e0)
    · by_cases z : a = b.1
      · rw [z, hp]; simp
      · obtain ⟨o, ho⟩ := Option.ne_none_iff_exists'.mp h
        rw [stay a o ho z]
        simp
  · exact q.elim
end
end Dy

set_option linter.all false
set_option maxRecDepth 10000
set_option autoImplicit false
/-! Dy, part 19: all defs of a table; the law's def. -/
namespace Dy
open PySem PySem.Spec PyProof.Rows L2
/-- a way to call the def: so many values, such keywords, from where each parameter comes -/
def RowOk (d : Dn) (n : Nat) (ks : List Str) (sel : List Sr) : Prop := ∀ (T : Addr) (kV doc pm : Value) (an : Option Addr) (cdv ct : Value) (us ws its : List Value), us.length = n → ws.length = ks.length → its.length = d.dfl.length →
  match d.dfl with
  | [] => bindArgs (PySem.W.fnOf d.name d.qual (defArgs d.st) (defBody d.st) (defScope d.st) .none kV doc pm an cdv ct) ⟨us, ks.zip ws⟩ = pure (d.ps.zip (selL sel us ws []))
  | _ :: _ => ∃ k, bindArgs (PySem.W.fnOf d.name d.qual (defArgs d.st) (defBody d.st) (defScope d.st) (.ref T) kV doc pm an cdv ct) ⟨us, ks.zip ws⟩ = seqItems? (.ref T) >>= k ∧ k (some its.toArray) = pure (d.ps.zip (selL sel us ws []))
section
variable {P : Program} {w : World} {K : PySem.W.Frag} {mg : Str → Option Value} {base : Heap} {g : Gf} {C : Calls} {k : Nat}
theorem RowOk.shape {d : Dn} {n : Nat} {ks : List Str} {sel : List Sr} {f : Addr} {fd : FuncData} (R : RowOk d n ks sel) (F : d.FunIs K f fd) : Shape K fd d.ps n ks sel [] := by
  refine ⟨[], [], .nil, fun bg S H => rfl, fun s us ws X l1 l2 => ?_⟩
  obtain ⟨oc, od, dV, kV, doc, pm, an, cdv, ct, osl, e, lk, hcd, hD, hK⟩ := F.ex
  subst e
  unfold RowOk at R
  cases hdf : d.dfl with
  | nil =>
    rw [hdf] at R hD
    rcases hD with ⟨_, rfl⟩ | ⟨e, _⟩
    · exact .of_eq (R 0 kV doc pm an cdv ct us ws [] l1 l2 rfl)
    · exact absurd rfl e
  | cons dv dvs =>
    rw [hdf] at R hD
    rcases hD with ⟨e, _⟩ | ⟨_, T, o, its, m, rfl, lT, oT, rT⟩
    · cases e
    · obtain ⟨k, e1, e2⟩ := R T kV doc pm an cdv ct us ws its l1 l2 (by rw [← rT.length, List.length_map])
      refine BindsTo.of_looks fun M => ?_
      rw [e1]
      exact looks_items X lT oT (.of_pure e2)
/-- where the row of a call leads to -/
def FnRow (ds : List Dn) (q : (Str × Nat × List Str) × (List Sr × List D)) : Prop := ∃ d ∈ ds, q.2.2 = [] ∧ d.sta = false ∧ ((d.ini = false ∧ d.x = q.1.1 ∧ d.at_ = (q.1.1, none) ∧ q.2.1.length = d.ps.length ∧ RowOk d q.1.2.1 q.1.2.2 q.2.1) ∨
  (d.ini = true ∧ d.x = q.1.1 ∧ d.at_ = (q.1.1, some ("__init__" : Str)) ∧ q.2.1.length + 1 = d.ps.length ∧ RowOk d (q.1.2.1 + 1) q.1.2.2 (.pos 0 :: q.2.1.map Sr.up)))
def MthRow (ds : List Dn) (m : Str) (n : Nat) (ks : List Str) (r : Str × Str × List Sr × List D) : Prop := ∃ d ∈ ds, r.2.2.2 = [] ∧ d.sta = false ∧ d.ini = false ∧ d.x = r.2.1 ∧ d.at_ = (r.1, some m) ∧ r.2.2.1.length = d.ps.length ∧ RowOk d (n + 1) ks r.2.2.1
def StaRow (ds : List Dn) (q : (Str × Str) × Str) : Prop := ∃ d ∈ ds, d.sta = true ∧ d.ini = false ∧ d.x = q.2 ∧ d.at_ = (q.1.1, some q.1.2) ∧ d.ps = [] ∧ RowOk d 0 [] []
/-- an alias: the body of the def one level lower -/
def aliB (key : Str) : List OS := [.ret (.call key [.var 0] [] [.pos 0] [])]
/-- a class with its own __len__ -/
def LenRow (ds : List Dn) (tb : Tb) (hd : Str → Option (List D → T (D × Bool))) (q : Str × Str) : Prop := ∃ d ∈ ds, d.sta = false ∧ d.ini = false ∧ d.at_ = (q.1, some ("__len__" : Str)) ∧ d.ps.length = 1 ∧ RowOk d 1 [] [.pos 0] ∧ hd q.2 = none ∧ tb.lookup q.2 = some (1, aliB d.x, false)
theorem ali_run {C : Calls} {key : Str} {d : D} : runB C 1 (aliB key) [d] = C key [d] := by
  unfold runB aliB
  show T.bind (exSs C [.ret (.call key [.var 0] [] [.pos 0] [])] [some d] []) _ = _
  rw [exSs, exS]
  show T.bind (T.bind (T.bind (evX C (.call key [.var 0] [] [.pos 0] []) [some d]) _) _) _ = _
  rw [evX, evEs, evEs, evE, evEs]
  show T.bind (T.bind (T.bind (C key [d]) _) _) _ = _
  rw [T.bind_assoc, T.bind_assoc]
  · refine (congrArg (C key [d]).bind (funext fun r => ?_)).trans (T.bind_ret _)
    rfl
  · intro i h
    cases h
theorem mo_all {ds : List Dn} {tb : Tb} {hd : Str → Option (List D → T (D × Bool))} {n : Nat}
    (hglb : ∀ x d, g.glb.lookup x = some d → ∃ u v, mg x = some u ∧ RelV v u ∧ ∀ bg S H, Rep K bg S H d v) (hfree : ∀ x, x ∈ frees → mg x = none)
    (hflds : ∀ f cs, g.flds.lookup f = some cs → ∀ x, cs.contains x = true → Cls K (He.ga K x) ∧ NoAttr K (He.ga K x) f)
    (hcats : ∀ x f d, g.cats.lookup (x, f) = some d → ∃ a v u mc, mg x = some (.ref a) ∧ ClX.CRead K a mc ∧ ClX.CVal K a mc f v u ∧ ∀ bg S H, Rep K bg S H d v)
    (hs : ∀ d ∈ ds, FnScope d.N d.ps (defScope d.st)) (F : ∀ d ∈ ds, ∃ fd, d.FunIs K (d.ad K) fd)
    (hmg : ∀ d ∈ ds, d.sta = false → ∀ x, d.at_ = (x, none) → mg x = some (.ref (He.ga K x))) (hmi : ∀ d ∈ ds, d.ini = true → ∀ x, d.at_ = (x, some ("__init__" : Str)) → mg x = some (.ref (He.ga K x)) ∧ Mk K (He.ga K x) (He.ma K (He.ga K x) "__init__"))
    (hmm : ∀ d ∈ ds, d.sta = false → d.ini = false → ∀ x m, d.at_ = (x, some m) → Cls K (He.ga K x) ∧ Meth K (He.ga K x) m (He.ma K (He.ga K x) m))
    (ht : ∀ d ∈ ds, stripSs ⟨d.N, g⟩ (defScope d.st) n (defBody d.st) = d.os) (hw : ∀ d ∈ ds, d.ini = true → 0 ∉ wrSs d.os ∧ d.ps ≠ [])
    (hh : ∀ d ∈ ds, ∀ h, hd d.x = some h → d.ini = false ∧ ∀ (k : Nat) (C : Calls) (fd : FuncData), Mo P w K mg base g C k → d.FunIs K (d.ad K) fd → FnOk P w K mg base (L2.CX P w) (k + 1) (d.ad K) fd d.ps (spD K d.ps.length h))
    (htb : ∀ d ∈ ds, tb.lookup d.x = some (d.N.length, d.os, d.ini)) (hfn : ∀ q ∈ g.fns, FnRow ds q) (hmt : ∀ q ∈ g.mths, ∀ r ∈ q.2, MthRow ds q.1.1 q.1.2.1 q.1.2.2 r) (hst : ∀ q ∈ g.sts, StaRow ds q) (hsx : ∀ q ∈ g.sts, mg q.1.1 = some (.ref (He.ga K q.1.1)) ∧ (Fx.rd q.1.1).ok K = true ∧ (Fx.sta q.1.1 q.1.2).ok K = true) (hln : ∀ q ∈ g.lens, LenRow ds tb hd q) : ∀ k, Mo P w K mg base g (run tb hd k) k := by
  -- what is known of every def at a level
  let Lv (k : Nat) : Prop := ∀ d ∈ ds, ∀ fd, d.FunIs K (d.ad K) fd →
    (d.ini = false → FnOk P w K mg base (L2.CX P w) k (d.ad K) fd d.ps (spD K d.ps.length (run tb hd k d.x))) ∧
    (d.ini = true → ∃ j G, (k = j + 1 ∨ ∀ ds, G ds = .bad) ∧ FnOk P w K mg base (L2.CX P w) j (d.ad K) fd d.ps (spI K d.x (d.ps.length - 1) G) ∧ ∀ ds, run tb hd k d.x ds = (G ds).bind fun d => .ret (d, false))
  have up : ∀ k, Lv k → (k = 0 ∨ ∃ j, k = j + 1 ∧ Lv j) → Mo P w K mg base g (run tb hd k) k := fun k h hlow => by
    refine ⟨hglb, hfree, fun f nn ks sel dfts e => ?_, hflds, fun m nn ks rows e x key sel dfts e2 => ?_, hcats, fun x m key e => ?_, fun x key e => ?_⟩
    · obtain ⟨d, hd1, r0, rs, R⟩ := hfn _ (lk_mem e)
      obtain ⟨fd, F1⟩ := F d hd1
      have r0 : dfts = [] := r0
      subst r0
      obtain ⟨h1, h2⟩ := h d hd1 fd F1
      rcases R with ⟨r1, r2, r3, r4, r5⟩ | ⟨r1, r2, r3, r4, r5⟩
      · have r2 : d.x = f := r2
        have r3 : d.at_ = (f, none) := r3
        have r4 : sel.length = d.ps.length := r4
        have had : d.ad K = He.ga K f := by unfold Dn.ad; rw [rs, r3]; rfl
        refine .inl ⟨d.ad K, fd, d.ps, ?_, F1.kp, ?_, r5.shape F1⟩
        · rw [had]
          exact hmg d hd1 rs f r3
        · rw [r4, ← r2]
          exact h1 r1
      · have r2 : d.x = f := r2
        have r3 : d.at_ = (f, some ("__init__" : Str)) := r3
        have r4 : sel.length + 1 = d.ps.length := r4
        obtain ⟨m1, m2⟩ := hmi d hd1 r1 f r3
        obtain ⟨j, G, g1, g2, g3⟩ := h2 r1
        have had : d.ad K = He.ma K (He.ga K f) "__init__" := by unfold Dn.ad; rw [rs, r3]; rfl
        refine .inr ⟨j, _, fd, d.ps, G, g1, m1, m2, ?_, r5.shape F1, ?_⟩
        · rw [had, r2, show d.ps.length - 1 = sel.length by omega] at g2
          exact g2
        · rw [← r2]
          exact g3
    · obtain ⟨d, hd1, r0, rs, r1, r2, r3, r4, r5⟩ := hmt _ (lk_mem e) _ (lk_mem e2)
      obtain ⟨fd, F1⟩ := F d hd1
      have r0 : dfts = [] := r0
      subst r0
      obtain ⟨h1, h2⟩ := h d hd1 fd F1
      have r2 : d.x = key := r2
      have r3 : d.at_ = (x, some m) := r3
      have r4 : sel.length = d.ps.length := r4
      obtain ⟨m1, m2⟩ := hmm d hd1 rs r1 x m r3
      have had : d.ad K = He.ma K (He.ga K x) m := by unfold Dn.ad; rw [rs, r3]; rfl
      refine ⟨fd, d.ps, m1, m2, ?_, r5.shape F1⟩
      have := h1 r1
      rw [had, r2] at this
      rw [r4]
      exact this
    · have q0 := lk_mem e
      obtain ⟨d, hd1, r1, r2, r3, r4, r5, r6⟩ := hst _ q0
      obtain ⟨m1, m2, m3⟩ := hsx _ q0
      obtain ⟨fd, F1⟩ := F d hd1
      obtain ⟨w1, w2⟩ := He5.wrapB_ok (show He5.wrapB K (He.ga K x) "staticmethod" "staticmethod.__get__" m = true from m3)
      have r3 : d.x = key := r3
      have r4 : d.at_ = (x, some m) := r4
      have had : d.ad K = stA K x m := by unfold Dn.ad; rw [r1, r4]; rfl
      have h1 := (h d hd1 fd F1).1 r2
      rw [had, r3, r5] at h1
      have kp := F1.kp
      rw [had] at kp
      have sh := r6.shape F1
      rw [r5] at sh
      exact ⟨_, _, _, stA K x m, fd, m1, rd_ok m2, ⟨w1, w2⟩, kp, h1, sh⟩
    · obtain ⟨d, hd1, rs, r1, r2, r3, r4, r5, r6⟩ := hln _ (lk_mem e)
      obtain ⟨fd, F1⟩ := F d hd1
      have r2 : d.at_ = (x, some ("__len__" : Str)) := r2
      obtain ⟨m1, m2⟩ := hmm d hd1 rs r1 x _ r2
      have had : d.ad K = He.ma K (He.ga K x) "__len__" := by unfold Dn.ad; rw [rs, r2]; rfl
      have sh := r4.shape F1
      rcases hlow with e0 | ⟨j, e0, hj⟩
      · subst e0
        refine ⟨0, fun _ => .bad, fd, d.ps, .inr fun _ => rfl, m2, ?_, sh, fun _ => rfl⟩
        have z := (h d hd1 fd F1).1 r1
        rw [had, r3] at z
        exact z
      · subst e0
        refine ⟨j, run tb hd j d.x, fd, d.ps, .inl rfl, m2, ?_, sh, fun y => ?_⟩
        · have z := (hj d hd1 fd F1).1 r1
          rw [had, r3] at z
          exact z
        · have step : ∀ C I, stepC tb hd C I key [y] = runB C 1 (aliB d.x) [y] := fun C I => by
            unfold stepC
            rw [show hd key = none from r5]
            dsimp only
            rw [show tb.lookup key = some (1, aliB d.x, false) from r6]
          cases j with
          | zero =>
            show stepC tb hd (fun _ _ => .bad) _ key [y] = _
            rw [step, ali_run]
            rfl
          | succ j =>
            show stepC tb hd (run tb hd (j + 1)) _ key [y] = _
            rw [step, ali_run]
  -- one level up
  have one : ∀ k (C : Calls) (I : Str → Nat → List OS → List D → T D), Mo P w K mg base g C k → run tb hd (k + 1) = stepC tb hd C I →
      (∀ d ∈ ds, ∀ fd, d.FunIs K (d.ad K) fd → d.ini = true → ∃ j, (k = j ∨ ∀ ds, I d.x d.N.length d.os ds = .bad) ∧ FnOk P w K mg base (L2.CX P w) j (d.ad K) fd d.ps (spI K d.x (d.ps.length - 1) (I d.x d.N.length d.os))) → Lv (k + 1) := fun k C I M er hI d hd1 fd F1 => by
    rw [er]
    refine ⟨fun hi => ?_, fun hi => ?_⟩
    · cases e : hd d.x with
      | some h =>
        have q : stepC tb hd C I d.x = h := by
          funext ds
          unfold stepC
          rw [e]
        rw [q]
        exact (hh d hd1 h e).2 k C fd M F1
      | none =>
        have q : stepC tb hd C I d.x = runB C d.N.length d.os := by
          funext ds
          unfold stepC
          rw [e, htb d hd1, hi]
        rw [q]
        exact fn_dyD M d F1 (hs d hd1) n (ht d hd1)
    · obtain ⟨j, h1, h2⟩ := hI d hd1 fd F1 hi
      refine ⟨j, _, h1.imp (fun z => by rw [z]) id, h2, fun dd => ?_⟩
      unfold stepC
      cases e : hd d.x with
      | some h =>
        have := (hh d hd1 h e).1
        rw [hi] at this
        cases this
      | none =>
        dsimp only
        rw [htb d hd1, hi]
  have L0 : Lv 0 := fun d _ fd _ => ⟨fun _ => fn_none, fun _ => ⟨0, fun _ => .bad, .inr fun _ => rfl, fn_noneI, fun _ => rfl⟩⟩
  have L1 : Lv 1 := one 0 _ _ (up 0 L0 (.inl rfl)) rfl fun d _ fd _ _ => ⟨0, .inr fun _ => rfl, fn_noneI⟩
  have two : ∀ k, Lv k ∧ Lv (k + 1) ∧ (k = 0 ∨ ∃ j, k = j + 1 ∧ Lv j) := fun k => by
    induction k with
    | zero => exact ⟨L0, L1, .inl rfl⟩
    | succ k ih =>
      refine ⟨ih.2.1, one (k + 1) (run tb hd (k + 1)) (runI (run tb hd k)) (up _ ih.2.1 (.inr ⟨k, rfl, ih.1⟩)) rfl fun d hd1 fd F1 hi => ⟨k + 1, .inl rfl, ?_⟩, .inr ⟨k, rfl, ih.1⟩⟩
      have hp : d.ps.length = (d.ps.length - 1) + 1 := by
        have := List.length_pos_iff.mpr (hw d hd1 hi).2
        omega
      exact fn_init (up k ih.1 ih.2.2) d F1 (hs d hd1) n (ht d hd1) hp (hw d hd1 hi).1
  exact fun k => up k (two k).1 (two k).2.2
theorem ints_of {bg : Option (Addr × Addr)} {S : Addr → Prop} {H : Hp} : ∀ {ns : List Int} {vs : List V}, Reps K bg S H (ns.map D.int) vs → vs = ns.map V.int
  | [], vs, h => h
  | n :: ns, vs, h => by
    obtain ⟨x, r, e, h1, h2⟩ := h
    have h1 : x = .int n := h1
    rw [e, h1, ints_of h2]
    rfl
/-- the law's own promise -/
def spLaw (K : PySem.W.Frag) : Sp := fun vs H Q _ => ∃ (a : Addr) (ns : List Int), vs = [.ref a] ∧ SqL K H a (ns.map V.int) ∧ ns.length ≤ 63 ∧ ∀ H', Q (.bl true) H'
def LawBag (C : Calls) (o0 : OS) (n : Nat) : Prop := ∀ (a : Nat) (ns : List Int), ns.length ≤ 63 → (exS C o0 (some (.scr a ns) :: List.replicate (n - 1) none) []).All (fun f => ∃ (cells : List Int) (st : Int), 0 ≤ st ∧ st < 2147483399 ∧
  f = .nx (some (.scr a ns) :: some (.lst [.lst (cells.map D.int), .int 0, .int 0, .int st, .int 0]) :: List.replicate (n - 2) none) [1]) NX
structure LawRest (C : Calls) (os : List OS) (n : Nat) : Prop where
  run : (exSs C os (none :: some .bag :: List.replicate (n - 2) none) []).All (fun f => ∃ Γ O b, f = .rt (.bl true, b) Γ O) NX
theorem fn_law (M : Mo P w K mg base g C k) (d : Dn) {f : Addr} {fd : FuncData} (F : d.FunIs K f fd) (S : FnScope d.N d.ps (defScope d.st)) (n : Nat) (o0 : OS) (os : List OS) (ht : stripSs ⟨d.N, g⟩ (defScope d.st) n (defBody d.st) = o0 :: os) (hp1 : d.ps.length = 1) (hN : 2 ≤ d.N.length)
    (h0 : LawBag C o0 d.N.length) (h1 : LawRest C os d.N.length) : FnOk P w K mg base (L2.CX P w) (k + 1) f fd d.ps (spLaw K) := by
  refine FunD.ok F S (fun vs H Q E ⟨a, ns, e, _⟩ => by rw [e, hp1]; rfl) fun cdv A outer s H vs Q E hr ⟨a, ns, e, hS, hl, hQ⟩ => ?_
  subst e
  cases hb : defBody d.st with
  | nil => rw [hb, stripSs] at ht; cases ht
  | cons s0 rest =>
    rw [hb] at ht
    cases n with
    | zero =>
      rw [stripSs] at ht
      cases ht
      have := h0 0 [] (by simp)
      rw [exS] at this
      exact this.elim
    | succ n =>
      rw [stripSs] at ht
      injection ht with e0 e1
      have G := M.good (cdv := cdv) (s := s) (H := H) (outer := outer) (E := E) S hr
      have p0 := fun bg S0 H0 EX => ((snd_s (fun n => snd _ _ _ n) G (pasX (bg := bg) (S0 := S0) (H0 := H0) (EX := EX)) tg_start n).1 s0)
      have p1 := fun bg S0 H0 EX => ((snd_s (fun n => snd _ _ _ n) G (pasX (bg := bg) (S0 := S0) (H0 := H0) (EX := EX)) tg_start n).2 rest)
      obtain ⟨S0, W0, sat⟩ : ∃ S0, Wld none S0 H ∧ SAt K S0 H a (ns.map V.int) := by
        rcases hS with z | z
        · refine ⟨fun b => b = a ∨ ∃ ys, H b = some (.tup ys), ⟨fun b e => ?_, (fun b' e => by cases e), fun b ys z => .inr ⟨ys, z⟩⟩, .inl ⟨.inl rfl, z⟩⟩
          rcases e with e | ⟨ys, e⟩
          · rw [e]
            rcases z with z | ⟨o, z⟩ <;> (rw [z]; simp)
          · rw [e]; simp
        · refine ⟨fun b => ∃ ys, H b = some (.tup ys), ⟨fun b e => ?_, (fun b' e => by cases e), fun b ys z => ⟨ys, z⟩⟩, .inr z⟩
          obtain ⟨ys, e⟩ := e
          rw [e]; simp
      have rest' : PSs (cxOf (L2.CX P w) P w K mg base d.N d.qual (defScope d.st) f cdv A outer s H E).nox rest (fun Dn σ H' => ∃ b S1 H1, ExS K (some b) S1 H1 NX (wrSs os) (exSs C os) Dn σ H') :=
        ⟨fun pins s' σ H' Dn I ⟨b, S1, H1, q⟩ => by
          have z := p1 (some b) S1 H1 NX
          rw [e1] at z
          exact z.run pins s' σ H' Dn I q⟩
      have first := p0 none S0 H NX
      rw [e0] at first
      refine ⟨_, PSs.nox (pss_cons first rest'), [], some (.scr a ns) :: List.replicate (d.N.length - 1) none, S0, At.start (ds := [.scr a ns]) W0 ⟨.ref a, [], rfl, ⟨rfl, sat⟩, rfl⟩, ?_⟩
      refine T.all_imp (h0 a ns hl) fun fl hf => ?_
      obtain ⟨cells, st, g1, g2, efl⟩ := hf
      subst efl
      intro σ' S' H' a' t' _
      obtain ⟨d', v', g, e, p, o', ev', np, hz, hp, rs⟩ := a'.abs.own 1 (by simp)
      cases ev'
      cases g
      obtain ⟨xs, eo, rs⟩ := rs
      subst eo
      obtain ⟨x0, xs, q0, ⟨cc, ys, q1, sc, rd, rc⟩, x1, xs1, q2, q3, x2, xs2, q4, q5, x3, xs3, q6, q7, x4, xs4, q8, q9, q10⟩ := rs
      have q3 : x1 = .int 0 := q3
      have q5 : x2 = .int 0 := q5
      have q7 : x3 = .int st := q7
      have q9 : x4 = .int 0 := q9
      have q10 : xs4 = [] := q10
      subst q10 q9 q8 q7 q6 q5 q4 q3 q2 q1 q0
      have ey : ys = cells.map V.int := ints_of rc
      subst ey
      have ncc : cc ≠ p := fun z => np (z ▸ sc)
      have W1 : Wld (some (p, cc)) S' H' := ⟨a'.wld.dom, fun b e => by
        cases e
        exact ⟨⟨cells, 0, 0, st, 0, hp, rd, Int.le_refl _, Int.le_refl _, g1, g2, Int.natCast_nonneg _⟩, np, ncc⟩, a'.wld.tup⟩
      refine ⟨(p, cc), S', H', [], none :: some .bag :: List.replicate (d.N.length - 2) none, S', ⟨W1, W1, .refl, by rw [a'.abs.len]; simp, fun i dd _ gi => ?_, fun i hi => (List.not_mem_nil hi).elim, fun i j aa hi => (List.not_mem_nil hi).elim⟩, ?_⟩
      · match i, gi with
        | 0, gi => cases gi
        | 1, gi =>
          cases gi
          exact ⟨_, e, (p, cc), rfl, rfl⟩
        | i + 2, gi =>
          exfalso
          have gi : (List.replicate (d.N.length - 2) (none : Option D))[i]? = some (some dd) := gi
          rw [List.getElem?_replicate] at gi
          split at gi <;> cases gi
      · refine T.all_imp h1.run fun fl hf => ?_
        obtain ⟨Γ, O, b, efl⟩ := hf
        subst efl
        intro v σ2 S2 H2 _ _ _ rv
        cases b with
        | false =>
          have rv : v = .bl true := rv
          rw [rv]
          exact hQ H2
        | true =>
          obtain ⟨_, _, _, _, _, _, z⟩ := rv
          exact z.elim
end
end Dy

set_option linter.all false
set_option maxRecDepth 10000
set_option autoImplicit false
/-! Dy, part 20: what the law's own helpers come to: the bag, the draws. -/
namespace Dy
open PySem
def osBag : List OS := [
  .set 1 (.const (.int 12007)),
  .for_ (.n 2) (.e (.slice (.var 0) none (some (.const (.int 63))))) [
    .set 1 (.bin .Mod (.bcall .int [(.bin .Add (.bin .Add (.bin .Mult (.var 1) (.const (.int 52379))) (.bin .Mod (.bcall .int [(.var 2)]) (.const (.int 2147483423)))) (.const (.int 19)))]) (.const (.int 2147483399)))],
  .ret (.lst [(.lc (.bcall .int [(.var 2)]) [2] (.n 2) (.e (.slice (.var 0) none (some (.const (.int 63))))) []), (.const (.int 0)), (.const (.int 0)), (.var 1), (.const (.int 0))])]
def osPull : List OS := [
  .put 0 (.const (.int 4)) (.bin .Add (.sub (.var 0) (.const (.int 4))) (.const (.int 1))),
  .if_ (.and_ [(.e (.cmp .Eq (.sub (.var 0) (.const (.int 2))) (.const (.int 0)))), (.e (.cmp .Lt (.sub (.var 0) (.const (.int 1))) (.bcall .len [(.sub (.var 0) (.const (.int 0)))])))]) [
    .set 2 (.sub (.sub (.var 0) (.const (.int 0))) (.sub (.var 0) (.const (.int 1)))),
    .put 0 (.const (.int 1)) (.bin .Add (.sub (.var 0) (.const (.int 1))) (.const (.int 1))),
    .if_ (.e (.cmp .GtE (.var 2) (.bin .Pow (.const (.int 10)) (.const (.int 18))))) [
      .put 0 (.const (.int 2)) (.var 2)] [],
    .put 0 (.const (.int 3)) (.bin .Mod (.bcall .int [(.bin .Add (.bin .Add (.bin .Mult (.sub (.var 0) (.const (.int 3))) (.const (.int 43711))) (.bin .Mult (.bin .Mod (.bcall .int [(.var 2)]) (.const (.int 2147483423))) (.const (.int 38921)))) (.const (.int 97)))]) (.const (.int 2147483399)))] [],
  .if_ (.e (.cmp .Gt (.sub (.var 0) (.const (.int 2))) (.const (.int 0)))) [
    .set 3 (.bin .Mod (.bcall .int [(.sub (.var 0) (.const (.int 2)))]) (.var 1)),
    .put 0 (.const (.int 2)) (.bin .FloorDiv (.bcall .int [(.sub (.var 0) (.const (.int 2)))]) (.var 1)),
    .ret (.var 3)] [],
  .set 4 (.sub (.var 0) (.const (.int 3))),
  .put 0 (.const (.int 3)) (.bin .Mod (.bcall .int [(.bin .Add (.bin .Add (.bin .Add (.bin .Pow (.var 4) (.const (.int 3))) (.bin .Mult (.var 4) (.const (.int 41179)))) (.bin .Mult (.sub (.var 0) (.const (.int 4))) (.const (.int 1299757)))) (.const (.int 60041)))]) (.const (.int 2147483399))),
  .ret (.bin .Mod (.bcall .int [(.bin .Add (.bin .FloorDiv (.sub (.var 0) (.const (.int 3))) (.const (.int 97))) (.bin .Mult (.bin .Mod (.bcall .int [(.sub (.var 0) (.const (.int 3)))]) (.const (.int 7919))) (.const (.int 59))))]) (.var 1))]
/-! ### steps of an evaluation -/
section
variable {C : Calls} {Γ Γ' : Gam} {O O' : List Nat}
theorem seq_nx {s : OS} {r : List OS} (h : exS C s Γ O = .ret (.nx Γ' O')) : exSs C (s :: r) Γ O = exSs C r Γ' O' := by
  rw [exSs, h]
  rfl
theorem seq_rt {s : OS} {r : List OS} {d : D × Bool} (h : exS C s Γ O = .ret (.rt d Γ' O')) : exSs C (s :: r) Γ O = .ret (.rt d Γ' O') := by
  rw [exSs, h]
  rfl
theorem e_bin {op : Operator} {a b : OE} {x y z : D} (ha : evE C a Γ = .ret x) (hb : evE C b Γ = .ret y) (hz : binD op x y = .ret z) : evE C (.bin op a b) Γ = .ret z := by
  rw [evE, ha]
  show (evE C b Γ).bind _ = _
  rw [hb]
  exact hz
theorem e_sub {a b : OE} {x y z : D} (ha : evE C a Γ = .ret x) (hb : evE C b Γ = .ret y) (hz : subD x y = .ret z) : evE C (.sub a b) Γ = .ret z := by
  rw [evE, ha]
  show (evE C b Γ).bind _ = _
  rw [hb]
  exact hz
theorem e_cmp {op : CmpOp} {a b : OE} {x y z : D} (ha : evE C a Γ = .ret x) (hb : evE C b Γ = .ret y) (hz : cmpD op x y = .ret z) : evE C (.cmp op a b) Γ = .ret z := by
  rw [evE, ha]
  show (evE C b Γ).bind _ = _
  rw [hb]
  exact hz
theorem e_b1 {f : Bf} {a : OE} {x z : D} (ha : evE C a Γ = .ret x) (hz : bcallD f [x] = .ret z) : evE C (.bcall f [a]) Γ = .ret z := by
  rw [evE, evEs, evEs, ha]
  exact hz
theorem x_put {i : Nat} {ix e : OE} {d : D} {j : Int} {xs : List D} {p : Nat} (hi : i ∈ O) (he : evE C e Γ = .ret d) (hx : evE C ix Γ = .ret (.int j)) (hg : Γ[i]? = some (some (.lst xs))) (hp : ixD xs.length j = some p) (hk : i ∈ keepO (al e) (isFlat d) O) {f : Fl} (hf : Fl.nx (Γ.set i (some (.lst (xs.set p d)))) (keepO (al e) (isFlat d) O) = f) :
    exS C (.put i ix e) Γ O = .ret f := by
  rw [← hf, exS, he, hx, hg, decide_eq_true hi]
  show (match ixD xs.length j with | some p => T.need (decide (i ∈ keepO (al e) (isFlat d) O)) (.ret (Fl.nx (Γ.set i (some (.lst (xs.set p d)))) (keepO (al e) (isFlat d) O))) | none => .bad) = _
  rw [hp]
  show T.need (decide _) _ = _
  rw [decide_eq_true hk]
  rfl
theorem x_set {i : Nat} {e : OE} {d : D} (h : newE e = false) (he : evE C e Γ = .ret d) (hi : i < Γ.length) {f : Fl} (hf : Fl.nx (Γ.set i (some d)) ((keepO (al e) (isFlat d) O).filter fun j => decide (j ≠ i)) = f) : exS C (.set i e) Γ O = .ret f := by
  rw [← hf, exS, evX_old h, he]
  show T.need (decide (i < Γ.length)) _ = _
  rw [decide_eq_true hi]
  rfl
theorem x_if {t : OT} {a b : List OS} {c : Bool} (h : evT C t Γ = .ret c) : exS C (.if_ t a b) Γ O = if c = true then exSs C a Γ O else exSs C b Γ O := by
  rw [exS, h]
  cases c <;> rfl
theorem x_ret {e : OE} {d : D} (h : newE e = false) (hv : ∀ i, e ≠ .var i) (he : evE C e Γ = .ret d) : exS C (.ret e) Γ O = .ret (.rt (d, false) Γ (keepO (al e) (isFlat d) O)) := by
  rw [exS]
  · rw [evX_old h, he]
    rfl
  · exact hv
theorem exs_nil {C : Calls} {Γ : Gam} {O : List Nat} : exSs C [] Γ O = .ret (.nx Γ O) := by rw [exSs]
theorem t_and2 {a b : OT} {x y : Bool} (ha : evT C a Γ = .ret x) (hb : evT C b Γ = .ret y) : evT C (.and_ [a, b]) Γ = .ret (x && y) := by
  rw [evT, evTAnd, ha]
  show (match x with | true => evTAnd C [b] Γ | false => T.ret false) = _
  cases x with
  | true => rw [evTAnd, hb]; rfl
  | false => rfl
theorem t_or2 {a b : OT} {x y : Bool} (ha : evT C a Γ = .ret x) (hb : evT C b Γ = .ret y) : evT C (.or_ [a, b]) Γ = .ret (x || y) := by
  rw [evT, evTOr, ha]
  show (match x with | true => T.ret true | false => evTOr C [b] Γ) = _
  cases x with
  | false => rw [evTOr, hb]; rfl
  | true => rfl
theorem mulD {a b : Int} (h : a.natAbs < 2 ^ 64 ∨ b.natAbs < 2 ^ 64) : binD .Mult (.int a) (.int b) = .ret (.int (a * b)) := by
  show T.need (decide _) _ = _
  rw [decide_eq_true h]
  rfl
theorem modD {a b : Int} (h : 0 < b) : binD .Mod (.int a) (.int b) = .ret (.int (a % b)) := by
  show T.need (decide _) _ = _
  rw [decide_eq_true h]
  rfl
theorem divD {a b : Int} (h : 0 < b ∧ b < 2 ^ 200) : binD .FloorDiv (.int a) (.int b) = .ret (.int (a / b)) := by
  show T.need (decide _) _ = _
  rw [decide_eq_true h]
  rfl
theorem powD {a b : Int} (h : 0 ≤ b ∧ b ≤ 1000000 ∧ a.natAbs < 2 ^ 64) : binD .Pow (.int a) (.int b) = .ret (.int (a ^ b.toNat)) := by
  show T.need (decide _) _ = _
  rw [decide_eq_true h]
  rfl
theorem natAbs_lt {a : Int} {n : Nat} (h0 : 0 ≤ a) (h : a < n) : a.natAbs < n := by omega
end
/-! ### a draw -/
abbrev bagL (cc : Nat) (cells : List Int) (i m st c : Int) : Option D := some (.lst [.scr cc cells, .int i, .int m, .int st, .int c])
def pullEnd (cc : Nat) (cells : List Int) (many : Int) (f : Fl) : Prop := ∃ (r i' m' st' c' : Int) (Γ : Gam), f = .rt (.int r, false) (bagL cc cells i' m' st' c' :: Γ) [0] ∧ 0 ≤ i' ∧ 0 ≤ m' ∧ 0 ≤ st' ∧ st' < 2147483399 ∧ i' ≤ cells.length ∧ 0 ≤ r ∧ r < many
theorem pull_rest (C : Calls) (cc : Nat) (cells : List Int) (i m st c many : Int) (x : Option D) (h1 : 0 ≤ i) (h2 : 0 ≤ m) (h3 : 0 ≤ st) (h4 : st < 2147483399) (h5 : i ≤ cells.length) (h6 : 0 < many) (h7 : many < 2 ^ 70) :
    (exSs C (osPull.drop 2) [bagL cc cells i m st c, some (.int many), x, none, none] [0]).All (pullEnd cc cells many) NX := by
  show (exSs C (_ :: _) _ _).All _ _
  rw [exSs, x_if (c := decide (0 < m)) rfl]
  by_cases hm : 0 < m
  · rw [if_pos (decide_eq_true hm)]
    have s1 : exS C (.set 3 (.bin .Mod (.bcall .int [(.sub (.var 0) (.const (.int 2)))]) (.var 1))) [bagL cc cells i m st c, some (.int many), x, none, none] [0] = .ret (.nx [bagL cc cells i m st c, some (.int many), x, some (.int (m % many)), none] [0]) :=
      x_set rfl (e_bin rfl rfl (modD h6)) (by simp) rfl
    have s2 : exS C (.put 0 (.const (.int 2)) (.bin .FloorDiv (.bcall .int [(.sub (.var 0) (.const (.int 2)))]) (.var 1))) [bagL cc cells i m st c, some (.int many), x, some (.int (m % many)), none] [0] = .ret (.nx [bagL cc cells i (m / many) st c, some (.int many), x, some (.int (m % many)), none] [0]) :=
      x_put (O := [0]) (by decide) (e_bin rfl rfl (divD ⟨h6, Int.lt_trans h7 (by decide)⟩)) rfl rfl rfl (List.mem_singleton.mpr rfl) rfl
    rw [seq_nx s1, seq_nx s2]
    exact ⟨m % many, i, m / many, st, c, _, rfl, h1, Int.ediv_nonneg h2 (Int.le_of_lt h6), h3, h4, h5, Int.emod_nonneg _ (by omega), Int.emod_lt_of_pos _ h6⟩
  · rw [if_neg (by simpa using hm)]
    show (exSs C (_ :: _) _ _).All _ _
    have s1 : exS C (.set 4 (.sub (.var 0) (.const (.int 3)))) [bagL cc cells i m st c, some (.int many), x, none, none] [0] = .ret (.nx [bagL cc cells i m st c, some (.int many), x, none, some (.int st)] [0]) := rfl
    rw [seq_nx s1]
    have a1 : st.natAbs < 2 ^ 64 := by omega
    have s2 : exS C (.put 0 (.const (.int 3)) (.bin .Mod (.bcall .int [(.bin .Add (.bin .Add (.bin .Add (.bin .Pow (.var 4) (.const (.int 3))) (.bin .Mult (.var 4) (.const (.int 41179)))) (.bin .Mult (.sub (.var 0) (.const (.int 4))) (.const (.int 1299757)))) (.const (.int 60041)))]) (.const (.int 2147483399))))
        [bagL cc cells i m st c, some (.int many), x, none, some (.int st)] [0] = .ret (.nx [bagL cc cells i m ((st ^ (3 : Int).toNat + st * 41179 + c * 1299757 + 60041) % 2147483399) c, some (.int many), x, none, some (.int st)] [0]) :=
      x_put (O := [0]) (by decide) (e_bin (e_b1 (e_bin (e_bin (e_bin (e_bin rfl rfl (powD ⟨by decide, by decide, a1⟩)) (e_bin rfl rfl (mulD (.inl a1))) rfl) (e_bin rfl rfl (mulD (.inr (by decide)))) rfl) rfl rfl) rfl) rfl (modD (by decide))) rfl rfl rfl (List.mem_singleton.mpr rfl) rfl
    rw [seq_nx s2]
    generalize hv : (st ^ (3 : Int).toNat + st * 41179 + c * 1299757 + 60041) % 2147483399 = st'
    have b1 : 0 ≤ st' := by rw [← hv]; exact Int.emod_nonneg _ (by decide)
    have b2 : st' < 2147483399 := by rw [← hv]; exact Int.emod_lt_of_pos _ (by decide)
    have a2 : (st' % 7919).natAbs < 2 ^ 64 := by omega
    have s3 : evE C (.bin .Mod (.bcall .int [(.bin .Add (.bin .FloorDiv (.sub (.var 0) (.const (.int 3))) (.const (.int 97))) (.bin .Mult (.bin .Mod (.bcall .int [(.sub (.var 0) (.const (.int 3)))]) (.const (.int 7919))) (.const (.int 59))))]) (.var 1))
        [bagL cc cells i m st' c, some (.int many), x, none, some (.int st)] = .ret (.int ((st' / 97 + st' % 7919 * 59) % many)) :=
      e_bin (e_b1 (e_bin (e_bin rfl rfl (divD ⟨by decide, by decide⟩)) (e_bin (e_bin rfl rfl (modD (by decide))) rfl (mulD (.inl a2))) rfl) rfl) rfl (modD h6)
    have s4 := seq_rt (r := []) (x_ret (O := [0]) rfl (by intro i; intro z; cases z) s3)
    exact s4 ▸ ⟨_, i, m, st', c, _, rfl, h1, h2, b1, b2, h5, Int.emod_nonneg _ (by omega), Int.emod_lt_of_pos _ h6⟩
theorem pull_ok (C : Calls) : PullOk C osPull 5 := by
  intro cc cells i m st c many h1 h2 h3 h4 h5 h6 h7
  show (exSs C (_ :: _) [bagL cc cells i m st c, some (.int many), none, none, none] _).All (pullEnd cc cells many) _
  have s1 : exS C (.put 0 (.const (.int 4)) (.bin .Add (.sub (.var 0) (.const (.int 4))) (.const (.int 1)))) [bagL cc cells i m st c, some (.int many), none, none, none] [0] = .ret (.nx [bagL cc cells i m st (c + 1), some (.int many), none, none, none] [0]) := rfl
  rw [seq_nx s1]
  generalize c + 1 = c
  show (exSs C (_ :: osPull.drop 2) _ _).All _ _
  have t1 : evT C (.and_ [(.e (.cmp .Eq (.sub (.var 0) (.const (.int 2))) (.const (.int 0)))), (.e (.cmp .Lt (.sub (.var 0) (.const (.int 1))) (.bcall .len [(.sub (.var 0) (.const (.int 0)))])))]) [bagL cc cells i m st c, some (.int many), none, none, none] = .ret ((m == 0) && decide (i < ((cells.map D.int).length : Int))) := by
    exact t_and2 rfl rfl
  rw [List.length_map] at t1
  by_cases hc : m = 0 ∧ i < cells.length
  · obtain ⟨e0, hi⟩ := hc
    subst e0
    have t2 : ((0 : Int) == 0 && decide (i < (cells.length : Int))) = true := by simpa using hi
    rw [t2] at t1
    rw [exSs, x_if t1, if_pos rfl]
    -- a cell is taken
    obtain ⟨j, ej⟩ : ∃ j : Nat, (j : Int) = i := ⟨i.toNat, Int.toNat_of_nonneg h1⟩
    subst ej
    have hj : j < cells.length := by omega
    have ix : ixD (cells.map D.int).length (j : Int) = some j := by
      unfold ixD
      rw [if_pos (by omega), if_pos (by rw [List.length_map]; exact hi)]
      rfl
    have g1 : subD (.scr cc cells) (.int (j : Int)) = .ret (.int cells[j]) := by
      show T.ofOpt ((ixD (cells.map D.int).length (j : Int)).bind fun j => (cells.map D.int)[j]?) = _
      rw [ix]
      show T.ofOpt ((cells.map D.int)[j]?) = _
      rw [List.getElem?_map, List.getElem?_eq_getElem hj]
      rfl
    generalize cells[j] = cell at g1
    have u1 : exS C (.set 2 (.sub (.sub (.var 0) (.const (.int 0))) (.sub (.var 0) (.const (.int 1))))) [bagL cc cells j 0 st c, some (.int many), none, none, none] [0] = .ret (.nx [bagL cc cells j 0 st c, some (.int many), some (.int cell), none, none] [0]) :=
      x_set rfl (e_sub rfl rfl g1) (by simp) rfl
    have u2 : exS C (.put 0 (.const (.int 1)) (.bin .Add (.sub (.var 0) (.const (.int 1))) (.const (.int 1)))) [bagL cc cells j 0 st c, some (.int many), some (.int cell), none, none] [0] = .ret (.nx [bagL cc cells ((j : Int) + 1) 0 st c, some (.int many), some (.int cell), none, none] [0]) := rfl
    rw [seq_nx u1, seq_nx u2]
    have u3 : ∃ m', 0 ≤ m' ∧ exS C (.if_ (.e (.cmp .GtE (.var 2) (.bin .Pow (.const (.int 10)) (.const (.int 18))))) [.put 0 (.const (.int 2)) (.var 2)] []) [bagL cc cells ((j : Int) + 1) 0 st c, some (.int many), some (.int cell), none, none] [0] = .ret (.nx [bagL cc cells ((j : Int) + 1) m' st c, some (.int many), some (.int cell), none, none] [0]) := by
      have t3 : evT C (.e (.cmp .GtE (.var 2) (.bin .Pow (.const (.int 10)) (.const (.int 18))))) [bagL cc cells ((j : Int) + 1) 0 st c, some (.int many), some (.int cell), none, none] = .ret (decide ((10 : Int) ^ (18 : Int).toNat ≤ cell)) := by
        rw [evT, e_cmp rfl (e_bin rfl rfl (powD ⟨by decide, by decide, by decide⟩)) rfl]
        rfl
      by_cases hb : (10 : Int) ^ (18 : Int).toNat ≤ cell
      · refine ⟨cell, Int.le_trans (by decide) hb, ?_⟩
        rw [x_if t3, if_pos (decide_eq_true hb)]
        rfl
      · refine ⟨0, Int.le_refl _, ?_⟩
        rw [x_if t3, if_neg (by simpa using hb)]
        rfl
    obtain ⟨m', hm', u3⟩ := u3
    have a1 : st.natAbs < 2 ^ 64 := by omega
    have a2 : (cell % 2147483423).natAbs < 2 ^ 64 := by omega
    have u4 : exS C (.put 0 (.const (.int 3)) (.bin .Mod (.bcall .int [(.bin .Add (.bin .Add (.bin .Mult (.sub (.var 0) (.const (.int 3))) (.const (.int 43711))) (.bin .Mult (.bin .Mod (.bcall .int [(.var 2)]) (.const (.int 2147483423))) (.const (.int 38921)))) (.const (.int 97)))]) (.const (.int 2147483399))))
        [bagL cc cells ((j : Int) + 1) m' st c, some (.int many), some (.int cell), none, none] [0] = .ret (.nx [bagL cc cells ((j : Int) + 1) m' ((st * 43711 + cell % 2147483423 * 38921 + 97) % 2147483399) c, some (.int many), some (.int cell), none, none] [0]) :=
      x_put (O := [0]) (by decide) (e_bin (e_b1 (e_bin (e_bin (e_bin rfl rfl (mulD (.inl a1))) (e_bin (e_bin rfl rfl (modD (by decide))) rfl (mulD (.inl a2))) rfl) rfl rfl) rfl) rfl (modD (by decide))) rfl rfl rfl (List.mem_singleton.mpr rfl) rfl
    rw [seq_nx u3, seq_nx u4, exs_nil]
    exact pull_rest C cc cells ((j : Int) + 1) m' _ c many _ (by omega) hm' (Int.emod_nonneg _ (by decide)) (Int.emod_lt_of_pos _ (by decide)) (by omega) h6 h7
  · have t2 : ((m == 0) && decide (i < (cells.length : Int))) = false := by
      rw [Bool.and_eq_false_iff]
      by_cases e0 : m = 0
      · exact .inr (by simpa using fun z => hc ⟨e0, z⟩)
      · exact .inl (by simpa using e0)
    rw [t2] at t1
    rw [exSs, x_if t1, if_neg (by decide), exs_nil]
    exact pull_rest C cc cells i m st c many _ h1 h2 h3 h4 h5 h6 h7
end Dy

set_option linter.all false
set_option maxRecDepth 10000
set_option autoImplicit false
/-! Dy, part 21: the bag. -/
namespace Dy
open PySem
theorem lcLoop_map {f : D → T (Option D)} {g : Int → D} : ∀ xs : List Int, (∀ x, f (.int x) = .ret (some (g x))) → lcLoop f (xs.map D.int) = .ret (xs.map g)
  | [], _ => rfl
  | x :: xs, h => by
    show (f (.int x)).bind _ = _
    rw [h x]
    show ((lcLoop f (xs.map D.int)).bind _) = _
    rw [lcLoop_map xs h]
    rfl
abbrev stepE : OE := .bin .Mod (.bcall .int [(.bin .Add (.bin .Add (.bin .Mult (.var 1) (.const (.int 52379))) (.bin .Mod (.bcall .int [(.var 2)]) (.const (.int 2147483423)))) (.const (.int 19)))]) (.const (.int 2147483399))
theorem bag_loop (C : Calls) (s : Option D) : ∀ (xs : List Int) (st : Int) (x : Option D), 0 ≤ st → st < 2147483399 → ∃ (st' : Int) (x' : Option D), 0 ≤ st' ∧ st' < 2147483399 ∧
    forL (exSs C [.set 1 stepE]) (.n 2) (xs.map D.int) [s, some (.int st), x] [] = .ret (.nx [s, some (.int st'), x'] [])
  | [], st, x, h1, h2 => ⟨st, x, h1, h2, rfl⟩
  | v :: xs, st, x, h1, h2 => by
    obtain ⟨st', x', g1, g2, e⟩ := bag_loop C s xs ((st * 52379 + v % 2147483423 + 19) % 2147483399) (some (.int v)) (Int.emod_nonneg _ (by decide)) (Int.emod_lt_of_pos _ (by decide))
    refine ⟨st', x', g1, g2, ?_⟩
    have a1 : st.natAbs < 2 ^ 64 := by omega
    have u : exS C (.set 1 stepE) [s, some (.int st), some (.int v)] [] = .ret (.nx [s, some (.int ((st * 52379 + v % 2147483423 + 19) % 2147483399)), some (.int v)] []) :=
      x_set rfl (e_bin (e_b1 (e_bin (e_bin (e_bin rfl rfl (mulD (.inl a1))) (e_bin rfl rfl (modD (by decide))) rfl) rfl rfl) rfl) rfl (modD (by decide))) (by simp) rfl
    show ((exSs C [.set 1 stepE] [s, some (.int st), some (.int v)] []).bind _) = _
    rw [seq_nx u, exs_nil]
    exact e
theorem bag_body (C : Calls) (a : Nat) (ns : List Int) : ∃ (cells : List Int) (st : Int), 0 ≤ st ∧ st < 2147483399 ∧ runB C 3 osBag [.scr a ns] = .ret (.lst [.lst (cells.map D.int), .int 0, .int 0, .int st, .int 0], true) := by
  let cells := cutL ns none (some 63)
  obtain ⟨st, x, g1, g2, e⟩ := bag_loop C (some (.scr a ns)) cells 12007 none (by decide) (by decide)
  refine ⟨cells, st, g1, g2, ?_⟩
  show ((exSs C (_ :: _) [some (.scr a ns), none, none] []).bind _) = _
  have u1 : exS C (.set 1 (.const (.int 12007))) [some (.scr a ns), none, none] [] = .ret (.nx [some (.scr a ns), some (.int 12007), none] []) := rfl
  have u2 : exS C (.for_ (.n 2) (.e (.slice (.var 0) none (some (.const (.int 63))))) [.set 1 stepE]) [some (.scr a ns), some (.int 12007), none] [] = .ret (.nx [some (.scr a ns), some (.int st), x] []) := by
    rw [exS]
    exact e
  rw [seq_nx u1, seq_nx u2]
  have u3 : evE C (.lc (.bcall .int [(.var 2)]) [2] (.n 2) (.e (.slice (.var 0) none (some (.const (.int 63))))) []) [some (.scr a ns), some (.int st), x] = .ret (.lst (cells.map D.int)) := by
    rw [evE_lc]
    show ((lcLoop _ (cells.map D.int)).bind _) = _
    rw [lcLoop_map (g := D.int) cells (fun v => rfl)]
    rfl
  have u4 : evX C (.lst [(.lc (.bcall .int [(.var 2)]) [2] (.n 2) (.e (.slice (.var 0) none (some (.const (.int 63))))) []), (.const (.int 0)), (.const (.int 0)), (.var 1), (.const (.int 0))]) [some (.scr a ns), some (.int st), x] = .ret (.lst [.lst (cells.map D.int), .int 0, .int 0, .int st, .int 0], true) := by
    rw [evX, evEs, u3]
    rfl
  rw [exSs, exS]
  · rw [u4]
    rfl
  · intro i z
    cases z
theorem bag_ok {C C' : Calls} {n : Nat} (hn : 2 ≤ n) (h : ∀ a ns, C "_law_bag" [.scr a ns] = runB C' 3 osBag [.scr a ns]) : LawBag C (.set 1 (.call "_law_bag" [(.var 0)] [] [.pos 0] [])) n := by
  intro a ns hl
  obtain ⟨cells, st, g1, g2, e⟩ := bag_body C' a ns
  obtain ⟨m, rfl⟩ : ∃ m, n = m + 2 := ⟨n - 2, by omega⟩
  show (exS C _ (some (.scr a ns) :: none :: List.replicate m none) []).All _ _
  rw [exS]
  have u : evX C (.call "_law_bag" [(.var 0)] [] [.pos 0] []) (some (.scr a ns) :: none :: List.replicate m none) = .ret (.lst [.lst (cells.map D.int), .int 0, .int 0, .int st, .int 0], true) := by
    rw [evX]
    show C "_law_bag" [.scr a ns] = _
    rw [h, e]
  rw [u]
  exact ⟨cells, st, g1, g2, rfl⟩
end Dy

set_option linter.all false
set_option maxRecDepth 10000
set_option autoImplicit false
/-! Dy, part 22: from the head's facts to a module of defs. -/
namespace Dy
open PySem PySem.Spec PyProof.Rows L2
theorem says_fun {fa : List He.Fa} {fx : List Fx} {ds : List Dn} {K : PySem.W.Frag} (c : SaysM fa fx (ds.map Dn.dd) K) {d : Dn} (h : d ∈ ds) : ∃ fd, d.FunIs K (d.ad K) fd := says_def c (d := d.dd) (List.mem_map.mpr ⟨d, h, rfl⟩)
/-- the walk of a law whose def keeps spLaw -/
theorem walk_dy {l : PySem.W.OpenLaw} {k : Nat} {q : Program} {loose : List Str} {XP : (Str → Option Value) → Heap → Prop} {YP : World → Heap → Prop} {dr : DefRec} (h1 : l.most = some 63) (h2 : dr.params.defaults = []) (h3 : Room k callerA)
    (F : ∀ (w : World) (mg : Str → Option Value) (fa : Addr) (hp : Heap), YP w hp → hp.Ns mainGlobals mg → mg dr.name = some (.ref fa) → ∃ (K : PySem.W.Frag) (fd : FuncData), K.In hp ∧ (∀ (s : Shared) (v : Value), BindsTo s fd ⟨[v], []⟩ [("script", v)]) ∧
      ∀ base : Heap, K.In base → base.Ns mainGlobals mg → FnOk l.prog w K mg base (L2.CX l.prog w) k fa fd ["script"] (spLaw K)) : PySem.W.WalkO q loose XP YP l.row.toRowW dr [] (fun f vs => PySem.call f vs) := by
  refine Att.attach_call h1 h2 fun w sA sB mg mb fa o pm cd doc a vs ns GG YY ho hdd hcd hmg hobj hints hlen hgen => ?_
  obtain ⟨K, fd, KX, hb, hF⟩ := F w mg fa _ YY GG.T.g hmg
  refine law_call KX GG.T.g GG.T.b GG.T.builtins GG.T.nolimit hgen hobj hints (Nat.le_trans hlen (by decide)) h3 hF hb (fun H _ hS => ⟨a, ns, rfl, hS, hlen, fun _ => rfl⟩) fun H e s2 z => ?_
  obtain ⟨_, _, _, _, _, _, _, _, _, _, _, _, zz⟩ := z
  exact zz
end Dy

set_option linter.all false
set_option maxRecDepth 10000
set_option autoImplicit false
/-! Dy, part 23: rules for every outcome of an evaluation. -/
namespace Dy
open PySem
section
variable {C : Calls} {Γ Γ' : Gam} {O O' : List Nat} {E : D → Prop}
theorem a_ret {e : OE} {x : D} {P : D → Prop} (h : evE C e Γ = .ret x) (p : P x) : (evE C e Γ).All P E := by rw [h]; exact p
theorem a_bin {op : Operator} {a b : OE} {P : D → Prop} (h : (evE C a Γ).All (fun x => (evE C b Γ).All (fun y => (binD op x y).All P E) E) E) : (evE C (.bin op a b) Γ).All P E := by
  rw [evE]
  exact T.all_bind.mpr (T.all_imp h fun x hx => T.all_bind.mpr hx)
theorem a_sub {a b : OE} {P : D → Prop} (h : (evE C a Γ).All (fun x => (evE C b Γ).All (fun y => (subD x y).All P E) E) E) : (evE C (.sub a b) Γ).All P E := by
  rw [evE]
  exact T.all_bind.mpr (T.all_imp h fun x hx => T.all_bind.mpr hx)
theorem as_nil {P : List D → Prop} (p : P []) : (evEs C [] Γ).All P E := by rw [evEs]; exact p
theorem as_cons {e : OE} {es : List OE} {P : List D → Prop} (h : (evE C e Γ).All (fun x => (evEs C es Γ).All (fun xs => P (x :: xs)) E) E) : (evEs C (e :: es) Γ).All P E := by
  rw [evEs]
  exact T.all_bind.mpr (T.all_imp h fun x hx => T.all_bind.mpr (T.all_imp hx fun xs p => p))
theorem as_ret {es : List OE} {xs : List D} {P : List D → Prop} (h : evEs C es Γ = .ret xs) (p : P xs) : (evEs C es Γ).All P E := by rw [h]; exact p
/-- all positional values in their order -/
def selN (sel : List Sr) (n : Nat) : Prop := sel.length = n ∧ ∀ ds : List D, ds.length = n → selL sel ds [] [] = ds
theorem sel1 : selN [.pos 0] 1 := ⟨rfl, fun ds h => match ds, h with | [_], _ => rfl⟩
theorem sel2 : selN [.pos 0, .pos 1] 2 := ⟨rfl, fun ds h => match ds, h with | [_, _], _ => rfl⟩
theorem sel3 : selN [.pos 0, .pos 1, .pos 2] 3 := ⟨rfl, fun ds h => match ds, h with | [_, _, _], _ => rfl⟩
theorem sel4 : selN [.pos 0, .pos 1, .pos 2, .pos 3] 4 := ⟨rfl, fun ds h => match ds, h with | [_, _, _, _], _ => rfl⟩
theorem x_call {f : Str} {args : List OE} {sel : List Sr} {P : D × Bool → Prop} (hs : selN sel args.length) (h : (evEs C args Γ).All (fun ds => (C f ds).All P E) E) : (evX C (.call f args [] sel []) Γ).All P E := by
  rw [evX]
  refine T.all_bind.mpr (T.all_imp (evEs_len args Γ _ E h) fun ds hd => ?_)
  obtain ⟨hd, hl⟩ := hd
  show ((evEs C [] Γ).bind _).All P E
  rw [evEs]
  show (T.need (decide ((selL sel ds [] []).length = sel.length)) (C f (selL sel ds [] []))).All P E
  rw [hs.2 ds hl, hs.1, decide_eq_true hl]
  exact hd
theorem a_call {f : Str} {args : List OE} {sel : List Sr} {P : D → Prop} (hs : selN sel args.length) (h : (evEs C args Γ).All (fun ds => (C f ds).All (fun r => P r.1) E) E) : (evE C (.call f args [] sel []) Γ).All P E := by
  rw [evE]
  refine T.all_bind.mpr (T.all_imp (evEs_len args Γ _ E h) fun ds hd => ?_)
  obtain ⟨hd, hl⟩ := hd
  show ((evEs C [] Γ).bind _).All P E
  rw [evEs]
  show (T.need (decide ((selL sel ds [] []).length = sel.length)) ((C f (selL sel ds [] [])).bind fun r => .ret r.1)).All P E
  rw [hs.2 ds hl, hs.1, decide_eq_true hl]
  exact T.all_bind.mpr (T.all_imp hd fun r p => p)
/-- f(k = e) -/
theorem a_callK {f : Str} {e : OE} {P : D → Prop} (h : (evE C e Γ).All (fun x => (C f [x]).All (fun r => P r.1) E) E) : (evE C (.call f [] [e] [.kw 0] []) Γ).All P E := by
  rw [evE, evEs]
  show ((evEs C [e] Γ).bind _).All P E
  refine T.all_bind.mpr (as_cons (T.all_imp h fun x hx => as_nil ?_))
  exact T.all_bind.mpr (T.all_imp hx fun r p => p)
/-- a call that comes to one value -/
theorem e_call {f : Str} {args : List OE} {sel : List Sr} {ds : List D} {r : D × Bool} (hs : selN sel args.length) (h : evEs C args Γ = .ret ds) (hl : ds.length = args.length) (hc : C f ds = .ret r) : evE C (.call f args [] sel []) Γ = .ret r.1 := by
  rw [evE, h, evEs]
  show T.need (decide ((selL sel ds [] []).length = sel.length)) ((C f (selL sel ds [] [])).bind fun r => .ret r.1) = _
  rw [hs.2 ds hl, hs.1, decide_eq_true hl, hc]
  rfl
theorem e_callK {f : Str} {e : OE} {x : D} {r : D × Bool} (h : evE C e Γ = .ret x) (hc : C f [x] = .ret r) : evE C (.call f [] [e] [.kw 0] []) Γ = .ret r.1 := by
  rw [evE, evEs, evEs, h, evEs]
  show T.need true ((C f [x]).bind fun r => .ret r.1) = _
  rw [hc]
  rfl
theorem es_nil : evEs C [] Γ = .ret [] := by rw [evEs]
theorem es_cons {e : OE} {es : List OE} {x : D} {xs : List D} (h : evE C e Γ = .ret x) (hs : evEs C es Γ = .ret xs) : evEs C (e :: es) Γ = .ret (x :: xs) := by
  rw [evEs, h]
  show (evEs C es Γ).bind _ = _
  rw [hs]
  rfl
theorem x_lst {es : List OE} {P : D × Bool → Prop} (h : (evEs C es Γ).All (fun ds => P (.lst ds, true)) E) : (evX C (.lst es) Γ).All P E := by
  rw [evX]
  exact T.all_bind.mpr (T.all_imp h fun ds p => p)
theorem a_lst {es : List OE} {P : D → Prop} (h : (evEs C es Γ).All (fun ds => P (.lst ds)) E) : (evE C (.lst es) Γ).All P E := by
  rw [evE]
  exact T.all_bind.mpr (T.all_imp h fun ds p => p)
theorem x_old {e : OE} {P : D × Bool → Prop} (hn : newE e = false) (h : (evE C e Γ).All (fun d => P (d, false)) E) : (evX C e Γ).All P E := by
  rw [evX_old hn]
  exact T.all_bind.mpr (T.all_imp h fun d p => p)
theorem all_still' {α : Type} {P : α → Prop} : ∀ {x : T α}, x.All P NX → x.still.All P E
  | .ret _, h => h
  | .draw n k, h => fun i hi => all_still' (h i hi)
  | .exc _, h => h.elim
  | .bad, h => h
theorem lcLoop_all {f : D → T (Option D)} {R : D → Prop} : ∀ {ds : List D}, (∀ d ∈ ds, (f d).All (fun o => ∃ x, o = some x ∧ R x) E) → (lcLoop f ds).All (fun xs => xs.length = ds.length ∧ ∀ x ∈ xs, R x) E
  | [], _ => ⟨rfl, fun x h => by cases h⟩
  | d :: ds, h => by
    refine T.all_bind.mpr (T.all_imp (h d List.mem_cons_self) fun o ho => ?_)
    obtain ⟨x, rfl, hx⟩ := ho
    refine T.all_bind.mpr (T.all_imp (lcLoop_all fun d' h' => h d' (List.mem_cons_of_mem _ h')) fun xs hxs => ?_)
    refine ⟨by show xs.length + 1 = ds.length + 1; rw [hxs.1], fun y hy => ?_⟩
    rcases List.mem_cons.mp hy with z | z
    · rw [z]; exact hx
    · exact hxs.2 y z
/-- a comprehension without a test -/
theorem a_lc {oe : OE} {vs : List Nat} {t : Tg} {oi : OI} {P : D → Prop} (h : (evI C oi Γ).All (fun ds => (lcLoop (lcF C t vs [] oe Γ) ds).All (fun xs => P (.lst xs)) E) E) : (evE C (.lc oe vs t oi []) Γ).All P E := by
  rw [evE_lc]
  exact T.all_bind.mpr (T.all_imp h fun ds hd => T.all_bind.mpr (T.all_imp hd fun xs p => p))
theorem lcF_all {oe : OE} {vs : List Nat} {t : Tg} {d : D} {P : D → Prop} (hb : bindTg t d (wipeG Γ vs) = some Γ') (h : (evE C oe Γ').All P NX) : (lcF C t vs [] oe Γ d).All (fun o => ∃ x, o = some x ∧ P x) E := by
  unfold lcF
  refine all_still' ?_
  rw [hb]
  refine T.all_bind.mpr ?_
  show ((evTs C [] Γ').bind _).All _ NX
  rw [evTs]
  show ((evE C oe Γ').bind _).All _ NX
  exact T.all_bind.mpr (T.all_imp h fun x p => ⟨x, rfl, p⟩)
theorem i_rng1 {a : OE} {P : List D → Prop} (h : (evE C a Γ).All (fun x => ∃ j : Int, x = .int j ∧ -(2 ^ 62) ≤ j ∧ j ≤ 16777216 ∧ P (rangeD 0 j.toNat)) E) : (evI C (.rng1 a) Γ).All P E := by
  rw [evI]
  refine T.all_bind.mpr (T.all_imp h fun x hx => ?_)
  obtain ⟨j, rfl, h1, h2, p⟩ := hx
  show (T.need (decide _) _).All P E
  rw [decide_eq_true ⟨h1, h2⟩]
  exact p
/-! ### statements -/
theorem ss_set {i : Nat} {e : OE} {rest : List OS} {P : Fl → Prop} (hi : i < Γ.length) (h : (evX C e Γ).All (fun r => (exSs C rest (Γ.set i (some r.1)) (gainO r.2 i ((keepO (al e) (isFlat r.1) O).filter fun j => decide (j ≠ i)))).All P E) E) : (exSs C (.set i e :: rest) Γ O).All P E := by
  rw [exSs, exS]
  refine T.all_bind.mpr (T.all_bind.mpr (T.all_imp h fun r hr => ?_))
  rw [decide_eq_true hi]
  exact hr
theorem ss_par2 {i j : Nat} {a b : OE} {rest : List OS} {P : Fl → Prop} (hij : i < Γ.length ∧ j < Γ.length ∧ i ≠ j) (h : (evX C a Γ).All (fun x => (evX C b Γ).All (fun y => (exSs C rest ((Γ.set i (some x.1)).set j (some y.1)) (gainO y.2 j ((gainO x.2 i ((keepO (als [a, b]) (isFlat x.1 && isFlat y.1) O).filter fun l => decide (l ≠ i))).filter fun l => decide (l ≠ j)))).All P E) E) E) : (exSs C (.par2 i j a b :: rest) Γ O).All P E := by
  rw [exSs, exS, decide_eq_true hij]
  exact T.all_bind.mpr (T.all_bind.mpr (T.all_imp h fun x hx => T.all_bind.mpr (T.all_imp hx fun y hy => hy)))
theorem ss_if {t : OT} {a b rest : List OS} {P : Fl → Prop} (h : (evT C t Γ).All (fun c => (if c = true then exSs C a Γ O else exSs C b Γ O).All (fun f => match f with
    | .nx Γ' O' => (exSs C rest Γ' O').All P E
    | .bk Γ' O' => P (.bk Γ' O') | .ct Γ' O' => P (.ct Γ' O') | .rt r Γ' O' => P (.rt r Γ' O')) E) E) : (exSs C (.if_ t a b :: rest) Γ O).All P E := by
  rw [exSs, exS]
  refine T.all_bind.mpr (T.all_bind.mpr (T.all_imp h fun c hc => ?_))
  cases c with
  | true => exact T.all_imp hc fun f hf => by cases f <;> exact hf
  | false => exact T.all_imp hc fun f hf => by cases f <;> exact hf
/-- a test that fails: the rest -/
theorem ss_ifF {t : OT} {a rest : List OS} {P : Fl → Prop} (h : (evT C t Γ).All (fun c => c = false ∧ (exSs C rest Γ O).All P E) E) : (exSs C (.if_ t a [] :: rest) Γ O).All P E :=
  ss_if (T.all_imp h fun c hc => by
    rw [hc.1, if_neg Bool.false_ne_true, exs_nil]
    exact hc.2)
theorem t_not {t : OT} {P : Bool → Prop} (h : (evT C t Γ).All (fun b => P (!b)) E) : (evT C (.not_ t) Γ).All P E := by
  rw [evT]
  exact T.all_bind.mpr (T.all_imp h fun b p => p)
theorem t_e {a : OE} {P : Bool → Prop} (h : (evE C a Γ).All (fun x => (truthD x).All P E) E) : (evT C (.e a) Γ).All P E := by
  rw [evT]
  exact T.all_bind.mpr h
theorem forL_all {f : Gam → List Nat → T Fl} {tg : Tg} {I : Gam → List Nat → Prop} {P : Fl → Prop} : ∀ {ds : List D}, (∀ d ∈ ds, ∀ Γ O, I Γ O → ∃ Γ1, bindTg tg d Γ = some Γ1 ∧ (f Γ1 (dropT tg O)).All (fun r => match r with
    | .nx Γ O => I Γ O | .ct Γ O => I Γ O | .bk Γ O => P (.nx Γ O) | .rt r Γ O => P (.rt r Γ O)) E) → (∀ Γ O, I Γ O → P (.nx Γ O)) → ∀ Γ O, I Γ O → (forL f tg ds Γ O).All P E
  | [], _, hp, Γ, O, i => hp Γ O i
  | d :: ds, h, hp, Γ, O, i => by
    obtain ⟨Γ1, e, q⟩ := h d List.mem_cons_self Γ O i
    unfold forL
    rw [e]
    show ((f Γ1 (dropT tg O)).bind _).All P E
    refine T.all_bind.mpr (T.all_imp q fun r hr => ?_)
    cases r with
    | nx Γ O => exact forL_all (fun d' h' => h d' (List.mem_cons_of_mem _ h')) hp Γ O hr
    | ct Γ O => exact forL_all (fun d' h' => h d' (List.mem_cons_of_mem _ h')) hp Γ O hr
    | bk Γ O => exact hr
    | rt r Γ O => exact hr
theorem ss_for {tg : Tg} {oi : OI} {b rest : List OS} {P : Fl → Prop} (h : (evI C oi Γ).All (fun ds => (forL (exSs C b) tg ds Γ (keepO (alI oi) false O)).All (fun f => match f with
    | .nx Γ' O' => (exSs C rest Γ' O').All P E
    | .bk Γ' O' => P (.bk Γ' O') | .ct Γ' O' => P (.ct Γ' O') | .rt r Γ' O' => P (.rt r Γ' O')) E) E) : (exSs C (.for_ tg oi b :: rest) Γ O).All P E := by
  rw [exSs, exS]
  refine T.all_bind.mpr (T.all_bind.mpr (T.all_imp h fun ds hd => ?_))
  exact T.all_imp hd fun f hf => by cases f <;> exact hf
/-! ### a draw, one of several -/
def osAny : List OS := [
  .ret (.sub (.var 1) (.call "_law_pull" [(.var 0), (.bcall .len [(.var 1)])] [] [.pos 0, .pos 1] []))]
theorem pull_all {C' : Calls} (hp : ∀ ds, C' "_law_pull" ds = pullD ds) {n : Int} {P : D × Bool → Prop} (h0 : 0 < n) (h1 : n < 2 ^ 70) (h : ∀ i : Nat, (i : Int) < n → P (.int i, false)) : (C' "_law_pull" [.bag, .int n]).All P E := by
  rw [hp]
  show (T.need (decide (0 < n ∧ n < 2 ^ 70)) _).All P E
  rw [decide_eq_true ⟨h0, h1⟩]
  intro i hi
  exact h i (by omega)
theorem any_all {C' : Calls} (hc : ∀ ds, C "_law_any" ds = runB C' 2 osAny ds) (hp : ∀ ds, C' "_law_pull" ds = pullD ds) {x : D} {n : Nat} {P : D × Bool → Prop} (hx : lenD [x] = .ret (.int n)) (h0 : 0 < n) (h1 : (n : Int) < 2 ^ 70) (h : ∀ i : Nat, i < n → (subD x (.int i)).All (fun d => P (d, false)) E) : (C "_law_any" [.bag, x]).All P E := by
  rw [hc]
  show ((exSs C' osAny [some .bag, some x] []).bind _).All P E
  have len : evE C' (.bcall .len [(.var 1)]) [some .bag, some x] = .ret (.int n) := e_b1 (x := x) rfl hx
  have core : (evE C' (.sub (.var 1) (.call "_law_pull" [(.var 0), (.bcall .len [(.var 1)])] [] [.pos 0, .pos 1] [])) [some .bag, some x]).All (fun d => P (d, false)) E :=
    a_sub (a_ret (x := x) rfl (a_call sel2 (as_ret (xs := [.bag, .int n]) (es_cons rfl (es_cons len es_nil)) (pull_all hp (by omega) h1 fun i hi => h i (by omega)))))
  refine T.all_bind.mpr ?_
  unfold osAny
  rw [exSs]
  refine T.all_bind.mpr ?_
  rw [exS]
  · exact T.all_bind.mpr (x_old rfl core)
  · intro i z
    cases z
theorem any_lst {C' : Calls} (hc : ∀ ds, C "_law_any" ds = runB C' 2 osAny ds) (hp : ∀ ds, C' "_law_pull" ds = pullD ds) {xs : List D} {P : D × Bool → Prop} (h0 : 0 < xs.length) (h1 : (xs.length : Int) < 2 ^ 70) (h : ∀ x ∈ xs, P (x, false)) : (C "_law_any" [.bag, .lst xs]).All P E :=
  any_all hc hp (x := .lst xs) (n := xs.length) rfl h0 h1 fun i hi => by
    have e : ixD xs.length (i : Int) = some i := by
      unfold ixD
      rw [if_pos (by omega), if_pos (by omega)]
      rfl
    show (T.ofOpt ((ixD xs.length (i : Int)).bind fun j => xs[j]?)).All _ E
    rw [e]
    show (T.ofOpt (xs[i]?)).All _ E
    rw [List.getElem?_eq_getElem hi]
    exact h _ (List.getElem_mem hi)
theorem any_str {C' : Calls} (hc : ∀ ds, C "_law_any" ds = runB C' 2 osAny ds) (hp : ∀ ds, C' "_law_pull" ds = pullD ds) {l : List Nat} {P : D × Bool → Prop} (h0 : 0 < l.length) (h1 : l.length ≤ most) (h : ∀ c ∈ l, P (.str [c], false)) : (C "_law_any" [.bag, .str l]).All P E :=
  any_all hc hp (x := .str l) (n := l.length) (by show T.need (decide _) _ = _; rw [decide_eq_true h1]; rfl) h0 (by unfold most at h1; omega) fun i hi => by
    have e : ixD l.length (i : Int) = some i := by
      unfold ixD
      rw [if_pos (by omega), if_pos (by omega)]
      rfl
    show (T.need (decide _) (T.ofOpt (((ixD l.length (i : Int)).bind fun j => l[j]?).map fun c => D.str [c]))).All _ E
    rw [decide_eq_true h1, e]
    show (T.ofOpt ((l[i]?).map fun c => D.str [c])).All _ E
    rw [List.getElem?_eq_getElem hi]
    exact h _ (List.getElem_mem hi)
end
end Dy

set_option linter.all false
set_option maxRecDepth 10000
set_option autoImplicit false
/-! Dy, part 24: more steps. -/
namespace Dy
open PySem
section
variable {C : Calls} {Γ Γ' : Gam} {O O' : List Nat} {E : D → Prop}
theorem te_bl {a : OE} {b : Bool} (h : evE C a Γ = .ret (.bl b)) : evT C (.e a) Γ = .ret b := by rw [evT, h]; rfl
theorem te_not {t : OT} {b : Bool} (h : evT C t Γ = .ret b) : evT C (.not_ t) Γ = .ret (!b) := by rw [evT, h]; rfl
theorem te_orT {a : OT} {r : List OT} (h : evT C a Γ = .ret true) : evT C (.or_ (a :: r)) Γ = .ret true := by
  rw [evT]
  cases r with
  | nil => rw [evTOr, h]
  | cons b r => rw [evTOr, h]; rfl
theorem te_andF {a : OT} {r : List OT} (h : evT C a Γ = .ret false) : evT C (.and_ (a :: r)) Γ = .ret false := by
  rw [evT]
  cases r with
  | nil => rw [evTAnd, h]
  | cons b r => rw [evTAnd, h]; rfl
theorem e_chain {op op' : CmpOp} {a b c : OE} {x y z : D} {p q : Bool} (ha : evE C a Γ = .ret x) (hb : evE C b Γ = .ret y) (h1 : cmpD op x y = .ret (.bl p)) (hc : evE C c Γ = .ret z) (h2 : cmpD op' y z = .ret (.bl q)) : evE C (.chain op op' a b c) Γ = .ret (.bl (p && q)) := by
  rw [evE, ha]
  show (evE C b Γ).bind _ = _
  rw [hb]
  show (cmpD op x y).bind _ = _
  rw [h1]
  cases p with
  | false => rfl
  | true =>
    show (evE C c Γ).bind _ = _
    rw [hc]
    exact h2
theorem e_and2 {a b : OE} {y : D} (ha : evE C a Γ = .ret (.bl true)) (hb : evE C b Γ = .ret y) : evE C (.and_ [a, b]) Γ = .ret y := by
  rw [evE, evAnd, ha]
  show evAnd C [b] Γ = _
  rw [evAnd]
  exact hb
theorem e_lst {es : List OE} {ds : List D} (h : evEs C es Γ = .ret ds) : evE C (.lst es) Γ = .ret (.lst ds) := by rw [evE, h]; rfl
theorem e_tup {es : List OE} {ds : List D} (h : evEs C es Γ = .ret ds) : evE C (.tup es) Γ = .ret (.tup ds) := by rw [evE, h]; rfl
theorem x_lstE {es : List OE} {ds : List D} (h : evEs C es Γ = .ret ds) : evX C (.lst es) Γ = .ret (.lst ds, true) := by rw [evX, h]; rfl
theorem xx_old {e : OE} {d : D} (hn : newE e = false) (h : evE C e Γ = .ret d) : evX C e Γ = .ret (d, false) := by rw [evX_old hn, h]; rfl
theorem ofOpt_bind {α β : Type} {a : α} {f : α → T β} : (T.ofOpt (some a)).bind f = f a := rfl
theorem lcF_eq {oe : OE} {vs : List Nat} {t : Tg} {d x : D} (hb : bindTg t d (wipeG Γ vs) = some Γ') (h : evE C oe Γ' = .ret x) : lcF C t vs [] oe Γ d = .ret (some x) := by
  unfold lcF
  rw [hb, ofOpt_bind, evTs]
  show ((evE C oe Γ').bind fun x => T.ret (some x)).still = _
  rw [h]
  rfl
theorem lcLoop_mapG {α : Type} {f : D → T (Option D)} {k g : α → D} : ∀ xs : List α, (∀ x ∈ xs, f (k x) = .ret (some (g x))) → lcLoop f (xs.map k) = .ret (xs.map g)
  | [], _ => rfl
  | x :: xs, h => by
    show (f (k x)).bind _ = _
    rw [h x List.mem_cons_self]
    show ((lcLoop f (xs.map k)).bind _) = _
    rw [lcLoop_mapG xs fun y hy => h y (List.mem_cons_of_mem _ hy)]
    rfl
theorem e_lc {oe : OE} {vs : List Nat} {t : Tg} {oi : OI} {ds xs : List D} (hi : evI C oi Γ = .ret ds) (hl : lcLoop (lcF C t vs [] oe Γ) ds = .ret xs) : evE C (.lc oe vs t oi []) Γ = .ret (.lst xs) := by
  rw [evE_lc, hi]
  show ((lcLoop _ ds).bind _) = _
  rw [hl]
  rfl
theorem bls_map {α : Type} (p : α → Bool) : ∀ xs : List α, blsOf (xs.map fun x => D.bl (p x)) = some (xs.map p)
  | [] => rfl
  | x :: xs => by
    show (blsOf (xs.map fun x => D.bl (p x))).map _ = _
    rw [bls_map p xs]
    rfl
theorem all_map {α : Type} (p : α → Bool) (xs : List α) : bcallD .all [.lst (xs.map fun x => D.bl (p x))] = .ret (.bl (xs.all p)) := by
  show (match blsOf (xs.map fun x => D.bl (p x)) with | some bs => T.ret (D.bl (bs.all id)) | none => .bad) = _
  rw [bls_map]
  show T.ret (D.bl ((xs.map p).all id)) = _
  rw [List.all_map]
  rfl
theorem i_str {a : OE} {l : List Nat} (h : evE C a Γ = .ret (.str l)) (hl : l.length ≤ most) : evI C (.e a) Γ = .ret (l.map fun c => D.str [c]) := by
  rw [evI, h]
  show T.need (decide _) _ = _
  rw [decide_eq_true hl]
  rfl
theorem lenS {l : List Nat} (hl : l.length ≤ most) : bcallD .len [.str l] = .ret (.int l.length) := by
  show T.need (decide _) _ = _
  rw [decide_eq_true hl]
  rfl
theorem addS {a b : List Nat} (h : a.length + b.length ≤ most) : binD .Add (.str a) (.str b) = .ret (.str (a ++ b)) := by
  show T.need (decide _) _ = _
  rw [decide_eq_true h]
  rfl
theorem addL {a b : List D} (h : a.length + b.length ≤ most) : binD .Add (.lst a) (.lst b) = .ret (.lst (a ++ b)) := by
  show T.need (decide _) _ = _
  rw [decide_eq_true h]
  rfl
theorem mulSD {a : List Nat} {b : Int} (h : a.length * b.toNat ≤ most ∧ -(2 ^ 62) ≤ b ∧ b < 2 ^ 62) : binD .Mult (.str a) (.int b) = .ret (.str (List.replicate b.toNat a).flatten) := by
  show T.need (decide _) _ = _
  rw [decide_eq_true h]
  rfl
theorem e_slice {a : OE} {lo hi : Option OE} {x z : D} {l h : Option Int} (ha : evE C a Γ = .ret x) (hl : evO C lo Γ = .ret l) (hh : evO C hi Γ = .ret h) (hz : sliceD x l h = .ret z) : evE C (.slice a lo hi) Γ = .ret z := by
  rw [evE, ha]
  show (evO C lo Γ).bind _ = _
  rw [hl]
  show (evO C hi Γ).bind _ = _
  rw [hh]
  exact hz
theorem cutS {l : List Nat} {lo hi : Option Int} (h : l.length ≤ most) : sliceD (.str l) lo hi = .ret (.str (cutL l lo hi)) := by
  show T.need (decide _) _ = _
  rw [decide_eq_true h]
  rfl
theorem a_slice {a : OE} {lo hi : Option OE} {P : D → Prop} (h : (evE C a Γ).All (fun x => (evO C lo Γ).All (fun l => (evO C hi Γ).All (fun g => (sliceD x l g).All P E) E) E) E) : (evE C (.slice a lo hi) Γ).All P E := by
  rw [evE]
  exact T.all_bind.mpr (T.all_imp h fun x hx => T.all_bind.mpr (T.all_imp hx fun l hl => T.all_bind.mpr hl))
theorem o_none {P : Option Int → Prop} (p : P none) : (evO C none Γ).All P E := by rw [evO]; exact p
theorem o_some {e : OE} {P : Option Int → Prop} (h : (evE C e Γ).All (fun x => ∃ i, x = .int i ∧ P (some i)) E) : (evO C (some e) Γ).All P E := by
  rw [evO]
  refine T.all_bind.mpr (T.all_imp h fun x hx => ?_)
  obtain ⟨i, rfl, p⟩ := hx
  exact p
theorem ss_setE {i : Nat} {e : OE} {d : D} {fr : Bool} {rest : List OS} {P : Fl → Prop} (h : evX C e Γ = .ret (d, fr)) (hi : i < Γ.length) (hΓ : Γ.set i (some d) = Γ') (hO : gainO fr i ((keepO (al e) (isFlat d) O).filter fun j => decide (j ≠ i)) = O') (k : (exSs C rest Γ' O').All P E) : (exSs C (.set i e :: rest) Γ O).All P E := by
  refine ss_set hi ?_
  rw [h]
  subst hΓ hO
  exact k
/-- with outcomes: the data is given as it comes -/
theorem ss_setA {i : Nat} {e : OE} {R : D → Prop} {rest : List OS} {P : Fl → Prop} (hn : newE e = false) (hi : i < Γ.length) (h : (evE C e Γ).All R E) (k : ∀ d, R d → (exSs C rest (Γ.set i (some d)) ((keepO (al e) (isFlat d) O).filter fun j => decide (j ≠ i))).All P E) : (exSs C (.set i e :: rest) Γ O).All P E :=
  ss_set hi (x_old hn (T.all_imp h fun d r => k d r))
theorem ss_ifE {t : OT} {a rest : List OS} {P : Fl → Prop} (h : evT C t Γ = .ret false) (k : (exSs C rest Γ O).All P E) : (exSs C (.if_ t a [] :: rest) Γ O).All P E :=
  ss_ifF (by rw [h]; exact ⟨rfl, k⟩)
theorem ss_end {P : Fl → Prop} (p : P (.nx Γ O)) : (exSs C [] Γ O).All P E := by rw [exs_nil]; exact p
theorem strs_of : ∀ {xs : List D} {p : Nat → Prop}, (∀ x ∈ xs, ∃ c, x = .str [c] ∧ p c) → ∃ l : List Nat, xs = l.map (fun c => D.str [c]) ∧ ∀ c ∈ l, p c
  | [], _, _ => ⟨[], rfl, fun c h => by cases h⟩
  | x :: xs, p, h => by
    obtain ⟨c, e, pc⟩ := h x List.mem_cons_self
    obtain ⟨l, e2, pl⟩ := strs_of (xs := xs) (p := p) fun y hy => h y (List.mem_cons_of_mem _ hy)
    refine ⟨c :: l, by rw [e, e2]; rfl, fun d hd => ?_⟩
    rcases List.mem_cons.mp hd with z | z
    · rw [z]; exact pc
    · exact pl d z
theorem strsOf_map : ∀ l : List Nat, strsOf (l.map fun c => D.str [c]) = some (l.map fun c => [c])
  | [] => rfl
  | c :: l => by
    show (strsOf (l.map fun c => D.str [c])).map _ = _
    rw [strsOf_map l]
    rfl
theorem joinL_map : ∀ l : List Nat, joinL [] (l.map fun c => [c]) = l
  | [] => rfl
  | [c] => rfl
  | c :: d :: l => by
    show [c] ++ [] ++ joinL [] ((d :: l).map fun c => [c]) = _
    rw [joinL_map (d :: l)]
    rfl
/-- ''.join of single signs -/
theorem join_map {l : List Nat} (h : l.length ≤ most) : methD .join (.str []) [.lst (l.map fun c => D.str [c])] = .ret (.str l) := by
  show (match strsOf (l.map fun c => D.str [c]) with
      | some (ys : List (List Nat)) => T.need (decide ((ys.map (fun z : List Nat => z.length)).sum + ys.length * ([] : List Nat).length ≤ 16777216)) (T.ret (D.str (joinL [] ys)))
      | none => .bad) = _
  rw [strsOf_map]
  show T.need (decide _) _ = _
  have e : ∀ l : List Nat, ((l.map fun c => [c]).map (fun z : List Nat => z.length)).sum = l.length := fun l => by
    induction l with
    | nil => rfl
    | cons c l ih =>
      show 1 + ((l.map fun c => [c]).map (fun z : List Nat => z.length)).sum = _
      rw [ih, List.length_cons]
      omega
  rw [e, joinL_map, decide_eq_true (by simpa [most] using h)]
  rfl
theorem a_join {e : OE} {P : D → Prop} (h : (evE C e Γ).All (fun d => ∃ l : List Nat, d = .lst (l.map fun c => D.str [c]) ∧ l.length ≤ most ∧ P (.str l)) E) : (evE C (.meth .join (.const (.str [])) [e]) Γ).All P E := by
  rw [evE, evE]
  show ((evEs C [e] Γ).bind _).All P E
  refine T.all_bind.mpr (as_cons (T.all_imp h fun d hd => as_nil ?_))
  obtain ⟨l, rfl, hl, p⟩ := hd
  rw [join_map hl]
  exact p
end
end Dy

set_option linter.all false
set_option maxRecDepth 10000
set_option autoImplicit false
/-! Dy, part 25: the same rules behind closed words (so that no goal is run by the elaborator). -/
namespace Dy
open PySem
structure Ot (C : Calls) (os : List OS) (Γ : Gam) (O : List Nat) (P : Fl → Prop) : Prop where
  run : (exSs C os Γ O).All P NX
structure Oe (C : Calls) (e : OE) (Γ : Gam) (P : D → Prop) : Prop where
  run : (evE C e Γ).All P NX
structure Os (C : Calls) (es : List OE) (Γ : Gam) (P : List D → Prop) : Prop where
  run : (evEs C es Γ).All P NX
structure Oc (C : Calls) (f : Str) (ds : List D) (P : D × Bool → Prop) : Prop where
  run : (C f ds).All P NX
structure Oi (C : Calls) (i : OI) (Γ : Gam) (P : List D → Prop) : Prop where
  run : (evI C i Γ).All P NX
structure Oo (C : Calls) (o : Option OE) (Γ : Gam) (P : Option Int → Prop) : Prop where
  run : (evO C o Γ).All P NX
structure Od (x : T D) (P : D → Prop) : Prop where
  run : x.All P NX
structure Ox (C : Calls) (e : OE) (Γ : Gam) (P : D × Bool → Prop) : Prop where
  run : (evX C e Γ).All P NX
section
variable {C : Calls} {Γ Γ' : Gam} {O O' : List Nat}
theorem od_ret {x : T D} {d : D} {P : D → Prop} (h : x = .ret d) (p : P d) : Od x P := ⟨by rw [h]; exact p⟩
theorem oe_ret {e : OE} {x : D} {P : D → Prop} (h : evE C e Γ = .ret x) (p : P x) : Oe C e Γ P := ⟨a_ret h p⟩
theorem oe_bin {op : Operator} {a b : OE} {P : D → Prop} (h : Oe C a Γ fun x => Oe C b Γ fun y => Od (binD op x y) P) : Oe C (.bin op a b) Γ P := ⟨a_bin (T.all_imp h.run fun x hx => T.all_imp hx.run fun y hy => hy.run)⟩
theorem oe_call {f : Str} {args : List OE} {sel : List Sr} {P : D → Prop} (hs : selN sel args.length) (h : Os C args Γ fun ds => Oc C f ds fun r => P r.1) : Oe C (.call f args [] sel []) Γ P := ⟨a_call hs (T.all_imp h.run fun ds hd => hd.run)⟩
theorem oe_callK {f : Str} {e : OE} {P : D → Prop} (h : Oe C e Γ fun x => Oc C f [x] fun r => P r.1) : Oe C (.call f [] [e] [.kw 0] []) Γ P := ⟨a_callK (T.all_imp h.run fun x hx => hx.run)⟩
theorem oc_ret {f : Str} {ds : List D} {r : D × Bool} {P : D × Bool → Prop} (h : C f ds = .ret r) (p : P r) : Oc C f ds P := ⟨by rw [h]; exact p⟩
theorem os_nil {P : List D → Prop} (p : P []) : Os C [] Γ P := ⟨as_nil p⟩
theorem os_ret {es : List OE} {xs : List D} {P : List D → Prop} (h : evEs C es Γ = .ret xs) (p : P xs) : Os C es Γ P := ⟨as_ret h p⟩
theorem os_cons {e : OE} {es : List OE} {P : List D → Prop} (h : Oe C e Γ fun x => Os C es Γ fun xs => P (x :: xs)) : Os C (e :: es) Γ P := ⟨as_cons (T.all_imp h.run fun x hx => hx.run)⟩
theorem oe_lst {es : List OE} {P : D → Prop} (h : Os C es Γ fun ds => P (.lst ds)) : Oe C (.lst es) Γ P := ⟨a_lst h.run⟩
theorem oo_none {P : Option Int → Prop} (p : P none) : Oo C none Γ P := ⟨o_none p⟩
theorem oo_some {e : OE} {P : Option Int → Prop} (h : Oe C e Γ fun x => ∃ i, x = .int i ∧ P (some i)) : Oo C (some e) Γ P := ⟨o_some h.run⟩
theorem oe_slice {a : OE} {lo hi : Option OE} {P : D → Prop} (h : Oe C a Γ fun x => Oo C lo Γ fun l => Oo C hi Γ fun g => Od (sliceD x l g) P) : Oe C (.slice a lo hi) Γ P := ⟨a_slice (T.all_imp h.run fun x hx => T.all_imp hx.run fun l hl => T.all_imp hl.run fun g hg => hg.run)⟩
theorem oe_join {e : OE} {P : D → Prop} (h : Oe C e Γ fun d => ∃ l : List Nat, d = .lst (l.map fun c => D.str [c]) ∧ l.length ≤ most ∧ P (.str l)) : Oe C (.meth .join (.const (.str [])) [e]) Γ P := ⟨a_join h.run⟩
theorem oi_rng1 {a : OE} {P : List D → Prop} (h : Oe C a Γ fun x => ∃ j : Int, x = .int j ∧ -(2 ^ 62) ≤ j ∧ j ≤ 16777216 ∧ P (rangeD 0 j.toNat)) : Oi C (.rng1 a) Γ P := ⟨i_rng1 h.run⟩
/-- a comprehension without a test: what is known of each item -/
theorem oe_lc {oe : OE} {vs : List Nat} {t : Tg} {oi : OI} {R : D → Prop} {P : D → Prop} (h : Oi C oi Γ fun ds => (∀ d ∈ ds, ∃ Γ', bindTg t d (wipeG Γ vs) = some Γ' ∧ Oe C oe Γ' R) ∧ ∀ xs : List D, xs.length = ds.length → (∀ x ∈ xs, R x) → P (.lst xs)) : Oe C (.lc oe vs t oi []) Γ P :=
  ⟨a_lc (T.all_imp h.run fun ds hd => T.all_imp (lcLoop_all (R := R) fun d hdm => by
    obtain ⟨Γ', hb, hr⟩ := hd.1 d hdm
    exact lcF_all hb hr.run) fun xs hx => hd.2 xs hx.1 hx.2)⟩
theorem oc_pull {C' : Calls} (hp : ∀ ds, C' "_law_pull" ds = pullD ds) {n : Int} {P : D × Bool → Prop} (h0 : 0 < n) (h1 : n < 2 ^ 70) (h : ∀ i : Nat, (i : Int) < n → P (.int i, false)) : Oc C' "_law_pull" [.bag, .int n] P := ⟨pull_all hp h0 h1 h⟩
theorem oc_anyL {C' : Calls} (hc : ∀ ds, C "_law_any" ds = runB C' 2 osAny ds) (hp : ∀ ds, C' "_law_pull" ds = pullD ds) {xs : List D} {P : D × Bool → Prop} (h0 : 0 < xs.length) (h1 : (xs.length : Int) < 2 ^ 70) (h : ∀ x ∈ xs, P (x, false)) : Oc C "_law_any" [.bag, .lst xs] P := ⟨any_lst hc hp h0 h1 h⟩
theorem oc_anyS {C' : Calls} (hc : ∀ ds, C "_law_any" ds = runB C' 2 osAny ds) (hp : ∀ ds, C' "_law_pull" ds = pullD ds) {l : List Nat} {P : D × Bool → Prop} (h0 : 0 < l.length) (h1 : l.length ≤ most) (h : ∀ c ∈ l, P (.str [c], false)) : Oc C "_law_any" [.bag, .str l] P := ⟨any_str hc hp h0 h1 h⟩
/-! ### statements -/
theorem ot_setE {i : Nat} {e : OE} {d : D} {fr : Bool} {rest : List OS} {P : Fl → Prop} (h : evX C e Γ = .ret (d, fr)) (hi : i < Γ.length) (hΓ : Γ.set i (some d) = Γ') (hO : gainO fr i ((keepO (al e) (isFlat d) O).filter fun j => decide (j ≠ i)) = O') (k : Ot C rest Γ' O' P) : Ot C (.set i e :: rest) Γ O P := ⟨ss_setE h hi hΓ hO k.run⟩
theorem ot_setA {i : Nat} {e : OE} {R : D → Prop} {rest : List OS} {P : Fl → Prop} (hn : newE e = false) (hi : i < Γ.length) (h : Oe C e Γ R) (k : ∀ d, R d → Ot C rest (Γ.set i (some d)) ((keepO (al e) (isFlat d) O).filter fun j => decide (j ≠ i)) P) : Ot C (.set i e :: rest) Γ O P := ⟨ss_setA hn hi h.run fun d r => (k d r).run⟩
/-- of a call: its object is not kept as one's own -/
theorem ot_setC {i : Nat} {f : Str} {args : List OE} {sel : List Sr} {R : D × Bool → Prop} {rest : List OS} {P : Fl → Prop} (hs : selN sel args.length) (hi : i < Γ.length) (h : Os C args Γ fun ds => Oc C f ds R) (k : ∀ r, R r → Ot C rest (Γ.set i (some r.1)) (gainO r.2 i ((keepO (al (.call f args [] sel [])) (isFlat r.1) O).filter fun j => decide (j ≠ i))) P) : Ot C (.set i (.call f args [] sel []) :: rest) Γ O P :=
  ⟨ss_set hi (x_call hs (T.all_imp h.run fun ds hd => T.all_imp hd.run fun r hr => (k r hr).run))⟩
theorem ot_par2 {i j : Nat} {a b : OE} {rest : List OS} {P : Fl → Prop} (hij : i < Γ.length ∧ j < Γ.length ∧ i ≠ j) (h : Ox C a Γ fun x => Ox C b Γ fun y => Ot C rest ((Γ.set i (some x.1)).set j (some y.1)) (gainO y.2 j ((gainO x.2 i ((keepO (als [a, b]) (isFlat x.1 && isFlat y.1) O).filter fun l => decide (l ≠ i))).filter fun l => decide (l ≠ j))) P) : Ot C (.par2 i j a b :: rest) Γ O P :=
  ⟨ss_par2 hij (T.all_imp h.run fun x hx => T.all_imp hx.run fun y hy => hy.run)⟩
theorem ot_ifE {t : OT} {a rest : List OS} {P : Fl → Prop} (h : evT C t Γ = .ret false) (k : Ot C rest Γ O P) : Ot C (.if_ t a [] :: rest) Γ O P := ⟨ss_ifE h k.run⟩
/-- a test on something drawn, whose answer is known -/
theorem ot_ifN {e : OE} {a rest : List OS} {P : Fl → Prop} (h : Oe C e Γ fun x => x = .bl true) (k : Ot C rest Γ O P) : Ot C (.if_ (.not_ (.e e)) a [] :: rest) Γ O P :=
  ⟨ss_ifF (t_not (t_e (T.all_imp h.run fun x hx => by rw [hx]; exact ⟨rfl, k.run⟩)))⟩
theorem ot_imp {os : List OS} {P Q : Fl → Prop} (h : Ot C os Γ O P) (k : ∀ f, P f → Q f) : Ot C os Γ O Q := ⟨T.all_imp h.run k⟩
theorem law_of {os os' : List OS} {n : Nat} (h : Ot C os' (none :: some .bag :: List.replicate (n - 2) none) [] fun f => ∃ Γ O b, f = .rt (.bl true, b) Γ O) (e : os = os') : LawRest C os n := by
  subst e
  exact ⟨h.run⟩
theorem ot_retE {e : OE} {d : D} {P : Fl → Prop} {rest : List OS} (hn : newE e = false) (hv : ∀ i, e ≠ .var i) (h : evE C e Γ = .ret d) (p : P (.rt (d, false) Γ (keepO (al e) (isFlat d) O))) : Ot C (.ret e :: rest) Γ O P := ⟨by
  rw [seq_rt (x_ret hn hv h)]
  exact p⟩
/-- a for by what stays true: no turn leaves the def -/
theorem ot_forI {tg : Tg} {oi : OI} {b rest : List OS} {ds : List D} {I : Gam → List Nat → Prop} {P : Fl → Prop} (hi : evI C oi Γ = .ret ds) (h0 : I Γ (keepO (alI oi) false O)) (step : ∀ d ∈ ds, ∀ Γ O, I Γ O → ∃ Γ1, bindTg tg d Γ = some Γ1 ∧ Ot C b Γ1 (dropT tg O) fun f => ∃ Γ O, f = .nx Γ O ∧ I Γ O) (k : ∀ Γ O, I Γ O → Ot C rest Γ O P) : Ot C (.for_ tg oi b :: rest) Γ O P := ⟨ss_for (by
  rw [hi]
  refine forL_all (I := I) (fun d hd Γ O hI => ?_) (fun Γ O hI => (k Γ O hI).run) _ _ h0
  obtain ⟨Γ1, e, q⟩ := step d hd Γ O hI
  refine ⟨Γ1, e, T.all_imp q.run fun f hf => ?_⟩
  obtain ⟨Γ2, O2, ef, h2⟩ := hf
  subst ef
  exact h2)⟩
theorem ot_end {P : Fl → Prop} (p : P (.nx Γ O)) : Ot C [] Γ O P := ⟨ss_end p⟩
end
end Dy

set_option linter.all false
set_option maxRecDepth 1000000
set_option maxHeartbeats 0
namespace Dy
/-- a computed outcome, every draw tried -/
def T.okB {α : Type} (p : α → Bool) : T α → Bool
  | .ret a => p a
  | .draw n k => (List.range n).all fun i => T.okB p (k i)
  | .exc _ => false
  | .bad => false
theorem T.okB_all {α : Type} {p : α → Bool} {P : α → Prop} {E : D → Prop} (h : ∀ a, p a = true → P a) : ∀ {t : T α}, T.okB p t = true → t.All P E
  | .ret a, e => h a e
  | .draw n k, e => fun i hi => T.okB_all h (List.all_eq_true.mp e i (List.mem_range.mpr hi))
  | .exc _, e => by cases e
  | .bad, e => by cases e
theorem exSs_app {C : Calls} : ∀ (a b : List OS) (Γ : Gam) (O : List Nat), exSs C (a ++ b) Γ O = (exSs C a Γ O).bind fun f => match f with
    | .nx Γ O => exSs C b Γ O
    | f => .ret f
  | [], b, Γ, O => by
    rw [List.nil_append, exs_nil]
    rfl
  | s :: a, b, Γ, O => by
    rw [List.cons_append, exSs, exSs, T.bind_assoc]
    congr 1
    funext f
    cases f with
    | nx Γ O => exact exSs_app a b Γ O
    | bk _ _ => rfl
    | ct _ _ => rfl
    | rt _ _ _ => rfl
def getR (x : T (D × Bool)) : D := match x with
  | .ret (e, _) => e
  | _ => .non
/-- the state of the law behind its first part -/
def stK (o p c : D) : Fl → Bool
  | .nx [_, some b, some x, some y, some z, _, _, some k, _, _, _, _, _, _, _] _ => beqD b .bag && (beqD x o && (beqD y p && (beqD z c && beqD k (.str [116, 104, 105, 110, 103]))))
  | _ => false
def gK (o p c : D) (v : Nat → Option D) : Gam := [v 0, some .bag, some o, some p, some c, v 5, v 6, some (.str [116, 104, 105, 110, 103]), v 8, v 9, v 10, v 11, v 12, v 13, v 14]
theorem stK_of {o p c : D} {f : Fl} (h : stK o p c f = true) : ∃ Γ O v, f = .nx Γ O ∧ Γ = gK o p c v := by
  unfold stK at h
  split at h
  · rename_i x0 b x y z x5 x6 k x8 x9 x10 x11 x12 x13 x14 O
    rw [Bool.and_eq_true, Bool.and_eq_true, Bool.and_eq_true, Bool.and_eq_true, beqD_iff, beqD_iff, beqD_iff, beqD_iff, beqD_iff] at h
    obtain ⟨rfl, rfl, rfl, rfl, rfl⟩ := h
    refine ⟨_, O, fun i => match i with | 0 => x0 | 5 => x5 | 6 => x6 | 8 => x8 | 9 => x9 | 10 => x10 | 11 => x11 | 12 => x12 | 13 => x13 | 14 => x14 | _ => none, rfl, rfl⟩
  · cases h
theorem stK_app {C : Calls} {o p c : D} {a b : List OS} (h1 : ∀ v O, T.okB (stK o p c) (exSs C a (gK o p c v) O) = true) (h2 : ∀ v O, T.okB (stK o p c) (exSs C b (gK o p c v) O) = true) (v : Nat → Option D) (O : List Nat) : (exSs C (a ++ b) (gK o p c v) O).All (fun f => stK o p c f = true) NX := by
  rw [exSs_app]
  refine T.all_bind.mpr (T.okB_all (fun f hf => ?_) (h1 v O))
  obtain ⟨Γ, O, v, rfl, hΓ⟩ := stK_of hf
  subst hΓ
  exact T.okB_all (fun f hf => hf) (h2 v O)
def gK3 (o p c x y z : D) (v : Nat → Option D) : Gam := [v 0, some .bag, some o, some p, some c, v 5, v 6, some (.str [116, 104, 105, 110, 103]), some x, some y, some z, v 11, v 12, v 13, v 14]
def stK3 (ts : List D) (o p c : D) : Fl → Bool
  | .nx [_, some b, some x, some y, some z, _, _, some k, some t8, some t9, some t10, _, _, _, _] _ => (beqD b .bag && (beqD x o && (beqD y p && (beqD z c && beqD k (.str [116, 104, 105, 110, 103]))))) && (ts.any (beqD t8) && (ts.any (beqD t9) && ts.any (beqD t10)))
  | _ => false
theorem any_mem {ts : List D} {d : D} (h : ts.any (beqD d) = true) : d ∈ ts := by
  obtain ⟨x, hx, e⟩ := List.any_eq_true.mp h
  rw [beqD_iff] at e
  rw [e]
  exact hx
theorem stK3_of {ts : List D} {o p c : D} {f : Fl} (h : stK3 ts o p c f = true) : ∃ O v x y z, x ∈ ts ∧ y ∈ ts ∧ z ∈ ts ∧ f = .nx (gK3 o p c x y z v) O := by
  unfold stK3 at h
  split at h
  · rename_i x0 b x y z x5 x6 k x8 x9 x10 x11 x12 x13 x14 O
    rw [Bool.and_eq_true] at h
    obtain ⟨h, g⟩ := h
    rw [Bool.and_eq_true, Bool.and_eq_true, Bool.and_eq_true, Bool.and_eq_true, beqD_iff, beqD_iff, beqD_iff, beqD_iff, beqD_iff] at h
    rw [Bool.and_eq_true, Bool.and_eq_true] at g
    obtain ⟨rfl, rfl, rfl, rfl, rfl⟩ := h
    exact ⟨O, fun i => match i with | 0 => x0 | 5 => x5 | 6 => x6 | 11 => x11 | 12 => x12 | 13 => x13 | 14 => x14 | _ => none, x8, x9, x10, any_mem g.1, any_mem g.2.1, any_mem g.2.2, rfl⟩
  · cases h
/-- three draws, then what is asked of them -/
theorem stK_par {C : Calls} {o p c : D} {ts : List D} {a b l : List OS} (h1 : ∀ v O, T.okB (stK3 ts o p c) (exSs C a (gK o p c v) O) = true) (h2 : ∀ x ∈ ts, ∀ y ∈ ts, ∀ z ∈ ts, ∀ v O, T.okB (stK o p c) (exSs C b (gK3 o p c x y z v) O) = true)
    (h3 : ∀ v O, T.okB (stK o p c) (exSs C l (gK o p c v) O) = true) (v : Nat → Option D) (O : List Nat) : (exSs C (a ++ (b ++ l)) (gK o p c v) O).All (fun f => stK o p c f = true) NX := by
  rw [exSs_app]
  refine T.all_bind.mpr (T.okB_all (fun f hf => ?_) (h1 v O))
  obtain ⟨O, v, x, y, z, hx, hy, hz, rfl⟩ := stK3_of hf
  show (exSs C (b ++ l) _ _).All _ _
  rw [exSs_app]
  refine T.all_bind.mpr (T.okB_all (fun f hf => ?_) (h2 x hx y hy z hz v O))
  obtain ⟨Γ, O, v, rfl, hΓ⟩ := stK_of hf
  subst hΓ
  exact T.okB_all (fun f hf => hf) (h3 v O)
theorem law_loop {C : Calls} {o p c : D} {pre body : List OS} {Γ0 : Gam} (h1 : T.okB (stK o p c) (exSs C pre Γ0 []) = true) (h2 : ∀ v O, (exSs C body (gK o p c v) O).All (fun f => stK o p c f = true) NX) :
    (exSs C (pre ++ [.for_ (.n 11) (.rng1 (.const (.int 6))) body, .ret (.const (.bl true))]) Γ0 []).All (fun f => ∃ Γ O b, f = .rt (.bl true, b) Γ O) NX := by
  rw [exSs_app]
  refine T.all_bind.mpr (T.okB_all (fun f hf => ?_) h1)
  obtain ⟨Γ, O, v, rfl, hΓ⟩ := stK_of hf
  refine Ot.run (ot_forI (I := fun Γ _ => ∃ v, Γ = gK o p c v) (ds := rangeD 0 6) (by rw [evI, evE]; rfl) ⟨v, hΓ⟩ (fun d hd Γ O ⟨v, hv⟩ => ?_) fun Γ O _ => ?_)
  · refine ⟨gK o p c fun i => if i = 11 then some d else v i, by rw [hv]; rfl, ⟨T.all_imp (h2 _ _) fun f hf => ?_⟩⟩
    obtain ⟨Γ, O, v, h1, h2⟩ := stK_of hf
    exact ⟨Γ, O, h1, v, h2⟩
  · refine ⟨?_⟩
    rw [exSs, exS, evX_old (by rfl), evE]
    · exact ⟨_, _, _, rfl⟩
    · exact fun i h => by cases h
end Dy

set_option Elab.async false
set_option linter.all false
set_option maxRecDepth 100000
set_option maxHeartbeats 0
namespace Lw
open PySem PySem.Spec PyProof.Rows L2 Dy
def top (i : Nat) : Stmt := PySem.Challenge.pw_allcomers_k10_named_tables.main.body.getD i (.Pass ⟨0, 0, 0, 0⟩)
def topm (i j : Nat) : Stmt := match top i with
  | .ClassDef _ _ _ b _ _ _ _ _ _ _ => b.getD j (.Pass ⟨0, 0, 0, 0⟩)
  | s => s
def fns : List ((Str × Nat × List Str) × (List Sr × List D)) := [(("Table", 3, []), ([.pos 0, .pos 1, .pos 2], [])), (("_law_any", 2, []), ([.pos 0, .pos 1], [])), (("_law_bag", 1, []), ([.pos 0], [])), (("_law_mixed", 2, []), ([.pos 0, .pos 1], [])), (("_law_order_can", 3, []), ([.pos 0, .pos 1, .pos 2], [])), (("_law_part_can", 3, []), ([.pos 0, .pos 1, .pos 2], [])), (("_law_part_tie", 2, []), ([.pos 0, .pos 1], [])), (("_law_pull", 2, []), ([.pos 0, .pos 1], [])), (("_law_same", 2, []), ([.pos 0, .pos 1], [])), (("checked_backs", 1, []), ([.pos 0], [])), (("checked_kinds", 1, []), ([.pos 0], [])), (("is_bar", 3, []), ([.pos 0, .pos 1, .pos 2], [])), (("is_list", 1, []), ([.pos 0], [])), (("is_name", 1, []), ([.pos 0], [])), (("sides", 1, []), ([.pos 0], [])), (("turnings", 2, []), ([.pos 0, .pos 1], []))]
def glb : List (Str × D) := [("MOST_LETTERS", .int 16)]
def flds : List (Str × List Str) := [("own_kinds", ["Table"]), ("own_backs", ["Table"]), ("own_bars", ["Table"]), ("own_turned", ["Table"])]
def mths : List ((Str × Nat × List Str) × List (Str × Str × List Sr × List D)) := [(("back", 1, []), [("Table", "Table.back", [.pos 0, .pos 1], [])]), (("bars_it", 1, []), [("Table", "Table.bars_it", [.pos 0, .pos 1], [])]), (("is_barred", 1, []), [("Table", "Table.is_barred", [.pos 0, .pos 1], [])]), (("is_mine", 1, []), [("Table", "Table.is_mine", [.pos 0, .pos 1], [])]), (("kinds", 0, []), [("Table", "Table.kinds", [.pos 0], [])]), (("pairs", 0, []), [("Table", "Table.pairs", [.pos 0], [])]), (("ties", 0, []), [("Table", "Table.ties", [.pos 0], [])])]
def cats : List ((Str × Str) × D) := [(("Table", "MOST_KINDS"), .int 2), (("Table", "MOST_TIES"), .int 4)]
def sts : List ((Str × Str) × Str) := [(("Table", "ordering"), "Table.ordering"), (("Table", "part_ordering"), "Table.part_ordering"), (("Table", "classes"), "Table.classes")]
def lens : List (Str × Str) := [("Table", "^Table.__len__")]
def g : Gf := { fns, glb, flds, mths, cats, sts, tdl := [99], lens, ldl := [246] }
abbrev s_is_name : Stmt := top 11
def N_is_name : List Str := ["value", "sign"]
theorem sc_is_name : FnScope N_is_name ["value"] (defScope s_is_name) := ⟨rfl, rfl, rfl, by decide +kernel, rfl, by decide +kernel, by decide +kernel⟩
def os_is_name : List OS := [
  .if_ (.or_ [(.not_ (.e (.isi (.var 0) [.str]))), (.not_ (.e (.chain .LtE .LtE (.const (.int 1)) (.bcall .len [(.var 0)]) (.const (.int 16)))))]) [
    .ret (.const (.bl false))] [],
  .ret (.bcall .all [(.lc (.chain .LtE .LtE (.const (.str [97])) (.var 1) (.const (.str [122]))) [1] (.n 1) (.e (.var 0)) [])])]
theorem st_is_name : stripSs ⟨N_is_name, g⟩ (defScope s_is_name) 400 (defBody s_is_name) = os_is_name := by rfl
def d_is_name : Dn := { x := "is_name", st := s_is_name, N := N_is_name, ps := ["value"], os := os_is_name, at_ := ("is_name", none), name := "is_name", qual := "is_name", dfl := [], ini := false, sta := false }
abbrev s_is_list : Stmt := top 12
def N_is_list : List Str := ["value"]
theorem sc_is_list : FnScope N_is_list ["value"] (defScope s_is_list) := ⟨rfl, rfl, rfl, by decide +kernel, rfl, by decide +kernel, by decide +kernel⟩
def os_is_list : List OS := [
  .ret (.isi (.var 0) [.list, .tuple])]
theorem st_is_list : stripSs ⟨N_is_list, g⟩ (defScope s_is_list) 400 (defBody s_is_list) = os_is_list := by rfl
def d_is_list : Dn := { x := "is_list", st := s_is_list, N := N_is_list, ps := ["value"], os := os_is_list, at_ := ("is_list", none), name := "is_list", qual := "is_list", dfl := [], ini := false, sta := false }
abbrev s_checked_kinds : Stmt := top 14
def N_checked_kinds : List Str := ["kinds", "found", "at", "kind"]
theorem sc_checked_kinds : FnScope N_checked_kinds ["kinds"] (defScope s_checked_kinds) := ⟨rfl, rfl, rfl, by decide +kernel, rfl, by decide +kernel, by decide +kernel⟩
def os_checked_kinds : List OS := [
  .if_ (.or_ [(.not_ (.e (.call "is_list" [(.var 0)] [] [.pos 0] []))), (.e (.cmp .Eq (.bcall .len [(.var 0)]) (.const (.int 0))))]) [
    .bad] [],
  .set 1 (.lst []),
  .for_ (.t [(.n 2), (.n 3)]) (.enum (.var 0)) [
    .if_ (.or_ [(.not_ (.e (.call "is_name" [(.var 3)] [] [.pos 0] []))), (.e (.cmp .In (.var 3) (.var 1))), (.e (.cmp .Eq (.bcall .len [(.var 1)]) (.const (.int 2))))]) [
      .bad] [],
    .app 1 (.var 3)],
  .ret (.bcall .sorted [(.var 1)])]
theorem st_checked_kinds : stripSs ⟨N_checked_kinds, g⟩ (defScope s_checked_kinds) 400 (defBody s_checked_kinds) = os_checked_kinds := by rfl
def d_checked_kinds : Dn := { x := "checked_kinds", st := s_checked_kinds, N := N_checked_kinds, ps := ["kinds"], os := os_checked_kinds, at_ := ("checked_kinds", none), name := "checked_kinds", qual := "checked_kinds", dfl := [], ini := false, sta := false }
abbrev s_checked_backs : Stmt := top 15
def N_checked_backs : List Str := ["ties", "backs", "at", "pair", "tie", "back"]
theorem sc_checked_backs : FnScope N_checked_backs ["ties"] (defScope s_checked_backs) := ⟨rfl, rfl, rfl, by decide +kernel, rfl, by decide +kernel, by decide +kernel⟩
def os_checked_backs : List OS := [
  .if_ (.or_ [(.not_ (.e (.call "is_list" [(.var 0)] [] [.pos 0] []))), (.e (.cmp .Eq (.bcall .len [(.var 0)]) (.const (.int 0))))]) [
    .bad] [],
  .set 1 (.dnew false),
  .for_ (.t [(.n 2), (.n 3)]) (.enum (.var 0)) [
    .if_ (.or_ [(.not_ (.e (.isi (.var 3) [.tuple]))), (.e (.cmp .NotEq (.bcall .len [(.var 3)]) (.const (.int 2)))), (.not_ (.e (.bcall .all [(.lc (.call "is_name" [(.var 4)] [] [.pos 0] []) [4] (.n 4) (.e (.var 3)) [])])))]) [
      .bad] [],
    .seti (.t [(.n 4), (.n 5)]) (.var 3),
    .if_ (.or_ [(.e (.cmp .In (.var 4) (.var 1))), (.e (.cmp .In (.var 5) (.var 1))), (.e (.cmp .Gt (.bin .Add (.bcall .len [(.var 1)]) (.lenset (.var 3))) (.const (.int 4))))]) [
      .bad] [],
    .put 1 (.var 4) (.var 5),
    .put 1 (.var 5) (.var 4)],
  .ret (.var 1)]
theorem st_checked_backs : stripSs ⟨N_checked_backs, g⟩ (defScope s_checked_backs) 400 (defBody s_checked_backs) = os_checked_backs := by rfl
def d_checked_backs : Dn := { x := "checked_backs", st := s_checked_backs, N := N_checked_backs, ps := ["ties"], os := os_checked_backs, at_ := ("checked_backs", none), name := "checked_backs", qual := "checked_backs", dfl := [], ini := false, sta := false }
abbrev s_turnings : Stmt := top 16
def N_turnings : List Str := ["bar", "backs", "one", "tie", "other", "a", "ab", "b", "bc", "c", "ac", "ba", "cb", "ca"]
theorem sc_turnings : FnScope N_turnings ["bar", "backs"] (defScope s_turnings) := ⟨rfl, rfl, rfl, by decide +kernel, rfl, by decide +kernel, by decide +kernel⟩
def os_turnings : List OS := [
  .if_ (.e (.cmp .Eq (.bcall .len [(.var 0)]) (.const (.int 3)))) [
    .seti (.t [(.n 2), (.n 3), (.n 4)]) (.var 0),
    .ret (.lst [(.var 0), (.tup [(.var 4), (.sub (.var 1) (.var 3)), (.var 2)])])] [],
  .seti (.t [(.n 5), (.n 6), (.n 7), (.n 8), (.n 9), (.n 10)]) (.var 0),
  .par3 11 12 13 (.sub (.var 1) (.var 6)) (.sub (.var 1) (.var 8)) (.sub (.var 1) (.var 10)),
  .ret (.lst [(.var 0), (.tup [(.var 5), (.var 10), (.var 9), (.var 12), (.var 7), (.var 6)]), (.tup [(.var 7), (.var 11), (.var 5), (.var 10), (.var 9), (.var 8)]), (.tup [(.var 7), (.var 8), (.var 9), (.var 13), (.var 5), (.var 11)]), (.tup [(.var 9), (.var 13), (.var 5), (.var 6), (.var 7), (.var 12)]), (.tup [(.var 9), (.var 12), (.var 7), (.var 11), (.var 5), (.var 13)])])]
theorem st_turnings : stripSs ⟨N_turnings, g⟩ (defScope s_turnings) 400 (defBody s_turnings) = os_turnings := by rfl
def d_turnings : Dn := { x := "turnings", st := s_turnings, N := N_turnings, ps := ["bar", "backs"], os := os_turnings, at_ := ("turnings", none), name := "turnings", qual := "turnings", dfl := [], ini := false, sta := false }
abbrev s_sides : Stmt := top 17
def N_sides : List Str := ["bar"]
theorem sc_sides : FnScope N_sides ["bar"] (defScope s_sides) := ⟨rfl, rfl, rfl, by decide +kernel, rfl, by decide +kernel, by decide +kernel⟩
def os_sides : List OS := [
  .ret (.lst [(.slice (.var 0) none (some (.const (.int 3)))), (.slice (.var 0) (some (.const (.int 2))) (some (.const (.int 5)))), (.tup [(.sub (.var 0) (.const (.int 0))), (.sub (.var 0) (.const (.int 5))), (.sub (.var 0) (.const (.int 4)))])])]
theorem st_sides : stripSs ⟨N_sides, g⟩ (defScope s_sides) 400 (defBody s_sides) = os_sides := by rfl
def d_sides : Dn := { x := "sides", st := s_sides, N := N_sides, ps := ["bar"], os := os_sides, at_ := ("sides", none), name := "sides", qual := "sides", dfl := [], ini := false, sta := false }
abbrev s_is_bar : Stmt := top 18
def N_is_bar : List Str := ["value", "kinds", "backs", "word", "tie", "kind"]
theorem sc_is_bar : FnScope N_is_bar ["value", "kinds", "backs"] (defScope s_is_bar) := ⟨rfl, rfl, rfl, by decide +kernel, rfl, by decide +kernel, by decide +kernel⟩
def os_is_bar : List OS := [
  .if_ (.or_ [(.not_ (.e (.isi (.var 0) [.tuple]))), (.e (.cmp .NotIn (.bcall .len [(.var 0)]) (.tup [(.const (.int 3)), (.const (.int 6))]))), (.not_ (.e (.bcall .all [(.lc (.isi (.var 3) [.str]) [3] (.n 3) (.e (.var 0)) [])])))]) [
    .ret (.const (.bl false))] [],
  .if_ (.not_ (.e (.bcall .all [(.lc (.cmp .In (.var 4) (.var 2)) [4] (.n 4) (.e (.step (.var 0) 1)) [])]))) [
    .ret (.const (.bl false))] [],
  .ret (.bcall .all [(.lc (.cmp .In (.var 5) (.var 1)) [5] (.n 5) (.e (.step (.var 0) 0)) [])])]
theorem st_is_bar : stripSs ⟨N_is_bar, g⟩ (defScope s_is_bar) 400 (defBody s_is_bar) = os_is_bar := by rfl
def d_is_bar : Dn := { x := "is_bar", st := s_is_bar, N := N_is_bar, ps := ["value", "kinds", "backs"], os := os_is_bar, at_ := ("is_bar", none), name := "is_bar", qual := "is_bar", dfl := [], ini := false, sta := false }
abbrev s_Table_init : Stmt := topm 19 2
def N_Table_init : List Str := ["self", "kinds", "ties", "bars", "at", "bar", "every", "forms", "form"]
theorem sc_Table_init : FnScope N_Table_init ["self", "kinds", "ties", "bars"] (defScope s_Table_init) := ⟨rfl, rfl, rfl, by decide +kernel, rfl, by decide +kernel, by decide +kernel⟩
def os_Table_init : List OS := [
  .fset 0 "own_kinds" ["Table"] (.call "checked_kinds" [(.var 1)] [] [.pos 0] []),
  .fset 0 "own_backs" ["Table"] (.call "checked_backs" [(.var 2)] [] [.pos 0] []),
  .if_ (.not_ (.e (.call "is_list" [(.var 3)] [] [.pos 0] []))) [
    .bad] [],
  .for_ (.t [(.n 4), (.n 5)]) (.enum (.var 3)) [
    .if_ (.not_ (.e (.mcall "is_mine" (.var 0) [(.var 5)] [] [("Table", "Table.is_mine", [.pos 0, .pos 1], [])]))) [
      .bad] []],
  .set 6 (.lc (.call "turnings" [(.var 5), (.fld (.var 0) "own_backs" ["Table"])] [] [.pos 0, .pos 1] []) [5] (.n 5) (.e (.var 3)) []),
  .fset 0 "own_bars" ["Table"] (.srt (.bcall .min [(.var 7)]) [7] (.n 7) (.e (.var 6)) []),
  .fset 0 "own_turned" ["Table"] (.dc2 true (.var 8) (.const (.bl true)) [7, 8] (.n 7) (.e (.var 6)) [] (.n 8) (.e (.var 7)) [])]
theorem st_Table_init : stripSs ⟨N_Table_init, g⟩ (defScope s_Table_init) 400 (defBody s_Table_init) = os_Table_init := by rfl
def d_Table_init : Dn := { x := "Table", st := s_Table_init, N := N_Table_init, ps := ["self", "kinds", "ties", "bars"], os := os_Table_init, at_ := ("Table", some "__init__"), name := "__init__", qual := "Table.__init__", dfl := [.adr fun K => dfA K (He.ma K (He.ga K "Table") "__init__") 0], ini := true, sta := false }
abbrev s_Table_is_mine : Stmt := topm 19 3
def N_Table_is_mine : List Str := ["self", "value"]
theorem sc_Table_is_mine : FnScope N_Table_is_mine ["self", "value"] (defScope s_Table_is_mine) := ⟨rfl, rfl, rfl, by decide +kernel, rfl, by decide +kernel, by decide +kernel⟩
def os_Table_is_mine : List OS := [
  .ret (.call "is_bar" [(.var 1), (.fld (.var 0) "own_kinds" ["Table"]), (.fld (.var 0) "own_backs" ["Table"])] [] [.pos 0, .pos 1, .pos 2] [])]
theorem st_Table_is_mine : stripSs ⟨N_Table_is_mine, g⟩ (defScope s_Table_is_mine) 400 (defBody s_Table_is_mine) = os_Table_is_mine := by rfl
def d_Table_is_mine : Dn := { x := "Table.is_mine", st := s_Table_is_mine, N := N_Table_is_mine, ps := ["self", "value"], os := os_Table_is_mine, at_ := ("Table", some "is_mine"), name := "is_mine", qual := "Table.is_mine", dfl := [], ini := false, sta := false }
abbrev s_Table_kinds : Stmt := topm 19 4
def N_Table_kinds : List Str := ["self"]
theorem sc_Table_kinds : FnScope N_Table_kinds ["self"] (defScope s_Table_kinds) := ⟨rfl, rfl, rfl, by decide +kernel, rfl, by decide +kernel, by decide +kernel⟩
def os_Table_kinds : List OS := [
  .ret (.bcall .list [(.fld (.var 0) "own_kinds" ["Table"])])]
theorem st_Table_kinds : stripSs ⟨N_Table_kinds, g⟩ (defScope s_Table_kinds) 400 (defBody s_Table_kinds) = os_Table_kinds := by rfl
def d_Table_kinds : Dn := { x := "Table.kinds", st := s_Table_kinds, N := N_Table_kinds, ps := ["self"], os := os_Table_kinds, at_ := ("Table", some "kinds"), name := "kinds", qual := "Table.kinds", dfl := [], ini := false, sta := false }
abbrev s_Table_ties : Stmt := topm 19 5
def N_Table_ties : List Str := ["self"]
theorem sc_Table_ties : FnScope N_Table_ties ["self"] (defScope s_Table_ties) := ⟨rfl, rfl, rfl, by decide +kernel, rfl, by decide +kernel, by decide +kernel⟩
def os_Table_ties : List OS := [
  .ret (.bcall .sorted [(.bcall .list [(.fld (.var 0) "own_backs" ["Table"])])])]
theorem st_Table_ties : stripSs ⟨N_Table_ties, g⟩ (defScope s_Table_ties) 400 (defBody s_Table_ties) = os_Table_ties := by rfl
def d_Table_ties : Dn := { x := "Table.ties", st := s_Table_ties, N := N_Table_ties, ps := ["self"], os := os_Table_ties, at_ := ("Table", some "ties"), name := "ties", qual := "Table.ties", dfl := [], ini := false, sta := false }
abbrev s_Table_back : Stmt := topm 19 6
def N_Table_back : List Str := ["self", "tie"]
theorem sc_Table_back : FnScope N_Table_back ["self", "tie"] (defScope s_Table_back) := ⟨rfl, rfl, rfl, by decide +kernel, rfl, by decide +kernel, by decide +kernel⟩
def os_Table_back : List OS := [
  .if_ (.or_ [(.not_ (.e (.isi (.var 1) [.str]))), (.e (.cmp .NotIn (.var 1) (.fld (.var 0) "own_backs" ["Table"])))]) [
    .bad] [],
  .ret (.sub (.fld (.var 0) "own_backs" ["Table"]) (.var 1))]
theorem st_Table_back : stripSs ⟨N_Table_back, g⟩ (defScope s_Table_back) 400 (defBody s_Table_back) = os_Table_back := by rfl
def d_Table_back : Dn := { x := "Table.back", st := s_Table_back, N := N_Table_back, ps := ["self", "tie"], os := os_Table_back, at_ := ("Table", some "back"), name := "back", qual := "Table.back", dfl := [], ini := false, sta := false }
abbrev s_Table_bars : Stmt := topm 19 7
def N_Table_bars : List Str := ["self"]
theorem sc_Table_bars : FnScope N_Table_bars ["self"] (defScope s_Table_bars) := ⟨rfl, rfl, rfl, by decide +kernel, rfl, by decide +kernel, by decide +kernel⟩
def os_Table_bars : List OS := [
  .ret (.bcall .list [(.fld (.var 0) "own_bars" ["Table"])])]
theorem st_Table_bars : stripSs ⟨N_Table_bars, g⟩ (defScope s_Table_bars) 400 (defBody s_Table_bars) = os_Table_bars := by rfl
def d_Table_bars : Dn := { x := "Table.bars", st := s_Table_bars, N := N_Table_bars, ps := ["self"], os := os_Table_bars, at_ := ("Table", some "bars"), name := "bars", qual := "Table.bars", dfl := [], ini := false, sta := false }
abbrev s_Table_plain : Stmt := topm 19 8
def N_Table_plain : List Str := ["self", "bar"]
theorem sc_Table_plain : FnScope N_Table_plain ["self", "bar"] (defScope s_Table_plain) := ⟨rfl, rfl, rfl, by decide +kernel, rfl, by decide +kernel, by decide +kernel⟩
def os_Table_plain : List OS := [
  .if_ (.not_ (.e (.mcall "is_mine" (.var 0) [(.var 1)] [] [("Table", "Table.is_mine", [.pos 0, .pos 1], [])]))) [
    .bad] [],
  .ret (.bcall .min [(.call "turnings" [(.var 1), (.fld (.var 0) "own_backs" ["Table"])] [] [.pos 0, .pos 1] [])])]
theorem st_Table_plain : stripSs ⟨N_Table_plain, g⟩ (defScope s_Table_plain) 400 (defBody s_Table_plain) = os_Table_plain := by rfl
def d_Table_plain : Dn := { x := "Table.plain", st := s_Table_plain, N := N_Table_plain, ps := ["self", "bar"], os := os_Table_plain, at_ := ("Table", some "plain"), name := "plain", qual := "Table.plain", dfl := [], ini := false, sta := false }
abbrev s_Table_is_barred : Stmt := topm 19 9
def N_Table_is_barred : List Str := ["self", "bar"]
theorem sc_Table_is_barred : FnScope N_Table_is_barred ["self", "bar"] (defScope s_Table_is_barred) := ⟨rfl, rfl, rfl, by decide +kernel, rfl, by decide +kernel, by decide +kernel⟩
def os_Table_is_barred : List OS := [
  .if_ (.not_ (.e (.mcall "is_mine" (.var 0) [(.var 1)] [] [("Table", "Table.is_mine", [.pos 0, .pos 1], [])]))) [
    .bad] [],
  .ret (.mcall "bars_it" (.var 0) [(.var 1)] [] [("Table", "Table.bars_it", [.pos 0, .pos 1], [])])]
theorem st_Table_is_barred : stripSs ⟨N_Table_is_barred, g⟩ (defScope s_Table_is_barred) 400 (defBody s_Table_is_barred) = os_Table_is_barred := by rfl
def d_Table_is_barred : Dn := { x := "Table.is_barred", st := s_Table_is_barred, N := N_Table_is_barred, ps := ["self", "bar"], os := os_Table_is_barred, at_ := ("Table", some "is_barred"), name := "is_barred", qual := "Table.is_barred", dfl := [], ini := false, sta := false }
abbrev s_Table_bars_it : Stmt := topm 19 10
def N_Table_bars_it : List Str := ["self", "bar", "side"]
theorem sc_Table_bars_it : FnScope N_Table_bars_it ["self", "bar"] (defScope s_Table_bars_it) := ⟨rfl, rfl, rfl, by decide +kernel, rfl, by decide +kernel, by decide +kernel⟩
def os_Table_bars_it : List OS := [
  .if_ (.e (.cmp .In (.var 1) (.fld (.var 0) "own_turned" ["Table"]))) [
    .ret (.const (.bl true))] [],
  .ret (.and_ [(.cmp .Eq (.bcall .len [(.var 1)]) (.const (.int 6))), (.bcall .any [(.lc (.cmp .In (.var 2) (.fld (.var 0) "own_turned" ["Table"])) [2] (.n 2) (.e (.call "sides" [(.var 1)] [] [.pos 0] [])) [])])])]
theorem st_Table_bars_it : stripSs ⟨N_Table_bars_it, g⟩ (defScope s_Table_bars_it) 400 (defBody s_Table_bars_it) = os_Table_bars_it := by rfl
def d_Table_bars_it : Dn := { x := "Table.bars_it", st := s_Table_bars_it, N := N_Table_bars_it, ps := ["self", "bar"], os := os_Table_bars_it, at_ := ("Table", some "bars_it"), name := "bars_it", qual := "Table.bars_it", dfl := [], ini := false, sta := false }
abbrev s_Table_pairs : Stmt := topm 19 12
def N_Table_pairs : List Str := ["self", "tie"]
theorem sc_Table_pairs : FnScope N_Table_pairs ["self"] (defScope s_Table_pairs) := ⟨rfl, rfl, rfl, by decide +kernel, rfl, by decide +kernel, by decide +kernel⟩
def os_Table_pairs : List OS := [
  .ret (.lc (.tup [(.var 1), (.sub (.fld (.var 0) "own_backs" ["Table"]) (.var 1))]) [1] (.n 1) (.e (.mcall "ties" (.var 0) [] [] [("Table", "Table.ties", [.pos 0], [])])) [(.e (.cmp .LtE (.var 1) (.sub (.fld (.var 0) "own_backs" ["Table"]) (.var 1))))])]
theorem st_Table_pairs : stripSs ⟨N_Table_pairs, g⟩ (defScope s_Table_pairs) 400 (defBody s_Table_pairs) = os_Table_pairs := by rfl
def d_Table_pairs : Dn := { x := "Table.pairs", st := s_Table_pairs, N := N_Table_pairs, ps := ["self"], os := os_Table_pairs, at_ := ("Table", some "pairs"), name := "pairs", qual := "Table.pairs", dfl := [], ini := false, sta := false }
abbrev s_Table_ordering : Stmt := topm 19 15
def N_Table_ordering : List Str := []
theorem sc_Table_ordering : FnScope N_Table_ordering [] (defScope s_Table_ordering) := ⟨rfl, rfl, rfl, by decide +kernel, rfl, by decide +kernel, by decide +kernel⟩
def os_Table_ordering : List OS := [
  .ret (.call "Table" [(.lst [(.const (.str [116, 104, 105, 110, 103]))]), (.lst [(.tup [(.const (.str [98, 101, 102, 111, 114, 101])), (.const (.str [97, 102, 116, 101, 114]))])]), (.lst [(.tup [(.const (.str [116, 104, 105, 110, 103])), (.const (.str [98, 101, 102, 111, 114, 101])), (.const (.str [116, 104, 105, 110, 103])), (.const (.str [98, 101, 102, 111, 114, 101])), (.const (.str [116, 104, 105, 110, 103])), (.const (.str [97, 102, 116, 101, 114]))])])] [] [.pos 0, .pos 1, .pos 2] [])]
theorem st_Table_ordering : stripSs ⟨N_Table_ordering, g⟩ (defScope s_Table_ordering) 400 (defBody s_Table_ordering) = os_Table_ordering := by rfl
def d_Table_ordering : Dn := { x := "Table.ordering", st := s_Table_ordering, N := N_Table_ordering, ps := [], os := os_Table_ordering, at_ := ("Table", some "ordering"), name := "ordering", qual := "Table.ordering", dfl := [], ini := false, sta := true }
abbrev s_Table_part_ordering : Stmt := topm 19 16
def N_Table_part_ordering : List Str := ["bars", "tie"]
theorem sc_Table_part_ordering : FnScope N_Table_part_ordering [] (defScope s_Table_part_ordering) := ⟨rfl, rfl, rfl, by decide +kernel, rfl, by decide +kernel, by decide +kernel⟩
def os_Table_part_ordering : List OS := [
  .set 0 (.lc (.tup [(.const (.str [116, 104, 105, 110, 103])), (.const (.str [97, 98, 111, 118, 101])), (.const (.str [116, 104, 105, 110, 103])), (.const (.str [97, 98, 111, 118, 101])), (.const (.str [116, 104, 105, 110, 103])), (.var 1)]) [1] (.n 1) (.e (.tup [(.const (.str [98, 101, 108, 111, 119])), (.const (.str [97, 112, 97, 114, 116]))])) []),
  .ret (.call "Table" [(.lst [(.const (.str [116, 104, 105, 110, 103]))]), (.lst [(.tup [(.const (.str [97, 98, 111, 118, 101])), (.const (.str [98, 101, 108, 111, 119]))]), (.tup [(.const (.str [97, 112, 97, 114, 116])), (.const (.str [97, 112, 97, 114, 116]))])]), (.var 0)] [] [.pos 0, .pos 1, .pos 2] [])]
theorem st_Table_part_ordering : stripSs ⟨N_Table_part_ordering, g⟩ (defScope s_Table_part_ordering) 400 (defBody s_Table_part_ordering) = os_Table_part_ordering := by rfl
def d_Table_part_ordering : Dn := { x := "Table.part_ordering", st := s_Table_part_ordering, N := N_Table_part_ordering, ps := [], os := os_Table_part_ordering, at_ := ("Table", some "part_ordering"), name := "part_ordering", qual := "Table.part_ordering", dfl := [], ini := false, sta := true }
abbrev s_Table_classes : Stmt := topm 19 17
def N_Table_classes : List Str := ["bars"]
theorem sc_Table_classes : FnScope N_Table_classes [] (defScope s_Table_classes) := ⟨rfl, rfl, rfl, by decide +kernel, rfl, by decide +kernel, by decide +kernel⟩
def os_Table_classes : List OS := [
  .set 0 (.lst [(.tup [(.const (.str [116, 104, 105, 110, 103])), (.const (.str [108, 105, 107, 101])), (.const (.str [116, 104, 105, 110, 103])), (.const (.str [108, 105, 107, 101])), (.const (.str [116, 104, 105, 110, 103])), (.const (.str [117, 110, 108, 105, 107, 101]))])]),
  .ret (.call "Table" [(.lst [(.const (.str [116, 104, 105, 110, 103]))]), (.lst [(.tup [(.const (.str [108, 105, 107, 101])), (.const (.str [108, 105, 107, 101]))]), (.tup [(.const (.str [117, 110, 108, 105, 107, 101])), (.const (.str [117, 110, 108, 105, 107, 101]))])]), (.var 0)] [] [.pos 0, .pos 1, .pos 2] [])]
theorem st_Table_classes : stripSs ⟨N_Table_classes, g⟩ (defScope s_Table_classes) 400 (defBody s_Table_classes) = os_Table_classes := by rfl
def d_Table_classes : Dn := { x := "Table.classes", st := s_Table_classes, N := N_Table_classes, ps := [], os := os_Table_classes, at_ := ("Table", some "classes"), name := "classes", qual := "Table.classes", dfl := [], ini := false, sta := true }
abbrev s_Table___add__ : Stmt := topm 19 19
def N_Table___add__ : List Str := ["self", "other"]
theorem sc_Table___add__ : FnScope N_Table___add__ ["self", "other"] (defScope s_Table___add__) := ⟨rfl, rfl, rfl, by decide +kernel, rfl, by decide +kernel, by decide +kernel⟩
def os_Table___add__ : List OS := [
  .if_ (.not_ (.e .bad)) [
    .ret .bad] [],
  .if_ (.or_ [(.e (.cmp .NotEq (.fld (.var 0) "own_kinds" ["Table"]) (.fld (.var 1) "own_kinds" ["Table"]))), (.e (.cmp .NotEq (.fld (.var 0) "own_backs" ["Table"]) (.fld (.var 1) "own_backs" ["Table"])))]) [
    .bad] [],
  .ret (.call "Table" [(.fld (.var 0) "own_kinds" ["Table"]), (.mcall "pairs" (.var 0) [] [] [("Table", "Table.pairs", [.pos 0], [])]), (.bin .Add (.fld (.var 0) "own_bars" ["Table"]) (.fld (.var 1) "own_bars" ["Table"]))] [] [.pos 0, .pos 1, .pos 2] [])]
theorem st_Table___add__ : stripSs ⟨N_Table___add__, g⟩ (defScope s_Table___add__) 400 (defBody s_Table___add__) = os_Table___add__ := by rfl
def d_Table___add__ : Dn := { x := "Table.__add__", st := s_Table___add__, N := N_Table___add__, ps := ["self", "other"], os := os_Table___add__, at_ := ("Table", some "__add__"), name := "__add__", qual := "Table.__add__", dfl := [], ini := false, sta := false }
abbrev s_Table___contains__ : Stmt := topm 19 20
def N_Table___contains__ : List Str := ["self", "bar"]
theorem sc_Table___contains__ : FnScope N_Table___contains__ ["self", "bar"] (defScope s_Table___contains__) := ⟨rfl, rfl, rfl, by decide +kernel, rfl, by decide +kernel, by decide +kernel⟩
def os_Table___contains__ : List OS := [
  .ret (.and_ [(.mcall "is_mine" (.var 0) [(.var 1)] [] [("Table", "Table.is_mine", [.pos 0, .pos 1], [])]), (.cmp .In (.var 1) (.fld (.var 0) "own_turned" ["Table"]))])]
theorem st_Table___contains__ : stripSs ⟨N_Table___contains__, g⟩ (defScope s_Table___contains__) 400 (defBody s_Table___contains__) = os_Table___contains__ := by rfl
def d_Table___contains__ : Dn := { x := "Table.__contains__", st := s_Table___contains__, N := N_Table___contains__, ps := ["self", "bar"], os := os_Table___contains__, at_ := ("Table", some "__contains__"), name := "__contains__", qual := "Table.__contains__", dfl := [], ini := false, sta := false }
abbrev s_Table___eq__ : Stmt := topm 19 21
def N_Table___eq__ : List Str := ["self", "other"]
theorem sc_Table___eq__ : FnScope N_Table___eq__ ["self", "other"] (defScope s_Table___eq__) := ⟨rfl, rfl, rfl, by decide +kernel, rfl, by decide +kernel, by decide +kernel⟩
def os_Table___eq__ : List OS := [
  .if_ (.not_ (.e .bad)) [
    .ret (.const (.bl false))] [],
  .if_ (.or_ [(.e (.cmp .NotEq (.fld (.var 0) "own_kinds" ["Table"]) (.fld (.var 1) "own_kinds" ["Table"]))), (.e (.cmp .NotEq (.fld (.var 0) "own_backs" ["Table"]) (.fld (.var 1) "own_backs" ["Table"])))]) [
    .ret (.const (.bl false))] [],
  .ret (.cmp .Eq (.fld (.var 0) "own_bars" ["Table"]) (.fld (.var 1) "own_bars" ["Table"]))]
theorem st_Table___eq__ : stripSs ⟨N_Table___eq__, g⟩ (defScope s_Table___eq__) 400 (defBody s_Table___eq__) = os_Table___eq__ := by rfl
def d_Table___eq__ : Dn := { x := "Table.__eq__", st := s_Table___eq__, N := N_Table___eq__, ps := ["self", "other"], os := os_Table___eq__, at_ := ("Table", some "__eq__"), name := "__eq__", qual := "Table.__eq__", dfl := [], ini := false, sta := false }
abbrev s_Table___bool__ : Stmt := topm 19 22
def N_Table___bool__ : List Str := ["self"]
theorem sc_Table___bool__ : FnScope N_Table___bool__ ["self"] (defScope s_Table___bool__) := ⟨rfl, rfl, rfl, by decide +kernel, rfl, by decide +kernel, by decide +kernel⟩
def os_Table___bool__ : List OS := [
  .ret (.const (.bl true))]
theorem st_Table___bool__ : stripSs ⟨N_Table___bool__, g⟩ (defScope s_Table___bool__) 400 (defBody s_Table___bool__) = os_Table___bool__ := by rfl
def d_Table___bool__ : Dn := { x := "Table.__bool__", st := s_Table___bool__, N := N_Table___bool__, ps := ["self"], os := os_Table___bool__, at_ := ("Table", some "__bool__"), name := "__bool__", qual := "Table.__bool__", dfl := [], ini := false, sta := false }
abbrev s_Table___len__ : Stmt := topm 19 23
def N_Table___len__ : List Str := ["self"]
theorem sc_Table___len__ : FnScope N_Table___len__ ["self"] (defScope s_Table___len__) := ⟨rfl, rfl, rfl, by decide +kernel, rfl, by decide +kernel, by decide +kernel⟩
def os_Table___len__ : List OS := [
  .ret (.bcall .len [(.fld (.var 0) "own_bars" ["Table"])])]
theorem st_Table___len__ : stripSs ⟨N_Table___len__, g⟩ (defScope s_Table___len__) 400 (defBody s_Table___len__) = os_Table___len__ := by rfl
def d_Table___len__ : Dn := { x := "Table.__len__", st := s_Table___len__, N := N_Table___len__, ps := ["self"], os := os_Table___len__, at_ := ("Table", some "__len__"), name := "__len__", qual := "Table.__len__", dfl := [], ini := false, sta := false }
abbrev s_Table___repr__ : Stmt := topm 19 24
def N_Table___repr__ : List Str := ["self"]
theorem sc_Table___repr__ : FnScope N_Table___repr__ ["self"] (defScope s_Table___repr__) := ⟨rfl, rfl, rfl, by decide +kernel, rfl, by decide +kernel, by decide +kernel⟩
def os_Table___repr__ : List OS := [
  .ret .bad]
theorem st_Table___repr__ : stripSs ⟨N_Table___repr__, g⟩ (defScope s_Table___repr__) 400 (defBody s_Table___repr__) = os_Table___repr__ := by rfl
def d_Table___repr__ : Dn := { x := "Table.__repr__", st := s_Table___repr__, N := N_Table___repr__, ps := ["self"], os := os_Table___repr__, at_ := ("Table", some "__repr__"), name := "__repr__", qual := "Table.__repr__", dfl := [], ini := false, sta := false }
abbrev s__law_bag : Stmt := top 21
def N__law_bag : List Str := ["script", "state", "cell"]
theorem sc__law_bag : FnScope N__law_bag ["script"] (defScope s__law_bag) := ⟨rfl, rfl, rfl, by decide +kernel, rfl, by decide +kernel, by decide +kernel⟩
def os__law_bag : List OS := [
  .set 1 (.const (.int 12007)),
  .for_ (.n 2) (.e (.slice (.var 0) none (some (.const (.int 63))))) [
    .set 1 (.bin .Mod (.bcall .int [(.bin .Add (.bin .Add (.bin .Mult (.var 1) (.const (.int 52379))) (.bin .Mod (.bcall .int [(.var 2)]) (.const (.int 2147483423)))) (.const (.int 19)))]) (.const (.int 2147483399)))],
  .ret (.lst [(.lc (.bcall .int [(.var 2)]) [2] (.n 2) (.e (.slice (.var 0) none (some (.const (.int 63))))) []), (.const (.int 0)), (.const (.int 0)), (.var 1), (.const (.int 0))])]
theorem st__law_bag : stripSs ⟨N__law_bag, g⟩ (defScope s__law_bag) 400 (defBody s__law_bag) = os__law_bag := by rfl
def d__law_bag : Dn := { x := "_law_bag", st := s__law_bag, N := N__law_bag, ps := ["script"], os := os__law_bag, at_ := ("_law_bag", none), name := "_law_bag", qual := "_law_bag", dfl := [], ini := false, sta := false }
abbrev s__law_pull : Stmt := top 22
def N__law_pull : List Str := ["bag", "many", "cell", "digit", "state"]
theorem sc__law_pull : FnScope N__law_pull ["bag", "many"] (defScope s__law_pull) := ⟨rfl, rfl, rfl, by decide +kernel, rfl, by decide +kernel, by decide +kernel⟩
def os__law_pull : List OS := [
  .put 0 (.const (.int 4)) (.bin .Add (.sub (.var 0) (.const (.int 4))) (.const (.int 1))),
  .if_ (.and_ [(.e (.cmp .Eq (.sub (.var 0) (.const (.int 2))) (.const (.int 0)))), (.e (.cmp .Lt (.sub (.var 0) (.const (.int 1))) (.bcall .len [(.sub (.var 0) (.const (.int 0)))])))]) [
    .set 2 (.sub (.sub (.var 0) (.const (.int 0))) (.sub (.var 0) (.const (.int 1)))),
    .put 0 (.const (.int 1)) (.bin .Add (.sub (.var 0) (.const (.int 1))) (.const (.int 1))),
    .if_ (.e (.cmp .GtE (.var 2) (.bin .Pow (.const (.int 10)) (.const (.int 18))))) [
      .put 0 (.const (.int 2)) (.var 2)] [],
    .put 0 (.const (.int 3)) (.bin .Mod (.bcall .int [(.bin .Add (.bin .Add (.bin .Mult (.sub (.var 0) (.const (.int 3))) (.const (.int 43711))) (.bin .Mult (.bin .Mod (.bcall .int [(.var 2)]) (.const (.int 2147483423))) (.const (.int 38921)))) (.const (.int 97)))]) (.const (.int 2147483399)))] [],
  .if_ (.e (.cmp .Gt (.sub (.var 0) (.const (.int 2))) (.const (.int 0)))) [
    .set 3 (.bin .Mod (.bcall .int [(.sub (.var 0) (.const (.int 2)))]) (.var 1)),
    .put 0 (.const (.int 2)) (.bin .FloorDiv (.bcall .int [(.sub (.var 0) (.const (.int 2)))]) (.var 1)),
    .ret (.var 3)] [],
  .set 4 (.sub (.var 0) (.const (.int 3))),
  .put 0 (.const (.int 3)) (.bin .Mod (.bcall .int [(.bin .Add (.bin .Add (.bin .Add (.bin .Pow (.var 4) (.const (.int 3))) (.bin .Mult (.var 4) (.const (.int 41179)))) (.bin .Mult (.sub (.var 0) (.const (.int 4))) (.const (.int 1299757)))) (.const (.int 60041)))]) (.const (.int 2147483399))),
  .ret (.bin .Mod (.bcall .int [(.bin .Add (.bin .FloorDiv (.sub (.var 0) (.const (.int 3))) (.const (.int 97))) (.bin .Mult (.bin .Mod (.bcall .int [(.sub (.var 0) (.const (.int 3)))]) (.const (.int 7919))) (.const (.int 59))))]) (.var 1))]
theorem st__law_pull : stripSs ⟨N__law_pull, g⟩ (defScope s__law_pull) 400 (defBody s__law_pull) = os__law_pull := by rfl
def d__law_pull : Dn := { x := "_law_pull", st := s__law_pull, N := N__law_pull, ps := ["bag", "many"], os := os__law_pull, at_ := ("_law_pull", none), name := "_law_pull", qual := "_law_pull", dfl := [], ini := false, sta := false }
abbrev s__law_any : Stmt := top 23
def N__law_any : List Str := ["bag", "things"]
theorem sc__law_any : FnScope N__law_any ["bag", "things"] (defScope s__law_any) := ⟨rfl, rfl, rfl, by decide +kernel, rfl, by decide +kernel, by decide +kernel⟩
def os__law_any : List OS := [
  .ret (.sub (.var 1) (.call "_law_pull" [(.var 0), (.bcall .len [(.var 1)])] [] [.pos 0, .pos 1] []))]
theorem st__law_any : stripSs ⟨N__law_any, g⟩ (defScope s__law_any) 400 (defBody s__law_any) = os__law_any := by rfl
def d__law_any : Dn := { x := "_law_any", st := s__law_any, N := N__law_any, ps := ["bag", "things"], os := os__law_any, at_ := ("_law_any", none), name := "_law_any", qual := "_law_any", dfl := [], ini := false, sta := false }
abbrev s__law_mixed : Stmt := top 24
def N__law_mixed : List Str := ["bag", "things", "left", "found", "k"]
theorem sc__law_mixed : FnScope N__law_mixed ["bag", "things"] (defScope s__law_mixed) := ⟨rfl, rfl, rfl, by decide +kernel, rfl, by decide +kernel, by decide +kernel⟩
def os__law_mixed : List OS := [
  .par2 2 3 (.bcall .list [(.var 1)]) (.lst []),
  .for_ (.n 4) (.rng1 (.bcall .len [(.var 1)])) [
    .popA 3 2 (some (.call "_law_pull" [(.var 0), (.bcall .len [(.var 2)])] [] [.pos 0, .pos 1] []))],
  .ret (.var 3)]
theorem st__law_mixed : stripSs ⟨N__law_mixed, g⟩ (defScope s__law_mixed) 400 (defBody s__law_mixed) = os__law_mixed := by rfl
def d__law_mixed : Dn := { x := "_law_mixed", st := s__law_mixed, N := N__law_mixed, ps := ["bag", "things"], os := os__law_mixed, at_ := ("_law_mixed", none), name := "_law_mixed", qual := "_law_mixed", dfl := [], ini := false, sta := false }
abbrev s__law_same : Stmt := top 25
def N__law_same : List Str := ["found", "due", "one_y", "two_y"]
theorem sc__law_same : FnScope N__law_same ["found", "due"] (defScope s__law_same) := ⟨rfl, rfl, rfl, by decide +kernel, rfl, by decide +kernel, by decide +kernel⟩
def os__law_same : List OS := [
  .if_ (.e (.isi (.var 1) [.list, .tuple])) [
    .if_ (.or_ [(.e (.cmp .NotEq (.isi (.var 0) [.list]) (.isi (.var 1) [.list]))), (.e (.cmp .NotEq (.isi (.var 0) [.tuple]) (.isi (.var 1) [.tuple])))]) [
      .ret (.const (.bl false))] [],
    .ret (.and_ [(.cmp .Eq (.bcall .len [(.var 0)]) (.bcall .len [(.var 1)])), (.bcall .all [(.lc (.call "_law_same" [(.var 2), (.var 3)] [] [.pos 0, .pos 1] []) [2, 3] (.t [(.n 2), (.n 3)]) (.zip (.var 0) (.var 1)) [])])])] [],
  .if_ (.or_ [(.e (.isN (.var 1))), (.e (.isN (.var 0)))]) [
    .ret (.and_ [(.isN (.var 1)), (.isN (.var 0))])] [],
  .if_ (.or_ [(.e (.cmp .NotEq (.isi (.var 1) [.bool]) (.isi (.var 0) [.bool]))), (.e (.cmp .NotEq (.isi (.var 1) [.int]) (.isi (.var 0) [.int])))]) [
    .ret (.const (.bl false))] [],
  .ret (.and_ [(.cmp .Eq (.isi (.var 1) [.str]) (.isi (.var 0) [.str])), (.cmp .Eq (.var 0) (.var 1))])]
theorem st__law_same : stripSs ⟨N__law_same, g⟩ (defScope s__law_same) 400 (defBody s__law_same) = os__law_same := by rfl
def d__law_same : Dn := { x := "_law_same", st := s__law_same, N := N__law_same, ps := ["found", "due"], os := os__law_same, at_ := ("_law_same", none), name := "_law_same", qual := "_law_same", dfl := [], ini := false, sta := false }
abbrev s__law_order_can : Stmt := top 26
def N__law_order_can : List Str := ["xy", "yz", "xz", "x", "y", "z", "a", "b"]
theorem sc__law_order_can : FnScope N__law_order_can ["xy", "yz", "xz"] (defScope s__law_order_can) := ⟨rfl, rfl, rfl, by decide +kernel, rfl, by decide +kernel, by decide +kernel⟩
def os__law_order_can : List OS := [
  .for_ (.t [(.n 3), (.n 4), (.n 5)]) (.e (.lst [(.tup [(.const (.int 0)), (.const (.int 1)), (.const (.int 2))]), (.tup [(.const (.int 0)), (.const (.int 2)), (.const (.int 1))]), (.tup [(.const (.int 1)), (.const (.int 0)), (.const (.int 2))]), (.tup [(.const (.int 1)), (.const (.int 2)), (.const (.int 0))]), (.tup [(.const (.int 2)), (.const (.int 0)), (.const (.int 1))]), (.tup [(.const (.int 2)), (.const (.int 1)), (.const (.int 0))])])) [
    .if_ (.e (.cmp .Eq (.lst [(.var 0), (.var 1), (.var 2)]) (.lc (.sub (.lst [(.const (.str [97, 102, 116, 101, 114])), (.const (.str [98, 101, 102, 111, 114, 101]))]) (.bcall .int [(.cmp .Lt (.var 6) (.var 7))])) [6, 7] (.t [(.n 6), (.n 7)]) (.e (.lst [(.tup [(.var 3), (.var 4)]), (.tup [(.var 4), (.var 5)]), (.tup [(.var 3), (.var 5)])])) []))) [
      .ret (.const (.bl true))] []],
  .ret (.const (.bl false))]
theorem st__law_order_can : stripSs ⟨N__law_order_can, g⟩ (defScope s__law_order_can) 400 (defBody s__law_order_can) = os__law_order_can := by rfl
def d__law_order_can : Dn := { x := "_law_order_can", st := s__law_order_can, N := N__law_order_can, ps := ["xy", "yz", "xz"], os := os__law_order_can, at_ := ("_law_order_can", none), name := "_law_order_can", qual := "_law_order_can", dfl := [], ini := false, sta := false }
abbrev s__law_part_tie : Stmt := top 27
def N__law_part_tie : List Str := ["a", "b", "late"]
theorem sc__law_part_tie : FnScope N__law_part_tie ["a", "b"] (defScope s__law_part_tie) := ⟨rfl, rfl, rfl, by decide +kernel, rfl, by decide +kernel, by decide +kernel⟩
def os__law_part_tie : List OS := [
  .if_ (.e (.bcall .all [(.lc (.cmp .In (.var 2) (.var 0)) [2] (.n 2) (.e (.var 1)) [])])) [
    .ret (.const (.str [97, 98, 111, 118, 101]))] [],
  .ret (.ifx (.e (.bcall .all [(.lc (.cmp .In (.var 2) (.var 1)) [2] (.n 2) (.e (.var 0)) [])])) (.const (.str [98, 101, 108, 111, 119])) (.const (.str [97, 112, 97, 114, 116])))]
theorem st__law_part_tie : stripSs ⟨N__law_part_tie, g⟩ (defScope s__law_part_tie) 400 (defBody s__law_part_tie) = os__law_part_tie := by rfl
def d__law_part_tie : Dn := { x := "_law_part_tie", st := s__law_part_tie, N := N__law_part_tie, ps := ["a", "b"], os := os__law_part_tie, at_ := ("_law_part_tie", none), name := "_law_part_tie", qual := "_law_part_tie", dfl := [], ini := false, sta := false }
abbrev s__law_part_can : Stmt := top 28
def N__law_part_can : List Str := ["xy", "yz", "xz", "sets_y", "x", "y", "z", "bits", "late"]
theorem sc__law_part_can : FnScope N__law_part_can ["xy", "yz", "xz"] (defScope s__law_part_can) := ⟨rfl, rfl, rfl, by decide +kernel, rfl, by decide +kernel, by decide +kernel⟩
def os__law_part_can : List OS := [
  .set 3 (.lc (.lc (.var 8) [8] (.n 8) (.e (.tup [(.const (.int 1)), (.const (.int 2)), (.const (.int 3))])) [(.e (.cmp .Eq (.bin .Mod (.bcall .int [(.bin .FloorDiv (.var 7) (.sub (.lst [(.const (.int 1)), (.const (.int 2)), (.const (.int 4))]) (.bin .Sub (.var 8) (.const (.int 1)))))]) (.const (.int 2))) (.const (.int 1))))]) [7] (.n 7) (.rng1 (.const (.int 8))) []),
  .for_ (.n 4) (.e (.var 3)) [
    .for_ (.n 5) (.e (.var 3)) [
      .for_ (.n 6) (.e (.var 3)) [
        .if_ (.and_ [(.e (.cmp .NotEq (.var 4) (.var 5))), (.e (.cmp .NotEq (.var 5) (.var 6))), (.e (.cmp .NotEq (.var 4) (.var 6))), (.e (.cmp .Eq (.lst [(.var 0), (.var 1), (.var 2)]) (.lst [(.call "_law_part_tie" [(.var 4), (.var 5)] [] [.pos 0, .pos 1] []), (.call "_law_part_tie" [(.var 5), (.var 6)] [] [.pos 0, .pos 1] []), (.call "_law_part_tie" [(.var 4), (.var 6)] [] [.pos 0, .pos 1] [])])))]) [
          .ret (.const (.bl true))] []]]],
  .ret (.const (.bl false))]
theorem st__law_part_can : stripSs ⟨N__law_part_can, g⟩ (defScope s__law_part_can) 400 (defBody s__law_part_can) = os__law_part_can := by rfl
def d__law_part_can : Dn := { x := "_law_part_can", st := s__law_part_can, N := N__law_part_can, ps := ["xy", "yz", "xz"], os := os__law_part_can, at_ := ("_law_part_can", none), name := "_law_part_can", qual := "_law_part_can", dfl := [], ini := false, sta := false }
abbrev s_law : Stmt := top 29
def N_law : List Str := ["script", "bag", "order_y", "part_y", "class_y", "found", "due", "k", "xy", "yz", "xz", "turn", "many", "made", "tie_y"]
theorem sc_law : FnScope N_law ["script"] (defScope s_law) := ⟨rfl, rfl, rfl, by decide +kernel, rfl, by decide +kernel, by decide +kernel⟩
def os_law : List OS := [
  .set 1 (.call "_law_bag" [(.var 0)] [] [.pos 0] []),
  .par3 2 3 4 (.call "Table.ordering" [] [] [] []) (.call "Table.part_ordering" [] [] [] []) (.call "Table.classes" [] [] [] []),
  .set 5 (.lc (.lst [(.mcall "kinds" (.var 13) [] [] [("Table", "Table.kinds", [.pos 0], [])]), (.mcall "ties" (.var 13) [] [] [("Table", "Table.ties", [.pos 0], [])]), (.lc (.mcall "back" (.var 13) [(.var 14)] [] [("Table", "Table.back", [.pos 0, .pos 1], [])]) [14] (.n 14) (.e (.mcall "ties" (.var 13) [] [] [("Table", "Table.ties", [.pos 0], [])])) []), (.lenm (.var 13) [("Table", "^Table.__len__")])]) [13] (.n 13) (.e (.tup [(.var 2), (.var 3), (.var 4)])) []),
  .set 6 (.lst [(.lst [(.lst [(.const (.str [116, 104, 105, 110, 103]))]), (.lst [(.const (.str [97, 102, 116, 101, 114])), (.const (.str [98, 101, 102, 111, 114, 101]))]), (.lst [(.const (.str [98, 101, 102, 111, 114, 101])), (.const (.str [97, 102, 116, 101, 114]))]), (.const (.int 1))]), (.lst [(.lst [(.const (.str [116, 104, 105, 110, 103]))]), (.lst [(.const (.str [97, 98, 111, 118, 101])), (.const (.str [97, 112, 97, 114, 116])), (.const (.str [98, 101, 108, 111, 119]))]), (.lst [(.const (.str [98, 101, 108, 111, 119])), (.const (.str [97, 112, 97, 114, 116])), (.const (.str [97, 98, 111, 118, 101]))]), (.const (.int 2))])]),
  .if_ (.not_ (.e (.call "_law_same" [(.var 5), (.bin .Add (.var 6) (.lst [(.lst [(.lst [(.const (.str [116, 104, 105, 110, 103]))]), (.lst [(.const (.str [108, 105, 107, 101])), (.const (.str [117, 110, 108, 105, 107, 101]))]), (.lst [(.const (.str [108, 105, 107, 101])), (.const (.str [117, 110, 108, 105, 107, 101]))]), (.const (.int 1))])]))] [] [.pos 0, .pos 1] []))) [
    .ret (.const (.bl false))] [],
  .set 7 (.const (.str [116, 104, 105, 110, 103])),
  .for_ (.n 8) (.e (.call "_law_mixed" [(.var 1), (.mcall "ties" (.var 2) [] [] [("Table", "Table.ties", [.pos 0], [])])] [] [.pos 0, .pos 1] [])) [
    .for_ (.n 9) (.e (.mcall "ties" (.var 2) [] [] [("Table", "Table.ties", [.pos 0], [])])) [
      .for_ (.n 10) (.e (.mcall "ties" (.var 2) [] [] [("Table", "Table.ties", [.pos 0], [])])) [
        .if_ (.not_ (.e (.call "_law_same" [(.mcall "is_barred" (.var 2) [(.tup [(.var 7), (.var 8), (.var 7), (.var 9), (.var 7), (.var 10)])] [] [("Table", "Table.is_barred", [.pos 0, .pos 1], [])]), (.not_ (.call "_law_order_can" [(.var 8), (.var 9), (.var 10)] [] [.pos 0, .pos 1, .pos 2] []))] [] [.pos 0, .pos 1] []))) [
          .ret (.const (.bl false))] []]]],
  .for_ (.n 11) (.rng1 (.const (.int 6))) [
    .par3 8 9 10 (.call "_law_any" [(.var 1), (.mcall "ties" (.var 3) [] [] [("Table", "Table.ties", [.pos 0], [])])] [] [.pos 0, .pos 1] []) (.call "_law_any" [(.var 1), (.mcall "ties" (.var 3) [] [] [("Table", "Table.ties", [.pos 0], [])])] [] [.pos 0, .pos 1] []) (.call "_law_any" [(.var 1), (.mcall "ties" (.var 3) [] [] [("Table", "Table.ties", [.pos 0], [])])] [] [.pos 0, .pos 1] []),
    .if_ (.not_ (.e (.call "_law_same" [(.mcall "is_barred" (.var 3) [(.tup [(.var 7), (.var 8), (.var 7), (.var 9), (.var 7), (.var 10)])] [] [("Table", "Table.is_barred", [.pos 0, .pos 1], [])]), (.not_ (.call "_law_part_can" [(.var 8), (.var 9), (.var 10)] [] [.pos 0, .pos 1, .pos 2] []))] [] [.pos 0, .pos 1] []))) [
      .ret (.const (.bl false))] [],
    .par3 8 9 10 (.call "_law_any" [(.var 1), (.mcall "ties" (.var 4) [] [] [("Table", "Table.ties", [.pos 0], [])])] [] [.pos 0, .pos 1] []) (.call "_law_any" [(.var 1), (.mcall "ties" (.var 4) [] [] [("Table", "Table.ties", [.pos 0], [])])] [] [.pos 0, .pos 1] []) (.call "_law_any" [(.var 1), (.mcall "ties" (.var 4) [] [] [("Table", "Table.ties", [.pos 0], [])])] [] [.pos 0, .pos 1] []),
    .set 12 (.meth .count (.lst [(.var 8), (.var 9), (.var 10)]) [(.const (.str [108, 105, 107, 101]))]),
    .if_ (.not_ (.e (.call "_law_same" [(.mcall "is_barred" (.var 4) [(.tup [(.var 7), (.var 8), (.var 7), (.var 9), (.var 7), (.var 10)])] [] [("Table", "Table.is_barred", [.pos 0, .pos 1], [])]), (.cmp .Eq (.var 12) (.const (.int 2)))] [] [.pos 0, .pos 1] []))) [
      .ret (.const (.bl false))] []],
  .ret (.const (.bl true))]
theorem st_law : stripSs ⟨N_law, g⟩ (defScope s_law) 400 (defBody s_law) = os_law := by rfl
def d_law : Dn := { x := "law", st := s_law, N := N_law, ps := ["script"], os := os_law, at_ := ("law", none), name := "law", qual := "law", dfl := [], ini := false, sta := false }
def ds : List Dn := [d_is_name, d_is_list, d_checked_kinds, d_checked_backs, d_turnings, d_sides, d_is_bar, d_Table_init, d_Table_is_mine, d_Table_kinds, d_Table_ties, d_Table_back, d_Table_bars, d_Table_plain, d_Table_is_barred, d_Table_bars_it, d_Table_pairs, d_Table_ordering, d_Table_part_ordering, d_Table_classes, d_Table___add__, d_Table___contains__, d_Table___eq__, d_Table___bool__, d_Table___len__, d_Table___repr__, d__law_bag, d__law_pull, d__law_any, d__law_mixed, d__law_same, d__law_order_can, d__law_part_tie, d__law_part_can]
def tbA : Tb := [("^Table.__len__", 1, aliB "Table.__len__", false)]
def tb : Tb := (ds.map fun d => (d.x, d.N.length, d.os, d.ini)) ++ tbA
def hd (f : Str) : Option (List D → T (D × Bool)) := if f = "_law_pull" then some pullD else none
def fn : List He5.DefA := (d_law :: ds).map Dn.dd
def fgl : List Str := ["is_name", "is_list", "checked_kinds", "checked_backs", "turnings", "sides", "is_bar", "_law_bag", "_law_pull", "_law_any", "_law_mixed", "_law_same", "_law_order_can", "_law_part_tie", "_law_part_can", "law", "Table"]
def fa : List He.Fa := fgl.map He.Fa.glo ++ (frees.map He.Fa.free ++ ([.int "MOST_LETTERS" 16] ++ [.cls "Table", .noat "Table" "own_kinds", .noat "Table" "own_backs", .noat "Table" "own_bars", .noat "Table" "own_turned", .meth "Table" "is_mine", .meth "Table" "kinds", .meth "Table" "ties", .meth "Table" "back", .meth "Table" "bars", .meth "Table" "plain", .meth "Table" "is_barred", .meth "Table" "bars_it", .meth "Table" "pairs", .meth "Table" "__add__", .meth "Table" "__contains__", .meth "Table" "__eq__", .meth "Table" "__bool__", .meth "Table" "__len__", .meth "Table" "__repr__", .mkr "Table"]))
def fx : List Fx := [.rd "Table", .cat "Table" "MOST_KINDS" 2, .cat "Table" "MOST_TIES" 4, .sta "Table" "ordering", .sta "Table" "part_ordering", .sta "Table" "classes"]
theorem ds_sc : ∀ d ∈ ds, FnScope d.N d.ps (defScope d.st) := fun d h => by
  simp only [ds, List.mem_cons, List.not_mem_nil, or_false] at h
  rcases h with rfl | rfl | rfl | rfl | rfl | rfl | rfl | rfl | rfl | rfl | rfl | rfl | rfl | rfl | rfl | rfl | rfl | rfl | rfl | rfl | rfl | rfl | rfl | rfl | rfl | rfl | rfl | rfl | rfl | rfl | rfl | rfl | rfl | rfl
  · exact sc_is_name
  · exact sc_is_list
  · exact sc_checked_kinds
  · exact sc_checked_backs
  · exact sc_turnings
  · exact sc_sides
  · exact sc_is_bar
  · exact sc_Table_init
  · exact sc_Table_is_mine
  · exact sc_Table_kinds
  · exact sc_Table_ties
  · exact sc_Table_back
  · exact sc_Table_bars
  · exact sc_Table_plain
  · exact sc_Table_is_barred
  · exact sc_Table_bars_it
  · exact sc_Table_pairs
  · exact sc_Table_ordering
  · exact sc_Table_part_ordering
  · exact sc_Table_classes
  · exact sc_Table___add__
  · exact sc_Table___contains__
  · exact sc_Table___eq__
  · exact sc_Table___bool__
  · exact sc_Table___len__
  · exact sc_Table___repr__
  · exact sc__law_bag
  · exact sc__law_pull
  · exact sc__law_any
  · exact sc__law_mixed
  · exact sc__law_same
  · exact sc__law_order_can
  · exact sc__law_part_tie
  · exact sc__law_part_can
theorem ds_st : ∀ d ∈ ds, stripSs ⟨d.N, g⟩ (defScope d.st) 400 (defBody d.st) = d.os := fun d h => by
  simp only [ds, List.mem_cons, List.not_mem_nil, or_false] at h
  rcases h with rfl | rfl | rfl | rfl | rfl | rfl | rfl | rfl | rfl | rfl | rfl | rfl | rfl | rfl | rfl | rfl | rfl | rfl | rfl | rfl | rfl | rfl | rfl | rfl | rfl | rfl | rfl | rfl | rfl | rfl | rfl | rfl | rfl | rfl
  · exact st_is_name
  · exact st_is_list
  · exact st_checked_kinds
  · exact st_checked_backs
  · exact st_turnings
  · exact st_sides
  · exact st_is_bar
  · exact st_Table_init
  · exact st_Table_is_mine
  · exact st_Table_kinds
  · exact st_Table_ties
  · exact st_Table_back
  · exact st_Table_bars
  · exact st_Table_plain
  · exact st_Table_is_barred
  · exact st_Table_bars_it
  · exact st_Table_pairs
  · exact st_Table_ordering
  · exact st_Table_part_ordering
  · exact st_Table_classes
  · exact st_Table___add__
  · exact st_Table___contains__
  · exact st_Table___eq__
  · exact st_Table___bool__
  · exact st_Table___len__
  · exact st_Table___repr__
  · exact st__law_bag
  · exact st__law_pull
  · exact st__law_any
  · exact st__law_mixed
  · exact st__law_same
  · exact st__law_order_can
  · exact st__law_part_tie
  · exact st__law_part_can
theorem ds_tb : ∀ d ∈ ds, tb.lookup d.x = some (d.N.length, d.os, d.ini) := fun d h => by
  simp only [ds, List.mem_cons, List.not_mem_nil, or_false] at h
  rcases h with rfl | rfl | rfl | rfl | rfl | rfl | rfl | rfl | rfl | rfl | rfl | rfl | rfl | rfl | rfl | rfl | rfl | rfl | rfl | rfl | rfl | rfl | rfl | rfl | rfl | rfl | rfl | rfl | rfl | rfl | rfl | rfl | rfl | rfl
  · rfl
  · rfl
  · rfl
  · rfl
  · rfl
  · rfl
  · rfl
  · rfl
  · rfl
  · rfl
  · rfl
  · rfl
  · rfl
  · rfl
  · rfl
  · rfl
  · rfl
  · rfl
  · rfl
  · rfl
  · rfl
  · rfl
  · rfl
  · rfl
  · rfl
  · rfl
  · rfl
  · rfl
  · rfl
  · rfl
  · rfl
  · rfl
  · rfl
  · rfl
theorem ds_hw : ∀ d ∈ ds, d.ini = true → 0 ∉ wrSs d.os ∧ d.ps ≠ [] := fun d h => by
  simp only [ds, List.mem_cons, List.not_mem_nil, or_false] at h
  rcases h with rfl | rfl | rfl | rfl | rfl | rfl | rfl | rfl | rfl | rfl | rfl | rfl | rfl | rfl | rfl | rfl | rfl | rfl | rfl | rfl | rfl | rfl | rfl | rfl | rfl | rfl | rfl | rfl | rfl | rfl | rfl | rfl | rfl | rfl
  · exact fun z => by cases z
  · exact fun z => by cases z
  · exact fun z => by cases z
  · exact fun z => by cases z
  · exact fun z => by cases z
  · exact fun z => by cases z
  · exact fun z => by cases z
  · exact fun _ => ⟨by decide, by decide⟩
  · exact fun z => by cases z
  · exact fun z => by cases z
  · exact fun z => by cases z
  · exact fun z => by cases z
  · exact fun z => by cases z
  · exact fun z => by cases z
  · exact fun z => by cases z
  · exact fun z => by cases z
  · exact fun z => by cases z
  · exact fun z => by cases z
  · exact fun z => by cases z
  · exact fun z => by cases z
  · exact fun z => by cases z
  · exact fun z => by cases z
  · exact fun z => by cases z
  · exact fun z => by cases z
  · exact fun z => by cases z
  · exact fun z => by cases z
  · exact fun z => by cases z
  · exact fun z => by cases z
  · exact fun z => by cases z
  · exact fun z => by cases z
  · exact fun z => by cases z
  · exact fun z => by cases z
  · exact fun z => by cases z
  · exact fun z => by cases z
theorem ds_fn : ∀ q ∈ fns, FnRow ds q := fun q h => by
  simp only [fns, List.mem_cons, List.not_mem_nil, or_false] at h
  rcases h with rfl | rfl | rfl | rfl | rfl | rfl | rfl | rfl | rfl | rfl | rfl | rfl | rfl | rfl | rfl | rfl
  · exact ⟨d_Table_init, by simp [ds], rfl, rfl, .inr ⟨rfl, rfl, rfl, rfl, (by exact fun _ _ _ _ _ _ _ us ws its l1 l2 l3 => match us, ws, its, l1, l2, l3 with | [_, _, _, _], [], [_], _, _, _ => ⟨_, rfl, rfl⟩)⟩⟩
  · exact ⟨d__law_any, by simp [ds], rfl, rfl, .inl ⟨rfl, rfl, rfl, rfl, (by exact fun _ _ _ _ _ _ _ us ws its l1 l2 l3 => match us, ws, its, l1, l2, l3 with | [_, _], [], [], _, _, _ => rfl)⟩⟩
  · exact ⟨d__law_bag, by simp [ds], rfl, rfl, .inl ⟨rfl, rfl, rfl, rfl, (by exact fun _ _ _ _ _ _ _ us ws its l1 l2 l3 => match us, ws, its, l1, l2, l3 with | [_], [], [], _, _, _ => rfl)⟩⟩
  · exact ⟨d__law_mixed, by simp [ds], rfl, rfl, .inl ⟨rfl, rfl, rfl, rfl, (by exact fun _ _ _ _ _ _ _ us ws its l1 l2 l3 => match us, ws, its, l1, l2, l3 with | [_, _], [], [], _, _, _ => rfl)⟩⟩
  · exact ⟨d__law_order_can, by simp [ds], rfl, rfl, .inl ⟨rfl, rfl, rfl, rfl, (by exact fun _ _ _ _ _ _ _ us ws its l1 l2 l3 => match us, ws, its, l1, l2, l3 with | [_, _, _], [], [], _, _, _ => rfl)⟩⟩
  · exact ⟨d__law_part_can, by simp [ds], rfl, rfl, .inl ⟨rfl, rfl, rfl, rfl, (by exact fun _ _ _ _ _ _ _ us ws its l1 l2 l3 => match us, ws, its, l1, l2, l3 with | [_, _, _], [], [], _, _, _ => rfl)⟩⟩
  · exact ⟨d__law_part_tie, by simp [ds], rfl, rfl, .inl ⟨rfl, rfl, rfl, rfl, (by exact fun _ _ _ _ _ _ _ us ws its l1 l2 l3 => match us, ws, its, l1, l2, l3 with | [_, _], [], [], _, _, _ => rfl)⟩⟩
  · exact ⟨d__law_pull, by simp [ds], rfl, rfl, .inl ⟨rfl, rfl, rfl, rfl, (by exact fun _ _ _ _ _ _ _ us ws its l1 l2 l3 => match us, ws, its, l1, l2, l3 with | [_, _], [], [], _, _, _ => rfl)⟩⟩
  · exact ⟨d__law_same, by simp [ds], rfl, rfl, .inl ⟨rfl, rfl, rfl, rfl, (by exact fun _ _ _ _ _ _ _ us ws its l1 l2 l3 => match us, ws, its, l1, l2, l3 with | [_, _], [], [], _, _, _ => rfl)⟩⟩
  · exact ⟨d_checked_backs, by simp [ds], rfl, rfl, .inl ⟨rfl, rfl, rfl, rfl, (by exact fun _ _ _ _ _ _ _ us ws its l1 l2 l3 => match us, ws, its, l1, l2, l3 with | [_], [], [], _, _, _ => rfl)⟩⟩
  · exact ⟨d_checked_kinds, by simp [ds], rfl, rfl, .inl ⟨rfl, rfl, rfl, rfl, (by exact fun _ _ _ _ _ _ _ us ws its l1 l2 l3 => match us, ws, its, l1, l2, l3 with | [_], [], [], _, _, _ => rfl)⟩⟩
  · exact ⟨d_is_bar, by simp [ds], rfl, rfl, .inl ⟨rfl, rfl, rfl, rfl, (by exact fun _ _ _ _ _ _ _ us ws its l1 l2 l3 => match us, ws, its, l1, l2, l3 with | [_, _, _], [], [], _, _, _ => rfl)⟩⟩
  · exact ⟨d_is_list, by simp [ds], rfl, rfl, .inl ⟨rfl, rfl, rfl, rfl, (by exact fun _ _ _ _ _ _ _ us ws its l1 l2 l3 => match us, ws, its, l1, l2, l3 with | [_], [], [], _, _, _ => rfl)⟩⟩
  · exact ⟨d_is_name, by simp [ds], rfl, rfl, .inl ⟨rfl, rfl, rfl, rfl, (by exact fun _ _ _ _ _ _ _ us ws its l1 l2 l3 => match us, ws, its, l1, l2, l3 with | [_], [], [], _, _, _ => rfl)⟩⟩
  · exact ⟨d_sides, by simp [ds], rfl, rfl, .inl ⟨rfl, rfl, rfl, rfl, (by exact fun _ _ _ _ _ _ _ us ws its l1 l2 l3 => match us, ws, its, l1, l2, l3 with | [_], [], [], _, _, _ => rfl)⟩⟩
  · exact ⟨d_turnings, by simp [ds], rfl, rfl, .inl ⟨rfl, rfl, rfl, rfl, (by exact fun _ _ _ _ _ _ _ us ws its l1 l2 l3 => match us, ws, its, l1, l2, l3 with | [_, _], [], [], _, _, _ => rfl)⟩⟩
theorem ds_mt : ∀ q ∈ mths, ∀ r ∈ q.2, MthRow ds q.1.1 q.1.2.1 q.1.2.2 r := fun q h r hr => by
  simp only [mths, List.mem_cons, List.not_mem_nil, or_false] at h
  rcases h with rfl | rfl | rfl | rfl | rfl | rfl | rfl
  · simp only [List.mem_cons, List.not_mem_nil, or_false] at hr
    rcases hr with rfl
    · exact ⟨d_Table_back, by simp [ds], rfl, rfl, rfl, rfl, rfl, rfl, (by exact fun _ _ _ _ _ _ _ us ws its l1 l2 l3 => match us, ws, its, l1, l2, l3 with | [_, _], [], [], _, _, _ => rfl)⟩
  · simp only [List.mem_cons, List.not_mem_nil, or_false] at hr
    rcases hr with rfl
    · exact ⟨d_Table_bars_it, by simp [ds], rfl, rfl, rfl, rfl, rfl, rfl, (by exact fun _ _ _ _ _ _ _ us ws its l1 l2 l3 => match us, ws, its, l1, l2, l3 with | [_, _], [], [], _, _, _ => rfl)⟩
  · simp only [List.mem_cons, List.not_mem_nil, or_false] at hr
    rcases hr with rfl
    · exact ⟨d_Table_is_barred, by simp [ds], rfl, rfl, rfl, rfl, rfl, rfl, (by exact fun _ _ _ _ _ _ _ us ws its l1 l2 l3 => match us, ws, its, l1, l2, l3 with | [_, _], [], [], _, _, _ => rfl)⟩
  · simp only [List.mem_cons, List.not_mem_nil, or_false] at hr
    rcases hr with rfl
    · exact ⟨d_Table_is_mine, by simp [ds], rfl, rfl, rfl, rfl, rfl, rfl, (by exact fun _ _ _ _ _ _ _ us ws its l1 l2 l3 => match us, ws, its, l1, l2, l3 with | [_, _], [], [], _, _, _ => rfl)⟩
  · simp only [List.mem_cons, List.not_mem_nil, or_false] at hr
    rcases hr with rfl
    · exact ⟨d_Table_kinds, by simp [ds], rfl, rfl, rfl, rfl, rfl, rfl, (by exact fun _ _ _ _ _ _ _ us ws its l1 l2 l3 => match us, ws, its, l1, l2, l3 with | [_], [], [], _, _, _ => rfl)⟩
  · simp only [List.mem_cons, List.not_mem_nil, or_false] at hr
    rcases hr with rfl
    · exact ⟨d_Table_pairs, by simp [ds], rfl, rfl, rfl, rfl, rfl, rfl, (by exact fun _ _ _ _ _ _ _ us ws its l1 l2 l3 => match us, ws, its, l1, l2, l3 with | [_], [], [], _, _, _ => rfl)⟩
  · simp only [List.mem_cons, List.not_mem_nil, or_false] at hr
    rcases hr with rfl
    · exact ⟨d_Table_ties, by simp [ds], rfl, rfl, rfl, rfl, rfl, rfl, (by exact fun _ _ _ _ _ _ _ us ws its l1 l2 l3 => match us, ws, its, l1, l2, l3 with | [_], [], [], _, _, _ => rfl)⟩
theorem ds_ln : ∀ q ∈ lens, LenRow ds tb hd q := fun q h => by
  simp only [lens, List.mem_cons, List.not_mem_nil, or_false] at h
  rcases h with rfl
  · exact ⟨d_Table___len__, by simp [ds], rfl, rfl, rfl, rfl, (by exact fun _ _ _ _ _ _ _ us ws its l1 l2 l3 => match us, ws, its, l1, l2, l3 with | [_], [], [], _, _, _ => rfl), rfl, rfl⟩
theorem ds_ss : ∀ q ∈ sts, StaRow ds q := fun q h => by
  simp only [sts, List.mem_cons, List.not_mem_nil, or_false] at h
  rcases h with rfl | rfl | rfl
  · exact ⟨d_Table_ordering, by simp [ds], rfl, rfl, rfl, rfl, rfl, (by exact fun _ _ _ _ _ _ _ us ws its l1 l2 l3 => match us, ws, its, l1, l2, l3 with | [], [], [], _, _, _ => rfl)⟩
  · exact ⟨d_Table_part_ordering, by simp [ds], rfl, rfl, rfl, rfl, rfl, (by exact fun _ _ _ _ _ _ _ us ws its l1 l2 l3 => match us, ws, its, l1, l2, l3 with | [], [], [], _, _, _ => rfl)⟩
  · exact ⟨d_Table_classes, by simp [ds], rfl, rfl, rfl, rfl, rfl, (by exact fun _ _ _ _ _ _ _ us ws its l1 l2 l3 => match us, ws, its, l1, l2, l3 with | [], [], [], _, _, _ => rfl)⟩
theorem ds_hd {P : Program} {w : World} {K : PySem.W.Frag} {mg : Str → Option Value} {base : Heap} : ∀ d ∈ ds, ∀ h, hd d.x = some h → d.ini = false ∧ ∀ (k : Nat) (C : Calls) (fd : FuncData), Mo P w K mg base g C k → d.FunIs K (d.ad K) fd → FnOk P w K mg base (L2.CX P w) (k + 1) (d.ad K) fd d.ps (spD K d.ps.length h) := fun d h => by
  simp only [ds, List.mem_cons, List.not_mem_nil, or_false] at h
  rcases h with rfl | rfl | rfl | rfl | rfl | rfl | rfl | rfl | rfl | rfl | rfl | rfl | rfl | rfl | rfl | rfl | rfl | rfl | rfl | rfl | rfl | rfl | rfl | rfl | rfl | rfl | rfl | rfl | rfl | rfl | rfl | rfl | rfl | rfl
  · exact fun r e => by
      rw [show hd d_is_name.x = none from rfl] at e
      cases e
  · exact fun r e => by
      rw [show hd d_is_list.x = none from rfl] at e
      cases e
  · exact fun r e => by
      rw [show hd d_checked_kinds.x = none from rfl] at e
      cases e
  · exact fun r e => by
      rw [show hd d_checked_backs.x = none from rfl] at e
      cases e
  · exact fun r e => by
      rw [show hd d_turnings.x = none from rfl] at e
      cases e
  · exact fun r e => by
      rw [show hd d_sides.x = none from rfl] at e
      cases e
  · exact fun r e => by
      rw [show hd d_is_bar.x = none from rfl] at e
      cases e
  · exact fun r e => by
      rw [show hd d_Table_init.x = none from rfl] at e
      cases e
  · exact fun r e => by
      rw [show hd d_Table_is_mine.x = none from rfl] at e
      cases e
  · exact fun r e => by
      rw [show hd d_Table_kinds.x = none from rfl] at e
      cases e
  · exact fun r e => by
      rw [show hd d_Table_ties.x = none from rfl] at e
      cases e
  · exact fun r e => by
      rw [show hd d_Table_back.x = none from rfl] at e
      cases e
  · exact fun r e => by
      rw [show hd d_Table_bars.x = none from rfl] at e
      cases e
  · exact fun r e => by
      rw [show hd d_Table_plain.x = none from rfl] at e
      cases e
  · exact fun r e => by
      rw [show hd d_Table_is_barred.x = none from rfl] at e
      cases e
  · exact fun r e => by
      rw [show hd d_Table_bars_it.x = none from rfl] at e
      cases e
  · exact fun r e => by
      rw [show hd d_Table_pairs.x = none from rfl] at e
      cases e
  · exact fun r e => by
      rw [show hd d_Table_ordering.x = none from rfl] at e
      cases e
  · exact fun r e => by
      rw [show hd d_Table_part_ordering.x = none from rfl] at e
      cases e
  · exact fun r e => by
      rw [show hd d_Table_classes.x = none from rfl] at e
      cases e
  · exact fun r e => by
      rw [show hd d_Table___add__.x = none from rfl] at e
      cases e
  · exact fun r e => by
      rw [show hd d_Table___contains__.x = none from rfl] at e
      cases e
  · exact fun r e => by
      rw [show hd d_Table___eq__.x = none from rfl] at e
      cases e
  · exact fun r e => by
      rw [show hd d_Table___bool__.x = none from rfl] at e
      cases e
  · exact fun r e => by
      rw [show hd d_Table___len__.x = none from rfl] at e
      cases e
  · exact fun r e => by
      rw [show hd d_Table___repr__.x = none from rfl] at e
      cases e
  · exact fun r e => by
      rw [show hd d__law_bag.x = none from rfl] at e
      cases e
  · exact fun r e => ⟨rfl, fun k C fd M F => by
      cases e
      exact fn_pull M d__law_pull F sc__law_pull 400 st__law_pull rfl (by decide) (by decide) (pull_ok C)⟩
  · exact fun r e => by
      rw [show hd d__law_any.x = none from rfl] at e
      cases e
  · exact fun r e => by
      rw [show hd d__law_mixed.x = none from rfl] at e
      cases e
  · exact fun r e => by
      rw [show hd d__law_same.x = none from rfl] at e
      cases e
  · exact fun r e => by
      rw [show hd d__law_order_can.x = none from rfl] at e
      cases e
  · exact fun r e => by
      rw [show hd d__law_part_tie.x = none from rfl] at e
      cases e
  · exact fun r e => by
      rw [show hd d__law_part_can.x = none from rfl] at e
      cases e
section
variable {P : Program} {w : World} {K : PySem.W.Frag} {mg : Str → Option Value} {base h : Heap}
theorem in_fa0 {f : He.Fa} (h : f ∈ fgl.map He.Fa.glo) : f ∈ fa := List.mem_append_left _ h
theorem in_fa1 {f : He.Fa} (h : f ∈ frees.map He.Fa.free) : f ∈ fa := List.mem_append_right _ (List.mem_append_left _ h)
theorem glb_ok (X : K.In h) (G : h.Ns mainGlobals mg) (c : SaysM fa fx fn K) : ∀ x d, glb.lookup x = some d → ∃ u v, mg x = some u ∧ RelV v u ∧ ∀ bg S H, Rep K bg S H d v := fun x d e => by
  have m := lk_mem e
  simp only [glb, List.mem_cons, List.not_mem_nil, or_false, Prod.mk.injEq] at m
  rcases m with ⟨rfl, rfl⟩
  · obtain ⟨t, e⟩ := He.int_ok X G (says_mem (f := .int "MOST_LETTERS" 16) c (by simp [fa]))
    exact ⟨_, .int _, e, ⟨t, rfl⟩, fun _ _ _ => rfl⟩
theorem glo1 (X : K.In h) (G : h.Ns mainGlobals mg) (c : SaysM fa fx fn K) {x : Str} (hx : x ∈ fgl) : mg x = some (.ref (He.ga K x)) := He.glo_ok X G (says_mem c (in_fa0 (List.mem_map.mpr ⟨x, hx, rfl⟩)))
theorem fld_ok (c : SaysM fa fx fn K) : ∀ f cs, flds.lookup f = some cs → ∀ x, cs.contains x = true → Cls K (He.ga K x) ∧ NoAttr K (He.ga K x) f := fun f cs e x hc => by
  have m := lk_mem e
  simp only [flds, List.mem_cons, List.not_mem_nil, or_false, Prod.mk.injEq] at m
  rcases m with ⟨rfl, rfl⟩ | ⟨rfl, rfl⟩ | ⟨rfl, rfl⟩ | ⟨rfl, rfl⟩
  · simp only [List.contains_cons, List.contains_nil, Bool.or_false, Bool.or_eq_true, beq_iff_eq] at hc
    rcases hc with rfl
    · exact ⟨He.cls_ok (says_mem c (by simp [fa])), He.noat_ok (says_mem c (by simp [fa]))⟩
  · simp only [List.contains_cons, List.contains_nil, Bool.or_false, Bool.or_eq_true, beq_iff_eq] at hc
    rcases hc with rfl
    · exact ⟨He.cls_ok (says_mem c (by simp [fa])), He.noat_ok (says_mem c (by simp [fa]))⟩
  · simp only [List.contains_cons, List.contains_nil, Bool.or_false, Bool.or_eq_true, beq_iff_eq] at hc
    rcases hc with rfl
    · exact ⟨He.cls_ok (says_mem c (by simp [fa])), He.noat_ok (says_mem c (by simp [fa]))⟩
  · simp only [List.contains_cons, List.contains_nil, Bool.or_false, Bool.or_eq_true, beq_iff_eq] at hc
    rcases hc with rfl
    · exact ⟨He.cls_ok (says_mem c (by simp [fa])), He.noat_ok (says_mem c (by simp [fa]))⟩
theorem cats_ok (X : K.In h) (G : h.Ns mainGlobals mg) (c : SaysM fa fx fn K) : ∀ x f d, cats.lookup (x, f) = some d → ∃ a v u mc, mg x = some (.ref a) ∧ ClX.CRead K a mc ∧ ClX.CVal K a mc f v u ∧ ∀ bg S H, Rep K bg S H d v := fun x f d e => by
  have m := lk_mem e
  simp only [cats, List.mem_cons, List.not_mem_nil, or_false, Prod.mk.injEq] at m
  rcases m with ⟨⟨rfl, rfl⟩, rfl⟩ | ⟨⟨rfl, rfl⟩, rfl⟩
  · obtain ⟨u, hu⟩ := cat_ok (says_fx (f := .cat "Table" "MOST_KINDS" 2) c (by simp [fx]))
    exact ⟨_, _, u, _, glo1 X G c (by simp [fgl]), rd_ok (says_fx c (by simp [fx])), hu, fun _ _ _ => rfl⟩
  · obtain ⟨u, hu⟩ := cat_ok (says_fx (f := .cat "Table" "MOST_TIES" 4) c (by simp [fx]))
    exact ⟨_, _, u, _, glo1 X G c (by simp [fgl]), rd_ok (says_fx c (by simp [fx])), hu, fun _ _ _ => rfl⟩
theorem mg_ok (X : K.In h) (G : h.Ns mainGlobals mg) (c : SaysM fa fx fn K) : ∀ d ∈ ds, d.sta = false → ∀ x, d.at_ = (x, none) → mg x = some (.ref (He.ga K x)) := fun d h => by
  simp only [ds, List.mem_cons, List.not_mem_nil, or_false] at h
  rcases h with rfl | rfl | rfl | rfl | rfl | rfl | rfl | rfl | rfl | rfl | rfl | rfl | rfl | rfl | rfl | rfl | rfl | rfl | rfl | rfl | rfl | rfl | rfl | rfl | rfl | rfl | rfl | rfl | rfl | rfl | rfl | rfl | rfl | rfl
  · exact fun _ x e => by
      cases e
      exact glo1 X G c (by simp [fgl])
  · exact fun _ x e => by
      cases e
      exact glo1 X G c (by simp [fgl])
  · exact fun _ x e => by
      cases e
      exact glo1 X G c (by simp [fgl])
  · exact fun _ x e => by
      cases e
      exact glo1 X G c (by simp [fgl])
  · exact fun _ x e => by
      cases e
      exact glo1 X G c (by simp [fgl])
  · exact fun _ x e => by
      cases e
      exact glo1 X G c (by simp [fgl])
  · exact fun _ x e => by
      cases e
      exact glo1 X G c (by simp [fgl])
  · exact fun _ x e => by cases e
  · exact fun _ x e => by cases e
  · exact fun _ x e => by cases e
  · exact fun _ x e => by cases e
  · exact fun _ x e => by cases e
  · exact fun _ x e => by cases e
  · exact fun _ x e => by cases e
  · exact fun _ x e => by cases e
  · exact fun _ x e => by cases e
  · exact fun _ x e => by cases e
  · exact fun _ x e => by cases e
  · exact fun _ x e => by cases e
  · exact fun _ x e => by cases e
  · exact fun _ x e => by cases e
  · exact fun _ x e => by cases e
  · exact fun _ x e => by cases e
  · exact fun _ x e => by cases e
  · exact fun _ x e => by cases e
  · exact fun _ x e => by cases e
  · exact fun _ x e => by
      cases e
      exact glo1 X G c (by simp [fgl])
  · exact fun _ x e => by
      cases e
      exact glo1 X G c (by simp [fgl])
  · exact fun _ x e => by
      cases e
      exact glo1 X G c (by simp [fgl])
  · exact fun _ x e => by
      cases e
      exact glo1 X G c (by simp [fgl])
  · exact fun _ x e => by
      cases e
      exact glo1 X G c (by simp [fgl])
  · exact fun _ x e => by
      cases e
      exact glo1 X G c (by simp [fgl])
  · exact fun _ x e => by
      cases e
      exact glo1 X G c (by simp [fgl])
  · exact fun _ x e => by
      cases e
      exact glo1 X G c (by simp [fgl])
theorem mi_ok (X : K.In h) (G : h.Ns mainGlobals mg) (c : SaysM fa fx fn K) : ∀ d ∈ ds, d.ini = true → ∀ x, d.at_ = (x, some ("__init__" : Str)) → mg x = some (.ref (He.ga K x)) ∧ Mk K (He.ga K x) (He.ma K (He.ga K x) "__init__") := fun d h => by
  simp only [ds, List.mem_cons, List.not_mem_nil, or_false] at h
  rcases h with rfl | rfl | rfl | rfl | rfl | rfl | rfl | rfl | rfl | rfl | rfl | rfl | rfl | rfl | rfl | rfl | rfl | rfl | rfl | rfl | rfl | rfl | rfl | rfl | rfl | rfl | rfl | rfl | rfl | rfl | rfl | rfl | rfl | rfl
  · exact fun z => by cases z
  · exact fun z => by cases z
  · exact fun z => by cases z
  · exact fun z => by cases z
  · exact fun z => by cases z
  · exact fun z => by cases z
  · exact fun z => by cases z
  · exact fun _ x e => by
      cases e
      exact ⟨glo1 X G c (by simp [fgl]), He.mkr_ok (says_mem c (by simp [fa]))⟩
  · exact fun z => by cases z
  · exact fun z => by cases z
  · exact fun z => by cases z
  · exact fun z => by cases z
  · exact fun z => by cases z
  · exact fun z => by cases z
  · exact fun z => by cases z
  · exact fun z => by cases z
  · exact fun z => by cases z
  · exact fun z => by cases z
  · exact fun z => by cases z
  · exact fun z => by cases z
  · exact fun z => by cases z
  · exact fun z => by cases z
  · exact fun z => by cases z
  · exact fun z => by cases z
  · exact fun z => by cases z
  · exact fun z => by cases z
  · exact fun z => by cases z
  · exact fun z => by cases z
  · exact fun z => by cases z
  · exact fun z => by cases z
  · exact fun z => by cases z
  · exact fun z => by cases z
  · exact fun z => by cases z
  · exact fun z => by cases z
theorem mm_ok (c : SaysM fa fx fn K) : ∀ d ∈ ds, d.sta = false → d.ini = false → ∀ x m, d.at_ = (x, some m) → Cls K (He.ga K x) ∧ Meth K (He.ga K x) m (He.ma K (He.ga K x) m) := fun d h => by
  simp only [ds, List.mem_cons, List.not_mem_nil, or_false] at h
  rcases h with rfl | rfl | rfl | rfl | rfl | rfl | rfl | rfl | rfl | rfl | rfl | rfl | rfl | rfl | rfl | rfl | rfl | rfl | rfl | rfl | rfl | rfl | rfl | rfl | rfl | rfl | rfl | rfl | rfl | rfl | rfl | rfl | rfl | rfl
  · exact fun _ _ x m e => by cases e
  · exact fun _ _ x m e => by cases e
  · exact fun _ _ x m e => by cases e
  · exact fun _ _ x m e => by cases e
  · exact fun _ _ x m e => by cases e
  · exact fun _ _ x m e => by cases e
  · exact fun _ _ x m e => by cases e
  · exact fun _ z => by cases z
  · exact fun _ _ x m e => by
      cases e
      exact ⟨He.cls_ok (says_mem c (by simp [fa])), He.meth_ok (says_mem c (by simp [fa]))⟩
  · exact fun _ _ x m e => by
      cases e
      exact ⟨He.cls_ok (says_mem c (by simp [fa])), He.meth_ok (says_mem c (by simp [fa]))⟩
  · exact fun _ _ x m e => by
      cases e
      exact ⟨He.cls_ok (says_mem c (by simp [fa])), He.meth_ok (says_mem c (by simp [fa]))⟩
  · exact fun _ _ x m e => by
      cases e
      exact ⟨He.cls_ok (says_mem c (by simp [fa])), He.meth_ok (says_mem c (by simp [fa]))⟩
  · exact fun _ _ x m e => by
      cases e
      exact ⟨He.cls_ok (says_mem c (by simp [fa])), He.meth_ok (says_mem c (by simp [fa]))⟩
  · exact fun _ _ x m e => by
      cases e
      exact ⟨He.cls_ok (says_mem c (by simp [fa])), He.meth_ok (says_mem c (by simp [fa]))⟩
  · exact fun _ _ x m e => by
      cases e
      exact ⟨He.cls_ok (says_mem c (by simp [fa])), He.meth_ok (says_mem c (by simp [fa]))⟩
  · exact fun _ _ x m e => by
      cases e
      exact ⟨He.cls_ok (says_mem c (by simp [fa])), He.meth_ok (says_mem c (by simp [fa]))⟩
  · exact fun _ _ x m e => by
      cases e
      exact ⟨He.cls_ok (says_mem c (by simp [fa])), He.meth_ok (says_mem c (by simp [fa]))⟩
  · exact fun z => by cases z
  · exact fun z => by cases z
  · exact fun z => by cases z
  · exact fun _ _ x m e => by
      cases e
      exact ⟨He.cls_ok (says_mem c (by simp [fa])), He.meth_ok (says_mem c (by simp [fa]))⟩
  · exact fun _ _ x m e => by
      cases e
      exact ⟨He.cls_ok (says_mem c (by simp [fa])), He.meth_ok (says_mem c (by simp [fa]))⟩
  · exact fun _ _ x m e => by
      cases e
      exact ⟨He.cls_ok (says_mem c (by simp [fa])), He.meth_ok (says_mem c (by simp [fa]))⟩
  · exact fun _ _ x m e => by
      cases e
      exact ⟨He.cls_ok (says_mem c (by simp [fa])), He.meth_ok (says_mem c (by simp [fa]))⟩
  · exact fun _ _ x m e => by
      cases e
      exact ⟨He.cls_ok (says_mem c (by simp [fa])), He.meth_ok (says_mem c (by simp [fa]))⟩
  · exact fun _ _ x m e => by
      cases e
      exact ⟨He.cls_ok (says_mem c (by simp [fa])), He.meth_ok (says_mem c (by simp [fa]))⟩
  · exact fun _ _ x m e => by cases e
  · exact fun _ _ x m e => by cases e
  · exact fun _ _ x m e => by cases e
  · exact fun _ _ x m e => by cases e
  · exact fun _ _ x m e => by cases e
  · exact fun _ _ x m e => by cases e
  · exact fun _ _ x m e => by cases e
  · exact fun _ _ x m e => by cases e
theorem sx_ok (X : K.In h) (G : h.Ns mainGlobals mg) (c : SaysM fa fx fn K) : ∀ q ∈ sts, mg q.1.1 = some (.ref (He.ga K q.1.1)) ∧ (Fx.rd q.1.1).ok K = true ∧ (Fx.sta q.1.1 q.1.2).ok K = true := fun q h => by
  simp only [sts, List.mem_cons, List.not_mem_nil, or_false] at h
  rcases h with rfl | rfl | rfl
  · exact ⟨glo1 X G c (by simp [fgl]), says_fx c (by simp [fx]), says_fx c (by simp [fx])⟩
  · exact ⟨glo1 X G c (by simp [fgl]), says_fx c (by simp [fx]), says_fx c (by simp [fx])⟩
  · exact ⟨glo1 X G c (by simp [fgl]), says_fx c (by simp [fx]), says_fx c (by simp [fx])⟩
theorem mo (X : K.In h) (G : h.Ns mainGlobals mg) (c : SaysM fa fx fn K) : ∀ k, Mo P w K mg base g (run tb hd k) k :=
  mo_all (n := 400) (glb_ok X G c) (fun x hx => He.free_ok X G (says_mem c (in_fa1 (List.mem_map.mpr ⟨x, hx, rfl⟩)))) (fld_ok c) (cats_ok X G c) ds_sc
    (fun d hd => says_fun (ds := d_law :: ds) c (List.mem_cons_of_mem _ hd)) (mg_ok X G c) (mi_ok X G c) (mm_ok c) ds_st ds_hw ds_hd ds_tb ds_fn ds_mt ds_ss (sx_ok X G c) ds_ln
abbrev R : PySem.W.OpenRow := PySem.W.OpenLaw.row PySem.Challenge.rw_allcomers_k10_named_tables
abbrev hk : PySem.W.Hook := hookM 8 fa fx fn
def ob (s : PySem.W.SharedT) : He.AlD := obsMG 8 fa fx fn (HandSHeadRun.getT s)
theorem ob_eq (s : PySem.W.SharedT) : ob s = hk.obs s.abs := obsM_eq (HandSHeadRun.getT_eq s)
def loose : List Str := ["_wall", "__name__", "TieError", "Missing", "InvalidKinds", "InvalidTies", "InvalidBar", "Unlike", "UnknownTie", "MOST_LETTERS", "is_name", "is_list", "checked_kinds", "checked_backs", "turnings", "sides", "is_bar", "Table", "_law_bag", "_law_pull", "_law_any", "_law_mixed", "_law_same", "_law_order_can", "_law_part_tie", "_law_part_can"]
theorem run_eq (w : World) : HandSHeadRun.RunEq R (PySem.W.view R.prog [29]) hk ob 4000 loose w := by
  intro os
  kernel_rfl
theorem bag_same : osBag = os__law_bag := rfl
/-- the law's def, from what its data says -/
theorem facts (hl : LawRest (run tb hd 9) (os_law.drop 1) N_law.length) (X : K.In h) (G : h.Ns mainGlobals mg) {f : Addr} (hfa : mg ("law" : Str) = some (.ref f)) (c : SaysM fa fx fn K) :
    ∃ fd : FuncData, (∀ (s : Shared) (v : Value), BindsTo s fd ⟨[v], []⟩ [("script", v)]) ∧ ∀ base : Heap, K.In base → base.Ns mainGlobals mg → FnOk P w K mg base (L2.CX P w) (9 + 1) f fd ["script"] (spLaw K) := by
  obtain ⟨fd, F⟩ := says_fun (ds := d_law :: ds) c (List.mem_cons_self)
  have e := hfa.symm.trans (glo1 X G c (x := "law") (by simp [fgl]))
  cases e
  have b := FunD.bindsA (ps := ["script"]) F fun _ _ _ _ _ _ us hl => match us, hl with | [_], _ => rfl
  refine ⟨fd, fun s v => b s [v] rfl, fun base _ _ => fn_law (mo X G c 9) d_law F sc_law 400 _ (os_law.drop 1) st_law rfl (by decide) (bag_ok (C' := run tb hd 8) (by decide) fun a ns => rfl) hl⟩
end
end Lw

set_option Elab.async false
set_option linter.all false
set_option maxRecDepth 1000000
set_option maxHeartbeats 0
namespace Lw
open PySem PySem.Spec PyProof.Rows L2 Dy
def ordD : D := getR (run tb hd 9 "Table.ordering" [])
def parD : D := getR (run tb hd 9 "Table.part_ordering" [])
def clsD : D := getR (run tb hd 9 "Table.classes" [])
def pre : List OS := (os_law.drop 1).take 6
def bodyOf : List OS → List OS
  | [.for_ _ _ b, _] => b
  | _ => []
def body : List OS := bodyOf ((os_law.drop 1).drop 6)
def t_u : D := .str [97, 98, 111, 118, 101]
def t_a : D := .str [97, 112, 97, 114, 116]
def t_b : D := .str [98, 101, 108, 111, 119]
def ties : List D := [t_u, t_a, t_b]
theorem draws_ok (v : Nat → Option D) (O : List Nat) : T.okB (stK3 ties ordD parD clsD) (exSs (run tb hd 9) (body.take 1) (gK ordD parD clsD v) O) = true := by kernel_rfl
theorem leaf_uuu (v : Nat → Option D) (O : List Nat) : T.okB (stK ordD parD clsD) (exSs (run tb hd 9) ((body.drop 1).take 1) (gK3 ordD parD clsD t_u t_u t_u v) O) = true := by kernel_rfl
theorem leaf_uua (v : Nat → Option D) (O : List Nat) : T.okB (stK ordD parD clsD) (exSs (run tb hd 9) ((body.drop 1).take 1) (gK3 ordD parD clsD t_u t_u t_a v) O) = true := by kernel_rfl
theorem leaf_uub (v : Nat → Option D) (O : List Nat) : T.okB (stK ordD parD clsD) (exSs (run tb hd 9) ((body.drop 1).take 1) (gK3 ordD parD clsD t_u t_u t_b v) O) = true := by kernel_rfl
theorem leaf_uau (v : Nat → Option D) (O : List Nat) : T.okB (stK ordD parD clsD) (exSs (run tb hd 9) ((body.drop 1).take 1) (gK3 ordD parD clsD t_u t_a t_u v) O) = true := by kernel_rfl
theorem leaf_uaa (v : Nat → Option D) (O : List Nat) : T.okB (stK ordD parD clsD) (exSs (run tb hd 9) ((body.drop 1).take 1) (gK3 ordD parD clsD t_u t_a t_a v) O) = true := by kernel_rfl
theorem leaf_uab (v : Nat → Option D) (O : List Nat) : T.okB (stK ordD parD clsD) (exSs (run tb hd 9) ((body.drop 1).take 1) (gK3 ordD parD clsD t_u t_a t_b v) O) = true := by kernel_rfl
theorem leaf_ubu (v : Nat → Option D) (O : List Nat) : T.okB (stK ordD parD clsD) (exSs (run tb hd 9) ((body.drop 1).take 1) (gK3 ordD parD clsD t_u t_b t_u v) O) = true := by kernel_rfl
theorem leaf_uba (v : Nat → Option D) (O : List Nat) : T.okB (stK ordD parD clsD) (exSs (run tb hd 9) ((body.drop 1).take 1) (gK3 ordD parD clsD t_u t_b t_a v) O) = true := by kernel_rfl
theorem leaf_ubb (v : Nat → Option D) (O : List Nat) : T.okB (stK ordD parD clsD) (exSs (run tb hd 9) ((body.drop 1).take 1) (gK3 ordD parD clsD t_u t_b t_b v) O) = true := by kernel_rfl
theorem leaf_auu (v : Nat → Option D) (O : List Nat) : T.okB (stK ordD parD clsD) (exSs (run tb hd 9) ((body.drop 1).take 1) (gK3 ordD parD clsD t_a t_u t_u v) O) = true := by kernel_rfl
theorem leaf_aua (v : Nat → Option D) (O : List Nat) : T.okB (stK ordD parD clsD) (exSs (run tb hd 9) ((body.drop 1).take 1) (gK3 ordD parD clsD t_a t_u t_a v) O) = true := by kernel_rfl
theorem leaf_aub (v : Nat → Option D) (O : List Nat) : T.okB (stK ordD parD clsD) (exSs (run tb hd 9) ((body.drop 1).take 1) (gK3 ordD parD clsD t_a t_u t_b v) O) = true := by kernel_rfl
theorem leaf_aau (v : Nat → Option D) (O : List Nat) : T.okB (stK ordD parD clsD) (exSs (run tb hd 9) ((body.drop 1).take 1) (gK3 ordD parD clsD t_a t_a t_u v) O) = true := by kernel_rfl
theorem leaf_aaa (v : Nat → Option D) (O : List Nat) : T.okB (stK ordD parD clsD) (exSs (run tb hd 9) ((body.drop 1).take 1) (gK3 ordD parD clsD t_a t_a t_a v) O) = true := by kernel_rfl
theorem leaf_aab (v : Nat → Option D) (O : List Nat) : T.okB (stK ordD parD clsD) (exSs (run tb hd 9) ((body.drop 1).take 1) (gK3 ordD parD clsD t_a t_a t_b v) O) = true := by kernel_rfl
theorem leaf_abu (v : Nat → Option D) (O : List Nat) : T.okB (stK ordD parD clsD) (exSs (run tb hd 9) ((body.drop 1).take 1) (gK3 ordD parD clsD t_a t_b t_u v) O) = true := by kernel_rfl
theorem leaf_aba (v : Nat → Option D) (O : List Nat) : T.okB (stK ordD parD clsD) (exSs (run tb hd 9) ((body.drop 1).take 1) (gK3 ordD parD clsD t_a t_b t_a v) O) = true := by kernel_rfl
theorem leaf_abb (v : Nat → Option D) (O : List Nat) : T.okB (stK ordD parD clsD) (exSs (run tb hd 9) ((body.drop 1).take 1) (gK3 ordD parD clsD t_a t_b t_b v) O) = true := by kernel_rfl
theorem leaf_buu (v : Nat → Option D) (O : List Nat) : T.okB (stK ordD parD clsD) (exSs (run tb hd 9) ((body.drop 1).take 1) (gK3 ordD parD clsD t_b t_u t_u v) O) = true := by kernel_rfl
theorem leaf_bua (v : Nat → Option D) (O : List Nat) : T.okB (stK ordD parD clsD) (exSs (run tb hd 9) ((body.drop 1).take 1) (gK3 ordD parD clsD t_b t_u t_a v) O) = true := by kernel_rfl
theorem leaf_bub (v : Nat → Option D) (O : List Nat) : T.okB (stK ordD parD clsD) (exSs (run tb hd 9) ((body.drop 1).take 1) (gK3 ordD parD clsD t_b t_u t_b v) O) = true := by kernel_rfl
theorem leaf_bau (v : Nat → Option D) (O : List Nat) : T.okB (stK ordD parD clsD) (exSs (run tb hd 9) ((body.drop 1).take 1) (gK3 ordD parD clsD t_b t_a t_u v) O) = true := by kernel_rfl
theorem leaf_baa (v : Nat → Option D) (O : List Nat) : T.okB (stK ordD parD clsD) (exSs (run tb hd 9) ((body.drop 1).take 1) (gK3 ordD parD clsD t_b t_a t_a v) O) = true := by kernel_rfl
theorem leaf_bab (v : Nat → Option D) (O : List Nat) : T.okB (stK ordD parD clsD) (exSs (run tb hd 9) ((body.drop 1).take 1) (gK3 ordD parD clsD t_b t_a t_b v) O) = true := by kernel_rfl
theorem leaf_bbu (v : Nat → Option D) (O : List Nat) : T.okB (stK ordD parD clsD) (exSs (run tb hd 9) ((body.drop 1).take 1) (gK3 ordD parD clsD t_b t_b t_u v) O) = true := by kernel_rfl
theorem leaf_bba (v : Nat → Option D) (O : List Nat) : T.okB (stK ordD parD clsD) (exSs (run tb hd 9) ((body.drop 1).take 1) (gK3 ordD parD clsD t_b t_b t_a v) O) = true := by kernel_rfl
theorem leaf_bbb (v : Nat → Option D) (O : List Nat) : T.okB (stK ordD parD clsD) (exSs (run tb hd 9) ((body.drop 1).take 1) (gK3 ordD parD clsD t_b t_b t_b v) O) = true := by kernel_rfl
theorem leaf_ok : ∀ x ∈ ties, ∀ y ∈ ties, ∀ z ∈ ties, ∀ v O, T.okB (stK ordD parD clsD) (exSs (run tb hd 9) ((body.drop 1).take 1) (gK3 ordD parD clsD x y z v) O) = true := by
  intro x hx y hy z hz v O
  simp only [ties, List.mem_cons, List.not_mem_nil, or_false] at hx hy hz
  rcases hx with rfl | rfl | rfl <;> rcases hy with rfl | rfl | rfl <;> rcases hz with rfl | rfl | rfl
  · exact leaf_uuu v O
  · exact leaf_uua v O
  · exact leaf_uub v O
  · exact leaf_uau v O
  · exact leaf_uaa v O
  · exact leaf_uab v O
  · exact leaf_ubu v O
  · exact leaf_uba v O
  · exact leaf_ubb v O
  · exact leaf_auu v O
  · exact leaf_aua v O
  · exact leaf_aub v O
  · exact leaf_aau v O
  · exact leaf_aaa v O
  · exact leaf_aab v O
  · exact leaf_abu v O
  · exact leaf_aba v O
  · exact leaf_abb v O
  · exact leaf_buu v O
  · exact leaf_bua v O
  · exact leaf_bub v O
  · exact leaf_bau v O
  · exact leaf_baa v O
  · exact leaf_bab v O
  · exact leaf_bbu v O
  · exact leaf_bba v O
  · exact leaf_bbb v O
theorem cls_ok (v : Nat → Option D) (O : List Nat) : T.okB (stK ordD parD clsD) (exSs (run tb hd 9) (body.drop 2) (gK ordD parD clsD v) O) = true := by kernel_rfl
theorem body_eq : body = body.take 1 ++ ((body.drop 1).take 1 ++ body.drop 2) := by kernel_rfl
theorem body_ok (v : Nat → Option D) (O : List Nat) : (exSs (run tb hd 9) body (gK ordD parD clsD v) O).All (fun f => stK ordD parD clsD f = true) NX := by
  have z := stK_par draws_ok leaf_ok cls_ok v O
  rw [← body_eq] at z
  exact z
end Lw

set_option Elab.async false
set_option linter.all false
set_option maxRecDepth 1000000
set_option maxHeartbeats 0
namespace Lw
open PySem PySem.Spec PyProof.Rows L2 Dy
theorem law_eq : os_law.drop 1 = pre ++ [.for_ (.n 11) (.rng1 (.const (.int 6))) body, .ret (.const (.bl true))] := by kernel_rfl
theorem pre_ok : T.okB (stK ordD parD clsD) (exSs (run tb hd 9) pre (none :: some .bag :: List.replicate 13 none) []) = true := by kernel_rfl
structure Ret1 (C : Calls) (os : List OS) : Prop where
  go : (exSs C os (none :: some .bag :: List.replicate 13 none) []).All (fun f => ∃ Γ O b, f = .rt (.bl true, b) Γ O) NX
theorem rest_of {C : Calls} {os : List OS} {n : Nat} (hn : n = 15) (h : Ret1 C os) : LawRest C os n := by
  subst hn
  exact ⟨h.go⟩
theorem ret_of {C : Calls} {o p c : D} {os pre body : List OS} (e : os = pre ++ [.for_ (.n 11) (.rng1 (.const (.int 6))) body, .ret (.const (.bl true))]) (h1 : T.okB (stK o p c) (exSs C pre (none :: some .bag :: List.replicate 13 none) []) = true) (h2 : ∀ v O, (exSs C body (gK o p c v) O).All (fun f => stK o p c f = true) NX) : Ret1 C os := by
  subst e
  exact ⟨law_loop h1 h2⟩
theorem n_law : N_law.length = 15 := rfl
theorem law_rest : LawRest (run tb hd 9) (os_law.drop 1) N_law.length := rest_of n_law (ret_of law_eq pre_ok body_ok)
end Lw
open PySem PySem.W PySem.Calls PyProof.Rows
set_option maxRecDepth 100000 in
set_option maxHeartbeats 0 in
theorem PySem.Challenge.cw_allcomers_k10_named_tables_holds : PySem.Challenge.rw_allcomers_k10_named_tables.Holds := by
  w_on; o_law
  refine HandSHeadRun.head_any (r := OpenLaw.row PySem.Challenge.rw_allcomers_k10_named_tables) (q := view (OpenLaw.row PySem.Challenge.rw_allcomers_k10_named_tables).prog [29]) (H := Lw.hk) (ob := Lw.ob) (M := 4000) (loose := Lw.loose) (d := HandSHeadRun.topDef (OpenLaw.row PySem.Challenge.rw_allcomers_k10_named_tables).prog 29) (kwd := []) Lw.ob_eq
    (by kernel_rfl) (fun s => by kernel_rfl) Lw.run_eq (by kernel_rfl) (by kernel_rfl) (by kernel_rfl) (by rfl) (by first | assumption | decide +kernel) (by decide +kernel) ⟨rfl, rfl, rfl, rfl, rfl, by decide +kernel⟩ ?hw ?hc
  case hw => w_witness2
  case hc =>
    refine Dy.walk_dy (l := PySem.Challenge.rw_allcomers_k10_named_tables) (k := 10) rfl (by kernel_rfl) ⟨rfl, by decide, by decide⟩ ?F
    intro w mg fa h Y G hmg0
    obtain ⟨K, KX, c⟩ := Y
    have hmg : mg ("law" : PySem.Str) = some (.ref fa) := by
      have e : (HandSHeadRun.topDef (OpenLaw.row PySem.Challenge.rw_allcomers_k10_named_tables).prog 29).name = ("law" : PySem.Str) := by kernel_rfl
      rw [← e]
      exact hmg0
    obtain ⟨fd, hb, hF⟩ := Lw.facts (P := (PySem.Challenge.rw_allcomers_k10_named_tables).prog) (w := w) Lw.law_rest KX G hmg c
    exact ⟨K, fd, KX, hb, hF⟩
