import PyProof.Rows.All
import Wide.All
import OpenK.AllK
import Wide.FinOn
import HandS.Base
import HandS.Call
import HandS.List
import HandS.Comp
import HandS.Ends
import HandS.Dict
import HandS.Iter
import HandS.Text
import HandS.Words
import HandS.IsInst
import KE.KDictKeyed
import KE.KDictCopyH
import HandS.Defaults
import HandS.HeadHook2
import HandS.Wide
import KE.KEqNest
import PyProof.NeKinds
import HandS.DictEq
import HandS.TupAny
import HandS.Style
import HandS.MakeKw
import HandS.WideBits
import KE.KDictZip
import PyProof.Rows.SetFrom
import HandS.Strs
import HandS.Head2
import HandS.HeadEnd
import HandS.HeadHook1
import HandS.SetBool
import HandS.More
import HandS.DictComp
import KE.KSortKey
import KE.KSortTupAny
import HandS.SortOrd
import HandS.SortRule
import HandS.SortKw
import HandS.Zip
import KE.KDictOf
import PyProof.ReprRoads
import HandS.TupSets
import PySem.Challenge.RW_rowfates_k43_compare_by_name
set_option Elab.async false
set_option linter.all false
set_option maxRecDepth 100000
namespace RF
open PySem
inductive D where
  | non
  | bl (b : Bool)
  | int (i : Int)
  | str (s : Str)
  | lst (l : List D)
  | tup (l : List D)
  | dct (l : List (D × D))
  | ins (c : Str) (l : List (Str × D))
  | scr (l : List Int)
  | mk (B : List Nat) (a : Nat) (d : D)
  deriving Inhabited
mutual
def D.beq : D → D → Bool
  | .non, .non => true
  | .bl a, .bl b => a == b
  | .int a, .int b => decide (a = b)
  | .str a, .str b => decide (a = b)
  | .lst a, .lst b => beqL a b
  | .tup a, .tup b => beqL a b
  | .dct a, .dct b => beqP a b
  | .ins c a, .ins e b => decide (c = e) && beqF a b
  | .scr a, .scr b => decide (a = b)
  | .mk B a x, .mk C b y => decide (B = C) && (decide (a = b) && D.beq x y)
  | _, _ => false
def beqL : List D → List D → Bool
  | [], [] => true
  | a :: r, b :: s => D.beq a b && beqL r s
  | _, _ => false
def beqP : List (D × D) → List (D × D) → Bool
  | [], [] => true
  | (k, v) :: r, (l, u) :: s => D.beq k l && (D.beq v u && beqP r s)
  | _, _ => false
def beqF : List (Str × D) → List (Str × D) → Bool
  | [], [] => true
  | (k, v) :: r, (l, u) :: s => decide (k = l) && (D.beq v u && beqF r s)
  | _, _ => false
end
mutual
theorem D.beq_iff : ∀ a b : D, D.beq a b = true ↔ a = b
  | .non, b => by cases b <;> simp [D.beq]
  | .bl x, b => by cases b <;> simp [D.beq]
  | .int x, b => by cases b <;> simp [D.beq]
  | .str x, b => by cases b <;> simp [D.beq]
  | .lst x, b => by cases b <;> simp [D.beq, beqL_iff x]
  | .tup x, b => by cases b <;> simp [D.beq, beqL_iff x]
  | .dct x, b => by cases b <;> simp [D.beq, beqP_iff x]
  | .ins c x, b => by cases b <;> simp [D.beq, beqF_iff x]
  | .scr x, b => by cases b <;> simp [D.beq]
  | .mk B a x, b => by cases b <;> simp [D.beq, D.beq_iff x]
theorem beqL_iff : ∀ a b : List D, beqL a b = true ↔ a = b
  | [], b => by cases b <;> simp [beqL]
  | x :: r, b => by cases b <;> simp [beqL, D.beq_iff x, beqL_iff r]
theorem beqP_iff : ∀ a b : List (D × D), beqP a b = true ↔ a = b
  | [], b => by cases b <;> simp [beqP]
  | (k, v) :: r, b => by
    cases b with
    | nil => simp [beqP]
    | cons y s => obtain ⟨l, u⟩ := y; simp [beqP, D.beq_iff k, D.beq_iff v, beqP_iff r, and_assoc]
theorem beqF_iff : ∀ a b : List (Str × D), beqF a b = true ↔ a = b
  | [], b => by cases b <;> simp [beqF]
  | (k, v) :: r, b => by
    cases b with
    | nil => simp [beqF]
    | cons y s => obtain ⟨l, u⟩ := y; simp [beqF, D.beq_iff v, beqF_iff r, and_assoc]
end
instance : DecidableEq D := fun a b => decidable_of_iff (D.beq a b = true) (D.beq_iff a b)
def getK : List (D × D) → D → Option D
  | [], _ => none
  | (k, v) :: r, x => if k = x then some v else getK r x
def hasK (l : List (D × D)) (x : D) : Bool := (getK l x).isSome
def putK : List (D × D) → D → D → List (D × D)
  | [], x, y => [(x, y)]
  | (k, v) :: r, x, y => if k = x then (k, y) :: r else (k, v) :: putK r x y
def flatEq : D → D → Bool
  | .non, .non => true
  | .bl a, .bl b => a == b
  | .bl a, .int j => (if a then 1 else 0) == j
  | .int i, .bl b => i == (if b then 1 else 0)
  | .int a, .int b => a == b
  | .str a, .str b => a == b
  | _, _ => false
def allO : List (Option Bool) → Option Bool
  | [] => some true
  | x :: r => x.bind fun b => (allO r).map fun c => b && c
def leafKey : D → Bool
  | .non => true | .int _ => true | .str _ => true | _ => false
def eqO : Nat → D → D → Option Bool
  | n + 1, .lst a, .lst b => if a.length = b.length then allO (List.zipWith (eqO n) a b) else some false
  | n + 1, .tup a, .tup b => (allO (List.zipWith (eqO n) a b)).map fun c => c && a.length == b.length
  | n + 1, .dct a, .dct b =>
    if (a.all fun p => leafKey p.1) && (b.all fun p => leafKey p.1) then
      (allO (a.map fun p => match getK b p.1 with | some u => eqO n p.2 u | none => some false)).map fun c => a.length == b.length && c
    else none
  | _, .lst _, .lst _ => none
  | _, .tup _, .tup _ => none
  | _, .dct _, _ => none
  | _, _, .dct _ => none
  | _, .ins _ _, _ => none
  | _, _, .ins _ _ => none
  | _, .scr _, _ => none
  | _, _, .scr _ => none
  | _, .mk _ _ _, _ => none
  | _, _, .mk _ _ _ => none
  | _, a, b => some (flatEq a b)
def eqD (a b : D) : Option Bool := eqO 60 a b
def eqN : Nat → D → D → Option Bool
  | n + 1, .lst a, .lst b => if a.length = b.length then allO (List.zipWith (eqN n) a b) else some false
  | n + 1, .tup a, .tup b => (allO (List.zipWith (eqN n) a b)).map fun c => c && a.length == b.length
  | _, .lst _, .lst _ => none
  | _, .tup _, .tup _ => none
  | _, .dct _, _ => none
  | _, _, .dct _ => none
  | _, .ins _ _, _ => none
  | _, _, .ins _ _ => none
  | _, .scr _, _ => none
  | _, _, .scr _ => none
  | _, .mk _ _ _, _ => none
  | _, _, .mk _ _ _ => none
  | _, a, b => some (flatEq a b)
def neD : D → D → Option Bool
  | .dct a, .dct b =>
    if (a.all fun p => leafKey p.1) && (b.all fun p => leafKey p.1) then
      (allO (a.map fun p => match getK b p.1 with | some u => eqN 50 p.2 u | none => some false)).map fun c => a.length == b.length && c
    else none
  | a, b => eqN 51 a b
abbrev Env := List (Option D)
inductive Fl where
  | nx (ρ : Env) | bk (ρ : Env) | ct (ρ : Env) | rt (d : D) (ρ : Env)
abbrev FE := Env → Option D
abbrev FX := Env → Option (D × Env)
abbrev FT := Env → Option Bool
abbrev FTx := Env → Option (Bool × Env)
abbrev FS := Env → Option Fl
abbrev FL := Env → Option (List D × Env)
def up {α : Type} (f : Env → Option α) : Env → Option (α × Env) := fun ρ => (f ρ).map fun d => (d, ρ)
def lk (ρ : Env) (i : Nat) : Option D := (ρ[i]?).join
def vr (i : Nat) : FE := fun ρ => lk ρ i
def cn (d : D) : FE := fun _ => some d
def o1 (op : D → Option D) (a : FX) : FX := fun ρ => (a ρ).bind fun p => (op p.1).map fun z => (z, p.2)
def o2 (op : D → D → Option D) (a b : FX) : FX := fun ρ => (a ρ).bind fun p => (b p.2).bind fun q => (op p.1 q.1).map fun z => (z, q.2)
def e1 (op : D → Option D) (a : FE) : FE := fun ρ => (a ρ).bind op
def e2 (op : D → D → Option D) (a b : FE) : FE := fun ρ => (a ρ).bind fun x => (b ρ).bind fun y => op x y
theorem o1_up (op : D → Option D) (a : FE) : o1 op (up a) = up (e1 op a) := by
  funext ρ; unfold o1 up e1; cases a ρ <;> rfl
theorem o2_up (op : D → D → Option D) (a b : FE) : o2 op (up a) (up b) = up (e2 op a b) := by
  funext ρ; unfold o2 up e2
  cases a ρ with
  | none => rfl
  | some x => show ((b ρ).map fun d => (d, ρ)).bind _ = _; cases b ρ <;> rfl
def lineOk (n : Nat) : Bool := decide (n ≤ sizeLine)
def D.truth : D → Option Bool
  | .non => some false
  | .bl b => some b
  | .int i => some (i != 0)
  | .str s => if lineOk s.length then some (s.length != 0) else none
  | .lst l => some (!l.isEmpty)
  | .tup l => some (!l.isEmpty)
  | .dct l => if l.all (fun p => leafKey p.1) then some (!l.isEmpty) else none
  | .ins _ _ => none
  | .scr l => some (!l.isEmpty)
  | .mk _ _ _ => none
def small64 (i : Int) : Bool := decide (-(2 ^ 64) < i) && decide (i < 2 ^ 64)
def D.add : D → D → Option D
  | .int i, .int j => some (.int (i + j))
  | .str a, .str b => if lineOk (a.length + b.length) then some (.str (a ++ b)) else none
  | .lst a, .lst b => if lineOk (a.length + b.length) then some (.lst (a ++ b)) else none
  | .tup a, .tup b => if lineOk (a.length + b.length) && !a.isEmpty then some (.tup (a ++ b)) else none
  | _, _ => none
def D.sub : D → D → Option D
  | .int i, .int j => some (.int (i - j))
  | _, _ => none
def D.mul : D → D → Option D
  | .int i, .int j => if small64 i || small64 j then some (.int (i * j)) else none
  | .lst a, .int k => if decide (-(2 ^ 63) ≤ k) && decide (k < 2 ^ 63) && lineOk (a.length * k.toNat) then some (.lst (List.replicate k.toNat a).flatten) else none
  | _, _ => none
def D.mod : D → D → Option D
  | .int i, .int j => if 0 < j then some (.int (i % j)) else none
  | _, _ => none
def D.fdiv : D → D → Option D
  | .int i, .int j => if 0 < j ∧ j.natAbs.log2 < 9000 then some (.int (i / j)) else none
  | _, _ => none
def D.neg : D → Option D
  | .int i => some (.int (-i))
  | _ => none
def D.cmp (f : Int → Int → Bool) : D → D → Option D
  | .int i, .int j => some (.bl (f i j))
  | _, _ => none
def D.lt := D.cmp fun i j => decide (i < j)
def D.le := D.cmp fun i j => decide (i ≤ j)
def D.gt := D.cmp fun i j => decide (j < i)
def D.ge := D.cmp fun i j => decide (j ≤ i)
def D.eq (a b : D) : Option D := (eqD a b).map .bl
def D.ne (a b : D) : Option D := (neD a b).map fun c => .bl (!c)
def D.isNone : D → Bool
  | .non => true
  | _ => false
def D.isN (a : D) : Option D := some (.bl a.isNone)
def D.notN (a : D) : Option D := some (.bl (!a.isNone))
def sgnIn (c t : Str) : Option Bool := match c.cps.toList with
  | [x] => some (decide (x ∈ t.cps.toList))
  | _ => none
def anyEq (x : D) (l : List D) : Option Bool := (allO (l.map fun y => (eqN 50 y x).map not)).map not
def flatTup : D → Bool
  | .tup l => l.all leafKey
  | _ => false
def leafKs (l : List (D × D)) : Bool := l.all fun p => leafKey p.1
def tupKs (l : List (D × D)) : Bool := l.all fun p => flatTup p.1
def D.inO : D → D → Option Bool
  | x, .lst l => anyEq x l
  | x, .tup l => anyEq x l
  | x, .dct l => if (leafKey x && leafKs l) || (flatTup x && tupKs l) then some (hasK l x) else none
  | .str c, .str t => sgnIn c t
  | _, _ => none
def D.isIn (x y : D) : Option D := (D.inO x y).map .bl
def D.notIn (x y : D) : Option D := (D.inO x y).map fun c => .bl (!c)
def D.item : D → D → Option D
  | .lst l, .int i => L2.atI l i
  | .tup l, .int i => L2.atI l i
  | .str z, .int i => if lineOk z.length then (L2.atI z.cps.toList i).map fun c => .str ⟨#[c]⟩ else none
  | .dct l, k => if (leafKey k && leafKs l) || (flatTup k && tupKs l) then getK l k else none
  | _, _ => none
def cutL {α : Type} (xs : List α) (lo hi : Option Int) : List α := (xs.drop (HT.sIx xs.length 0 lo)).take (HT.sIx xs.length xs.length hi - HT.sIx xs.length 0 lo)
def D.slice (lo hi : Option Int) : D → Option D
  | .scr l => some (.lst ((cutL l lo hi).map .int))
  | .lst l => some (.lst (cutL l lo hi))
  | .tup l => some (.tup (cutL l lo hi))
  | .str z => if lineOk z.length then some (.str (L2.cutS z lo hi)) else none
  | _ => none
def D.len : D → Option D
  | .scr l => some (.int l.length)
  | .lst l => some (.int l.length)
  | .tup l => some (.int l.length)
  | .str z => if lineOk z.length then some (.int z.length) else none
  | .dct l => if leafKs l then some (.int l.length) else none
  | _ => none
def D.tyName : D → Option String
  | .non => some "NoneType" | .bl _ => some "bool" | .int _ => some "int" | .str _ => some "str"
  | .lst _ => some "list" | .tup _ => some "tuple" | .dct _ => some "dict" | .ins _ _ => none | .scr _ => none | .mk _ _ _ => none
def D.isInst (t : String) (d : D) : Option D := d.tyName.bind fun n => (L2.kitB n t).map .bl
def xTru (a : FX) : FTx := fun ρ => (a ρ).bind fun p => (p.1.truth).map fun b => (b, p.2)
def eTru (a : FE) : FT := fun ρ => (a ρ).bind D.truth
def xNotT (a : FTx) : FTx := fun ρ => (a ρ).map fun p => (!p.1, p.2)
def eNotT (a : FT) : FT := fun ρ => (a ρ).map not
def xAndT (a b : FTx) : FTx := fun ρ => (a ρ).bind fun p => if p.1 then b p.2 else some (false, p.2)
def eAndT (a b : FT) : FT := fun ρ => (a ρ).bind fun p => if p then b ρ else some false
def xOrT (a b : FTx) : FTx := fun ρ => (a ρ).bind fun p => if p.1 then some (true, p.2) else b p.2
def eOrT (a b : FT) : FT := fun ρ => (a ρ).bind fun p => if p then some true else b ρ
def xIf (c : FTx) (a b : FX) : FX := fun ρ => (c ρ).bind fun p => if p.1 then a p.2 else b p.2
def eIf (c : FT) (a b : FE) : FE := fun ρ => (c ρ).bind fun p => if p then a ρ else b ρ
def xAnd (a b : FX) : FX := fun ρ => (a ρ).bind fun p => (p.1.truth).bind fun t => if t then b p.2 else some p
def eAnd (a b : FE) : FE := fun ρ => (a ρ).bind fun p => (p.truth).bind fun t => if t then b ρ else some p
def xOr (a b : FX) : FX := fun ρ => (a ρ).bind fun p => (p.1.truth).bind fun t => if t then some p else b p.2
def eOr (a b : FE) : FE := fun ρ => (a ρ).bind fun p => (p.truth).bind fun t => if t then some p else b ρ
def xNot (a : FX) : FX := fun ρ => (a ρ).bind fun p => (p.1.truth).map fun t => (.bl (!t), p.2)
def eNot (a : FE) : FE := fun ρ => (a ρ).bind fun p => (p.truth).map fun t => .bl (!t)
abbrev FEL := Env → Option (List D)
def xNil : FL := fun ρ => some ([], ρ)
def eNil : FEL := fun _ => some []
def xCons (a : FX) (r : FL) : FL := fun ρ => (a ρ).bind fun p => (r p.2).map fun q => (p.1 :: q.1, q.2)
def eCons (a : FE) (r : FEL) : FEL := fun ρ => (a ρ).bind fun x => (r ρ).map fun q => x :: q
def xCall (op : List D → Option D) (a : FL) : FX := fun ρ => (a ρ).bind fun p => (op p.1).map fun z => (z, p.2)
def eCall (op : List D → Option D) (a : FEL) : FE := fun ρ => (a ρ).bind op
def mkLst (l : List D) : Option D := if lineOk l.length then some (.lst l) else none
def mkTup (l : List D) : Option D := if lineOk l.length then some (.tup l) else none
def xChain (f g : D → D → Option D) (a b c : FX) : FX := fun ρ => (a ρ).bind fun p => (b p.2).bind fun q => (f p.1 q.1).bind fun z => match z with
  | .bl true => (c q.2).bind fun r => (g q.1 r.1).map fun y => (y, r.2)
  | .bl false => some (.bl false, q.2)
  | _ => none
def eChain (f g : D → D → Option D) (a b c : FE) : FE := fun ρ => (a ρ).bind fun p => (b ρ).bind fun q => (f p q).bind fun z => match z with
  | .bl true => (c ρ).bind fun r => g q r
  | .bl false => some (.bl false)
  | _ => none
abbrev FO := Env → Option (Option Int × Env)
abbrev FEO := Env → Option (Option Int)
def xNoPart : FO := fun ρ => some (none, ρ)
def eNoPart : FEO := fun _ => some none
def asInt : D → Option Int
  | .int i => some i
  | _ => none
def xPart (a : FX) : FO := fun ρ => (a ρ).bind fun p => (asInt p.1).map fun i => (some i, p.2)
def ePart (a : FE) : FEO := fun ρ => (a ρ).bind fun p => (asInt p).map some
def xSlice (a : FX) (l h : FO) : FX := fun ρ => (a ρ).bind fun p => (l p.2).bind fun q => (h q.2).bind fun r => (D.slice q.1 r.1 p.1).map fun z => (z, r.2)
def eSlice (a : FE) (l h : FEO) : FE := fun ρ => (a ρ).bind fun p => (l ρ).bind fun q => (h ρ).bind fun r => D.slice q r p
section
variable (a b c : FE) (t u : FT) (l : FEL) (p q : FEO)
theorem xTru_up : xTru (up a) = up (eTru a) := by
  funext ρ; show ((a ρ).map _).bind _ = ((a ρ).bind _).map _
  cases a ρ <;> rfl
theorem xNotT_up : xNotT (up t) = up (eNotT t) := by
  funext ρ; show ((t ρ).map _).map _ = ((t ρ).map _).map _
  cases t ρ <;> rfl
theorem xAndT_up : xAndT (up t) (up u) = up (eAndT t u) := by
  funext ρ; show ((t ρ).map _).bind _ = ((t ρ).bind _).map _
  cases t ρ with
  | none => rfl
  | some b => cases b <;> rfl
theorem xOrT_up : xOrT (up t) (up u) = up (eOrT t u) := by
  funext ρ; show ((t ρ).map _).bind _ = ((t ρ).bind _).map _
  cases t ρ with
  | none => rfl
  | some b => cases b <;> rfl
theorem xIf_up : xIf (up t) (up a) (up b) = up (eIf t a b) := by
  funext ρ; show ((t ρ).map _).bind _ = ((t ρ).bind _).map _
  cases t ρ with
  | none => rfl
  | some b => cases b <;> rfl
theorem xAnd_up : xAnd (up a) (up b) = up (eAnd a b) := by
  funext ρ; show ((a ρ).map _).bind _ = ((a ρ).bind _).map _
  cases a ρ with
  | none => rfl
  | some x =>
    show (x.truth.bind _) = (x.truth.bind _).map _
    cases x.truth with
    | none => rfl
    | some t => cases t <;> rfl
theorem xOr_up : xOr (up a) (up b) = up (eOr a b) := by
  funext ρ; show ((a ρ).map _).bind _ = ((a ρ).bind _).map _
  cases a ρ with
  | none => rfl
  | some x =>
    show (x.truth.bind _) = (x.truth.bind _).map _
    cases x.truth with
    | none => rfl
    | some t => cases t <;> rfl
theorem xNot_up : xNot (up a) = up (eNot a) := by
  funext ρ; show ((a ρ).map _).bind _ = ((a ρ).bind _).map _
  cases a ρ with
  | none => rfl
  | some x =>
    show (x.truth.map _) = (x.truth.map _).map _
    cases x.truth <;> rfl
theorem xCons_up : xCons (up a) (up l) = up (eCons a l) := by
  funext ρ; show ((a ρ).map _).bind _ = ((a ρ).bind _).map _
  cases a ρ with
  | none => rfl
  | some x =>
    show ((l ρ).map _).map _ = ((l ρ).map _).map _
    cases l ρ <;> rfl
theorem xCall_up (op : List D → Option D) : xCall op (up l) = up (eCall op l) := by
  funext ρ; show ((l ρ).map _).bind _ = ((l ρ).bind _).map _
  cases l ρ <;> rfl
theorem xChain_up (f g : D → D → Option D) : xChain f g (up a) (up b) (up c) = up (eChain f g a b c) := by
  funext ρ; show ((a ρ).map _).bind _ = ((a ρ).bind _).map _
  cases a ρ with
  | none => rfl
  | some x =>
    show ((b ρ).map _).bind _ = ((b ρ).bind _).map _
    cases b ρ with
    | none => rfl
    | some y =>
      show ((f x y).bind _) = ((f x y).bind _).map _
      cases f x y with
      | none => rfl
      | some z =>
        cases z with
        | bl t =>
          cases t with
          | true =>
            show ((c ρ).map _).bind _ = ((c ρ).bind _).map _
            cases c ρ <;> rfl
          | false => rfl
        | _ => rfl
theorem xPart_up : xPart (up a) = up (ePart a) := by
  funext ρ; show ((a ρ).map _).bind _ = ((a ρ).bind _).map _
  cases a ρ with
  | none => rfl
  | some x =>
    show (asInt x).map _ = ((asInt x).map _).map _
    cases asInt x <;> rfl
theorem xSlice_up : xSlice (up a) (up p) (up q) = up (eSlice a p q) := by
  funext ρ; show ((a ρ).map _).bind _ = ((a ρ).bind _).map _
  cases a ρ with
  | none => rfl
  | some x =>
    show ((p ρ).map _).bind _ = ((p ρ).bind _).map _
    cases p ρ with
    | none => rfl
    | some i =>
      show ((q ρ).map _).bind _ = ((q ρ).bind _).map _
      cases q ρ <;> rfl
end
end RF
set_option Elab.async false
set_option linter.all false
set_option maxRecDepth 100000
namespace RF
open PySem PySem.Spec L2
open PyProof.Rows hiding St
def pinO (a : Addr) (o : Obj) : HO := .ext fun h => h.get? a = some o
def notB : Value → Bool
  | .bool _ => false
  | _ => true
def isK0 (k : Leaf) (v : Value) : Bool := Leaf.isOf k v && notB v
theorem isK0_of {k : Leaf} {v : Value} (h : isK0 k v = true) : Leaf.isOf k v = true := (Bool.and_eq_true_iff.mp h).1
def leafK0 (P : Program) (w : World) : KeyKind P w Leaf where
  is := isK0
  hash := fun k => k.key.hash w
  inj := fun v a b ha hb => (leafKind P w).inj v a b (isK0_of ha) (isK0_of hb)
  byValue := fun k v h => (leafKind P w).byValue k v (isK0_of h)
  pyHash := fun hv h => (leafKind P w).pyHash (isK0_of hv) h
  eqBool := fun hu hv h => (leafKind P w).eqBool (isK0_of hu) (isK0_of hv) h
  «strs» := fun k x t v h => by
    have e := (leafKind P w).strs k x t v (isK0_of h)
    show (Leaf.isOf k v && notB v) = _
    rw [show Leaf.isOf k v = v.isStr x from e]
    cases v <;> first | rfl | (simp [notB]; done) | skip
    all_goals simp [notB, Value.isStr]
def leafOf : D → Option Leaf
  | .non => some .none
  | .int i => some (.num i)
  | .str x => some (.text x)
  | _ => none
def nestOf1 : D → Option NestedKey
  | .non => some .none
  | .int i => some (.num i)
  | .str x => some (.text x)
  | _ => none
def nestOf : D → Option NestedKey
  | .tup l => (l.mapM nestOf1).map .tup
  | _ => none
def lessH (G : Hp) (B : List Nat) : Hp := fun b => if b ∈ B then none else G b
theorem lessH_same {G G' : Hp} (s : Same G G') (B : List Nat) : Same (lessH G B) (lessH G' B) := fun b o e => by
  unfold lessH at e ⊢
  by_cases h : b ∈ B
  · rw [if_pos h] at e; cases e
  · rw [if_neg h] at e ⊢; exact s _ _ e
def flatD : V → Option D
  | .non => some .non
  | .int i => some (.int i)
  | .str x => some (.str x)
  | _ => none
section
variable (P : Program) (w : World) (K : PySem.W.Frag)
def DictO (G : Hp) (o : Obj) (ks : List D) (vs : List V) : Prop :=
  (∃ us : List (Leaf × Value), o.IsDictOf (leafK0 P w) us ∧ ks.map leafOf = us.map (fun u => some u.1) ∧ Vals vs (us.map (·.2))) ∨
  (∃ xs : List (NestedKey × Addr × Value), (o.ExactDict ∧ (∃ es ep, o.data = .dict es ep ∧ es.toList = xs.map (entryOfKey (nestedKind P w))) ∧ (xs.map (·.1)).Nodup) ∧
    ks.map nestOf = xs.map (fun x => some x.1) ∧ Vals vs (xs.map (·.2.2)) ∧
    ∀ (i : Nat) (k : D) (x : NestedKey × Addr × Value), ks[i]? = some k → xs[i]? = some x → ∃ (ds : List D) (kv : List V), k = D.tup ds ∧ G x.2.1 = some (.tup kv) ∧ kv.map flatD = ds.map some)
mutual
def Rep : Hp → D → V → Prop
  | _, .non, v => v = .non
  | _, .bl b, v => v = .bl b
  | _, .int i, v => v = .int i
  | _, .str x, v => v = .str x
  | G, .lst ds, v => ∃ a vs, v = .ref a ∧ G a = some (.lst vs) ∧ Reps G ds vs
  | G, .tup ds, v => ∃ a vs, v = .ref a ∧ G a = some (.tup vs) ∧ Reps G ds vs
  | G, .dct kvs, v => ∃ a o vs, v = .ref a ∧ (a == sysModules) = false ∧ G a = some (pinO a o) ∧ kvs.length ≤ sizeLine ∧ DictO P w G o (kvs.map (·.1)) vs ∧ RepP G kvs vs
  | G, .ins c fs, v => ∃ a dx vs, v = .ref a ∧ G a = some (.ins (He.ga K c) dx vs) ∧ G dx = some (.own a) ∧ RepF G fs vs
  | G, .scr ns, v => ∃ a, v = .ref a ∧ SqL K G a (ns.map V.int)
  | G, .mk B a d, v => v = .ref a ∧ Rep (lessH G B) d v
def Reps : Hp → List D → List V → Prop
  | _, [], vs => vs = []
  | G, d :: ds, vs => ∃ v r, vs = v :: r ∧ Rep G d v ∧ Reps G ds r
def RepP : Hp → List (D × D) → List V → Prop
  | _, [], vs => vs = []
  | G, (_, d) :: ds, vs => ∃ v r, vs = v :: r ∧ Rep G d v ∧ RepP G ds r
def RepF : Hp → List (Str × D) → List (Str × V) → Prop
  | _, [], vs => vs = []
  | G, (f, d) :: ds, vs => ∃ v r, vs = (f, v) :: r ∧ Rep G d v ∧ RepF G ds r
end
end
section
variable {P : Program} {w : World} {K : PySem.W.Frag} {G G' : Hp}
theorem DictO.mono (s : Same G G') {o : Obj} {ks : List D} {vs : List V} (h : DictO P w G o ks vs) : DictO P w G' o ks vs := by
  rcases h with h | ⟨xs, h1, h2, h3, h4⟩
  · exact .inl h
  · refine .inr ⟨xs, h1, h2, h3, fun i k x e1 e2 => ?_⟩
    obtain ⟨ds, kv, a, b, c⟩ := h4 i k x e1 e2
    exact ⟨ds, kv, a, s _ _ b, c⟩
mutual
theorem Rep.mono : ∀ {G G' : Hp} (s : Same G G') (d : D) (v : V), Rep P w K G d v → Rep P w K G' d v
  | _, _, s, .non, v, h => h
  | _, _, s, .bl b, v, h => h
  | _, _, s, .int i, v, h => h
  | _, _, s, .str x, v, h => h
  | _, _, s, .lst ds, v, h => by
    obtain ⟨a, vs, e, q, r⟩ := h
    exact ⟨a, vs, e, s _ _ q, Reps.mono s ds vs r⟩
  | _, _, s, .tup ds, v, h => by
    obtain ⟨a, vs, e, q, r⟩ := h
    exact ⟨a, vs, e, s _ _ q, Reps.mono s ds vs r⟩
  | _, _, s, .dct kvs, v, h => by
    obtain ⟨a, o, vs, e, hm, q, hl, ho, r⟩ := h
    exact ⟨a, o, vs, e, hm, s _ _ q, hl, ho.mono s, RepP.mono s kvs vs r⟩
  | _, _, s, .ins c fs, v, h => by
    obtain ⟨a, dx, vs, e, q, q2, r⟩ := h
    exact ⟨a, dx, vs, e, s _ _ q, s _ _ q2, RepF.mono s fs vs r⟩
  | _, _, s, .scr ns, v, h => by
    obtain ⟨a, e, q⟩ := h
    exact ⟨a, e, s.seq q⟩
  | _, _, s, .mk B a d, v, h => by
    obtain ⟨e, q⟩ := h
    exact ⟨e, Rep.mono (lessH_same s B) d v q⟩
theorem Reps.mono : ∀ {G G' : Hp} (s : Same G G') (d : List D) (v : List V), Reps P w K G d v → Reps P w K G' d v
  | _, _, s, [], v, h => h
  | _, _, s, d :: ds, v, h => by
    obtain ⟨x, r, e, h1, h2⟩ := h
    exact ⟨x, r, e, Rep.mono s d x h1, Reps.mono s ds r h2⟩
theorem RepP.mono : ∀ {G G' : Hp} (s : Same G G') (d : List (D × D)) (v : List V), RepP P w K G d v → RepP P w K G' d v
  | _, _, s, [], v, h => h
  | _, _, s, (_, d) :: ds, v, h => by
    obtain ⟨x, r, e, h1, h2⟩ := h
    exact ⟨x, r, e, Rep.mono s d x h1, RepP.mono s ds r h2⟩
theorem RepF.mono : ∀ {G G' : Hp} (s : Same G G') (d : List (Str × D)) (v : List (Str × V)), RepF P w K G d v → RepF P w K G' d v
  | _, _, s, [], v, h => h
  | _, _, s, (f, d) :: ds, v, h => by
    obtain ⟨x, r, e, h1, h2⟩ := h
    exact ⟨x, r, e, Rep.mono s d x h1, RepF.mono s ds r h2⟩
end
theorem Reps.length : ∀ {d : List D} {v : List V}, Reps P w K G d v → v.length = d.length
  | [], v, h => by cases h; rfl
  | d :: ds, v, h => by
    obtain ⟨x, r, e, h1, h2⟩ := h
    subst e
    simp [Reps.length h2]
theorem Reps.get : ∀ {d : List D} {v : List V} {i : Nat} {x : D}, Reps P w K G d v → d[i]? = some x → ∃ y, v[i]? = some y ∧ Rep P w K G x y
  | [], v, i, x, h, e => by simp at e
  | d :: ds, v, 0, x, h, e => by
    obtain ⟨y, r, e', h1, h2⟩ := h
    subst e'
    simp at e
    subst e
    exact ⟨y, rfl, h1⟩
  | d :: ds, v, i + 1, x, h, e => by
    obtain ⟨y, r, e', h1, h2⟩ := h
    subst e'
    simpa using Reps.get h2 (by simpa using e)
theorem Reps.getV : ∀ {d : List D} {v : List V} {i : Nat} {y : V}, Reps P w K G d v → v[i]? = some y → ∃ x, d[i]? = some x ∧ Rep P w K G x y := by
  intro d v i y h e
  have hl := h.length
  have hi : i < d.length := by
    have := (List.getElem?_eq_some_iff.mp e).1
    omega
  obtain ⟨y', e1, r⟩ := h.get (List.getElem?_eq_getElem hi)
  rw [e] at e1
  cases e1
  exact ⟨_, List.getElem?_eq_getElem hi, r⟩
theorem Reps.of : ∀ {d : List D} {v : List V}, v.length = d.length → (∀ (i : Nat) x y, d[i]? = some x → v[i]? = some y → Rep P w K G x y) → Reps P w K G d v
  | [], v, h, _ => by
    show v = []
    exact List.length_eq_zero_iff.mp h
  | d :: ds, v, h, k => by
    cases v with
    | nil => simp at h
    | cons y r => exact ⟨y, r, rfl, k 0 d y rfl rfl, Reps.of (by simpa using h) fun i x z e1 e2 => k (i + 1) x z (by simpa using e1) (by simpa using e2)⟩
theorem Reps.append : ∀ {d e : List D} {v u : List V}, Reps P w K G d v → Reps P w K G e u → Reps P w K G (d ++ e) (v ++ u)
  | [], e, v, u, h, h' => by cases h; exact h'
  | d :: ds, e, v, u, h, h' => by
    obtain ⟨x, r, e', h1, h2⟩ := h
    subst e'
    exact ⟨x, r ++ u, rfl, h1, Reps.append h2 h'⟩
theorem Reps.one {d : D} {v : V} (h : Rep P w K G d v) : Reps P w K G [d] [v] := ⟨v, [], rfl, h, rfl⟩
theorem Reps.take (n : Nat) {d : List D} {v : List V} (h : Reps P w K G d v) : Reps P w K G (d.take n) (v.take n) :=
  Reps.of (by simp [h.length]) fun i x y e1 e2 => by
    rw [List.getElem?_take] at e1 e2
    split at e1
    · rename_i hi
      rw [if_pos hi] at e2
      obtain ⟨y', e3, r⟩ := h.get e1
      rw [e2] at e3; cases e3; exact r
    · cases e1
theorem Reps.drop (n : Nat) {d : List D} {v : List V} (h : Reps P w K G d v) : Reps P w K G (d.drop n) (v.drop n) :=
  Reps.of (by simp [h.length]) fun i x y e1 e2 => by
    rw [List.getElem?_drop] at e1 e2
    obtain ⟨y', e3, r⟩ := h.get e1
    rw [e2] at e3; cases e3; exact r
theorem Reps.set {i : Nat} {x : D} {y : V} {d : List D} {v : List V} (h : Reps P w K G d v) (r : Rep P w K G x y) : Reps P w K G (d.set i x) (v.set i y) :=
  Reps.of (by simp [h.length]) fun j a b e1 e2 => by
    by_cases hj : i = j
    · subst hj
      rw [List.getElem?_set] at e1 e2
      simp only [if_true] at e1 e2
      split at e1
      · cases e1
        split at e2
        · cases e2; exact r
        · cases e2
      · cases e1
    · rw [List.getElem?_set_ne hj] at e1 e2
      obtain ⟨y', e3, r'⟩ := h.get e1
      rw [e2] at e3; cases e3; exact r'
end
end RF
set_option Elab.async false
set_option linter.all false
set_option maxRecDepth 100000
set_option maxHeartbeats 1000000
namespace RF
open PySem PySem.Spec L2
open PyProof.Rows hiding St
section
variable (P : Program) (w : World) (K : PySem.W.Frag)
def Cell (G H : Hp) (a : Addr) : D → Prop
  | .lst ds => ∃ vs, H a = some (.lst vs) ∧ Reps P w K G ds vs
  | .dct kvs => (a == sysModules) = false ∧ ∃ o vs, H a = some (pinO a o) ∧ kvs.length ≤ sizeLine ∧ DictO P w G o (kvs.map (·.1)) vs ∧ RepP P w K G kvs vs
  | _ => False
structure SR (F : Hp) (Pn : List (Nat × Addr)) (O : List Nat) (G : Hp) (ρ : Env) (σ : St) (H : Hp) : Prop where
  sub : Same G H
  frm : ∀ b o, F b = some o → H b = some o ∧ G b = none
  len : ρ.length = σ.length
  val : ∀ i d, lk ρ i = some d → i ∉ O → ∃ v, σ[i]? = some (some v) ∧ Rep P w K G d v
  own : ∀ i ∈ O, ∀ d, lk ρ i = some d → ∃ a, σ[i]? = some (some (.ref a)) ∧ G a = none ∧ F a = none ∧ Cell P w K G H a d ∧ ∀ j ∈ O, j ≠ i → ∀ e, lk ρ j = some e → σ[j]? ≠ some (some (.ref a))
  pin : ∀ p ∈ Pn, p.1 ∈ O ∧ σ[p.1]? = some (some (.ref p.2))
end
structure Grow (G H G' H' : Hp) : Prop where
  g : Same G G'
  sub : Same G' H'
  h : Same H H'
  new : ∀ b o, H b = some o → G b = none → G' b = none
theorem Grow.refl {G H : Hp} (s : Same G H) : Grow G H G H := ⟨Same.refl _, s, Same.refl _, fun _ _ _ n => n⟩
theorem Grow.trans {G H G1 H1 G2 H2 : Hp} (a : Grow G H G1 H1) (b : Grow G1 H1 G2 H2) : Grow G H G2 H2 :=
  ⟨a.g.trans b.g, b.sub, a.h.trans b.h, fun c o h n => b.new c o (a.h _ _ h) (a.new c o h n)⟩
theorem Grow.alloc {G H : Hp} {p : Addr} {o : HO} (s : Same G H) (hp : H p = none) : Grow G H (upd G p o) (upd H p o) := by
  have gp : G p = none := by
    cases e : G p with
    | none => rfl
    | some u => rw [s _ _ e] at hp; cases hp
  refine ⟨fun b u e => ?_, fun b u e => ?_, fun b u e => ?_, fun b u e n => ?_⟩
  · rw [upd_ne (ne_of_none e gp)]; exact e
  · by_cases hb : b = p
    · subst hb; rw [upd_same] at e ⊢; exact e
    · rw [upd_ne hb] at e ⊢; exact s _ _ e
  · rw [upd_ne (ne_of_none e hp)]; exact e
  · rw [upd_ne (ne_of_none e hp)]; exact n
theorem Grow.laid {G H : Hp} {p : Addr} {o : HO} (s : Same G H) (hp : H p = none) : Grow G H G (upd H p o) := by
  have k : Same H (upd H p o) := fun b u e => by rw [upd_ne (ne_of_none e hp)]; exact e
  exact ⟨Same.refl _, s.trans k, k, fun _ _ _ n => n⟩
section
variable {P : Program} {w : World} {K : PySem.W.Frag} {F G G' H H' : Hp} {Pn : List (Nat × Addr)} {O : List Nat} {ρ : Env} {σ : St}
theorem Cell.mono {a : Addr} {d : D} (s : Same G G') (hH : H' a = H a) (c : Cell P w K G H a d) : Cell P w K G' H' a d := by
  cases d with
  | lst ds =>
    obtain ⟨vs, h1, h2⟩ := c
    exact ⟨vs, hH.trans h1, Reps.mono s _ _ h2⟩
  | dct kvs =>
    obtain ⟨hm, o, vs, h1, hl, h2, h3⟩ := c
    exact ⟨hm, o, vs, hH.trans h1, hl, h2.mono s, RepP.mono s _ _ h3⟩
  | _ => exact c
theorem Cell.some {a : Addr} {d : D} (c : Cell P w K G H a d) : ∃ o, H a = some o := by
  cases d with
  | lst ds => obtain ⟨vs, h1, h2⟩ := c; exact ⟨_, h1⟩
  | dct kvs => obtain ⟨hm, o, vs, h1, h2⟩ := c; exact ⟨_, h1⟩
  | _ => exact c.elim
theorem SR.grow (S : SR P w K F Pn O G ρ σ H) (g : Grow G H G' H') : SR P w K F Pn O G' ρ σ H' where
  sub := g.sub
  frm := fun b o e => ⟨g.h _ _ (S.frm b o e).1, g.new b o (S.frm b o e).1 (S.frm b o e).2⟩
  len := S.len
  val := fun i d e hi => by
    obtain ⟨v, h1, h2⟩ := S.val i d e hi
    exact ⟨v, h1, Rep.mono g.g _ _ h2⟩
  own := fun i hi d e => by
    obtain ⟨a, h1, h2, h3, h4, h5⟩ := S.own i hi d e
    obtain ⟨o, ho⟩ := h4.some
    exact ⟨a, h1, g.new a o ho h2, h3, h4.mono g.g ((g.h _ _ ho).trans ho.symm), h5⟩
  pin := S.pin
end
def tD (P : Program) (w : World) (K : PySem.W.Frag) (O : List Nat) (f : FX) : TE := fun σ H Q => ∃ F Pn G ρ d ρ', SR P w K F Pn O G ρ σ H ∧ f ρ = some (d, ρ') ∧
  ∀ v G' H', SR P w K F Pn O G' ρ' σ H' → Same G G' → Rep P w K G' d v → Q v H'
abbrev DX (X : Cx) (O : List Nat) (e : Expr) (f : FX) : Prop := PE X e (tD X.prog X.w X.K O f)
abbrev DE (X : Cx) (O : List Nat) (e : Expr) (f : FE) : Prop := DX X O e (up f)
def tDt (P : Program) (w : World) (K : PySem.W.Frag) (O : List Nat) (f : FTx) : TT := fun σ H Q => ∃ F Pn G ρ d ρ', SR P w K F Pn O G ρ σ H ∧ f ρ = some (d, ρ') ∧
  ∀ G' H', SR P w K F Pn O G' ρ' σ H' → Same G G' → Q d H'
abbrev DTx (X : Cx) (O : List Nat) (e : Expr) (f : FTx) : Prop := PT X e (tDt X.prog X.w X.K O f)
abbrev DT (X : Cx) (O : List Nat) (e : Expr) (f : FT) : Prop := DTx X O e (up f)
def tDa (P : Program) (w : World) (K : PySem.W.Frag) (O : List Nat) (f : FL) : TA := fun σ H Q => ∃ F Pn G ρ ds ρ', SR P w K F Pn O G ρ σ H ∧ f ρ = some (ds, ρ') ∧
  ∀ vs G' H', SR P w K F Pn O G' ρ' σ H' → Same G G' → Reps P w K G' ds vs → Q vs H'
abbrev DA (X : Cx) (O : List Nat) (es : List Expr) (f : FL) : Prop := PA X es (tDa X.prog X.w X.K O f)
theorem PE.imp {X : Cx} {e : Expr} {t t' : TE} (h : PE X e t) (k : ∀ σ H Q, t' σ H Q → t σ H Q) : PE X e t' := ⟨fun pins s σ H Q I q => h.run pins s σ H Q I (k σ H Q q)⟩
theorem PT.imp {X : Cx} {e : Expr} {t t' : TT} (h : PT X e t) (k : ∀ σ H Q, t' σ H Q → t σ H Q) : PT X e t' := ⟨fun pins s σ H Q I q => h.run pins s σ H Q I (k σ H Q q)⟩
theorem PA.imp {X : Cx} {e : List Expr} {t t' : TA} (h : PA X e t) (k : ∀ σ H Q, t' σ H Q → t σ H Q) : PA X e t' := ⟨fun ps pins s σ H Q I q => h.run ps pins s σ H Q I (k σ H Q q)⟩
theorem PS.imp {X : Cx} {e : Stmt} {t t' : TS} (h : PS X e t) (k : ∀ D σ H, t' D σ H → t D σ H) : PS X e t' := ⟨fun pins s σ H D I q => h.run pins s σ H D I (k D σ H q)⟩
theorem PSs.imp {X : Cx} {e : List Stmt} {t t' : TS} (h : PSs X e t) (k : ∀ D σ H, t' D σ H → t D σ H) : PSs X e t' := ⟨fun pins s σ H D I q => h.run pins s σ H D I (k D σ H q)⟩
theorem DX.congr {X : Cx} {O : List Nat} {e : Expr} {f g : FX} (h : DX X O e f) (k : f = g) : DX X O e g := k ▸ h
theorem DTx.congr {X : Cx} {O : List Nat} {e : Expr} {f g : FTx} (h : DTx X O e f) (k : f = g) : DTx X O e g := k ▸ h
section
variable (P : Program) (w : World) (K : PySem.W.Frag)
def rD2 (op : D → D → Option D) : R2 := fun x y H Q => ∃ G d e z, Same G H ∧ Rep P w K G d x ∧ Rep P w K G e y ∧ op d e = some z ∧ ∀ v G' H', Grow G H G' H' → Rep P w K G' z v → Q v H'
def rD1 (op : D → Option D) : V → Hp → VK → Prop := fun x H Q => ∃ G d z, Same G H ∧ Rep P w K G d x ∧ op d = some z ∧ ∀ v G' H', Grow G H G' H' → Rep P w K G' z v → Q v H'
def rDc (op : List D → Option D) : List V → Hp → VK → Prop := fun xs H Q => ∃ G ds z, Same G H ∧ Reps P w K G ds xs ∧ op ds = some z ∧ ∀ v G' H', Grow G H G' H' → Rep P w K G' z v → Q v H'
end
section
variable {X : Cx} {O : List Nat} {a b c : Expr} {fa fb : FX} {pos : Pos}
theorem bindE {α β : Type} {o : Option α} {f : α → Option β} {z : β} (h : o.bind f = some z) : ∃ x, o = some x ∧ f x = some z := by
  cases o with
  | none => cases h
  | some x => exact ⟨x, rfl, h⟩
theorem mapE {α β : Type} {o : Option α} {f : α → β} {z : β} (h : o.map f = some z) : ∃ x, o = some x ∧ f x = z := by
  cases o with
  | none => cases h
  | some x => exact ⟨x, rfl, Option.some.inj h⟩
theorem dx_op {op : Operator} {f : D → D → Option D} (ho : OpR X (binaryOp op) (rD2 X.prog X.w X.K f)) (ha : DX X O a fa) (hb : DX X O b fb) : DX X O (.BinOp a op b pos) (o2 f fa fb) := by
  refine PE.imp (pe_op ho ha hb) fun σ H Q ⟨F, Pn, G, ρ, d, ρ', S, e, k⟩ => ?_
  obtain ⟨⟨x, ρ1⟩, e1, e⟩ := bindE e
  obtain ⟨⟨y, ρ2⟩, e2, e⟩ := bindE e
  obtain ⟨z, e3, e⟩ := mapE e
  cases e
  refine ⟨F, Pn, G, ρ, x, ρ1, S, e1, fun v G1 H1 S1 s1 r1 => ⟨F, Pn, G1, ρ1, y, ρ2, S1, e2, fun u G2 H2 S2 s2 r2 => ⟨G2, x, y, _, S2.sub, Rep.mono s2 _ _ r1, r2, e3, fun v' G' H' g r => ?_⟩⟩⟩
  exact k v' G' H' (S2.grow g) (s1.trans (s2.trans g.g)) r
theorem dx_cmp {op : CmpOp} {f : D → D → Option D} (ho : OpR X (compareOp op) (rD2 X.prog X.w X.K f)) (ha : DX X O a fa) (hb : DX X O b fb) (hm : behindInMarks op b = false) : DX X O (.Compare a [op] [b] pos) (o2 f fa fb) := by
  refine PE.imp (pe_cmpR ho ha hb hm) fun σ H Q ⟨F, Pn, G, ρ, d, ρ', S, e, k⟩ => ?_
  obtain ⟨⟨x, ρ1⟩, e1, e⟩ := bindE e
  obtain ⟨⟨y, ρ2⟩, e2, e⟩ := bindE e
  obtain ⟨z, e3, e⟩ := mapE e
  cases e
  refine ⟨F, Pn, G, ρ, x, ρ1, S, e1, fun v G1 H1 S1 s1 r1 => ⟨F, Pn, G1, ρ1, y, ρ2, S1, e2, fun u G2 H2 S2 s2 r2 => ⟨G2, x, y, _, S2.sub, Rep.mono s2 _ _ r1, r2, e3, fun v' G' H' g r => ?_⟩⟩⟩
  exact k v' G' H' (S2.grow g) (s1.trans (s2.trans g.g)) r
theorem dx_ix {f : D → D → Option D} (ho : IxR X (rD2 X.prog X.w X.K f)) (ha : DX X O a fa) (hb : DX X O b fb) (hs : PlainIx b) : DX X O (.Subscript a b pos) (o2 f fa fb) := by
  refine PE.imp (pe_ix ho ha hb hs) fun σ H Q ⟨F, Pn, G, ρ, d, ρ', S, e, k⟩ => ?_
  obtain ⟨⟨x, ρ1⟩, e1, e⟩ := bindE e
  obtain ⟨⟨y, ρ2⟩, e2, e⟩ := bindE e
  obtain ⟨z, e3, e⟩ := mapE e
  cases e
  refine ⟨F, Pn, G, ρ, x, ρ1, S, e1, fun v G1 H1 S1 s1 r1 => ⟨F, Pn, G1, ρ1, y, ρ2, S1, e2, fun u G2 H2 S2 s2 r2 => ⟨G2, x, y, _, S2.sub, Rep.mono s2 _ _ r1, r2, e3, fun v' G' H' g r => ?_⟩⟩⟩
  exact k v' G' H' (S2.grow g) (s1.trans (s2.trans g.g)) r
theorem dx_un {op : UnaryOp} {f : D → Option D} (ho : UnR X (unaryOp op) (rD1 X.prog X.w X.K f)) (ha : DX X O a fa) : DX X O (.UnaryOp op a pos) (o1 f fa) := by
  refine PE.imp (pe_un ho ha) fun σ H Q ⟨F, Pn, G, ρ, d, ρ', S, e, k⟩ => ?_
  obtain ⟨⟨x, ρ1⟩, e1, e⟩ := bindE e
  obtain ⟨z, e3, e⟩ := mapE e
  cases e
  refine ⟨F, Pn, G, ρ, x, ρ1, S, e1, fun v G1 H1 S1 s1 r1 => ⟨G1, x, _, S1.sub, r1, e3, fun v' G' H' g r => ?_⟩⟩
  exact k v' G' H' (S1.grow g) (s1.trans g.g) r
theorem dx_var {i : Nat} {x : Str} (hN : X.N[i]? = some x) (hv : Vis X.env.scope x) (hO : i ∉ O) (hd : (x == ("__debug__" : Str)) = false := by decide) (hcd : (x == ("__classdict__" : Str)) = false := by decide) : DE X O (.Name x pos) (vr i) := by
  refine PE.imp (pe_var hN hv hd hcd) fun σ H Q ⟨F, Pn, G, ρ, d, ρ', S, e, k⟩ => ?_
  obtain ⟨z, e3, e⟩ := mapE e
  cases e
  obtain ⟨v, h1, h2⟩ := S.val i _ e3 hO
  exact ⟨v, h1, k v G H S (Same.refl _) h2⟩
theorem dx_int {i j} : DE X O (.Constant (.int i) j pos) (cn (.int i)) := PE.imp pe_int fun σ H Q ⟨F, Pn, G, ρ, d, ρ', S, e, k⟩ => by
  cases e; exact k _ G H S (Same.refl _) rfl
theorem dx_bl {i j} : DE X O (.Constant (.bool i) j pos) (cn (.bl i)) := PE.imp pe_bl fun σ H Q ⟨F, Pn, G, ρ, d, ρ', S, e, k⟩ => by
  cases e; exact k _ G H S (Same.refl _) rfl
theorem dx_non {j} : DE X O (.Constant .none j pos) (cn .non) := PE.imp pe_non fun σ H Q ⟨F, Pn, G, ρ, d, ρ', S, e, k⟩ => by
  cases e; exact k _ G H S (Same.refl _) rfl
theorem dx_str {i j} : DE X O (.Constant (.str i) j pos) (cn (.str i)) := PE.imp pe_str fun σ H Q ⟨F, Pn, G, ρ, d, ρ', S, e, k⟩ => by
  cases e; exact k _ G H S (Same.refl _) rfl
end
end RF
set_option Elab.async false
set_option linter.all false
set_option maxRecDepth 100000
set_option maxHeartbeats 2000000
namespace RF
open PySem PySem.Spec L2
open PyProof.Rows hiding St
section
variable {X : Cx} {pins : List (Addr × Obj)} {σ : St} {H G G' : Hp} {s : Shared} {a : Addr} {xs ys : List V}
theorem rdl (I : Inv X pins σ H s) (h : H a = some (.lst xs)) : ∃ (its : List Value) (n : Nat), Vals xs its ∧ s.heap.get? a = some { cls := .type "list", data := .seq its.toArray n } ∧ xs.length ≤ sizeLine := by
  obtain ⟨z, its, n, r, e⟩ := I.hok a _ h
  exact ⟨its, n, r, e, z⟩
theorem rdt (I : Inv X pins σ H s) (h : H a = some (.tup xs)) : ∃ (its : List Value), Vals xs its ∧ IsTup s.heap a its.toArray ∧ xs.length ≤ sizeLine := by
  obtain ⟨z, its, r, e⟩ := I.hok a _ h
  exact ⟨its, r, e, z⟩
theorem isl {its : List Value} {n : Nat} (e : s.heap.get? a = some { cls := .type "list", data := .seq its.toArray n }) : s.heap.IsList a its.toArray := ⟨_, e, rfl, n, rfl⟩
theorem rdp (I : Inv X pins σ H s) {o : Obj} (h : H a = some (pinO a o)) : s.heap.get? a = some o := (I.hok a _ h).1
end
theorem ifE {α : Type} {c : Prop} [Decidable c] {a z : α} (h : (if c then some a else none) = some z) : c ∧ a = z := by
  by_cases hc : c
  · rw [if_pos hc] at h; exact ⟨hc, Option.some.inj h⟩
  · rw [if_neg hc] at h; cases h
section
variable {X : Cx}
abbrev RO (X : Cx) := rD2 X.prog X.w X.K
theorem op_subD : OpR X (binaryOp .Sub) (RO X D.sub) := by
  intro pins s σ H x y v u Q I rx ry ⟨G, d, e, z, sub, hd, he, hz, k⟩
  cases d <;> cases e <;> (try (cases hz))
  exact op_sub pins s σ H x y v u Q I rx ry ⟨_, _, hd, he, k _ G H (Grow.refl sub) rfl⟩
theorem lineOk_iff {n : Nat} : lineOk n = true ↔ n ≤ sizeLine := by unfold lineOk; exact decide_eq_true_iff
theorem op_addD : OpR X (binaryOp .Add) (RO X D.add) := by
  intro pins s σ H x y v u Q I rx ry ⟨G, d, e, z, sub, hd, he, hz, k⟩
  cases d <;> cases e <;> (try (cases hz; done))
  · cases hz
    exact op_add pins s σ H x y v u Q I rx ry ⟨_, _, hd, he, k _ G H (Grow.refl sub) rfl⟩
  · rename_i p q
    obtain ⟨hl, rfl⟩ := ifE hz
    exact op_add_str pins s σ H x y v u Q I rx ry ⟨p, q, hd, he, lineOk_iff.mp hl, k _ G H (Grow.refl sub) rfl⟩
  · rename_i p q
    obtain ⟨hl, rfl⟩ := ifE hz
    obtain ⟨a, xs, rfl, r1, q1⟩ := hd
    obtain ⟨b, ys, rfl, r2, q2⟩ := he
    have l1 := q1.length
    have l2 := q2.length
    have hh : p.length + q.length ≤ sizeLine := lineOk_iff.mp hl
    exact op_cat pins s σ H _ _ v u Q I rx ry ⟨a, b, xs, ys, rfl, rfl, sub _ _ r1, sub _ _ r2, by omega, fun c hc =>
      k _ _ _ (Grow.alloc sub hc) ⟨c, xs ++ ys, rfl, upd_same, Reps.mono (Grow.alloc sub hc).g _ _ (q1.append q2)⟩⟩
  · rename_i p q
    obtain ⟨hl, rfl⟩ := ifE hz
    obtain ⟨hl1, hl2⟩ := Bool.and_eq_true_iff.mp hl
    obtain ⟨a, xs, rfl, r1, q1⟩ := hd
    obtain ⟨b, ys, rfl, r2, q2⟩ := he
    have l1 := q1.length
    have l2 := q2.length
    have hh : p.length + q.length ≤ sizeLine := lineOk_iff.mp hl1
    refine op_catT pins s σ H _ _ v u Q I rx ry ⟨a, b, xs, ys, rfl, rfl, SqT.of (sub _ _ r1), SqT.of (sub _ _ r2), ?_, by omega, fun hy => ?_, fun hy c hc => ?_⟩
    · intro e
      subst e
      cases p with
      | nil => cases hl2
      | cons _ _ => cases l1
    · subst hy
      have : q = [] := List.length_eq_zero_iff.mp (by rw [← l2]; rfl)
      subst this
      exact k _ G H (Grow.refl sub) ⟨a, xs, rfl, r1, by simpa using q1⟩
    · exact k _ _ _ (Grow.alloc sub hc) ⟨c, xs ++ ys, rfl, upd_same, Reps.mono (Grow.alloc sub hc).g _ _ (q1.append q2)⟩
theorem small64_iff {i : Int} : small64 i = true ↔ (-(2 ^ 64) < i ∧ i < 2 ^ 64) := by
  unfold small64; rw [Bool.and_eq_true_iff, decide_eq_true_iff, decide_eq_true_iff]
theorem op_mulD : OpR X (binaryOp .Mult) (RO X D.mul) := by
  intro pins s σ H x y v u Q I rx ry ⟨G, d, e, z, sub, hd, he, hz, k⟩
  cases d <;> cases e <;> (try (cases hz; done))
  · rename_i i j
    obtain ⟨hl, rfl⟩ := ifE hz
    refine op_mul pins s σ H x y v u Q I rx ry ⟨i, j, hd, he, ?_, k _ G H (Grow.refl sub) rfl⟩
    rcases (Bool.or_eq_true _ _).mp hl with h | h
    · exact .inl (small64_iff.mp h)
    · exact .inr (small64_iff.mp h)
  · rename_i p j
    obtain ⟨hl, rfl⟩ := ifE hz
    obtain ⟨a, xs, rfl, r1, q1⟩ := hd
    have he' : y = .int j := he
    subst he'
    have hl' : ((decide (-(2 ^ 63) ≤ j) && decide (j < 2 ^ 63)) && lineOk (p.length * j.toNat)) = true := hl
    rw [Bool.and_eq_true_iff, Bool.and_eq_true_iff, decide_eq_true_iff, decide_eq_true_iff, lineOk_iff] at hl'
    obtain ⟨⟨h1, h2⟩, h3⟩ := hl'
    have key : ∀ (n : Nat), Reps X.prog X.w X.K G (List.replicate n p).flatten (List.replicate n xs).flatten := by
      intro n
      induction n with
      | zero => exact rfl
      | succ n ih =>
        rw [List.replicate_succ, List.replicate_succ, List.flatten_cons, List.flatten_cons]
        exact q1.append ih
    exact op_rep pins s σ H _ _ v u Q I rx ry ⟨a, j, xs, rfl, rfl, sub _ _ r1, h1, h2, by rw [q1.length]; exact h3, fun c hc =>
      k _ _ _ (Grow.alloc sub hc) ⟨c, _, rfl, upd_same, Reps.mono (Grow.alloc sub hc).g _ _ (key _)⟩⟩
theorem op_modD : OpR X (binaryOp .Mod) (RO X D.mod) := by
  intro pins s σ H x y v u Q I rx ry ⟨G, d, e, z, sub, hd, he, hz, k⟩
  cases d <;> cases e <;> (try (cases hz; done))
  obtain ⟨hl, rfl⟩ := ifE hz
  exact op_mod pins s σ H x y v u Q I rx ry ⟨_, _, hd, he, hl, k _ G H (Grow.refl sub) rfl⟩
theorem op_fdivD : OpR X (binaryOp .FloorDiv) (RO X D.fdiv) := by
  intro pins s σ H x y v u Q I rx ry ⟨G, d, e, z, sub, hd, he, hz, k⟩
  cases d <;> cases e <;> (try (cases hz; done))
  obtain ⟨hl, rfl⟩ := ifE hz
  exact op_fdivW pins s σ H x y v u Q I rx ry ⟨_, _, hd, he, hl, k _ G H (Grow.refl sub) rfl⟩
theorem op_cmpI {op : CmpOp} {f : Int → Int → Bool} (ho : OpR X (compareOp op) (rI0 fun i j => .bl (f i j))) : OpR X (compareOp op) (RO X (D.cmp f)) := by
  intro pins s σ H x y v u Q I rx ry ⟨G, d, e, z, sub, hd, he, hz, k⟩
  cases d <;> cases e <;> (try (cases hz; done))
  cases hz
  exact ho pins s σ H x y v u Q I rx ry ⟨_, _, hd, he, k _ G H (Grow.refl sub) rfl⟩
theorem op_ltD : OpR X (compareOp .Lt) (RO X D.lt) := op_cmpI op_lt
theorem op_leD : OpR X (compareOp .LtE) (RO X D.le) := op_cmpI op_le
theorem op_gtD : OpR X (compareOp .Gt) (RO X D.gt) := op_cmpI op_gt
theorem un_negD : UnR X (unaryOp .USub) (rD1 X.prog X.w X.K D.neg) := by
  intro pins s σ H x v Q I rx ⟨G, d, z, sub, hd, hz, k⟩
  cases d <;> (try (cases hz; done))
  cases hz
  exact un_neg pins s σ H x v Q I rx ⟨_, hd, k _ G H (Grow.refl sub) rfl⟩
theorem rep_non {P : Program} {w : World} {K : PySem.W.Frag} {G : Hp} {d : D} {x : V} (h : Rep P w K G d x) : decide (x = .non) = d.isNone := by
  cases d with
  | non => cases h; simp [D.isNone]
  | bl b => cases h; simp [D.isNone]
  | int b => cases h; simp [D.isNone]
  | str b => cases h; simp [D.isNone]
  | lst l => obtain ⟨a, vs, rfl, _⟩ := h; simp [D.isNone]
  | tup l => obtain ⟨a, vs, rfl, _⟩ := h; simp [D.isNone]
  | dct l => obtain ⟨a, o, vs, rfl, _⟩ := h; simp [D.isNone]
  | ins c l => obtain ⟨a, dx, vs, rfl, _⟩ := h; simp [D.isNone]
  | scr l => obtain ⟨a, rfl, _⟩ := h; simp [D.isNone]
  | mk B a l => obtain ⟨rfl, _⟩ := h; simp [D.isNone]
section
variable {pins : List (Addr × Obj)} {σ : St} {H G : Hp} {s : Shared}
theorem allO_get : ∀ {l : List (Option Bool)} {b : Bool}, allO l = some b → ∀ {i : Nat} {x : Option Bool}, l[i]? = some x → ∃ c, x = some c
  | [], _, _, i, x, e => by simp at e
  | y :: r, b, h, 0, x, e => by
    simp at e; subst e
    unfold allO at h
    obtain ⟨c, e1, _⟩ := bindE h
    exact ⟨c, e1⟩
  | y :: r, b, h, i + 1, x, e => by
    unfold allO at h
    obtain ⟨c, e1, h2⟩ := bindE h
    obtain ⟨c2, e2, _⟩ := mapE h2
    exact allO_get e2 (by simpa using e)
theorem allO_all : ∀ {l : List (Option Bool)} {b : Bool}, allO l = some b → b = l.all (fun x => x.getD false)
  | [], _, h => by cases h; rfl
  | y :: r, b, h => by
    unfold allO at h
    obtain ⟨c, e1, h2⟩ := bindE h
    obtain ⟨c2, e2, e3⟩ := mapE h2
    rw [List.all_cons, ← allO_all e2, e1]
    exact e3.symm
theorem all_range_get {l : List Bool} : (List.range l.length).all (fun i => l.getD i false) = l.all id := by
  rw [Bool.eq_iff_iff, List.all_eq_true, List.all_eq_true]
  constructor
  · intro h x hx
    obtain ⟨i, hi, e⟩ := List.mem_iff_getElem.mp hx
    have := h i (List.mem_range.mpr hi)
    rw [List.getD_eq_getElem?_getD, List.getElem?_eq_getElem hi] at this
    rw [← e]
    simpa using this
  · intro h i hi
    have hi' := List.mem_range.mp hi
    rw [List.getD_eq_getElem?_getD, List.getElem?_eq_getElem hi']
    simpa using h _ (List.getElem_mem hi')
theorem leafOf_some {k : D} (h : leafKey k = true) : ∃ l, leafOf k = some l := by
  cases k <;> first | exact ⟨_, rfl⟩ | cases h
theorem leafOf_inj {k k' : D} {l : Leaf} (h : leafOf k = some l) (h' : leafOf k' = some l) : k = k' := by
  cases k <;> cases k' <;> first | rfl | (simp [leafOf] at h h'; done) | (simp [leafOf] at h h'; subst h; first | (cases h'; rfl) | simp_all)
theorem leafOf_rel {P : Program} {w : World} {K : PySem.W.Frag} {k : D} {l : Leaf} {x : V} {u : Value} (h : leafOf k = some l) (hd : Rep P w K G k x) (r : RelV x u) : (leafK0 P w).is l u = true := by
  cases k with
  | non => cases h; cases hd; cases r; rfl
  | int i => cases h; cases hd; obtain ⟨t, rfl⟩ := r; show (decide (i = i) && true) = true; simp
  | str z => cases h; cases hd; obtain ⟨t, rfl⟩ := r; show (Value.isStrOf z (.str z t) && true) = true; simp [Value.isStrOf]
  | _ => cases h
theorem leaf_val {P : Program} {w : World} {K : PySem.W.Frag} {G : Hp} : ∀ {kvs : List (D × D)} {us : List (Leaf × Value)} {vs : List V}, (kvs.map (·.1)).map leafOf = us.map (fun u => some u.1) → Vals vs (us.map (·.2)) → RepP P w K G kvs vs →
    ∀ {k : D} {l : Leaf}, leafOf k = some l → (getK kvs k = none ∧ valueAt us l = none) ∨ ∃ d v u, getK kvs k = some d ∧ valueAt us l = some u ∧ RelV v u ∧ Rep P w K G d v
  | [], us, vs, h1, h2, h3, k, l, hk => by
    cases us with
    | nil => exact .inl ⟨rfl, rfl⟩
    | cons _ _ => simp at h1
  | (a, d) :: r, us, vs, h1, h2, h3, k, l, hk => by
    cases us with
    | nil => simp at h1
    | cons q us =>
      obtain ⟨q1, q2⟩ := q
      obtain ⟨v, vr, e, h3a, h3b⟩ := h3
      subst e
      cases h2 with
      | cons r1 r2 =>
        simp only [List.map_cons, List.cons.injEq] at h1
        obtain ⟨h1a, h1b⟩ := h1
        by_cases hak : a = k
        · subst hak
          rw [hk] at h1a
          cases h1a
          exact .inr ⟨d, v, q2, by unfold getK; rw [if_pos rfl], by unfold valueAt; simp, r1, h3a⟩
        · have hne : ¬ q1 = l := fun z => hak (leafOf_inj (h1a.trans (by rw [z])) hk)
          have := leaf_val (by simpa using h1b) r2 h3b hk
          have e1 : getK ((a, d) :: r) k = getK r k := by
            show (if a = k then some d else getK r k) = _
            rw [if_neg hak]
          have e2 : valueAt ((q1, q2) :: us) l = valueAt us l := by unfold valueAt; simp [hne]
          rw [e1, e2]
          exact this
theorem leaf_of_nest {P : Program} {w : World} {K : PySem.W.Frag} {G : Hp} {o : Obj} {kvs : List (D × D)} {vs : List V} (h : DictO P w G o (kvs.map (·.1)) vs) (hk : kvs.all (fun p => leafKey p.1) = true) :
    ∃ us : List (Leaf × Value), o.IsDictOf (leafK0 P w) us ∧ (kvs.map (·.1)).map leafOf = us.map (fun u => some u.1) ∧ Vals vs (us.map (·.2)) := by
  rcases h with h | ⟨xs, ⟨h1, ⟨es, ep, h2, h3⟩, _⟩, h4, h5, h6⟩
  · exact h
  · cases kvs with
    | nil =>
      have : xs = [] := by
        cases xs with
        | nil => rfl
        | cons _ _ => simp at h4
      subst this
      refine ⟨[], ⟨es, ep, h1, h2, ?_, ?_, List.nodup_nil⟩, rfl, h5⟩
      · intro e he
        have h3' : es = #[] := by
          apply Array.toList_inj.mp
          rw [h3]; rfl
        subst h3'
        simp at he
      · rw [h3]; exact .nil
    | cons p r =>
      have hp := List.all_eq_true.mp hk p List.mem_cons_self
      cases xs with
      | nil => simp at h4
      | cons x xs =>
        simp only [List.map_cons, List.cons.injEq] at h4
        obtain ⟨a, b⟩ := p
        have h4' := h4.1
        cases a <;> first | (simp [nestOf] at h4'; done) | (cases hp; done)
theorem pairs_inj {P : Program} {w : World} {K : Type} [DecidableEq K] {knd : PySem.KeyKind P w K} : ∀ {es : List DictEntry} {us us' : List (K × Value)}, Pairs knd es us → Pairs knd es us' → us = us'
  | [], _, _, .nil, .nil => rfl
  | e :: es, _, _, .cons h1 h2 h3, .cons g1 g2 g3 => by
    rename_i kv kvs kv' kvs'
    have e1 : kv.1 = kv'.1 := knd.inj _ _ _ h1 g1
    have e2 : kv.2 = kv'.2 := h2.symm.trans g2
    rw [pairs_inj h3 g3]
    obtain ⟨a, b⟩ := kv
    obtain ⟨c, d⟩ := kv'
    cases e1; cases e2; rfl
theorem isDict_inj {P : Program} {w : World} {K : Type} [DecidableEq K] {knd : PySem.KeyKind P w K} {o : Obj} {us us' : List (K × Value)} (h : o.IsDictOf knd us) (h' : o.IsDictOf knd us') : us = us' := by
  obtain ⟨es, ep, _, e, _, p, _⟩ := h
  obtain ⟨es', ep', _, e', _, p', _⟩ := h'
  rw [e] at e'
  cases e'
  exact pairs_inj p p'
theorem rd_inj {a : Addr} {xs ys : List V} (h1 : G a = some (.lst xs)) (h2 : G a = some (.lst ys)) : xs = ys := by
  rw [h1] at h2; cases h2; rfl
theorem rd_injT {a : Addr} {xs ys : List V} (h1 : G a = some (.tup xs)) (h2 : G a = some (.tup ys)) : xs = ys := by
  rw [h1] at h2; cases h2; rfl
theorem pin_inj {a : Addr} {o o' : Obj} {P : Program} {w : World} {h : Heap} (k : HOk P w H h) (h1 : H a = some (pinO a o)) (h2 : H a = some (pinO a o')) : o = o' := by
  have e1 := (k a _ h1).1
  have e2 := (k a _ h2).1
  exact Option.some.inj ((show h.get? a = some o from e1).symm.trans e2)
theorem leaf_nodup {ks : List D} {us : List (Leaf × Value)} (h : ks.map leafOf = us.map (fun u => some u.1)) (nd : (us.map (·.1)).Nodup) : ks.Nodup := by
  have h1 : (ks.map leafOf).Pairwise (· ≠ ·) := by
    rw [h]
    refine List.pairwise_map.mpr ?_
    exact (List.pairwise_map.mp nd).imp fun hne z => hne (Option.some.inj z)
  exact (List.pairwise_map.mp h1).imp fun hne z => hne (by rw [z])
theorem getK_idx : ∀ {l : List (D × D)} {i : Nat} {k v : D}, (l.map (·.1)).Nodup → l[i]? = some (k, v) → getK l k = some v
  | [], i, k, v, _, e => by simp at e
  | (a, b) :: r, 0, k, v, _, e => by
    simp at e
    obtain ⟨rfl, rfl⟩ := e
    show (if a = a then some b else getK r a) = some b
    rw [if_pos rfl]
  | (a, b) :: r, i + 1, k, v, nd, e => by
    have e' : r[i]? = some (k, v) := by simpa using e
    rw [List.map_cons, List.nodup_cons] at nd
    have hne : ¬ a = k := fun z => nd.1 (by
      rw [z]
      exact List.mem_map.mpr ⟨(k, v), List.mem_of_getElem? e', rfl⟩)
    show (if a = k then some b else getK r k) = some v
    rw [if_neg hne]
    exact getK_idx nd.2 e'
theorem RepP.get : ∀ {P : Program} {w : World} {K : PySem.W.Frag} {G : Hp} {d : List (D × D)} {v : List V} {i : Nat} {k x : D}, RepP P w K G d v → d[i]? = some (k, x) → ∃ y, v[i]? = some y ∧ Rep P w K G x y
  | _, _, _, _, [], v, i, k, x, h, e => by simp at e
  | _, _, _, _, (a, b) :: ds, v, 0, k, x, h, e => by
    obtain ⟨y, r, e', h1, h2⟩ := h
    subst e'
    simp at e
    obtain ⟨rfl, rfl⟩ := e
    exact ⟨y, rfl, h1⟩
  | _, _, _, _, (a, b) :: ds, v, i + 1, k, x, h, e => by
    obtain ⟨y, r, e', h1, h2⟩ := h
    subst e'
    simpa using RepP.get h2 (by simpa using e)
theorem allO_true : ∀ {l : List (Option Bool)} {b : Bool}, allO l = some b → (∀ c, some c ∈ l → c = true) → b = true
  | [], b, h, _ => by cases h; rfl
  | y :: r, b, h, k => by
    unfold allO at h
    obtain ⟨c, e1, h2⟩ := bindE h
    obtain ⟨c2, e2, e3⟩ := mapE h2
    rw [← e3, k c (by rw [e1]; exact List.mem_cons_self), allO_true e2 fun c hc => k c (List.mem_cons_of_mem _ hc)]
    rfl
theorem sameTrue (I : L2.Inv X pins σ H s) (sub : Same G H) : ∀ (n : Nat) (d e : D) (x : V) (b : Bool), Rep X.prog X.w X.K G d x → Rep X.prog X.w X.K G e x → eqO n d e = some b → b = true := by
  have all : ∀ (n : Nat), (∀ (d e : D) (x : V) (b : Bool), Rep X.prog X.w X.K G d x → Rep X.prog X.w X.K G e x → eqO n d e = some b → b = true) →
      ∀ (ds es : List D) (vs : List V) (b : Bool), Reps X.prog X.w X.K G ds vs → Reps X.prog X.w X.K G es vs → allO (List.zipWith (eqO n) ds es) = some b → b = true := by
    intro n ih ds
    induction ds with
    | nil => intro es vs b q1 q2 h; cases h; rfl
    | cons d ds k =>
      intro es vs b q1 q2 h
      obtain ⟨v, r, rfl, a1, a2⟩ := q1
      cases es with
      | nil => cases h; rfl
      | cons e es =>
        obtain ⟨v', r', e', b1, b2⟩ := q2
        cases e'
        obtain ⟨c, e1, h2⟩ := bindE (show (eqO n d e).bind (fun b => (allO (List.zipWith (eqO n) ds es)).map fun c => b && c) = some b from h)
        obtain ⟨c2, e2, e3⟩ := mapE h2
        rw [← e3, ih _ _ _ _ a1 b1 e1, k _ _ _ a2 b2 e2]
        rfl
  have base : ∀ (d e : D) (x : V) (b : Bool), Rep X.prog X.w X.K G d x → Rep X.prog X.w X.K G e x → eqO 0 d e = some b → b = true := by
    intro d e x b rd re h
    cases d <;> cases e <;> first | (cases h; done) | skip
    all_goals first
      | (cases h; cases rd; cases re <;> first | rfl | (simp [flatEq]; done))
      | (cases h; cases rd; obtain ⟨_, _, z, _⟩ := re; cases z; done)
      | (cases h; cases re; obtain ⟨_, _, z, _⟩ := rd; cases z; done)
      | skip
    · cases h
      obtain ⟨a, vs, rfl, r, q⟩ := rd
      obtain ⟨a2, vs2, z, r2, q2⟩ := re
      cases z
      rw [r] at r2; cases r2
    · cases h
      obtain ⟨a, vs, rfl, r, q⟩ := rd
      obtain ⟨a2, vs2, z, r2, q2⟩ := re
      cases z
      rw [r] at r2; cases r2
  intro n
  induction n with
  | zero => exact base
  | succ n ih =>
    intro d e x b rd re h
    by_cases hc : eqO 0 d e = some b
    · exact base d e x b rd re hc
    cases d with
    | lst ds =>
      cases e with
      | lst es =>
        obtain ⟨a, vs, rfl, r1, q1⟩ := rd
        obtain ⟨a2, vs2, z, r2, q2⟩ := re
        cases z
        cases rd_inj r1 r2
        have h' : (if ds.length = es.length then allO (List.zipWith (eqO n) ds es) else some false) = some b := h
        rw [if_pos (q1.length.symm.trans q2.length)] at h'
        exact all n ih ds es vs b q1 q2 h'
      | _ => exact absurd h hc
    | tup ds =>
      cases e with
      | tup es =>
        obtain ⟨a, vs, rfl, r1, q1⟩ := rd
        obtain ⟨a2, vs2, z, r2, q2⟩ := re
        cases z
        cases rd_injT r1 r2
        obtain ⟨c, e1, e2⟩ := mapE (show (allO (List.zipWith (eqO n) ds es)).map (fun c => c && ds.length == es.length) = some b from h)
        rw [← e2, all n ih ds es vs c q1 q2 e1, q1.length.symm.trans q2.length]
        simp
      | _ => exact absurd h hc
    | dct ds =>
      cases e with
      | dct es =>
        obtain ⟨a, o, vs, rfl, hm, r1, hl1, d1, q1⟩ := rd
        obtain ⟨a2, o2, vs2, z, hm2, r2, hl2, d2, q2⟩ := re
        cases z
        have eo : o = o2 := pin_inj I.hok (sub _ _ r1) (sub _ _ r2)
        subst eo
        have h' : (if (ds.all fun p => leafKey p.1) && (es.all fun p => leafKey p.1) then (allO (ds.map fun p => match getK es p.1 with | some u => eqO n p.2 u | none => some false)).map (fun c => ds.length == es.length && c) else none) = some b := h
        split at h'
        · rename_i hk
          obtain ⟨k1, k2⟩ := Bool.and_eq_true_iff.mp hk
          obtain ⟨us, i1, w1, v1⟩ := leaf_of_nest (K := X.K) d1 k1
          obtain ⟨us', i2, w2, v2⟩ := leaf_of_nest (K := X.K) d2 k2
          cases isDict_inj i1 i2
          have lk : ∀ (ks ks' : List D), ks.map leafOf = us.map (fun u => some u.1) → ks'.map leafOf = us.map (fun u => some u.1) → ks = ks' := by
            intro ks ks' e1 e2
            apply List.ext_getElem?
            intro i
            have f1 := congrArg (fun l => l[i]?) e1
            have f2 := congrArg (fun l => l[i]?) e2
            simp only [List.getElem?_map] at f1 f2
            cases hu : us[i]? with
            | none =>
              rw [hu] at f1 f2
              rw [Option.map_eq_none_iff.mp f1, Option.map_eq_none_iff.mp f2]
            | some q =>
              rw [hu] at f1 f2
              obtain ⟨a1, b1, c1⟩ := Option.map_eq_some_iff.mp f1
              obtain ⟨a2, b2, c2⟩ := Option.map_eq_some_iff.mp f2
              rw [b1, b2, leafOf_inj c1 c2]
          have ekeys : (ds.map (·.1)) = es.map (·.1) := lk _ _ w1 w2
          have evs : vs = vs2 := Vals.inj v1 v2
          subst evs
          have hlen : ds.length = es.length := by
            have := congrArg List.length ekeys
            simpa using this
          obtain ⟨c0, h', e0⟩ := mapE h'
          rw [hlen] at e0
          rw [← e0]
          simp only [beq_self_eq_true, Bool.true_and]
          have nd : (es.map (·.1)).Nodup := by
            obtain ⟨_, _, _, _, _, _, nd⟩ := i2
            exact leaf_nodup w2 nd
          refine allO_true h' fun c hc => ?_
          obtain ⟨p, hp, e1⟩ := List.mem_map.mp hc
          obtain ⟨i, hi⟩ := List.mem_iff_getElem?.mp hp
          obtain ⟨k, x⟩ := p
          have hk' : (es.map (·.1))[i]? = some k := by rw [← ekeys, List.getElem?_map, hi]; rfl
          rw [List.getElem?_map] at hk'
          obtain ⟨⟨k2, y⟩, hy, ek⟩ := Option.map_eq_some_iff.mp hk'
          cases ek
          have hg := getK_idx nd hy
          simp only [hg] at e1
          obtain ⟨z1, hz1, rz1⟩ := q1.get hi
          obtain ⟨z2, hz2, rz2⟩ := q2.get hy
          rw [hz1] at hz2
          cases hz2
          exact ih _ _ _ _ rz1 rz2 e1
        · cases h'
      | non => cases h
      | bl _ => cases h
      | int _ => cases h
      | str _ => cases h
      | lst _ => cases h
      | tup _ => cases h
      | ins _ _ => cases h
      | scr _ => cases h
      | mk _ _ _ => cases h
    | _ => cases e <;> first | exact absurd h hc | (cases h; done)
theorem dictHits {W : Value → Value → Bool → Prop} {f0 : D → D → Option Bool} (ih : ∀ (d e : D) (x y : V) (u v : Value) (b : Bool), Rep X.prog X.w X.K G d x → Rep X.prog X.w X.K G e y → RelV x u → RelV y v → f0 d e = some b → W u v b)
    {ds es : List (D × D)} {vs vs2 : List V} {us us' : List (Leaf × Value)} {o : Obj} {c0 : Bool}
    (w1 : (ds.map (·.1)).map leafOf = us.map (fun u => some u.1)) (v1 : Vals vs (us.map (·.2))) (q1 : RepP X.prog X.w X.K G ds vs) (i1 : o.IsDictOf (leafK0 X.prog X.w) us)
    (w2 : (es.map (·.1)).map leafOf = us'.map (fun u => some u.1)) (v2 : Vals vs2 (us'.map (·.2))) (q2 : RepP X.prog X.w X.K G es vs2)
    (h' : allO (ds.map fun p => match getK es p.1 with | some u => f0 p.2 u | none => some false) = some c0) :
    ∃ f : Leaf → Bool, (∀ l u y, (l, u) ∈ us → valueAt us' l = some y → W u y (f l)) ∧ c0 = us.all fun p => (valueAt us' p.1).isSome && f p.1 := by
  have lu : us.length = ds.length := by
    have := congrArg List.length w1
    simpa using this.symm
  have nd1 : (us.map (·.1)).Nodup := by
    obtain ⟨_, _, _, _, _, _, nd⟩ := i1
    exact nd
  let f : Leaf → Bool := fun l => match (ds.zip us).find? (fun q => decide (q.2.1 = l)) with
    | some q => (match getK es q.1.1 with
      | some u => (f0 q.1.2 u).getD false
      | none => false)
    | none => false
  have at_ : ∀ (i : Nat) (k x : D) (l : Leaf) (u : Value), ds[i]? = some (k, x) → us[i]? = some (l, u) → f l = (match getK es k with | some y => (f0 x y).getD false | none => false) := by
    intro i k x l u e1 e2
    have hz : (ds.zip us)[i]? = some ((k, x), (l, u)) := by
      rw [List.getElem?_zip_eq_some]
      exact ⟨e1, e2⟩
    have hf : (ds.zip us).find? (fun q => decide (q.2.1 = l)) = some ((k, x), (l, u)) := by
      rw [List.find?_eq_some_iff_getElem]
      obtain ⟨hi, hg⟩ := List.getElem?_eq_some_iff.mp hz
      refine ⟨by simp, i, hi, hg, fun j hj => ?_⟩
      have hjz : j < (ds.zip us).length := Nat.lt_trans hj hi
      have hju : j < us.length := by
        rw [List.length_zip] at hjz
        omega
      have hiu : i < us.length := (List.getElem?_eq_some_iff.mp e2).1
      simp only [List.getElem_zip, Bool.not_eq_true', decide_eq_false_iff_not]
      intro z
      have hpw := List.pairwise_iff_getElem.mp nd1 j i (by simpa using hju) (by simpa using hiu) hj
      apply hpw
      simp only [List.getElem_map]
      rw [z, (List.getElem?_eq_some_iff.mp e2).2]
    show (match (ds.zip us).find? (fun q => decide (q.2.1 = l)) with
      | some q => (match getK es q.1.1 with
        | some u => (f0 q.1.2 u).getD false
        | none => false)
      | none => false) = _
    rw [hf]
  have pos : ∀ (l : Leaf) (u : Value), (l, u) ∈ us → ∃ (i : Nat) (k x : D), ds[i]? = some (k, x) ∧ us[i]? = some (l, u) ∧ leafOf k = some l := by
    intro l u hm
    obtain ⟨i, hi⟩ := List.mem_iff_getElem?.mp hm
    have hlt : i < ds.length := by
      have := (List.getElem?_eq_some_iff.mp hi).1
      omega
    have hd := List.getElem?_eq_getElem hlt
    refine ⟨i, ds[i].1, ds[i].2, hd, hi, ?_⟩
    have := congrArg (fun z => z[i]?) w1
    simp only [List.getElem?_map, hd, hi, Option.map_some] at this
    exact Option.some.inj this
  refine ⟨f, fun l u y hmem hy => ?_, ?_⟩
  · obtain ⟨i, k, x, e1, e2, e3⟩ := pos l u hmem
    rw [at_ i k x l u e1 e2]
    rcases leaf_val w2 v2 q2 e3 with ⟨_, g2⟩ | ⟨d', v', u', g1, g2, g3, g4⟩
    · rw [hy] at g2; cases g2
    · rw [hy] at g2
      cases g2
      rw [g1]
      obtain ⟨vx, hvx, rvx⟩ := q1.get e1
      obtain ⟨u2, hu2, ru2⟩ := v1.get hvx
      rw [List.getElem?_map, e2] at hu2
      cases hu2
      have hin : (ds.map fun p => match getK es p.1 with | some u => f0 p.2 u | none => some false)[i]? = some (f0 x d') := by
        rw [List.getElem?_map, e1]
        simp only [Option.map_some, g1]
      obtain ⟨c, hc'⟩ := allO_get h' hin
      simp only [hc', Option.getD_some]
      exact ih x d' vx v' u y c rvx g4 ru2 g3 hc'
  · rw [allO_all h', List.all_map, Bool.eq_iff_iff, List.all_eq_true, List.all_eq_true]
    have each : ∀ (i : Nat) (k x : D) (l : Leaf) (u : Value), ds[i]? = some (k, x) → us[i]? = some (l, u) → leafOf k = some l →
        ((fun z : Option Bool => z.getD false) (match getK es k with | some u => f0 x u | none => some false) = ((valueAt us' l).isSome && f l)) := by
      intro i k x l u e1 e2 e3
      rw [at_ i k x l u e1 e2]
      rcases leaf_val w2 v2 q2 e3 with ⟨g1, g2⟩ | ⟨d', v', u', g1, g2, g3, g4⟩
      · rw [g1, g2]; rfl
      · rw [g1, g2]; simp
    constructor
    · intro hh q hq
      obtain ⟨l, u⟩ := q
      obtain ⟨i, k, x, e1, e2, e3⟩ := pos l u hq
      rw [← each i k x l u e1 e2 e3]
      exact hh (k, x) (List.mem_of_getElem? e1)
    · intro hh p hp
      obtain ⟨k, x⟩ := p
      obtain ⟨i, hi⟩ := List.mem_iff_getElem?.mp hp
      have hlt : i < us.length := by
        have := (List.getElem?_eq_some_iff.mp hi).1
        omega
      have hu := List.getElem?_eq_getElem hlt
      have e3 : leafOf k = some us[i].1 := by
        have := congrArg (fun z => z[i]?) w1
        simp only [List.getElem?_map, hi, hu, Option.map_some] at this
        exact Option.some.inj this
      exact (each i k x us[i].1 us[i].2 hi hu e3).trans (hh us[i] (List.getElem_mem hlt))
theorem eqTree (I : L2.Inv X pins σ H s) (sub : Same G H) : ∀ (n : Nat) (d e : D) (x y : V) (u v : Value) (b : Bool), Rep X.prog X.w X.K G d x → Rep X.prog X.w X.K G e y → RelV x u → RelV y v → eqO n d e = some b → PySem.W.EqTree X.prog X.w s n u v b := by
  have lt0 : ∀ (A : Around) (n : Nat), A.units + n < cLine → A.units < cLine := fun A n h => by omega
  have isl' : ∀ {a : Addr} {ds : List D} {vs : List V}, G a = some (.lst vs) → Reps X.prog X.w X.K G ds vs → ∃ its : List Value, Vals vs its ∧ s.heap.IsList a its.toArray ∧ its.length = ds.length := fun r q => by
    obtain ⟨its, n, r1, e, _⟩ := rdl I (sub _ _ r)
    exact ⟨its, r1, isl e, by rw [← r1.length, q.length]⟩
  have ist' : ∀ {a : Addr} {ds : List D} {vs : List V}, G a = some (.tup vs) → Reps X.prog X.w X.K G ds vs → ∃ its : List Value, Vals vs its ∧ s.heap.IsTuple a its.toArray ∧ its.length = ds.length := fun r q => by
    obtain ⟨its, r1, e, _⟩ := rdt I (sub _ _ r)
    exact ⟨its, r1, e, by rw [← r1.length, q.length]⟩
  -- flat things
  have flat : ∀ (n : Nat) (d e : D) (x y : V) (u v : Value), (d = .non ∨ (∃ b, d = .bl b) ∨ (∃ i, d = .int i) ∨ ∃ z, d = .str z) → (e = .non ∨ (∃ b, e = .bl b) ∨ (∃ i, e = .int i) ∨ ∃ z, e = .str z) →
      Rep X.prog X.w X.K G d x → Rep X.prog X.w X.K G e y → RelV x u → RelV y v → PySem.W.EqTree X.prog X.w s n u v (flatEq d e) := by
    intro n d e x y u v hd he rd re ru rv
    refine .leaf fun A _ => ?_
    have k : ∀ (hfx : flatV x = true) (hfy : flatV y = true) (hb : eqV x y = flatEq d e), SeqAt.EqAt A s u v (flatEq d e) := fun h1 h2 h3 => h3 ▸ eqAt_V ru rv h1 h2
    rcases hd with rfl | ⟨_, rfl⟩ | ⟨_, rfl⟩ | ⟨_, rfl⟩ <;> rcases he with rfl | ⟨_, rfl⟩ | ⟨_, rfl⟩ | ⟨_, rfl⟩ <;> cases rd <;> cases re <;> exact k rfl rfl rfl
  -- elements
  have els : ∀ (n : Nat), (∀ (d e : D) (x y : V) (u v : Value) (b : Bool), Rep X.prog X.w X.K G d x → Rep X.prog X.w X.K G e y → RelV x u → RelV y v → eqO n d e = some b → PySem.W.EqTree X.prog X.w s n u v b) →
      ∀ (ds es : List D) (vs ws : List V) (us us' : List Value) (b : Bool), Reps X.prog X.w X.K G ds vs → Reps X.prog X.w X.K G es ws → Vals vs us → Vals ws us' → allO (List.zipWith (eqO n) ds es) = some b →
      ∀ j (h1 : j < us.toArray.size) (h2 : j < us'.toArray.size), PySem.W.EqTree X.prog X.w s n us.toArray[j] us'.toArray[j] (((List.zipWith (eqO n) ds es).map fun x => x.getD false).getD j false) := by
    intro n ih ds es vs ws us us' b q1 q2 r1 r2 hb j h1 h2
    have l1 := q1.length
    have l2 := q2.length
    have m1 := r1.length
    have m2 := r2.length
    have h1' : j < us.length := by simpa using h1
    have h2' : j < us'.length := by simpa using h2
    have j1 : j < ds.length := by omega
    have j2 : j < es.length := by omega
    obtain ⟨x, hx, rx⟩ := q1.get (List.getElem?_eq_getElem j1)
    obtain ⟨y, hy, ry⟩ := q2.get (List.getElem?_eq_getElem j2)
    obtain ⟨u, hu, ru⟩ := r1.get hx
    obtain ⟨v, hv, rv⟩ := r2.get hy
    have hz : (List.zipWith (eqO n) ds es)[j]? = some (eqO n ds[j] es[j]) := by
      rw [List.getElem?_zipWith, List.getElem?_eq_getElem j1, List.getElem?_eq_getElem j2]
    obtain ⟨c, hc⟩ := allO_get hb hz
    have hu' : us.toArray[j] = u := by
      rw [List.getElem?_eq_getElem h1'] at hu
      simpa using hu
    have hv' : us'.toArray[j] = v := by
      rw [List.getElem?_eq_getElem h2'] at hv
      simpa using hv
    rw [hu', hv', List.getD_eq_getElem?_getD, List.getElem?_map, hz, hc]
    exact ih _ _ x y u v c rx ry ru rv hc
  -- of unlike kinds
  have mix : ∀ (n : Nat) (d e : D) (x y : V) (u v : Value) (b : Bool), Rep X.prog X.w X.K G d x → Rep X.prog X.w X.K G e y → RelV x u → RelV y v → eqO 0 d e = some b → PySem.W.EqTree X.prog X.w s n u v b := by
    intro n d e x y u v b rd re ru rv h
    cases d with
    | non => cases e with
      | lst l => cases h; cases rd; cases ru; obtain ⟨a, vs, rfl, r, q⟩ := re; cases rv; obtain ⟨its, _, h1, _⟩ := isl' r q; exact .leaf fun A hA => SeqAt.EqAt.none_list h1 (lt0 A n hA)
      | tup l => cases h; cases rd; cases ru; obtain ⟨a, vs, rfl, r, q⟩ := re; cases rv; obtain ⟨its, _, h1, _⟩ := ist' r q; exact .leaf fun A hA => SeqAt.EqAt.none_tuple h1 (lt0 A n hA)
      | dct l => cases h
      | ins c l => cases h
      | scr l => cases h
      | mk _ _ _ => cases h
      | _ => cases h; refine flat n _ _ x y u v (.inl rfl) ?_ rd re ru rv <;> first | exact .inl rfl | exact .inr (.inl ⟨_, rfl⟩) | exact .inr (.inr (.inl ⟨_, rfl⟩)) | exact .inr (.inr (.inr ⟨_, rfl⟩))
    | bl b => cases e with
      | lst l => cases h; cases rd; cases ru; obtain ⟨a, vs, rfl, r, q⟩ := re; cases rv; obtain ⟨its, _, h1, _⟩ := isl' r q; exact .leaf fun A hA => SeqAt.EqAt.bool_list b h1 (lt0 A n hA)
      | tup l => cases h; cases rd; cases ru; obtain ⟨a, vs, rfl, r, q⟩ := re; cases rv; obtain ⟨its, _, h1, _⟩ := ist' r q; exact .leaf fun A hA => SeqAt.EqAt.bool_tuple b h1 (lt0 A n hA)
      | dct l => cases h
      | ins c l => cases h
      | scr l => cases h
      | mk _ _ _ => cases h
      | _ => cases h; refine flat n _ _ x y u v (.inr (.inl ⟨_, rfl⟩)) ?_ rd re ru rv <;> first | exact .inl rfl | exact .inr (.inl ⟨_, rfl⟩) | exact .inr (.inr (.inl ⟨_, rfl⟩)) | exact .inr (.inr (.inr ⟨_, rfl⟩))
    | int i => cases e with
      | lst l => cases h; cases rd; obtain ⟨t, rfl⟩ := ru; obtain ⟨a, vs, rfl, r, q⟩ := re; cases rv; obtain ⟨its, _, h1, _⟩ := isl' r q; exact .leaf fun A hA => SeqAt.EqAt.int_list i t h1 (lt0 A n hA)
      | tup l => cases h; cases rd; obtain ⟨t, rfl⟩ := ru; obtain ⟨a, vs, rfl, r, q⟩ := re; cases rv; obtain ⟨its, _, h1, _⟩ := ist' r q; exact .leaf fun A hA => SeqAt.EqAt.int_tuple i t h1 (lt0 A n hA)
      | dct l => cases h
      | ins c l => cases h
      | scr l => cases h
      | mk _ _ _ => cases h
      | _ => cases h; refine flat n _ _ x y u v (.inr (.inr (.inl ⟨_, rfl⟩))) ?_ rd re ru rv <;> first | exact .inl rfl | exact .inr (.inl ⟨_, rfl⟩) | exact .inr (.inr (.inl ⟨_, rfl⟩)) | exact .inr (.inr (.inr ⟨_, rfl⟩))
    | str i => cases e with
      | lst l => cases h; cases rd; obtain ⟨t, rfl⟩ := ru; obtain ⟨a, vs, rfl, r, q⟩ := re; cases rv; obtain ⟨its, _, h1, _⟩ := isl' r q; exact .leaf fun A hA => SeqAt.EqAt.str_list i t h1 (lt0 A n hA)
      | tup l => cases h; cases rd; obtain ⟨t, rfl⟩ := ru; obtain ⟨a, vs, rfl, r, q⟩ := re; cases rv; obtain ⟨its, _, h1, _⟩ := ist' r q; exact .leaf fun A hA => SeqAt.EqAt.str_tuple i t h1 (lt0 A n hA)
      | dct l => cases h
      | ins c l => cases h
      | scr l => cases h
      | mk _ _ _ => cases h
      | _ => cases h; refine flat n _ _ x y u v (.inr (.inr (.inr ⟨_, rfl⟩))) ?_ rd re ru rv <;> first | exact .inl rfl | exact .inr (.inl ⟨_, rfl⟩) | exact .inr (.inr (.inl ⟨_, rfl⟩)) | exact .inr (.inr (.inr ⟨_, rfl⟩))
    | lst l =>
      obtain ⟨a, vs, rfl, r, q⟩ := rd
      cases ru
      obtain ⟨its, _, h1, _⟩ := isl' r q
      cases e with
      | non => cases h; cases re; cases rv; exact .leaf fun A hA => SeqAt.EqAt.list_none h1 (lt0 A n hA)
      | bl b => cases h; cases re; cases rv; exact .leaf fun A hA => SeqAt.EqAt.list_bool b h1 (lt0 A n hA)
      | int i => cases h; cases re; obtain ⟨t, rfl⟩ := rv; exact .leaf fun A hA => SeqAt.EqAt.list_int i t h1 (lt0 A n hA)
      | str i => cases h; cases re; obtain ⟨t, rfl⟩ := rv; exact .leaf fun A hA => SeqAt.EqAt.list_str i t h1 (lt0 A n hA)
      | tup l2 => cases h; obtain ⟨a2, vs2, rfl, r2, q2⟩ := re; cases rv; obtain ⟨its2, _, h2, _⟩ := ist' r2 q2; exact .leaf fun A hA => SeqAt.EqAt.list_tuple h1 h2 (lt0 A n hA)
      | _ => cases h
    | tup l =>
      obtain ⟨a, vs, rfl, r, q⟩ := rd
      cases ru
      obtain ⟨its, _, h1, _⟩ := ist' r q
      cases e with
      | non => cases h; cases re; cases rv; exact .leaf fun A hA => SeqAt.EqAt.tuple_none h1 (lt0 A n hA)
      | bl b => cases h; cases re; cases rv; exact .leaf fun A hA => SeqAt.EqAt.tuple_bool b h1 (lt0 A n hA)
      | int i => cases h; cases re; obtain ⟨t, rfl⟩ := rv; exact .leaf fun A hA => SeqAt.EqAt.tuple_int i t h1 (lt0 A n hA)
      | str i => cases h; cases re; obtain ⟨t, rfl⟩ := rv; exact .leaf fun A hA => SeqAt.EqAt.tuple_str i t h1 (lt0 A n hA)
      | lst l2 => cases h; obtain ⟨a2, vs2, rfl, r2, q2⟩ := re; cases rv; obtain ⟨its2, _, h2, _⟩ := isl' r2 q2; exact .leaf fun A hA => SeqAt.EqAt.tuple_list h1 h2 (lt0 A n hA)
      | _ => cases h
    | dct l => cases e <;> cases h
    | ins c l => cases e <;> cases h
    | scr l => cases e <;> cases h
    | mk _ _ _ => cases e <;> cases h
  intro n
  induction n with
  | zero => exact mix 0
  | succ n ih =>
    intro d e x y u v b rd re ru rv h
    by_cases hc : eqO 0 d e = some b
    · exact mix _ d e x y u v b rd re ru rv hc
    cases d with
    | lst ds =>
      cases e with
      | lst es =>
        obtain ⟨a, vs, rfl, r1, q1⟩ := rd
        obtain ⟨a2, vs2, rfl, r2, q2⟩ := re
        cases ru
        cases rv
        obtain ⟨its, v1, h1, m1⟩ := isl' r1 q1
        obtain ⟨its2, v2, h2, m2⟩ := isl' r2 q2
        have h' : (if ds.length = es.length then allO (List.zipWith (eqO n) ds es) else some false) = some b := h
        by_cases hl : ds.length = es.length
        · rw [if_pos hl] at h'
          have el := els n ih ds es vs vs2 its its2 b q1 q2 v1 v2 h'
          have eb : b = (List.range its.toArray.size).all fun j => (((List.zipWith (eqO n) ds es).map fun x => x.getD false).getD j false) := by
            have := all_range_get (l := (List.zipWith (eqO n) ds es).map fun x => x.getD false)
            rw [List.length_map, List.length_zipWith, ← hl, Nat.min_self] at this
            rw [List.size_toArray, m1, this, List.all_map]
            exact allO_all h'
          by_cases hne : a = a2
          · subst hne
            have : b = true := sameTrue I sub (n + 1) (.lst ds) (.lst es) (.ref a) b ⟨a, vs, rfl, r1, q1⟩ ⟨a, vs2, rfl, r2, q2⟩ h
            subst this
            exact .same
          · rw [eb]
            exact .lists hne h1 h2 (by simp [m1, m2, hl]) el
        · rw [if_neg hl] at h'
          cases h'
          by_cases hne : a = a2
          · subst hne
            cases rd_inj r1 r2
            exact absurd (q1.length.symm.trans q2.length) hl
          · exact .listsLen hne h1 h2 (by simp [m1, m2, hl])
      | _ => exact absurd h hc
    | tup ds =>
      cases e with
      | tup es =>
        by_cases hsame : x = y
        · subst hsame
          have : b = true := sameTrue I sub (n + 1) (.tup ds) (.tup es) x b rd re h
          subst this
          obtain ⟨a, vs, rfl, r1, q1⟩ := rd
          cases ru
          cases rv
          exact .same
        obtain ⟨a, vs, rfl, r1, q1⟩ := rd
        obtain ⟨a2, vs2, rfl, r2, q2⟩ := re
        cases ru
        cases rv
        obtain ⟨its, v1, h1, m1⟩ := ist' r1 q1
        obtain ⟨its2, v2, h2, m2⟩ := ist' r2 q2
        obtain ⟨c, e1, e2⟩ := mapE (show (allO (List.zipWith (eqO n) ds es)).map (fun c => c && ds.length == es.length) = some b from h)
        have el := els n ih ds es vs vs2 its its2 c q1 q2 v1 v2 e1
        have eb : b = ((List.range (min its.toArray.size its2.toArray.size)).all (fun j => (((List.zipWith (eqO n) ds es).map fun x => x.getD false).getD j false)) && its.toArray.size == its2.toArray.size) := by
          have := all_range_get (l := (List.zipWith (eqO n) ds es).map fun x => x.getD false)
          rw [List.length_map, List.length_zipWith] at this
          rw [List.size_toArray, List.size_toArray, m1, m2, this, List.all_map, ← e2]
          congr 1
          exact allO_all e1
        rw [eb]
        exact .tuples (fun z => hsame (by rw [z])) h1 h2 el
      | _ => exact absurd h hc
    | dct ds =>
      cases e with
      | dct es =>
        by_cases hsame : x = y
        · subst hsame
          have : b = true := sameTrue I sub (n + 1) (.dct ds) (.dct es) x b rd re h
          subst this
          obtain ⟨a, o, vs, rfl, _⟩ := rd
          cases ru
          cases rv
          exact .same
        obtain ⟨a, o, vs, rfl, hm, r1, hl1, d1, q1⟩ := rd
        obtain ⟨a2, o2, vs2, rfl, hm2, r2, hl2, d2, q2⟩ := re
        cases ru
        cases rv
        have h' : (if (ds.all fun p => leafKey p.1) && (es.all fun p => leafKey p.1) then (allO (ds.map fun p => match getK es p.1 with | some u => eqO n p.2 u | none => some false)).map (fun c => ds.length == es.length && c) else none) = some b := h
        split at h'
        · rename_i hk
          obtain ⟨k1, k2⟩ := Bool.and_eq_true_iff.mp hk
          obtain ⟨us, i1, w1, v1⟩ := leaf_of_nest (K := X.K) d1 k1
          obtain ⟨us', i2, w2, v2⟩ := leaf_of_nest (K := X.K) d2 k2
          have dof1 : s.heap.DictOf (leafK0 X.prog X.w) a us := Heap.dictOf_iff.mpr ⟨o, rdp I (sub _ _ r1), i1⟩
          have dof2 : s.heap.DictOf (leafK0 X.prog X.w) a2 us' := Heap.dictOf_iff.mpr ⟨o2, rdp I (sub _ _ r2), i2⟩
          have lu : us.length = ds.length := by
            have := congrArg List.length w1
            simpa using this.symm
          have lu' : us'.length = es.length := by
            have := congrArg List.length w2
            simpa using this.symm
          obtain ⟨c0, h', e0⟩ := mapE h'
          obtain ⟨f, hf1, hf2⟩ := dictHits (G := G) (W := fun u v b => PySem.W.EqTree X.prog X.w s n u v b) ih w1 v1 q1 i1 w2 v2 q2 h'
          have t := PySem.W.EqTree.dicts (prog := X.prog) (w := X.w) (s := s) (n := n) (e := f) (fun z => hsame (by rw [z])) hm hm2 dof1 dof2 hf1
          rw [← e0, hf2, ← lu, ← lu']
          exact t
        · cases h'
      | non => cases h
      | bl _ => cases h
      | int _ => cases h
      | str _ => cases h
      | lst _ => cases h
      | tup _ => cases h
      | ins _ _ => cases h
      | scr _ => cases h
      | mk _ _ _ => cases h
    | _ => cases e <;> first | exact absurd h hc | (cases h; done)
end
end
end RF
set_option Elab.async false
set_option linter.all false
set_option maxRecDepth 100000
set_option maxHeartbeats 2000000
namespace RF
open PySem PySem.Spec L2
open PyProof.Rows hiding St
section
variable {X : Cx} {pins : List (Addr × Obj)} {σ : St} {H G : Hp} {s : Shared}
theorem islD (I : L2.Inv X pins σ H s) (sub : Same G H) {a : Addr} {ds : List D} {vs : List V} (r : G a = some (.lst vs)) (q : Reps X.prog X.w X.K G ds vs) : ∃ its : List Value, Vals vs its ∧ s.heap.IsList a its.toArray ∧ its.length = ds.length := by
  obtain ⟨its, n, r1, e, _⟩ := rdl I (sub _ _ r)
  exact ⟨its, r1, isl e, by rw [← r1.length, q.length]⟩
theorem istD (I : L2.Inv X pins σ H s) (sub : Same G H) {a : Addr} {ds : List D} {vs : List V} (r : G a = some (.tup vs)) (q : Reps X.prog X.w X.K G ds vs) : ∃ its : List Value, Vals vs its ∧ s.heap.IsTuple a its.toArray ∧ its.length = ds.length := by
  obtain ⟨its, r1, e, _⟩ := rdt I (sub _ _ r)
  exact ⟨its, r1, e, by rw [← r1.length, q.length]⟩
theorem rcMix (I : L2.Inv X pins σ H s) (sub : Same G H) {A : Around} (hu : A.units < cLine) {d e : D} {x y : V} {u v : Value} {b : Bool} (rd : Rep X.prog X.w X.K G d x) (re : Rep X.prog X.w X.K G e y) (ru : RelV x u) (rv : RelV y v) (h : eqO 0 d e = some b) :
    SeqAt.RcAt A s u v b ∧ SeqAt.RcNeAt A s u v (!b) ∧ SeqAt.EqAt A s u v b := by
  cases d with
  | non =>
    cases e with
    | non => cases h; cases rd; cases ru; cases re; cases rv; exact ⟨SeqAt.RcAt.none_none, SeqAt.RcNeAt.none_none, SeqAt.EqAt.same _⟩
    | bl q => cases h; cases rd; cases ru; cases re; cases rv; exact ⟨SeqAt.RcAt.none_bool q, SeqAt.RcNeAt.none_bool q, SeqAt.EqAt.none_bool q⟩
    | int q => cases h; cases rd; cases ru; cases re; obtain ⟨t2, rfl⟩ := rv; exact ⟨SeqAt.RcAt.none_int q t2, SeqAt.RcNeAt.none_int q t2, SeqAt.EqAt.none_int q t2⟩
    | str q => cases h; cases rd; cases ru; cases re; obtain ⟨t2, rfl⟩ := rv; exact ⟨SeqAt.RcAt.none_str q t2, SeqAt.RcNeAt.none_str q t2, SeqAt.EqAt.none_str q t2⟩
    | lst q => cases h; cases rd; cases ru; obtain ⟨a2, vs2, rfl, r2, q2⟩ := re; cases rv; obtain ⟨its2, _, h2, _⟩ := islD I sub r2 q2; exact ⟨SeqAt.RcAt.none_list h2 hu, SeqAt.RcNeAt.none_list h2 hu, SeqAt.EqAt.none_list h2 hu⟩
    | tup q => cases h; cases rd; cases ru; obtain ⟨a2, vs2, rfl, r2, q2⟩ := re; cases rv; obtain ⟨its2, _, h2, _⟩ := istD I sub r2 q2; exact ⟨SeqAt.RcAt.none_tuple h2 hu, SeqAt.RcNeAt.none_tuple h2 hu, SeqAt.EqAt.none_tuple h2 hu⟩
    | _ => cases h
  | bl p =>
    cases e with
    | non => cases h; cases rd; cases ru; cases re; cases rv; exact ⟨SeqAt.RcAt.bool_none p, SeqAt.RcNeAt.bool_none p, SeqAt.EqAt.bool_none p⟩
    | bl q => cases h; cases rd; cases ru; cases re; cases rv; exact ⟨SeqAt.RcAt.bool_bool p q, SeqAt.RcNeAt.bool_bool p q, SeqAt.EqAt.bool_bool p q⟩
    | int q => cases h; cases rd; cases ru; cases re; obtain ⟨t2, rfl⟩ := rv; exact ⟨SeqAt.RcAt.bool_int p q t2, SeqAt.RcNeAt.bool_int p q t2, SeqAt.EqAt.bool_int p q t2⟩
    | str q => cases h; cases rd; cases ru; cases re; obtain ⟨t2, rfl⟩ := rv; exact ⟨SeqAt.RcAt.bool_str p q t2, SeqAt.RcNeAt.bool_str p q t2, SeqAt.EqAt.bool_str p q t2⟩
    | lst q => cases h; cases rd; cases ru; obtain ⟨a2, vs2, rfl, r2, q2⟩ := re; cases rv; obtain ⟨its2, _, h2, _⟩ := islD I sub r2 q2; exact ⟨SeqAt.RcAt.bool_list p h2 hu, SeqAt.RcNeAt.bool_list p h2 hu, SeqAt.EqAt.bool_list p h2 hu⟩
    | tup q => cases h; cases rd; cases ru; obtain ⟨a2, vs2, rfl, r2, q2⟩ := re; cases rv; obtain ⟨its2, _, h2, _⟩ := istD I sub r2 q2; exact ⟨SeqAt.RcAt.bool_tuple p h2 hu, SeqAt.RcNeAt.bool_tuple p h2 hu, SeqAt.EqAt.bool_tuple p h2 hu⟩
    | _ => cases h
  | int p =>
    cases e with
    | non => cases h; cases rd; obtain ⟨t1, rfl⟩ := ru; cases re; cases rv; exact ⟨SeqAt.RcAt.int_none p t1, SeqAt.RcNeAt.int_none p t1, SeqAt.EqAt.int_none p t1⟩
    | bl q => cases h; cases rd; obtain ⟨t1, rfl⟩ := ru; cases re; cases rv; exact ⟨SeqAt.RcAt.int_bool p t1 q, SeqAt.RcNeAt.int_bool p t1 q, SeqAt.EqAt.int_bool p t1 q⟩
    | int q => cases h; cases rd; obtain ⟨t1, rfl⟩ := ru; cases re; obtain ⟨t2, rfl⟩ := rv; exact ⟨SeqAt.RcAt.int_int p t1 q t2, SeqAt.RcNeAt.int_int p t1 q t2, SeqAt.EqAt.int_int p t1 q t2⟩
    | str q => cases h; cases rd; obtain ⟨t1, rfl⟩ := ru; cases re; obtain ⟨t2, rfl⟩ := rv; exact ⟨SeqAt.RcAt.int_str p t1 q t2, SeqAt.RcNeAt.int_str p t1 q t2, SeqAt.EqAt.int_str p t1 q t2⟩
    | lst q => cases h; cases rd; obtain ⟨t1, rfl⟩ := ru; obtain ⟨a2, vs2, rfl, r2, q2⟩ := re; cases rv; obtain ⟨its2, _, h2, _⟩ := islD I sub r2 q2; exact ⟨SeqAt.RcAt.int_list p t1 h2 hu, SeqAt.RcNeAt.int_list p t1 h2 hu, SeqAt.EqAt.int_list p t1 h2 hu⟩
    | tup q => cases h; cases rd; obtain ⟨t1, rfl⟩ := ru; obtain ⟨a2, vs2, rfl, r2, q2⟩ := re; cases rv; obtain ⟨its2, _, h2, _⟩ := istD I sub r2 q2; exact ⟨SeqAt.RcAt.int_tuple p t1 h2 hu, SeqAt.RcNeAt.int_tuple p t1 h2 hu, SeqAt.EqAt.int_tuple p t1 h2 hu⟩
    | _ => cases h
  | str p =>
    cases e with
    | non => cases h; cases rd; obtain ⟨t1, rfl⟩ := ru; cases re; cases rv; exact ⟨SeqAt.RcAt.str_none p t1, SeqAt.RcNeAt.str_none p t1, SeqAt.EqAt.str_none p t1⟩
    | bl q => cases h; cases rd; obtain ⟨t1, rfl⟩ := ru; cases re; cases rv; exact ⟨SeqAt.RcAt.str_bool p t1 q, SeqAt.RcNeAt.str_bool p t1 q, SeqAt.EqAt.str_bool p t1 q⟩
    | int q => cases h; cases rd; obtain ⟨t1, rfl⟩ := ru; cases re; obtain ⟨t2, rfl⟩ := rv; exact ⟨SeqAt.RcAt.str_int p t1 q t2, SeqAt.RcNeAt.str_int p t1 q t2, SeqAt.EqAt.str_int p t1 q t2⟩
    | str q => cases h; cases rd; obtain ⟨t1, rfl⟩ := ru; cases re; obtain ⟨t2, rfl⟩ := rv; exact ⟨SeqAt.RcAt.str_str p t1 q t2, SeqAt.RcNeAt.str_str p t1 q t2, SeqAt.EqAt.str_str p t1 q t2⟩
    | lst q => cases h; cases rd; obtain ⟨t1, rfl⟩ := ru; obtain ⟨a2, vs2, rfl, r2, q2⟩ := re; cases rv; obtain ⟨its2, _, h2, _⟩ := islD I sub r2 q2; exact ⟨SeqAt.RcAt.str_list p t1 h2 hu, SeqAt.RcNeAt.str_list p t1 h2 hu, SeqAt.EqAt.str_list p t1 h2 hu⟩
    | tup q => cases h; cases rd; obtain ⟨t1, rfl⟩ := ru; obtain ⟨a2, vs2, rfl, r2, q2⟩ := re; cases rv; obtain ⟨its2, _, h2, _⟩ := istD I sub r2 q2; exact ⟨SeqAt.RcAt.str_tuple p t1 h2 hu, SeqAt.RcNeAt.str_tuple p t1 h2 hu, SeqAt.EqAt.str_tuple p t1 h2 hu⟩
    | _ => cases h
  | lst p =>
    cases e with
    | non => cases h; obtain ⟨a1, vs1, rfl, r1, q1⟩ := rd; cases ru; obtain ⟨its1, _, h1, _⟩ := islD I sub r1 q1; cases re; cases rv; exact ⟨SeqAt.RcAt.list_none h1 hu, SeqAt.RcNeAt.list_none h1 hu, SeqAt.EqAt.list_none h1 hu⟩
    | bl q => cases h; obtain ⟨a1, vs1, rfl, r1, q1⟩ := rd; cases ru; obtain ⟨its1, _, h1, _⟩ := islD I sub r1 q1; cases re; cases rv; exact ⟨SeqAt.RcAt.list_bool q h1 hu, SeqAt.RcNeAt.list_bool q h1 hu, SeqAt.EqAt.list_bool q h1 hu⟩
    | int q => cases h; obtain ⟨a1, vs1, rfl, r1, q1⟩ := rd; cases ru; obtain ⟨its1, _, h1, _⟩ := islD I sub r1 q1; cases re; obtain ⟨t2, rfl⟩ := rv; exact ⟨SeqAt.RcAt.list_int q t2 h1 hu, SeqAt.RcNeAt.list_int q t2 h1 hu, SeqAt.EqAt.list_int q t2 h1 hu⟩
    | str q => cases h; obtain ⟨a1, vs1, rfl, r1, q1⟩ := rd; cases ru; obtain ⟨its1, _, h1, _⟩ := islD I sub r1 q1; cases re; obtain ⟨t2, rfl⟩ := rv; exact ⟨SeqAt.RcAt.list_str q t2 h1 hu, SeqAt.RcNeAt.list_str q t2 h1 hu, SeqAt.EqAt.list_str q t2 h1 hu⟩
    | lst q => cases h
    | tup q => cases h; obtain ⟨a1, vs1, rfl, r1, q1⟩ := rd; cases ru; obtain ⟨its1, _, h1, _⟩ := islD I sub r1 q1; obtain ⟨a2, vs2, rfl, r2, q2⟩ := re; cases rv; obtain ⟨its2, _, h2, _⟩ := istD I sub r2 q2; exact ⟨SeqAt.RcAt.list_tuple h1 h2 hu, SeqAt.RcNeAt.list_tuple h1 h2 hu, SeqAt.EqAt.list_tuple h1 h2 hu⟩
    | _ => cases h
  | tup p =>
    cases e with
    | non => cases h; obtain ⟨a1, vs1, rfl, r1, q1⟩ := rd; cases ru; obtain ⟨its1, _, h1, _⟩ := istD I sub r1 q1; cases re; cases rv; exact ⟨SeqAt.RcAt.tuple_none h1 hu, SeqAt.RcNeAt.tuple_none h1 hu, SeqAt.EqAt.tuple_none h1 hu⟩
    | bl q => cases h; obtain ⟨a1, vs1, rfl, r1, q1⟩ := rd; cases ru; obtain ⟨its1, _, h1, _⟩ := istD I sub r1 q1; cases re; cases rv; exact ⟨SeqAt.RcAt.tuple_bool q h1 hu, SeqAt.RcNeAt.tuple_bool q h1 hu, SeqAt.EqAt.tuple_bool q h1 hu⟩
    | int q => cases h; obtain ⟨a1, vs1, rfl, r1, q1⟩ := rd; cases ru; obtain ⟨its1, _, h1, _⟩ := istD I sub r1 q1; cases re; obtain ⟨t2, rfl⟩ := rv; exact ⟨SeqAt.RcAt.tuple_int q t2 h1 hu, SeqAt.RcNeAt.tuple_int q t2 h1 hu, SeqAt.EqAt.tuple_int q t2 h1 hu⟩
    | str q => cases h; obtain ⟨a1, vs1, rfl, r1, q1⟩ := rd; cases ru; obtain ⟨its1, _, h1, _⟩ := istD I sub r1 q1; cases re; obtain ⟨t2, rfl⟩ := rv; exact ⟨SeqAt.RcAt.tuple_str q t2 h1 hu, SeqAt.RcNeAt.tuple_str q t2 h1 hu, SeqAt.EqAt.tuple_str q t2 h1 hu⟩
    | lst q => cases h; obtain ⟨a1, vs1, rfl, r1, q1⟩ := rd; cases ru; obtain ⟨its1, _, h1, _⟩ := istD I sub r1 q1; obtain ⟨a2, vs2, rfl, r2, q2⟩ := re; cases rv; obtain ⟨its2, _, h2, _⟩ := islD I sub r2 q2; exact ⟨SeqAt.RcAt.tuple_list h1 h2 hu, SeqAt.RcNeAt.tuple_list h1 h2 hu, SeqAt.EqAt.tuple_list h1 h2 hu⟩
    | tup q => cases h
    | _ => cases h
  | _ => cases e <;> cases h
theorem eqN_eqO : ∀ {n : Nat} {d e : D} {b : Bool}, eqN n d e = some b → eqO n d e = some b := by
  have base : ∀ {d e : D} {b : Bool} {n m : Nat}, eqN 0 d e = some b → eqO m d e = some b := by
    intro d e b n m h
    cases m <;> cases d <;> cases e <;> first | (cases h; done) | exact h
  intro n
  induction n with
  | zero => intro d e b h; exact base (n := 0) h
  | succ n ih =>
    have all : ∀ (ds es : List D) (b : Bool), allO (List.zipWith (eqN n) ds es) = some b → allO (List.zipWith (eqO n) ds es) = some b := by
      intro ds
      induction ds with
      | nil => intro es b h; exact h
      | cons d ds k =>
        intro es b h
        cases es with
        | nil => exact h
        | cons e es =>
          obtain ⟨c, e1, h2⟩ := bindE (show (eqN n d e).bind (fun b => (allO (List.zipWith (eqN n) ds es)).map fun c => b && c) = some b from h)
          obtain ⟨c2, e2, e3⟩ := mapE h2
          show (eqO n d e).bind (fun b => (allO (List.zipWith (eqO n) ds es)).map fun c => b && c) = some b
          rw [ih e1, k _ _ e2, ← e3]
          rfl
    intro d e b h
    cases d <;> cases e <;> first | (cases h; done) | exact h | skip
    · rename_i p q
      show (if p.length = q.length then allO (List.zipWith (eqO n) p q) else some false) = some b
      have h' : (if p.length = q.length then allO (List.zipWith (eqN n) p q) else some false) = some b := h
      split at h'
      · rename_i hl; rw [if_pos hl]; exact all _ _ _ h'
      · rename_i hl; rw [if_neg hl]; exact h'
    · rename_i p q
      obtain ⟨c, e1, e2⟩ := mapE (show (allO (List.zipWith (eqN n) p q)).map (fun c => c && p.length == q.length) = some b from h)
      show (allO (List.zipWith (eqO n) p q)).map (fun c => c && p.length == q.length) = some b
      rw [all _ _ _ e1, ← e2]
      rfl
theorem elsN {W : Value → Value → Bool → Prop} {f : D → D → Option Bool} (ih : ∀ (d e : D) (x y : V) (u v : Value) (b : Bool), Rep X.prog X.w X.K G d x → Rep X.prog X.w X.K G e y → RelV x u → RelV y v → f d e = some b → W u v b)
    {ds es : List D} {vs ws : List V} {us us' : List Value} {b : Bool} (q1 : Reps X.prog X.w X.K G ds vs) (q2 : Reps X.prog X.w X.K G es ws) (r1 : Vals vs us) (r2 : Vals ws us') (hb : allO (List.zipWith f ds es) = some b) :
    ∀ j (h1 : j < us.toArray.size) (h2 : j < us'.toArray.size), W us.toArray[j] us'.toArray[j] (((List.zipWith f ds es).map fun x => x.getD false).getD j false) := by
  intro j h1 h2
  have l1 := q1.length
  have l2 := q2.length
  have m1 := r1.length
  have m2 := r2.length
  have h1' : j < us.length := by simpa using h1
  have h2' : j < us'.length := by simpa using h2
  have j1 : j < ds.length := by omega
  have j2 : j < es.length := by omega
  obtain ⟨x, hx, rx⟩ := q1.get (List.getElem?_eq_getElem j1)
  obtain ⟨y, hy, ry⟩ := q2.get (List.getElem?_eq_getElem j2)
  obtain ⟨u, hu, ru⟩ := r1.get hx
  obtain ⟨v, hv, rv⟩ := r2.get hy
  have hz : (List.zipWith f ds es)[j]? = some (f ds[j] es[j]) := by
    rw [List.getElem?_zipWith, List.getElem?_eq_getElem j1, List.getElem?_eq_getElem j2]
  obtain ⟨c, hc⟩ := allO_get hb hz
  have hu' : us.toArray[j] = u := by
    rw [List.getElem?_eq_getElem h1'] at hu
    simpa using hu
  have hv' : us'.toArray[j] = v := by
    rw [List.getElem?_eq_getElem h2'] at hv
    simpa using hv
  rw [hu', hv', List.getD_eq_getElem?_getD, List.getElem?_map, hz, hc]
  exact ih _ _ x y u v c rx ry ru rv hc
theorem sumL {f : D → D → Option Bool} {ds es : List D} {its its2 : List Value} {b : Bool} (m1 : its.length = ds.length) (m2 : its2.length = es.length) (hl : ds.length = es.length) (h : allO (List.zipWith f ds es) = some b) :
    (List.range its.toArray.size).all (fun j => (((List.zipWith f ds es).map fun x => x.getD false).getD j false)) = b := by
  have := all_range_get (l := (List.zipWith f ds es).map fun x => x.getD false)
  rw [List.length_map, List.length_zipWith, ← hl, Nat.min_self] at this
  rw [List.size_toArray, m1, this, List.all_map]
  exact (allO_all h).symm
theorem sumT {f : D → D → Option Bool} {ds es : List D} {its its2 : List Value} {c b : Bool} (m1 : its.length = ds.length) (m2 : its2.length = es.length) (h : allO (List.zipWith f ds es) = some c) (e2 : (c && ds.length == es.length) = b) :
    ((List.range (min its.toArray.size its2.toArray.size)).all (fun j => (((List.zipWith f ds es).map fun x => x.getD false).getD j false)) && its.toArray.size == its2.toArray.size) = b := by
  have := all_range_get (l := (List.zipWith f ds es).map fun x => x.getD false)
  rw [List.length_map, List.length_zipWith] at this
  rw [List.size_toArray, List.size_toArray, m1, m2, this, List.all_map, ← e2]
  congr 1
  exact (allO_all h).symm
theorem eqAtN (I : L2.Inv X pins σ H s) (sub : Same G H) : ∀ (n : Nat) (d e : D) (x y : V) (u v : Value) (b : Bool), Rep X.prog X.w X.K G d x → Rep X.prog X.w X.K G e y → RelV x u → RelV y v → eqN n d e = some b → ∀ A : Around, A.units + n < cLine → SeqAt.EqAt A s u v b := by
  have base : ∀ (d e : D) (x y : V) (u v : Value) (b : Bool), Rep X.prog X.w X.K G d x → Rep X.prog X.w X.K G e y → RelV x u → RelV y v → eqO 0 d e = some b → ∀ A : Around, A.units < cLine → SeqAt.EqAt A s u v b := by
    intro d e x y u v b rd re ru rv h A hA
    exact (rcMix I sub hA rd re ru rv h).2.2
  intro n
  induction n with
  | zero => intro d e x y u v b rd re ru rv h A hA; exact base d e x y u v b rd re ru rv (eqN_eqO h) A (by omega)
  | succ n ih =>
    intro d e x y u v b rd re ru rv h A hA
    by_cases hsame : x = y
    · subst hsame
      have hb : b = true := sameTrue I sub _ d e x b rd re (eqN_eqO h)
      subst hb
      cases d with
      | lst l => obtain ⟨a, vs, rfl, _⟩ := rd; cases ru; cases rv; exact .same _
      | tup l => obtain ⟨a, vs, rfl, _⟩ := rd; cases ru; cases rv; exact .same _
      | dct l => cases h
      | ins c l => cases e <;> cases h
      | scr l => cases e <;> cases h
      | mk _ _ _ => cases e <;> cases h
      | _ => refine base _ e x x u v true rd re ru rv ?_ A (by omega); cases e <;> first | (cases h; done) | exact h
    cases d with
    | lst ds =>
      cases e with
      | lst es =>
        obtain ⟨a, vs, rfl, r1, q1⟩ := rd
        obtain ⟨a2, vs2, rfl, r2, q2⟩ := re
        cases ru
        cases rv
        obtain ⟨its, v1, h1, m1⟩ := islD I sub r1 q1
        obtain ⟨its2, v2, h2, m2⟩ := islD I sub r2 q2
        have hne : a ≠ a2 := fun z => hsame (by rw [z])
        have h' : (if ds.length = es.length then allO (List.zipWith (eqN n) ds es) else some false) = some b := h
        split at h'
        · rename_i hl
          have el := elsN (G := G) (W := fun u v b => SeqAt.EqAt A.in1 s u v b) (fun d e x y u v b rd re ru rv hh => ih d e x y u v b rd re ru rv hh A.in1 (by show A.units + 1 + n < cLine; omega)) q1 q2 v1 v2 h'
          rw [← sumL m1 m2 hl h']
          exact .of_refs hne (.lists h1 h2 (by simp [m1, m2, hl]) (by omega) el)
        · rename_i hl
          cases h'
          exact .of_refs hne (.lists_lengths h1 h2 (by simp [m1, m2, hl]) (by omega))
      | _ => exact base _ _ x y u v b rd re ru rv (by first | (cases h; done) | exact h) A (by omega)
    | tup ds =>
      cases e with
      | tup es =>
        obtain ⟨a, vs, rfl, r1, q1⟩ := rd
        obtain ⟨a2, vs2, rfl, r2, q2⟩ := re
        cases ru
        cases rv
        obtain ⟨its, v1, h1, m1⟩ := istD I sub r1 q1
        obtain ⟨its2, v2, h2, m2⟩ := istD I sub r2 q2
        have hne : a ≠ a2 := fun z => hsame (by rw [z])
        obtain ⟨c, e1, e2⟩ := mapE (show (allO (List.zipWith (eqN n) ds es)).map (fun c => c && ds.length == es.length) = some b from h)
        have el := elsN (G := G) (W := fun u v b => SeqAt.EqAt A.in1 s u v b) (fun d e x y u v b rd re ru rv hh => ih d e x y u v b rd re ru rv hh A.in1 (by show A.units + 1 + n < cLine; omega)) q1 q2 v1 v2 e1
        rw [← sumT m1 m2 e1 e2]
        exact .of_refs hne (.tuples h1 h2 (by omega) el)
      | _ => exact base _ _ x y u v b rd re ru rv (by first | (cases h; done) | exact h) A (by omega)
    | dct ds => cases h
    | ins c l => cases e <;> cases h
    | scr l => cases e <;> cases h
    | mk _ _ _ => cases e <;> cases h
    | _ => refine base _ e x y u v b rd re ru rv ?_ A (by omega); cases e <;> first | (cases h; done) | exact h
end
section
variable {X : Cx}
theorem op_eqX (hu : X.A.units + 64 < cLine) : OpR X (compareOp .Eq) (RO X D.eq) := by
  intro pins s σ H x y v u Q I rx ry ⟨G, d, e, z, sub, hd, he, hz, k⟩
  obtain ⟨b, h, rfl⟩ := mapE hz
  have fin : EP X pins σ Q (.bool b) s := ⟨.bl b, H, I, rfl, k _ G H (Grow.refl sub) rfl⟩
  have h' : eqO 60 d e = some b := h
  by_cases hc : eqO 0 d e = some b
  · exact (rcMix I sub (by omega) hd he rx ry hc).1 X.prog X.w X.xe _ fin
  have el : ∀ (d e : D) (x y : V) (u v : Value) (b : Bool), Rep X.prog X.w X.K G d x → Rep X.prog X.w X.K G e y → RelV x u → RelV y v → eqO 59 d e = some b → SeqAt.EqIn X.prog X.w X.A.in1 s u v b :=
    fun d e x y u v b rd re ru rv hh => (eqTree I sub 59 d e x y u v b rd re ru rv hh).at X.A.in1 (by show X.A.units + 1 + 59 < cLine; omega)
  cases d with
  | lst ds =>
    cases e with
    | lst es =>
      obtain ⟨a, vs, rfl, r1, q1⟩ := hd
      obtain ⟨a2, vs2, rfl, r2, q2⟩ := he
      cases rx
      cases ry
      obtain ⟨its, v1, h1, m1⟩ := islD I sub r1 q1
      obtain ⟨its2, v2, h2, m2⟩ := islD I sub r2 q2
      have h'' : (if ds.length = es.length then allO (List.zipWith (eqO 59) ds es) else some false) = some b := h'
      split at h''
      · rename_i hl
        refine SeqAt.rcIn_lists h1 h2 (by simp [m1, m2, hl]) (by omega) (elsN (G := G) (W := fun u v b => SeqAt.EqIn X.prog X.w X.A.in1 s u v b) el q1 q2 v1 v2 h'') ?_
        rw [sumL m1 m2 hl h'']
        exact fin
      · rename_i hl
        cases h''
        exact SeqAt.RcAt.lists_lengths h1 h2 (by simp [m1, m2, hl]) (by omega) X.prog X.w X.xe _ fin
    | _ => exact absurd h' hc
  | tup ds =>
    cases e with
    | tup es =>
      obtain ⟨a, vs, rfl, r1, q1⟩ := hd
      obtain ⟨a2, vs2, rfl, r2, q2⟩ := he
      cases rx
      cases ry
      obtain ⟨its, v1, h1, m1⟩ := istD I sub r1 q1
      obtain ⟨its2, v2, h2, m2⟩ := istD I sub r2 q2
      obtain ⟨c, e1, e2⟩ := mapE (show (allO (List.zipWith (eqO 59) ds es)).map (fun c => c && ds.length == es.length) = some b from h')
      refine SeqAt.rcIn_tuples h1 h2 (by omega) (elsN (G := G) (W := fun u v b => SeqAt.EqIn X.prog X.w X.A.in1 s u v b) el q1 q2 v1 v2 e1) ?_
      rw [sumT m1 m2 e1 e2]
      exact fin
    | _ => exact absurd h' hc
  | dct ds =>
    cases e with
    | dct es =>
      obtain ⟨a, o, vs, rfl, hm, r1, hl1, d1, q1⟩ := hd
      obtain ⟨a2, o2, vs2, rfl, hm2, r2, hl2, d2, q2⟩ := he
      cases rx
      cases ry
      have h'' : (if (ds.all fun p => leafKey p.1) && (es.all fun p => leafKey p.1) then (allO (ds.map fun p => match getK es p.1 with | some u => eqO 59 p.2 u | none => some false)).map (fun c => ds.length == es.length && c) else none) = some b := h'
      split at h''
      · rename_i hk
        obtain ⟨k1, k2⟩ := Bool.and_eq_true_iff.mp hk
        obtain ⟨us, i1, w1, v1⟩ := leaf_of_nest (K := X.K) d1 k1
        obtain ⟨us', i2, w2, v2⟩ := leaf_of_nest (K := X.K) d2 k2
        obtain ⟨c0, h3, e0⟩ := mapE h''
        obtain ⟨f, hf1, hf2⟩ := dictHits (G := G) (W := fun u v b => SeqAt.EqIn X.prog X.w X.A.in1 s u v b) el w1 v1 q1 i1 w2 v2 q2 h3
        have lu : us.length = ds.length := by simpa using (congrArg List.length w1).symm
        have lu' : us'.length = es.length := by simpa using (congrArg List.length w2).symm
        refine PySem.W.keq_eqIn hm hm2 (Heap.dictOf_iff.mpr ⟨o, rdp I (sub _ _ r1), i1⟩) (Heap.dictOf_iff.mpr ⟨o2, rdp I (sub _ _ r2), i2⟩) (by omega) (fun _ => PySem.W.KeqHitsIn.of us hf1) ?_
        rw [← hf2, lu, lu', e0]
        exact fin
      · cases h''
    | _ => cases h'
  | _ => cases e <;> first | exact absurd h' hc | (cases h'; done)
theorem op_neX (hu : X.A.units + 64 < cLine) : OpR X (compareOp .NotEq) (RO X D.ne) := by
  intro pins s σ H x y v u Q I rx ry ⟨G, d, e, z, sub, hd, he, hz, k⟩
  obtain ⟨b, h, rfl⟩ := mapE hz
  have fin : EP X pins σ Q (.bool (!b)) s := ⟨.bl (!b), H, I, rfl, k _ G H (Grow.refl sub) rfl⟩
  by_cases hc : eqO 0 d e = some b
  · exact (rcMix I sub (by omega) hd he rx ry hc).2.1 X.prog X.w X.xe _ fin
  have el : ∀ (d e : D) (x y : V) (u v : Value) (b : Bool), Rep X.prog X.w X.K G d x → Rep X.prog X.w X.K G e y → RelV x u → RelV y v → eqN 50 d e = some b → SeqAt.EqAt X.A.in1 s u v b :=
    fun d e x y u v b rd re ru rv hh => eqAtN I sub 50 d e x y u v b rd re ru rv hh X.A.in1 (by show X.A.units + 1 + 50 < cLine; omega)
  cases d with
  | lst ds =>
    cases e with
    | lst es =>
      obtain ⟨a, vs, rfl, r1, q1⟩ := hd
      obtain ⟨a2, vs2, rfl, r2, q2⟩ := he
      cases rx
      cases ry
      obtain ⟨its, v1, h1, m1⟩ := islD I sub r1 q1
      obtain ⟨its2, v2, h2, m2⟩ := islD I sub r2 q2
      have h'' : (if ds.length = es.length then allO (List.zipWith (eqN 50) ds es) else some false) = some b := h
      split at h''
      · rename_i hl
        have t := SeqAt.RcNeAt.lists h1 h2 (by simp [m1, m2, hl]) (by omega) (elsN (G := G) (W := fun u v b => SeqAt.EqAt X.A.in1 s u v b) el q1 q2 v1 v2 h'')
        rw [sumL m1 m2 hl h''] at t
        exact t X.prog X.w X.xe _ fin
      · rename_i hl
        cases h''
        exact SeqAt.RcNeAt.lists_lengths h1 h2 (by simp [m1, m2, hl]) (by omega) X.prog X.w X.xe _ fin
    | _ => exact absurd h hc
  | tup ds =>
    cases e with
    | tup es =>
      obtain ⟨a, vs, rfl, r1, q1⟩ := hd
      obtain ⟨a2, vs2, rfl, r2, q2⟩ := he
      cases rx
      cases ry
      obtain ⟨its, v1, h1, m1⟩ := istD I sub r1 q1
      obtain ⟨its2, v2, h2, m2⟩ := istD I sub r2 q2
      obtain ⟨c, e1, e2⟩ := mapE (show (allO (List.zipWith (eqN 50) ds es)).map (fun c => c && ds.length == es.length) = some b from h)
      have t := SeqAt.RcNeAt.tuples h1 h2 (by omega) (elsN (G := G) (W := fun u v b => SeqAt.EqAt X.A.in1 s u v b) el q1 q2 v1 v2 e1)
      rw [sumT m1 m2 e1 e2] at t
      exact t X.prog X.w X.xe _ fin
    | _ => exact absurd h hc
  | dct ds =>
    cases e with
    | dct es =>
      obtain ⟨a, o, vs, rfl, hm, r1, hl1, d1, q1⟩ := hd
      obtain ⟨a2, o2, vs2, rfl, hm2, r2, hl2, d2, q2⟩ := he
      cases rx
      cases ry
      have h'' : (if (ds.all fun p => leafKey p.1) && (es.all fun p => leafKey p.1) then (allO (ds.map fun p => match getK es p.1 with | some u => eqN 50 p.2 u | none => some false)).map (fun c => ds.length == es.length && c) else none) = some b := h
      split at h''
      · rename_i hk
        obtain ⟨k1, k2⟩ := Bool.and_eq_true_iff.mp hk
        obtain ⟨us, i1, w1, v1⟩ := leaf_of_nest (K := X.K) d1 k1
        obtain ⟨us', i2, w2, v2⟩ := leaf_of_nest (K := X.K) d2 k2
        obtain ⟨c0, h3, e0⟩ := mapE h''
        obtain ⟨f, hf1, hf2⟩ := dictHits (G := G) (W := fun u v b => SeqAt.EqAt X.A.in1 s u v b) el w1 v1 q1 i1 w2 v2 q2 h3
        have lu : us.length = ds.length := by simpa using (congrArg List.length w1).symm
        have lu' : us'.length = es.length := by simpa using (congrArg List.length w2).symm
        have hits : ∀ r : List (Leaf × Value), (∀ l u y, (l, u) ∈ r → valueAt us' l = some y → SeqAt.EqAt X.A.in1 s u y (f l)) → PySem.W.KeqHits X.A.in1 s us' r (r.all fun p => (valueAt us' p.1).isSome && f p.1) := by
          intro r
          induction r with
          | nil => intro _; exact .nil
          | cons p r ihr =>
            intro hh
            obtain ⟨l, u⟩ := p
            rw [List.all_cons]
            cases hv : valueAt us' l with
            | none => exact .miss hv
            | some y => exact .hit hv (hh l u y List.mem_cons_self hv) (ihr fun l u y hm => hh l u y (List.mem_cons_of_mem _ hm))
        refine PySem.W.keq_ne hm hm2 (Heap.dictOf_iff.mpr ⟨o, rdp I (sub _ _ r1), i1⟩) (Heap.dictOf_iff.mpr ⟨o2, rdp I (sub _ _ r2), i2⟩) (by omega) (fun _ => hits us hf1) ?_
        rw [← hf2, lu, lu', e0]
        exact fin
      · cases h''
    | _ => first | exact absurd h hc | (cases h; done)
  | _ => cases e <;> first | exact absurd h hc | (cases h; done)
end
end RF
set_option Elab.async false
set_option linter.all false
set_option maxRecDepth 100000
set_option maxHeartbeats 2000000
namespace RF
open PySem PySem.Spec L2
open PyProof.Rows hiding St
section
variable {X : Cx} {pins : List (Addr × Obj)} {σ : St} {H G : Hp} {s : Shared}
theorem leafDict (I : L2.Inv X pins σ H s) (sub : Same G H) {a : Addr} {o : Obj} {kvs : List (D × D)} {vs : List V} (r : G a = some (pinO a o)) (d : DictO X.prog X.w G o (kvs.map (·.1)) vs) (hk : leafKs kvs = true) :
    ∃ us : List (Leaf × Value), s.heap.DictOf (leafK0 X.prog X.w) a us ∧ o.IsDictOf (leafK0 X.prog X.w) us ∧ (kvs.map (·.1)).map leafOf = us.map (fun u => some u.1) ∧ Vals vs (us.map (·.2)) := by
  obtain ⟨us, i1, w1, v1⟩ := leaf_of_nest (K := X.K) d hk
  exact ⟨us, Heap.dictOf_iff.mpr ⟨o, rdp I (sub _ _ r), i1⟩, i1, w1, v1⟩
theorem nestOf_some {k : D} (h : flatTup k = true) : ∃ n, nestOf k = some n := by
  cases k with
  | tup l =>
    have key : ∀ l : List D, l.all leafKey = true → ∃ ns, l.mapM nestOf1 = some ns := by
      intro l
      induction l with
      | nil => intro _; exact ⟨[], rfl⟩
      | cons d r ih =>
        intro h
        rw [List.all_cons, Bool.and_eq_true_iff] at h
        obtain ⟨ns, e⟩ := ih h.2
        obtain ⟨n, e1⟩ : ∃ n, nestOf1 d = some n := by cases d <;> first | exact ⟨_, rfl⟩ | cases h.1
        exact ⟨n :: ns, by rw [List.mapM_cons, e1, e]; rfl⟩
    obtain ⟨ns, e⟩ := key l h
    exact ⟨.tup ns, by show (l.mapM nestOf1).map NestedKey.tup = _; rw [e]; rfl⟩
  | _ => cases h
theorem nest1_inj : ∀ {k k' : D} {n : NestedKey}, nestOf1 k = some n → nestOf1 k' = some n → k = k' := by
  intro k k' n h h'
  cases k <;> cases k' <;> first | rfl | (simp [nestOf1] at h h'; done) | (simp [nestOf1] at h h'; subst h; first | (cases h'; rfl) | simp_all)
theorem nest_inj {k k' : D} {n : NestedKey} (h : nestOf k = some n) (h' : nestOf k' = some n) : k = k' := by
  have key : ∀ (l l' : List D) (ns : List NestedKey), l.mapM nestOf1 = some ns → l'.mapM nestOf1 = some ns → l = l' := by
    intro l
    induction l with
    | nil =>
      intro l' ns e e'
      cases l' with
      | nil => rfl
      | cons d r =>
        cases e
        rw [List.mapM_cons] at e'
        obtain ⟨a, _, e'⟩ := bindE e'
        obtain ⟨b, _, e'⟩ := bindE e'
        cases e'
    | cons d r ih =>
      intro l' ns e e'
      rw [List.mapM_cons] at e
      obtain ⟨a, e1, e⟩ := bindE e
      obtain ⟨b, e2, e⟩ := bindE e
      cases e
      cases l' with
      | nil => cases e'
      | cons d' r' =>
        rw [List.mapM_cons] at e'
        obtain ⟨a', e1', e'⟩ := bindE e'
        obtain ⟨b', e2', e'⟩ := bindE e'
        cases e'
        rw [nest1_inj e1 e1', ih r' b e2 e2']
  cases k <;> first | (cases h; done) | skip
  cases k' <;> first | (cases h'; done) | skip
  obtain ⟨ns, e1, e2⟩ := mapE (show ((_ : List D).mapM nestOf1).map NestedKey.tup = some n from h)
  obtain ⟨ns', e1', e2'⟩ := mapE (show ((_ : List D).mapM nestOf1).map NestedKey.tup = some n from h')
  rw [← e2'] at e2
  cases e2
  rw [key _ _ _ e1 e1']
theorem nest_is (I : L2.Inv X pins σ H s) {a : Addr} {ds : List D} {kv : List V} {n : NestedKey} (r : H a = some (.tup kv)) (q : kv.map flatD = ds.map some) (h : nestOf (.tup ds) = some n) : (nestedKind X.prog X.w).is s.heap n a := by
  obtain ⟨its, v, ⟨o, e1, e2, m, e3⟩, _⟩ := rdt I r
  obtain ⟨ns, f1, f2⟩ := mapE (show (ds.mapM nestOf1).map NestedKey.tup = some n from h)
  have key : ∀ (ds : List D) (kv : List V) (its : List Value) (ns : List NestedKey), kv.map flatD = ds.map some → Vals kv its → ds.mapM nestOf1 = some ns → NestedAll s.heap ns its ∧ NestedKey.depthAll ns ≤ 0 := by
    intro ds
    induction ds with
    | nil =>
      intro kv its ns q v e
      cases e
      cases kv with
      | nil => cases v; exact ⟨.nil, Nat.le_refl _⟩
      | cons _ _ => cases q
    | cons d r ih =>
      intro kv its ns q v e
      rw [List.mapM_cons] at e
      obtain ⟨a, e1, e⟩ := bindE e
      obtain ⟨b, e2, e⟩ := bindE e
      cases e
      cases kv with
      | nil => cases q
      | cons x kv =>
        cases v with
        | cons rx rv =>
          rename_i ux uv
          rw [List.map_cons, List.map_cons, List.cons.injEq] at q
          obtain ⟨i1, i2⟩ := ih kv uv b q.2 rv e2
          have hx := q.1
          have one : NestedIs s.heap a ux ∧ a.depth = 0 := by
            cases x with
            | non => cases hx; cases e1; cases rx; exact ⟨.none, rfl⟩
            | int i => cases hx; cases e1; obtain ⟨t, rfl⟩ := rx; exact ⟨.int _ _, rfl⟩
            | str z => cases hx; cases e1; obtain ⟨t, rfl⟩ := rx; exact ⟨.text _ _, rfl⟩
            | _ => cases hx
          refine ⟨.cons one.1 i1, ?_⟩
          simp only [NestedKey.depthAll, one.2]
          omega
  obtain ⟨g1, g2⟩ := key ds kv its ns q v f1
  subst f2
  refine ⟨.tup e1 e2 e3 (by simpa using g1), ?_⟩
  simp only [NestedKey.depth]
  omega
theorem nest_val {P : Program} {w : World} {K : PySem.W.Frag} {G : Hp} : ∀ {kvs : List (D × D)} {us : List (NestedKey × Value)} {vs : List V}, (kvs.map (·.1)).map nestOf = us.map (fun u => some u.1) → Vals vs (us.map (·.2)) → RepP P w K G kvs vs →
    ∀ {k : D} {l : NestedKey}, nestOf k = some l → (getK kvs k = none ∧ valueAt us l = none) ∨ ∃ d v u, getK kvs k = some d ∧ valueAt us l = some u ∧ RelV v u ∧ Rep P w K G d v
  | [], us, vs, h1, h2, h3, k, l, hk => by
    cases us with
    | nil => exact .inl ⟨rfl, rfl⟩
    | cons _ _ => simp at h1
  | (a, d) :: r, us, vs, h1, h2, h3, k, l, hk => by
    cases us with
    | nil => simp at h1
    | cons q us =>
      obtain ⟨q1, q2⟩ := q
      obtain ⟨v, vr, e, h3a, h3b⟩ := h3
      subst e
      cases h2 with
      | cons r1 r2 =>
        simp only [List.map_cons, List.cons.injEq] at h1
        obtain ⟨h1a, h1b⟩ := h1
        by_cases hak : a = k
        · subst hak
          rw [hk] at h1a
          cases h1a
          exact .inr ⟨d, v, q2, by unfold getK; rw [if_pos rfl], by unfold valueAt; simp, r1, h3a⟩
        · have hne : ¬ q1 = l := fun z => hak (nest_inj (h1a.trans (by rw [z])) hk)
          have := nest_val (by simpa using h1b) r2 h3b hk
          have e1 : getK ((a, d) :: r) k = getK r k := by
            show (if a = k then some d else getK r k) = _
            rw [if_neg hak]
          have e2 : valueAt ((q1, q2) :: us) l = valueAt us l := by unfold valueAt; simp [hne]
          rw [e1, e2]
          exact this
theorem tupDict (I : L2.Inv X pins σ H s) (sub : Same G H) {a : Addr} {o : Obj} {kvs : List (D × D)} {vs : List V} (r : G a = some (pinO a o)) (d : DictO X.prog X.w G o (kvs.map (·.1)) vs) (hk : tupKs kvs = true) :
    ∃ us : List (NestedKey × Value), s.heap.DictKeyed (nestedKind X.prog X.w) a us ∧ (kvs.map (·.1)).map nestOf = us.map (fun u => some u.1) ∧ Vals vs (us.map (·.2)) := by
  have ho := rdp I (sub _ _ r)
  rcases d with ⟨us, i1, w1, v1⟩ | ⟨xs, ⟨h1, ⟨es, ep, h2, h3⟩, h4⟩, h5, h6, h7⟩
  · cases kvs with
    | nil =>
      have e0 : us = [] := by
        cases us with
        | nil => rfl
        | cons _ _ => simp at w1
      subst e0
      obtain ⟨es, ep, h1, h2, _, p, _⟩ := i1
      refine ⟨[], ⟨[], ⟨o, es, ep, ho, h1, h2, ?_, fun _ hx => (nomatch hx), List.nodup_nil⟩, rfl⟩, rfl, v1⟩
      generalize es.toList = l at p
      cases p
      rfl
    | cons p r' =>
      have hp := (List.all_eq_true.mp hk) p List.mem_cons_self
      cases us with
      | nil => simp at w1
      | cons u us =>
        simp only [List.map_cons, List.cons.injEq] at w1
        obtain ⟨p1, p2⟩ := p
        have w1a := w1.1
        cases p1 <;> first | (cases hp; done) | (cases w1a; done)
  · refine ⟨pairsH xs, ⟨xs, ⟨o, es, ep, ho, h1, h2, h3, fun x hx => ?_, h4⟩, rfl⟩, by rw [h5]; unfold pairsH; rw [List.map_map]; rfl, by unfold pairsH; rw [List.map_map]; exact h6⟩
    obtain ⟨i, hi⟩ := List.mem_iff_getElem?.mp hx
    have e5 := congrArg (fun z => z[i]?) h5
    simp only [List.getElem?_map, hi, Option.map_some] at e5
    obtain ⟨k, ek, ek2⟩ := Option.map_eq_some_iff.mp e5
    have hki : (kvs.map (·.1))[i]? = some k := by rw [List.getElem?_map]; exact ek
    obtain ⟨ds, kv, e, g1, g2⟩ := h7 i k x hki hi
    subst e
    exact nest_is I (sub _ _ g1) g2 ek2
theorem tupKey (I : L2.Inv X pins σ H s) (sub : Same G H) {k : D} {x : V} (hk : flatTup k = true) (r : Rep X.prog X.w X.K G k x) : ∃ a n, x = .ref a ∧ nestOf k = some n ∧ (nestedKind X.prog X.w).is s.heap n a := by
  obtain ⟨n, hn⟩ := nestOf_some hk
  cases k with
  | tup l =>
    obtain ⟨a, vs, rfl, r1, q⟩ := r
    refine ⟨a, n, rfl, hn, nest_is I (sub _ _ r1) ?_ hn⟩
    have hl : l.all leafKey = true := hk
    clear hn hk r1
    induction l generalizing vs with
    | nil => cases q; rfl
    | cons d r ih =>
      rw [List.all_cons, Bool.and_eq_true_iff] at hl
      obtain ⟨v, vr, rfl, q1, q2⟩ := q
      rw [List.map_cons, List.map_cons, ih vr q2 hl.2]
      congr 1
      cases d <;> first | (cases hl.1; done) | (cases q1; rfl)
  | _ => cases hk
theorem anyEq_spec {x : D} : ∀ {l : List D} {b : Bool}, anyEq x l = some b → (∀ y ∈ l, ∃ c, eqN 50 y x = some c) ∧ (b = true ↔ ∃ y ∈ l, eqN 50 y x = some true) := by
  intro l b h
  obtain ⟨c, e1, e2⟩ := mapE h
  have h2 := allO_all e1
  have h1 : ∀ y ∈ l, ∃ c, eqN 50 y x = some c := by
    intro y hy
    obtain ⟨i, hi⟩ := List.mem_iff_getElem?.mp hy
    have : (l.map fun y => (eqN 50 y x).map not)[i]? = some ((eqN 50 y x).map not) := by rw [List.getElem?_map, hi]; rfl
    obtain ⟨c', hc⟩ := allO_get e1 this
    obtain ⟨z, hz, _⟩ := mapE hc
    exact ⟨z, hz⟩
  refine ⟨h1, ?_⟩
  rw [← e2, h2, List.all_map, Bool.not_eq_true', List.all_eq_false]
  constructor
  · rintro ⟨y, hy, hn⟩
    obtain ⟨c', hc⟩ := h1 y hy
    refine ⟨y, hy, ?_⟩
    rw [hc]
    cases c' with
    | true => rfl
    | false => exact absurd (by simp [hc]) hn
  · rintro ⟨y, hy, he⟩
    exact ⟨y, hy, by simp [he]⟩
theorem anyAt (I : L2.Inv X pins σ H s) (sub : Same G H) {A : Around} (hA : A.units + 50 < cLine) {x : D} {vx : V} {ux : Value} (rx : Rep X.prog X.w X.K G x vx) (rux : RelV vx ux) {l : List D} {vs : List V} {its : List Value} (q : Reps X.prog X.w X.K G l vs) (r : Vals vs its) {b : Bool} (h : anyEq x l = some b) :
    ∃ e : Value → Bool, (∀ y ∈ its, SeqAt.EqAt A s y ux (e y)) ∧ its.any e = b := by
  classical
  obtain ⟨h1, h2⟩ := anyEq_spec h
  have at_ : ∀ (i : Nat) (u : Value), its[i]? = some u → ∃ (d : D) (c : Bool), l[i]? = some d ∧ eqN 50 d x = some c ∧ SeqAt.EqAt A s u ux c := by
    intro i u hu
    have hi : i < its.length := (List.getElem?_eq_some_iff.mp hu).1
    have l1 := q.length
    have l2 := r.length
    have hid : i < l.length := by omega
    have hd := List.getElem?_eq_getElem hid
    obtain ⟨v, hv, rv⟩ := q.get hd
    obtain ⟨u', hu', ru⟩ := r.get hv
    rw [hu] at hu'
    cases hu'
    obtain ⟨c, hc⟩ := h1 _ (List.getElem_mem hid)
    exact ⟨_, c, hd, hc, eqAtN I sub 50 _ x v vx u ux c rv rx ru rux hc A hA⟩
  refine ⟨fun u => decide (∃ (i : Nat) (d : D), its[i]? = some u ∧ l[i]? = some d ∧ eqN 50 d x = some true), fun y hy => ?_, ?_⟩
  · show SeqAt.EqAt A s y ux (decide (∃ (i : Nat) (d : D), its[i]? = some y ∧ l[i]? = some d ∧ eqN 50 d x = some true))
    by_cases hh : ∃ (i : Nat) (d : D), its[i]? = some y ∧ l[i]? = some d ∧ eqN 50 d x = some true
    · rw [decide_eq_true hh]
      obtain ⟨i, d, e1, e2, e3⟩ := hh
      obtain ⟨d', c, f1, f2, f3⟩ := at_ i y e1
      rw [e2] at f1
      cases f1
      rw [e3] at f2
      cases f2
      exact f3
    · rw [decide_eq_false hh]
      obtain ⟨i, hi⟩ := List.mem_iff_getElem?.mp hy
      obtain ⟨d', c, f1, f2, f3⟩ := at_ i y hi
      cases c with
      | false => exact f3
      | true => exact absurd ⟨i, d', hi, f1, f2⟩ hh
  · rw [Bool.eq_iff_iff, h2, List.any_eq_true]
    constructor
    · rintro ⟨u, hu, he⟩
      obtain ⟨i, d, e1, e2, e3⟩ := of_decide_eq_true he
      exact ⟨d, List.mem_of_getElem? e2, e3⟩
    · rintro ⟨d, hd, he⟩
      obtain ⟨i, hi⟩ := List.mem_iff_getElem?.mp hd
      have hlt : i < its.length := by
        have := (List.getElem?_eq_some_iff.mp hi).1
        have l1 := q.length
        have l2 := r.length
        omega
      exact ⟨its[i], List.getElem_mem hlt, decide_eq_true ⟨i, d, List.getElem?_eq_getElem hlt, hi, he⟩⟩
theorem inRun (I : L2.Inv X pins σ H s) (hu : X.A.units + 64 < cLine) (sub : Same G H) {d e : D} {x y : V} {u v : Value} {b : Bool} (rd : Rep X.prog X.w X.K G d x) (re : Rep X.prog X.w X.K G e y) (ru : RelV x u) (rv : RelV y v) (h : D.inO d e = some b) (Q : Value → Shared → Prop) :
    ((∀ tk, Q (.bool b) { s with toks := tk }) → wpAny (model X.prog X.w) X.A (compareOp .In u v) Q X.xe s) ∧ ((∀ tk, Q (.bool (!b)) { s with toks := tk }) → wpAny (model X.prog X.w) X.A (compareOp .NotIn u v) Q X.xe s) := by
  have hA : X.A.in1.units + 50 < cLine := by show X.A.units + 1 + 50 < cLine; omega
  cases e with
  | lst l =>
    obtain ⟨a, vs, rfl, r1, q1⟩ := re
    cases rv
    obtain ⟨its, v1, h1, m1⟩ := islD I sub r1 q1
    have h' : anyEq d l = some b := by cases d <;> exact h
    obtain ⟨f, hf1, hf2⟩ := anyAt I sub hA rd ru q1 v1 h'
    have e1 : its.toArray.any f = b := by rw [← hf2]; simp
    exact ⟨fun q => SeqAt.in_listAt f h1 (fun z hz => hf1 z (by simpa using hz)) (by rw [e1]; exact q s.toks), fun q => SeqAt.notIn_listAt f h1 (fun z hz => hf1 z (by simpa using hz)) (by rw [e1]; exact q s.toks)⟩
  | tup l =>
    obtain ⟨a, vs, rfl, r1, q1⟩ := re
    cases rv
    obtain ⟨its, v1, h1, m1⟩ := istD I sub r1 q1
    have h' : anyEq d l = some b := by cases d <;> exact h
    obtain ⟨f, hf1, hf2⟩ := anyAt I sub hA rd ru q1 v1 h'
    have e1 : its.toArray.any f = b := by rw [← hf2]; simp
    exact ⟨fun q => SeqAt.in_tupleAt f h1 (fun z hz => hf1 z (by simpa using hz)) (by rw [e1]; exact q s.toks), fun q => SeqAt.notIn_tupleAt f h1 (fun z hz => hf1 z (by simpa using hz)) (by rw [e1]; exact q s.toks)⟩
  | dct l =>
    have h' : (if ((leafKey d && leafKs l) || (flatTup d && tupKs l)) = true then some (hasK l d) else none) = some b := by cases d <;> exact h
    obtain ⟨hg, rfl⟩ := ifE h'
    obtain ⟨a, o, vs, rfl, hm, r1, hl1, d1, q1⟩ := re
    cases rv
    rcases (Bool.or_eq_true _ _).mp hg with hg | hg
    · obtain ⟨g1, g2⟩ := Bool.and_eq_true_iff.mp hg
      obtain ⟨us, i1, _, w1, v1⟩ := leafDict I sub r1 d1 g2
      obtain ⟨lf, hlf⟩ := leafOf_some g1
      have eb : hasK l d = (valueAt us lf).isSome := by
        unfold hasK
        rcases leaf_val w1 v1 q1 hlf with ⟨z1, z2⟩ | ⟨d', v', u', z1, z2, _⟩ <;> rw [z1, z2] <;> rfl
      rw [eb]
      exact ⟨fun q => wpAny_in_of (leafOf_rel hlf rd ru) hm i1.mapOf (q _), fun q => wpAny_notIn_of (leafOf_rel hlf rd ru) hm i1.mapOf (q _)⟩
    · obtain ⟨g1, g2⟩ := Bool.and_eq_true_iff.mp hg
      obtain ⟨us, i1, w1, v1⟩ := tupDict I sub r1 d1 g2
      obtain ⟨ak, n, rfl, hn, hk⟩ := tupKey I sub g1 rd
      cases ru
      have eb : hasK l d = (valueAt us n).isSome := by
        unfold hasK
        rcases nest_val w1 v1 q1 hn with ⟨z1, z2⟩ | ⟨d', v', u', z1, z2, _⟩ <;> rw [z1, z2] <;> rfl
      rw [eb]
      exact ⟨fun q => in_keyed (by show X.A.units + 1 + 8 < cLine; omega) hk hm i1 (q _), fun q => notIn_keyed (by show X.A.units + 1 + 8 < cLine; omega) hk hm i1 (q _)⟩
  | str t =>
    cases d with
    | str c =>
      cases rd
      cases re
      obtain ⟨t1, rfl⟩ := ru
      obtain ⟨t2, rfl⟩ := rv
      have h' : sgnIn c t = some b := h
      unfold sgnIn at h'
      split at h'
      · rename_i z hz
        cases h'
        have ec : c = ⟨#[z]⟩ := by
          obtain ⟨cps⟩ := c
          have : cps = #[z] := by apply Array.toList_inj.mp; exact hz
          rw [this]
        subst ec
        exact ⟨fun q => PyProof.Rows.in_str (by rw [PySem.StrLaws.found_one]; exact q s.toks), fun q => PyProof.Rows.notIn_str (by rw [PySem.StrLaws.found_one]; exact q s.toks)⟩
      · cases h'
    | _ => cases h
  | _ => cases d <;> cases h
theorem op_inX (hu : X.A.units + 64 < cLine) : OpR X (compareOp .In) (RO X D.isIn) := by
  intro pins s σ H x y v u Q I rx ry ⟨G, d, e, z, sub, hd, he, hz, k⟩
  obtain ⟨b, h, rfl⟩ := mapE hz
  exact (inRun I hu sub hd he rx ry h _).1 fun tk => ⟨.bl b, H, I.tok tk, rfl, k _ G H (Grow.refl sub) rfl⟩
theorem op_notInX (hu : X.A.units + 64 < cLine) : OpR X (compareOp .NotIn) (RO X D.notIn) := by
  intro pins s σ H x y v u Q I rx ry ⟨G, d, e, z, sub, hd, he, hz, k⟩
  obtain ⟨b, h, rfl⟩ := mapE hz
  exact (inRun I hu sub hd he rx ry h _).2 fun tk => ⟨.bl (!b), H, I.tok tk, rfl, k _ G H (Grow.refl sub) rfl⟩
theorem reps_atI {P : Program} {w : World} {K : PySem.W.Frag} {G : Hp} {ds : List D} {vs : List V} {i : Int} {z : D} (q : Reps P w K G ds vs) (h : atI ds i = some z) : ∃ v, atI vs i = some v ∧ Rep P w K G z v := by
  unfold atI at h ⊢
  obtain ⟨j, e1, e2⟩ := bindE h
  obtain ⟨v, e3, r⟩ := q.get e2
  exact ⟨v, by rw [q.length, e1]; exact e3, r⟩
theorem ix_D (hu : X.A.units + 64 < cLine) : IxR X (RO X D.item) := by
  intro value slice pins s σ H x y v u Q I rx ry ⟨G, d, e, z, sub, hd, he, hz, k⟩ hs
  cases d with
  | lst l =>
    cases e with
    | int i =>
      obtain ⟨a, vs, rfl, r1, q1⟩ := hd
      obtain ⟨w, e1, r⟩ := reps_atI q1 (show atI l i = some z from hz)
      exact ix_list value slice pins s σ H _ y v u Q I rx ry ⟨a, vs, i, w, rfl, he, SqL.of (sub _ _ r1), e1, k _ G H (Grow.refl sub) r⟩ hs
    | _ => cases hz
  | tup l =>
    cases e with
    | int i =>
      obtain ⟨a, vs, rfl, r1, q1⟩ := hd
      obtain ⟨w, e1, r⟩ := reps_atI q1 (show atI l i = some z from hz)
      exact ix_tup value slice pins s σ H _ y v u Q I rx ry ⟨a, vs, i, w, rfl, he, SqT.of (sub _ _ r1), e1, k _ G H (Grow.refl sub) r⟩ hs
    | _ => cases hz
  | str t =>
    cases e with
    | int i =>
      have h' : (if lineOk t.length = true then (atI t.cps.toList i).map fun c => D.str ⟨#[c]⟩ else none) = some z := hz
      split at h'
      · rename_i hl
        obtain ⟨c, e1, rfl⟩ := mapE h'
        exact ix_str value slice pins s σ H x y v u Q I rx ry ⟨t, i, c, hd, he, lineOk_iff.mp hl, e1, k _ G H (Grow.refl sub) rfl⟩ hs
      · cases h'
    | _ => cases hz
  | dct l =>
    have h' : (if ((leafKey e && leafKs l) || (flatTup e && tupKs l)) = true then getK l e else none) = some z := hz
    split at h'
    · rename_i hg
      obtain ⟨a, o, vs, rfl, hm, r1, hl1, d1, q1⟩ := hd
      cases rx
      rcases (Bool.or_eq_true _ _).mp hg with hg | hg
      · obtain ⟨g1, g2⟩ := Bool.and_eq_true_iff.mp hg
        obtain ⟨us, i1, _, w1, v1⟩ := leafDict I sub r1 d1 g2
        obtain ⟨lf, hlf⟩ := leafOf_some g1
        rcases leaf_val w1 v1 q1 hlf with ⟨z1, z2⟩ | ⟨d', v', u', z1, z2, z3, z4⟩
        · rw [z1] at h'; cases h'
        · rw [h'] at z1
          cases z1
          exact tail_any i1.typeIs F.slot_dict_getitem.lookup (wpAny_getItem_of (leafOf_rel hlf he ry) i1.mapOf z2 ⟨v', H, I.tok _, z3, k _ G H (Grow.refl sub) z4⟩) hs
      · obtain ⟨g1, g2⟩ := Bool.and_eq_true_iff.mp hg
        obtain ⟨us, i1, w1, v1⟩ := tupDict I sub r1 d1 g2
        obtain ⟨ak, n, rfl, hn, hk⟩ := tupKey I sub g1 he
        cases ry
        rcases nest_val w1 v1 q1 hn with ⟨z1, z2⟩ | ⟨d', v', u', z1, z2, z3, z4⟩
        · rw [z1] at h'; cases h'
        · rw [h'] at z1
          cases z1
          exact tail_any i1.typeIs F.slot_dict_getitem.lookup (getItem_keyed (by show X.A.units + 1 + 8 < cLine; omega) hk i1 z2 ⟨v', H, I.tok _, z3, k _ G H (Grow.refl sub) z4⟩) hs
    · cases h'
  | _ => cases e <;> cases hz
theorem cut_reps {P : Program} {w : World} {K : PySem.W.Frag} {G : Hp} {ds : List D} {vs : List V} (q : Reps P w K G ds vs) (lo hi : Option Int) : Reps P w K G (cutL ds lo hi) (cutV vs lo hi) := by
  unfold cutL cutV
  rw [q.length]
  exact (q.drop _).take _
theorem cutV_map (l : List Int) (lo hi : Option Int) : cutV (l.map V.int) lo hi = (cutL l lo hi).map V.int := by
  unfold cutL cutV
  rw [List.length_map, ← List.map_drop, ← List.map_take]
def rSlD (P : Program) (w : World) (K : PySem.W.Frag) : V → Option Int → Option Int → Hp → VK → Prop := fun x lo hi H Q => ∃ G d z, Same G H ∧ Rep P w K G d x ∧ D.slice lo hi d = some z ∧ ∀ v G' H', Grow G H G' H' → Rep P w K G' z v → Q v H'
theorem sl_D : SlR X (rSlD X.prog X.w X.K) := by
  intro pins s σ H x v vl vu lo hi sl Q I rx h1 h2 h3 ⟨G, d, z, sub, hd, hz, k⟩
  cases d with
  | lst l =>
    cases hz
    obtain ⟨a, vs, rfl, r1, q1⟩ := hd
    exact sl_list pins s σ H _ v vl vu lo hi sl Q I rx h1 h2 h3 ⟨a, vs, rfl, SqL.of (sub _ _ r1), fun p hp => k _ _ _ (Grow.alloc sub hp) ⟨p, _, rfl, upd_same, Reps.mono (Grow.alloc sub hp).g _ _ (cut_reps q1 lo hi)⟩⟩
  | scr l =>
    cases hz
    obtain ⟨a, rfl, q1⟩ := hd
    refine sl_list pins s σ H _ v vl vu lo hi sl Q I rx h1 h2 h3 ⟨a, _, rfl, sub.seq q1, fun p hp => k _ _ _ (Grow.alloc sub hp) ⟨p, _, rfl, upd_same, ?_⟩⟩
    rw [cutV_map]
    have key : ∀ m : List Int, Reps X.prog X.w X.K (upd G p (.lst ((cutL l lo hi).map V.int))) (m.map D.int) (m.map V.int) := by
      intro m
      induction m with
      | nil => rfl
      | cons i m ih => exact ⟨.int i, _, rfl, rfl, ih⟩
    exact key _
  | tup l =>
    cases hz
    obtain ⟨a, vs, rfl, r1, q1⟩ := hd
    refine sl_tupA pins s σ H _ v vl vu lo hi sl Q I rx h1 h2 h3 ⟨a, vs, rfl, SqT.of (sub _ _ r1), fun hw => ?_, fun _ p hp => k _ _ _ (Grow.alloc sub hp) ⟨p, _, rfl, upd_same, Reps.mono (Grow.alloc sub hp).g _ _ (cut_reps q1 lo hi)⟩⟩
    rw [q1.length] at hw
    have e : cutL l lo hi = l := by
      unfold cutL
      rw [hw.1, hw.2, List.drop_zero, Nat.sub_zero, List.take_length]
    exact k _ G H (Grow.refl sub) (by rw [e]; exact ⟨a, vs, rfl, r1, q1⟩)
  | str t =>
    obtain ⟨hl, rfl⟩ := ifE (show (if lineOk t.length = true then some (D.str (cutS t lo hi)) else none) = some z from hz)
    exact sl_str pins s σ H x v vl vu lo hi sl Q I rx h1 h2 h3 ⟨t, hd, lineOk_iff.mp hl, k _ G H (Grow.refl sub) rfl⟩
  | _ => cases hz
theorem op_isNX : OpR X (compareOp .Is) (rD2 X.prog X.w X.K fun a b => if b.isNone then a.isN else none) := by
  intro pins s σ H x y v u Q I rx ry ⟨G, d, e, z, sub, hd, he, hz, k⟩
  have hz' : (if e.isNone = true then some (D.bl d.isNone) else none) = some z := hz
  obtain ⟨hl, rfl⟩ := ifE hz'
  cases e <;> first | (cases hl; done) | skip
  exact op_isN pins s σ H x y v u Q I rx ry ⟨he, k _ G H (Grow.refl sub) (by rw [rep_non hd]; rfl)⟩
theorem op_notNX : OpR X (compareOp .IsNot) (rD2 X.prog X.w X.K fun a b => if b.isNone then a.notN else none) := by
  intro pins s σ H x y v u Q I rx ry ⟨G, d, e, z, sub, hd, he, hz, k⟩
  obtain ⟨hl, rfl⟩ : e.isNone = true ∧ D.bl (!d.isNone) = z := ifE hz
  cases e <;> first | (cases hl; done) | skip
  exact op_notN pins s σ H x y v u Q I rx ry ⟨he, k _ G H (Grow.refl sub) (by rw [rep_non hd]; rfl)⟩
theorem tru_D : TruR X (fun x H Q => ∃ G d b, Same G H ∧ Rep X.prog X.w X.K G d x ∧ d.truth = some b ∧ Q b H) := by
  intro pins s σ H x v Q I rx ⟨G, d, b, sub, hd, hz, k⟩
  cases d with
  | non => cases hz; exact tru_ok pins s σ H x v Q I rx ⟨false, by cases hd; rfl, k⟩
  | bl c => cases hz; exact tru_ok pins s σ H x v Q I rx ⟨_, by cases hd; rfl, k⟩
  | int i => cases hz; exact tru_ok pins s σ H x v Q I rx ⟨_, by cases hd; rfl, k⟩
  | str t =>
    obtain ⟨hl, rfl⟩ := ifE (show (if lineOk t.length = true then some (t.length != 0) else none) = some b from hz)
    refine tru_ok pins s σ H x v Q I rx ⟨(t.length != 0), ?_, k⟩
    cases hd
    refine ⟨lineOk_iff.mp hl, ?_⟩
    rw [Bool.eq_iff_iff]
    simp
  | lst l =>
    cases hz
    obtain ⟨a, vs, rfl, r1, q1⟩ := hd
    refine tru_ok pins s σ H _ v Q I rx ⟨_, .inl ⟨vs, SqL.of (sub _ _ r1), ?_⟩, k⟩
    have := q1.length
    cases vs <;> cases l <;> first | rfl | (cases this; done)
  | tup l =>
    cases hz
    obtain ⟨a, vs, rfl, r1, q1⟩ := hd
    refine tru_ok pins s σ H _ v Q I rx ⟨_, .inr (.inl ⟨vs, SqT.of (sub _ _ r1), ?_⟩), k⟩
    have := q1.length
    cases vs <;> cases l <;> first | rfl | (cases this; done)
  | dct l =>
    obtain ⟨hg, rfl⟩ := ifE (show (if leafKs l = true then some (!l.isEmpty) else none) = some b from hz)
    obtain ⟨a, o, vs, rfl, hm, r1, hl1, d1, q1⟩ := hd
    cases rx
    obtain ⟨us, i1, _, w1, v1⟩ := leafDict I sub r1 d1 hg
    have el : us.length = l.length := by simpa using (congrArg List.length w1).symm
    have hl := line63
    refine wpAny_truthy_dict hm i1 (by omega) ⟨H, I.tok _, ?_⟩
    have : us.isEmpty = l.isEmpty := by cases us <;> cases l <;> first | rfl | (cases el; done)
    rw [this]
    exact k
  | ins c l => cases hz
  | mk _ _ _ => cases hz
  | scr l =>
    cases hz
    obtain ⟨a, rfl, q1⟩ := hd
    refine tru_ok pins s σ H _ v Q I rx ⟨_, .inl ⟨_, sub.seq q1, ?_⟩, k⟩
    cases l <;> rfl
def one (f : D → Option D) : List D → Option D
  | [d] => f d
  | _ => none
theorem reps_one {P : Program} {w : World} {K : PySem.W.Frag} {G : Hp} {xs : List V} {ds : List D} {f : D → Option D} {z : D} (q : Reps P w K G ds xs) (h : one f ds = some z) : ∃ d x, ds = [d] ∧ xs = [x] ∧ Rep P w K G d x ∧ f d = some z := by
  match ds, q, h with
  | [d], q, h =>
    obtain ⟨x, r, rfl, q1, q2⟩ := q
    cases q2
    exact ⟨d, x, rfl, rfl, q1, h⟩
abbrev RC (X : Cx) := rDc X.prog X.w X.K
theorem call_lenD' : CallR X (.builtin "len") (RC X (one D.len)) := by
  intro pins s σ H xs us Q I r ⟨G, ds, z, sub, q, hz, k⟩
  obtain ⟨d, x, rfl, rfl, hd, hz⟩ := reps_one q hz
  cases d with
  | lst l =>
    cases hz
    obtain ⟨a, vs, rfl, r1, q1⟩ := hd
    exact call_len_seq pins s σ H _ us Q I r ⟨a, vs, rfl, .inl (SqL.of (sub _ _ r1)), k _ G H (Grow.refl sub) (by rw [q1.length]; rfl)⟩
  | tup l =>
    cases hz
    obtain ⟨a, vs, rfl, r1, q1⟩ := hd
    exact call_len_seq pins s σ H _ us Q I r ⟨a, vs, rfl, .inr (SqT.of (sub _ _ r1)), k _ G H (Grow.refl sub) (by rw [q1.length]; rfl)⟩
  | scr l =>
    cases hz
    obtain ⟨a, rfl, q1⟩ := hd
    exact call_len_seq pins s σ H _ us Q I r ⟨a, _, rfl, .inl (sub.seq q1), k _ G H (Grow.refl sub) (by rw [List.length_map]; rfl)⟩
  | str t =>
    obtain ⟨hl, rfl⟩ := ifE (show (if lineOk t.length = true then some (D.int t.length) else none) = some z from hz)
    exact call_len_str pins s σ H _ us Q I r ⟨t, by cases hd; rfl, lineOk_iff.mp hl, k _ G H (Grow.refl sub) rfl⟩
  | dct l =>
    obtain ⟨hg, rfl⟩ := ifE (show (if leafKs l = true then some (D.int l.length) else none) = some z from hz)
    obtain ⟨a, o, vs, rfl, hm, r1, hl1, d1, q1⟩ := hd
    obtain ⟨u, rfl, ru⟩ := vals1 r
    cases ru
    have hl := line63
    obtain ⟨us, i1, _, w1, v1⟩ := leafDict I sub r1 d1 hg
    have el : us.length = l.length := by simpa using (congrArg List.length w1).symm
    exact call_len_dict hm i1 (by omega) ⟨.int us.length, H, I.tok _, ⟨_, rfl⟩, k _ G H (Grow.refl sub) (by rw [el]; rfl)⟩
  | _ => cases hz
theorem kitD (I : L2.Inv X pins σ H s) (sub : Same G H) {d : D} {x : V} {u : Value} {n : String} (rd : Rep X.prog X.w X.K G d x) (ru : RelV x u) (hn : d.tyName = some n) :
    ∃ P : Heap → Prop, PySem.W.KitX X.K u (.type n) P ∧ P s.heap ∧ u ≠ .builtin "__main__.__loader__#opaque" := by
  cases d with
  | non => cases hn; cases rd; exact kit_of I ru (.base .non)
  | bl b => cases hn; cases rd; exact kit_of I ru (.base (.bl b))
  | int i => cases hn; cases rd; exact kit_of I ru (.base (.int i))
  | str z => cases hn; cases rd; exact kit_of I ru (.base (.str z))
  | lst l => cases hn; obtain ⟨a, vs, rfl, r, q⟩ := rd; exact kit_of I ru (.base (.lst (sub _ _ r)))
  | tup l => cases hn; obtain ⟨a, vs, rfl, r, q⟩ := rd; exact kit_of I ru (.base (.tup (sub _ _ r)))
  | dct l =>
    cases hn
    obtain ⟨a, o, vs, rfl, hm, r, hl, d1, q⟩ := rd
    cases ru
    have ho := rdp I (sub _ _ r)
    have hc : o.cls = .type "dict" := by
      rcases d1 with ⟨us, ⟨_, _, e, _⟩, _⟩ | ⟨xs, ⟨e, _⟩, _⟩
      · exact e.1
      · exact e.1
    exact ⟨_, PySem.W.kitx_dict, ⟨o, ho, hc⟩, fun z => nomatch z⟩
  | _ => cases hn
def rIs1 (P : Program) (w : World) (K : PySem.W.Frag) : List V → Hp → VK → Prop := fun xs H Q => ∃ G d x t z, xs = [x, .ty t] ∧ Same G H ∧ Rep P w K G d x ∧ D.isInst t d = some z ∧ ∀ v G' H', Grow G H G' H' → Rep P w K G' z v → Q v H'
theorem call_isD : CallR X (.builtin "isinstance") (rIs1 X.prog X.w X.K) := by
  intro pins s σ H xs us Q I r ⟨G, d, x, t, z, e, sub, hd, hz, k⟩
  subst e
  obtain ⟨u1, u2, rfl, r1, r2⟩ := vals2 r
  cases r2
  obtain ⟨n, hn, hz⟩ := bindE hz
  obtain ⟨b, hb, rfl⟩ := mapE hz
  obtain ⟨P, Z, p, hx⟩ := kitD I sub hd r1 hn
  exact PySem.W.kia_one Z I.kIn p (kit_ty hb) hx fun tk => ⟨.bl b, H, I.tok tk, rfl, k _ G H (Grow.refl sub) rfl⟩
end
end RF
set_option Elab.async false
set_option linter.all false
set_option maxRecDepth 100000
set_option maxHeartbeats 2000000
namespace RF
open PySem PySem.Spec L2
open PyProof.Rows hiding St
abbrev DWx (X : Cx) (O : List Nat) (e : Expr) (f : FTx) : Prop := PW X e (tDt X.prog X.w X.K O f)
theorem PW.imp {X : Cx} {e : Expr} {t t' : TT} (h : PW X e t) (k : ∀ σ H Q, t' σ H Q → t σ H Q) : PW X e t' := ⟨fun wh pins s σ H Q I q => h.run wh pins s σ H Q I (k σ H Q q)⟩
section
variable {X : Cx} {O : List Nat} {a b c : Expr} {es : List Expr} {fa fb fc : FX} {ea eb ec : FE} {ta tb : FTx} {sa sb : FT} {fl : FL} {el : FEL} {pos : Pos}
theorem xt_of (ha : DX X O a fa) (he : ∀ whole, isTrue a X.env whole = (do let v ← whole; standAt a.pos; holding [v] (truthy v)) := by intro _; rfl) : DTx X O a (xTru fa) := by
  refine ⟨fun pins s σ H Q I ⟨F, Pn, G, ρ, d, ρ', S, e, k⟩ => ?_⟩
  obtain ⟨⟨x, ρ1⟩, e1, e⟩ := bindE e
  obtain ⟨t, e2, e⟩ := mapE e
  cases e
  exact isTrue_plain (thn (ha.run pins s σ H _ I ⟨F, Pn, G, ρ, x, ρ1, S, e1, fun v G1 H1 S1 s1 r1 => ⟨G1, x, _, S1.sub, r1, e2, k G1 H1 S1 s1⟩⟩) fun v s1 ⟨y, H1, I1, r1, q1⟩ => tru_D pins s1 σ H1 y v Q I1 r1 q1) (he _)
theorem et_of (ha : DE X O a ea) (he : ∀ whole, isTrue a X.env whole = (do let v ← whole; standAt a.pos; holding [v] (truthy v)) := by intro _; rfl) : DT X O a (eTru ea) := (xt_of ha he).congr (xTru_up ea)
theorem xt_not (ha : DTx X O a ta) : DTx X O (.UnaryOp .Not a pos) (xNotT ta) := by
  refine PT.imp (pt_not ha) fun σ H Q ⟨F, Pn, G, ρ, d, ρ', S, e, k⟩ => ?_
  obtain ⟨⟨t, ρ1⟩, e1, e⟩ := mapE e
  cases e
  exact ⟨F, Pn, G, ρ, t, ρ1, S, e1, fun G1 H1 S1 s1 => k G1 H1 S1 s1⟩
theorem et_not (ha : DT X O a sa) : DT X O (.UnaryOp .Not a pos) (eNotT sa) := (xt_not ha).congr (xNotT_up sa)
variable {rest : List Expr}
theorem xw_or1 (ha : DTx X O a ta) : DWx X O (.BoolOp .Or [a] pos) ta := pw_or1 ha
theorem xw_and (ha : DTx X O a ta) (hb : DWx X O (.BoolOp .And (b :: rest) pos) tb) : DWx X O (.BoolOp .And (a :: b :: rest) pos) (xAndT ta tb) := by
  refine PW.imp (pw_and ha hb) fun σ H Q ⟨F, Pn, G, ρ, d, ρ', S, e, k⟩ => ?_
  obtain ⟨⟨t, ρ1⟩, e1, e⟩ := bindE e
  refine ⟨F, Pn, G, ρ, t, ρ1, S, e1, fun G1 H1 S1 s1 => ?_⟩
  cases t with
  | true => exact ⟨F, Pn, G1, ρ1, d, ρ', S1, e, fun G2 H2 S2 s2 => k G2 H2 S2 (s1.trans s2)⟩
  | false => cases e; exact k G1 H1 S1 s1
theorem xw_or (ha : DTx X O a ta) (hb : DWx X O (.BoolOp .Or (b :: rest) pos) tb) : DWx X O (.BoolOp .Or (a :: b :: rest) pos) (xOrT ta tb) := by
  refine PW.imp (pw_or ha hb) fun σ H Q ⟨F, Pn, G, ρ, d, ρ', S, e, k⟩ => ?_
  obtain ⟨⟨t, ρ1⟩, e1, e⟩ := bindE e
  refine ⟨F, Pn, G, ρ, t, ρ1, S, e1, fun G1 H1 S1 s1 => ?_⟩
  cases t with
  | true => cases e; exact k G1 H1 S1 s1
  | false => exact ⟨F, Pn, G1, ρ1, d, ρ', S1, e, fun G2 H2 S2 s2 => k G2 H2 S2 (s1.trans s2)⟩
theorem xt_w (h : DWx X O a ta) : DTx X O a ta := PW.pt h
theorem ew_and1 (ha : DT X O a sa) : DWx X O (.BoolOp .And [a] pos) (up sa) := pw_and1 ha
theorem ew_or1 (ha : DT X O a sa) : DWx X O (.BoolOp .Or [a] pos) (up sa) := pw_or1 ha
theorem ew_and (ha : DT X O a sa) (hb : DWx X O (.BoolOp .And (b :: rest) pos) (up sb)) : DWx X O (.BoolOp .And (a :: b :: rest) pos) (up (eAndT sa sb)) := xAndT_up sa sb ▸ xw_and ha hb
theorem ew_or (ha : DT X O a sa) (hb : DWx X O (.BoolOp .Or (b :: rest) pos) (up sb)) : DWx X O (.BoolOp .Or (a :: b :: rest) pos) (up (eOrT sa sb)) := xOrT_up sa sb ▸ xw_or ha hb
theorem et_w (h : DWx X O a (up sa)) : DT X O a sa := PW.pt h
theorem x_if (hc : DTx X O c ta) (ha : DX X O a fa) (hb : DX X O b fb) : DX X O (.IfExp c a b pos) (xIf ta fa fb) := by
  refine PE.imp (pe_ifExp hc ha hb) fun σ H Q ⟨F, Pn, G, ρ, d, ρ', S, e, k⟩ => ?_
  obtain ⟨⟨t, ρ1⟩, e1, e⟩ := bindE e
  refine ⟨F, Pn, G, ρ, t, ρ1, S, e1, fun G1 H1 S1 s1 => ?_⟩
  cases t with
  | true => exact ⟨F, Pn, G1, ρ1, d, ρ', S1, e, fun v G2 H2 S2 s2 => k v G2 H2 S2 (s1.trans s2)⟩
  | false => exact ⟨F, Pn, G1, ρ1, d, ρ', S1, e, fun v G2 H2 S2 s2 => k v G2 H2 S2 (s1.trans s2)⟩
theorem e_if (hc : DT X O c sa) (ha : DE X O a ea) (hb : DE X O b eb) : DE X O (.IfExp c a b pos) (eIf sa ea eb) := (x_if hc ha hb).congr (xIf_up ea eb sa)
theorem truRun {pins : List (Addr × Obj)} {s : Shared} {σ : St} {H G : Hp} {d : D} {x : V} {v : Value} {t : Bool} {Q : Bool → Shared → Prop} (I : L2.Inv X pins σ H s) (sub : Same G H) (rd : Rep X.prog X.w X.K G d x) (r : RelV x v) (ht : d.truth = some t)
    (h : ∀ s', L2.Inv X pins σ H s' → Q t s') : wpAny (model X.prog X.w) X.A (truthy v) Q X.xe s := by
  refine thn (tru_D pins s σ H x v (fun c H2 => c = t ∧ H2 = H) I r ⟨G, d, t, sub, rd, ht, rfl, rfl⟩) fun c s2 ⟨H2, I2, e1, e2⟩ => ?_
  subst e1 e2
  exact h s2 I2
theorem x_and (ha : DX X O a fa) (hb : DX X O (.BoolOp .And (b :: rest) pos) fb) : DX X O (.BoolOp .And (a :: b :: rest) pos) (xAnd fa fb) := by
  refine ⟨fun pins s σ H Q I ⟨F, Pn, G, ρ, d, ρ', S, e, k⟩ => ?_⟩
  obtain ⟨⟨x, ρ1⟩, e1, e⟩ := bindE e
  obtain ⟨t, e2, e⟩ := bindE e
  refine BoolOp_and (thn (ha.run pins s σ H (fun v H1 => ∃ G1, SR X.prog X.w X.K F Pn O G1 ρ1 σ H1 ∧ Same G G1 ∧ Rep X.prog X.w X.K G1 x v) I ⟨F, Pn, G, ρ, x, ρ1, S, e1, fun v G1 H1 S1 s1 r1 => ⟨G1, S1, s1, r1⟩⟩) fun v s1 ⟨y, H1, I1, r1, G1, S1, g1, q1⟩ => ?_)
  refine truRun I1 S1.sub q1 r1 e2 fun s2 I2 => ?_
  cases t with
  | true => exact hb.run pins s2 σ H1 Q I2 ⟨F, Pn, G1, ρ1, d, ρ', S1, e, fun v G2 H2 S2 s2 => k v G2 H2 S2 (g1.trans s2)⟩
  | false => cases e; exact ⟨y, H1, I2, r1, k y G1 H1 S1 g1 q1⟩
theorem x_or (ha : DX X O a fa) (hb : DX X O (.BoolOp .Or (b :: rest) pos) fb) : DX X O (.BoolOp .Or (a :: b :: rest) pos) (xOr fa fb) := by
  refine ⟨fun pins s σ H Q I ⟨F, Pn, G, ρ, d, ρ', S, e, k⟩ => ?_⟩
  obtain ⟨⟨x, ρ1⟩, e1, e⟩ := bindE e
  obtain ⟨t, e2, e⟩ := bindE e
  refine BoolOp_or (thn (ha.run pins s σ H (fun v H1 => ∃ G1, SR X.prog X.w X.K F Pn O G1 ρ1 σ H1 ∧ Same G G1 ∧ Rep X.prog X.w X.K G1 x v) I ⟨F, Pn, G, ρ, x, ρ1, S, e1, fun v G1 H1 S1 s1 r1 => ⟨G1, S1, s1, r1⟩⟩) fun v s1 ⟨y, H1, I1, r1, G1, S1, g1, q1⟩ => ?_)
  refine truRun I1 S1.sub q1 r1 e2 fun s2 I2 => ?_
  cases t with
  | true => cases e; exact ⟨y, H1, I2, r1, k y G1 H1 S1 g1 q1⟩
  | false => exact hb.run pins s2 σ H1 Q I2 ⟨F, Pn, G1, ρ1, d, ρ', S1, e, fun v G2 H2 S2 s2 => k v G2 H2 S2 (g1.trans s2)⟩
theorem x_one {op} (h : DX X O a fa) : DX X O (.BoolOp op [a] pos) fa := pe_one h
theorem x_not (ha : DX X O a fa) : DX X O (.UnaryOp .Not a pos) (xNot fa) := by
  refine ⟨fun pins s σ H Q I ⟨F, Pn, G, ρ, d, ρ', S, e, k⟩ => ?_⟩
  obtain ⟨⟨x, ρ1⟩, e1, e⟩ := bindE e
  obtain ⟨t, e2, e⟩ := mapE e
  cases e
  refine UnaryOp_ (thn (ha.run pins s σ H (fun v H1 => ∃ G1, SR X.prog X.w X.K F Pn O G1 ρ1 σ H1 ∧ Same G G1 ∧ Rep X.prog X.w X.K G1 x v) I ⟨F, Pn, G, ρ, x, ρ1, S, e1, fun v G1 H1 S1 s1 r1 => ⟨G1, S1, s1, r1⟩⟩) fun v s1 ⟨y, H1, I1, r1, G1, S1, g1, q1⟩ => ?_)
  exact not_of (truRun I1 S1.sub q1 r1 e2 fun s2 I2 => ⟨.bl (!t), H1, I2, rfl, k _ G1 H1 S1 g1 rfl⟩)
theorem e_and (ha : DE X O a ea) (hb : DE X O (.BoolOp .And (b :: rest) pos) eb) : DE X O (.BoolOp .And (a :: b :: rest) pos) (eAnd ea eb) := (x_and ha hb).congr (xAnd_up ea eb)
theorem e_or (ha : DE X O a ea) (hb : DE X O (.BoolOp .Or (b :: rest) pos) eb) : DE X O (.BoolOp .Or (a :: b :: rest) pos) (eOr ea eb) := (x_or ha hb).congr (xOr_up ea eb)
theorem e_one {op} (h : DE X O a ea) : DE X O (.BoolOp op [a] pos) ea := pe_one h
theorem e_not (ha : DE X O a ea) : DE X O (.UnaryOp .Not a pos) (eNot ea) := (x_not ha).congr (xNot_up ea)
theorem e_op {op : Operator} {f : D → D → Option D} (ho : OpR X (binaryOp op) (RO X f)) (ha : DE X O a ea) (hb : DE X O b eb) : DE X O (.BinOp a op b pos) (e2 f ea eb) := (dx_op ho ha hb).congr (o2_up f ea eb)
theorem e_cmp {op : CmpOp} {f : D → D → Option D} (ho : OpR X (compareOp op) (RO X f)) (ha : DE X O a ea) (hb : DE X O b eb) (hm : behindInMarks op b = false := by first | exact nomark _ | rfl) : DE X O (.Compare a [op] [b] pos) (e2 f ea eb) := (dx_cmp ho ha hb hm).congr (o2_up f ea eb)
theorem x_cmp {op : CmpOp} {f : D → D → Option D} (ho : OpR X (compareOp op) (RO X f)) (ha : DX X O a fa) (hb : DX X O b fb) (hm : behindInMarks op b = false := by first | exact nomark _ | rfl) : DX X O (.Compare a [op] [b] pos) (o2 f fa fb) := dx_cmp ho ha hb hm
theorem e_ix {f : D → D → Option D} (ho : IxR X (RO X f)) (ha : DE X O a ea) (hb : DE X O b eb) (hs : PlainIx b := by exact fun _ _ => rfl) : DE X O (.Subscript a b pos) (e2 f ea eb) := (dx_ix ho ha hb hs).congr (o2_up f ea eb)
theorem e_un {op : UnaryOp} {f : D → Option D} (ho : UnR X (unaryOp op) (rD1 X.prog X.w X.K f)) (ha : DE X O a ea) : DE X O (.UnaryOp op a pos) (e1 f ea) := (dx_un ho ha).congr (o1_up f ea)
theorem xa_nil : DA X O [] xNil := PA.imp pa_nil fun σ H Q ⟨F, Pn, G, ρ, d, ρ', S, e, k⟩ => by
  cases e; exact k [] G H S (Same.refl _) rfl
theorem xa_cons (ha : DX X O a fa) (hr : DA X O es fl) (hs : starEach (a :: es) X.env = (false, eval a X.env) :: starEach es X.env := by rfl) : DA X O (a :: es) (xCons fa fl) := by
  refine PA.imp (pa_cons ha hr hs) fun σ H Q ⟨F, Pn, G, ρ, d, ρ', S, e, k⟩ => ?_
  obtain ⟨⟨x, ρ1⟩, e1, e⟩ := bindE e
  obtain ⟨⟨ys, ρ2⟩, e2, e⟩ := mapE e
  cases e
  exact ⟨F, Pn, G, ρ, x, ρ1, S, e1, fun v G1 H1 S1 s1 r1 => ⟨F, Pn, G1, ρ1, ys, _, S1, e2, fun vs G2 H2 S2 s2 r2 => k _ G2 H2 S2 (s1.trans s2) ⟨v, vs, rfl, Rep.mono s2 _ _ r1, r2⟩⟩⟩
theorem DA.congr {es : List Expr} {f g : FL} (h : DA X O es f) (k : f = g) : DA X O es g := k ▸ h
abbrev DAe (X : Cx) (O : List Nat) (es : List Expr) (f : FEL) : Prop := DA X O es (up f)
theorem ea_nil : DAe X O [] eNil := xa_nil
theorem ea_cons (ha : DE X O a ea) (hr : DAe X O es el) (hs : starEach (a :: es) X.env = (false, eval a X.env) :: starEach es X.env := by rfl) : DAe X O (a :: es) (eCons ea el) := DA.congr (xa_cons ha hr hs) (xCons_up ea el)
theorem x_lst (h : DA X O es fl) : DX X O (.List es pos) (xCall mkLst fl) := by
  refine PE.imp (pe_lst h) fun σ H Q ⟨F, Pn, G, ρ, d, ρ', S, e, k⟩ => ?_
  obtain ⟨⟨ys, ρ1⟩, e1, e⟩ := bindE e
  obtain ⟨z, e2, e⟩ := mapE e
  cases e
  obtain ⟨hl, rfl⟩ := ifE (show (if lineOk ys.length = true then some (D.lst ys) else none) = some _ from e2)
  exact ⟨F, Pn, G, ρ, ys, _, S, e1, fun vs G1 H1 S1 s1 r1 => ⟨by rw [r1.length]; exact lineOk_iff.mp hl, fun p hp => k _ _ _ (S1.grow (Grow.alloc S1.sub hp)) (s1.trans (Grow.alloc S1.sub hp).g) ⟨p, vs, rfl, upd_same, Reps.mono (Grow.alloc S1.sub hp).g _ _ r1⟩⟩⟩
theorem x_tup {x1} (h : DA X O es fl) : DX X O (.Tuple es x1 pos) (xCall mkTup fl) := by
  refine PE.imp (pe_tup h) fun σ H Q ⟨F, Pn, G, ρ, d, ρ', S, e, k⟩ => ?_
  obtain ⟨⟨ys, ρ1⟩, e1, e⟩ := bindE e
  obtain ⟨z, e2, e⟩ := mapE e
  cases e
  obtain ⟨hl, rfl⟩ := ifE (show (if lineOk ys.length = true then some (D.tup ys) else none) = some _ from e2)
  exact ⟨F, Pn, G, ρ, ys, _, S, e1, fun vs G1 H1 S1 s1 r1 => ⟨by rw [r1.length]; exact lineOk_iff.mp hl, fun p hp => k _ _ _ (S1.grow (Grow.alloc S1.sub hp)) (s1.trans (Grow.alloc S1.sub hp).g) ⟨p, vs, rfl, upd_same, Reps.mono (Grow.alloc S1.sub hp).g _ _ r1⟩⟩⟩
theorem e_lst (h : DAe X O es el) : DE X O (.List es pos) (eCall mkLst el) := (x_lst h).congr (xCall_up el mkLst)
theorem e_tup {x1} (h : DAe X O es el) : DE X O (.Tuple es x1 pos) (eCall mkTup el) := (x_tup h).congr (xCall_up el mkTup)
theorem x_blt {x : Str} {p : Pos} {id : String} {op : List D → Option D} (hc : CallR X (.builtin id) (RC X op)) (hg : Gl X x) (hm : X.mg x = none) (hv : bootBuiltins x = some (.builtin id)) (ha : DA X O (a :: es) fl) (hn : x ≠ "__name__" := by decide) (hdb : (x == ("__debug__" : Str)) = false := by decide)
    (he : starEach (a :: es) X.env = (false, eval a X.env) :: starEach es X.env := by rfl) (hpl : (backTo pos (starEach es X.env)).any (·.1) = false := by rfl) : DX X O (.Call (.Name x p) (a :: es) [] pos) (xCall op fl) := by
  refine PE.imp (pe_callB hc hg hm hv ha hn hdb he hpl) fun σ H Q ⟨F, Pn, G, ρ, d, ρ', S, e, k⟩ => ?_
  obtain ⟨⟨ys, ρ1⟩, e1, e⟩ := bindE e
  obtain ⟨z, e2, e⟩ := mapE e
  cases e
  exact ⟨F, Pn, G, ρ, ys, _, S, e1, fun vs G1 H1 S1 s1 r1 => ⟨G1, ys, _, S1.sub, r1, e2, fun v G2 H2 g2 r2 => k v G2 H2 (S1.grow g2) (s1.trans g2.g) r2⟩⟩
theorem e_blt {x : Str} {p : Pos} {id : String} {op : List D → Option D} (hc : CallR X (.builtin id) (RC X op)) (hg : Gl X x) (hm : X.mg x = none) (hv : bootBuiltins x = some (.builtin id)) (ha : DAe X O (a :: es) el) (hn : x ≠ "__name__" := by decide) (hdb : (x == ("__debug__" : Str)) = false := by decide)
    (he : starEach (a :: es) X.env = (false, eval a X.env) :: starEach es X.env := by rfl) (hpl : (backTo pos (starEach es X.env)).any (·.1) = false := by rfl) : DE X O (.Call (.Name x p) (a :: es) [] pos) (eCall op el) := (x_blt hc hg hm hv ha hn hdb he hpl).congr (xCall_up el op)
theorem e_isi {p p2 : Pos} {x : Str} {T : String} (ha : DE X O a ea) (hg : Gl X "isinstance") (hm : X.mg "isinstance" = none) (hg2 : Gl X x) (hm2 : X.mg x = none) (hv2 : bootBuiltins x = some (.type T)) (hn : x ≠ "__name__" := by decide) (hdb : (x == ("__debug__" : Str)) = false := by decide)
    (he : starEach [a, .Name x p2] X.env = (false, eval a X.env) :: starEach [.Name x p2] X.env := by rfl) (hpl : (backTo pos (starEach [.Name x p2] X.env)).any (·.1) = false := by rfl) (he2 : starEach [.Name x p2] X.env = [(false, eval (.Name x p2) X.env)] := by rfl) :
    DE X O (.Call (.Name "isinstance" p) [a, .Name x p2] [] pos) (e1 (D.isInst T) ea) := by
  refine PE.imp (pe_callB call_isD hg hm (by decide +kernel) (pa_cons ha (pa_cons (pe_bltn (v := .ty T) hg2 hm2 hv2 rfl hn hdb) pa_nil he2) he) (by decide) (by decide) he hpl) fun σ H Q ⟨F, Pn, G, ρ, d, ρ', S, e, k⟩ => ?_
  obtain ⟨z, e1, e⟩ := mapE e
  cases e
  obtain ⟨x0, e2, e3⟩ := bindE e1
  refine ⟨F, Pn, G, ρ, x0, ρ, S, by unfold up; rw [e2]; rfl, fun v G1 H1 S1 s1 r1 => ?_⟩
  exact ⟨G1, x0, v, T, _, rfl, S1.sub, r1, e3, fun v' G2 H2 g2 r2 => k v' G2 H2 (S1.grow g2) (s1.trans g2.g) r2⟩
def tDo (P : Program) (w : World) (K : PySem.W.Frag) (O : List Nat) (f : FO) : TO := fun σ H Q => ∃ F Pn G ρ d ρ', SR P w K F Pn O G ρ σ H ∧ f ρ = some (d, ρ') ∧ ∀ G' H', SR P w K F Pn O G' ρ' σ H' → Same G G' → Q d H'
abbrev DO (X : Cx) (O : List Nat) (e : Option Expr) (f : FO) : Prop := PO X e (tDo X.prog X.w X.K O f)
theorem PO.imp {X : Cx} {e : Option Expr} {t t' : TO} (h : PO X e t) (k : ∀ σ H Q, t' σ H Q → t σ H Q) : PO X e t' := ⟨fun pins s σ H Q I q => h.run pins s σ H Q I (k σ H Q q)⟩
theorem xo_none : DO X O none xNoPart := PO.imp po_none fun σ H Q ⟨F, Pn, G, ρ, d, ρ', S, e, k⟩ => by cases e; exact k G H S (Same.refl _)
theorem xo_some (ha : DX X O a fa) : DO X O (some a) (xPart fa) := PO.imp (po_some ha) fun σ H Q ⟨F, Pn, G, ρ, d, ρ', S, e, k⟩ => by
  obtain ⟨⟨x, ρ1⟩, e1, e⟩ := bindE e
  obtain ⟨i, e2, e⟩ := mapE e
  cases e
  refine ⟨F, Pn, G, ρ, x, _, S, e1, fun v G1 H1 S1 s1 r1 => ⟨i, ?_, k G1 H1 S1 s1⟩⟩
  cases x <;> first | (cases e2; exact r1) | (cases e2; done)
theorem eo_none : DO X O none (up eNoPart) := xo_none
theorem eo_some (ha : DE X O a ea) : DO X O (some a) (up (ePart ea)) := xPart_up ea ▸ xo_some ha
variable {lo hi : Option Expr} {fl' fh : FO} {gl gh : FEO} {p2 : Pos}
theorem x_slice (ha : DX X O a fa) (hl : DO X O lo fl') (hh : DO X O hi fh) : DX X O (.Subscript a (.Slice lo hi none p2) pos) (xSlice fa fl' fh) := by
  refine PE.imp (pe_slice sl_D ha hl hh) fun σ H Q ⟨F, Pn, G, ρ, d, ρ', S, e, k⟩ => ?_
  obtain ⟨⟨x, ρ1⟩, e1, e⟩ := bindE e
  obtain ⟨⟨i, ρ2⟩, e2, e⟩ := bindE e
  obtain ⟨⟨j, ρ3⟩, e3, e⟩ := bindE e
  obtain ⟨z, e4, e⟩ := mapE e
  cases e
  exact ⟨F, Pn, G, ρ, x, ρ1, S, e1, fun v G1 H1 S1 s1 r1 => ⟨F, Pn, G1, ρ1, i, ρ2, S1, e2, fun G2 H2 S2 s2 => ⟨F, Pn, G2, ρ2, j, _, S2, e3, fun G3 H3 S3 s3 =>
    ⟨G3, x, _, S3.sub, Rep.mono (s2.trans s3) _ _ r1, e4, fun v' G4 H4 g4 r4 => k v' G4 H4 (S3.grow g4) (s1.trans (s2.trans (s3.trans g4.g))) r4⟩⟩⟩⟩
theorem e_slice (ha : DE X O a ea) (hl : DO X O lo (up gl)) (hh : DO X O hi (up gh)) : DE X O (.Subscript a (.Slice lo hi none p2) pos) (eSlice ea gl gh) := (x_slice ha hl hh).congr (xSlice_up ea gl gh)
end
end RF
set_option Elab.async false
set_option linter.all false
set_option maxRecDepth 100000
set_option maxHeartbeats 1000000
namespace RF
open PySem PySem.Spec L2
open PyProof.Rows hiding St
section
variable {P : Program} {w : World} {K : PySem.W.Frag} {F G G' H H' : Hp} {Pn : List (Nat × Addr)} {O : List Nat} {ρ : Env} {σ : St}
theorem same_upd {G H : Hp} {a : Addr} {o : HO} (s : Same G H) (h : H a = some o) : Same (upd G a o) H := fun b u e => by
  by_cases hb : b = a
  · subst hb; rw [upd_same] at e; cases e; exact h
  · rw [upd_ne hb] at e; exact s _ _ e
theorem same_to {G : Hp} {a : Addr} {o : HO} (n : G a = none) : Same G (upd G a o) := fun b u e => by
  rw [upd_ne (ne_of_none e n)]; exact e
theorem frz_rep {a : Addr} {d : D} {o : HO} (c : Cell P w K G H a d) (h : H a = some o) (n : G a = none) : Rep P w K (upd G a o) d (.ref a) := by
  have s : Same G (upd G a o) := same_to n
  cases d with
  | lst ds =>
    obtain ⟨vs, h1, h2⟩ := c
    rw [h] at h1; cases h1
    exact ⟨a, vs, rfl, upd_same, Reps.mono s _ _ h2⟩
  | dct kvs =>
    obtain ⟨hm, ob, vs, h1, hl, h2, h3⟩ := c
    rw [h] at h1; cases h1
    exact ⟨a, ob, vs, rfl, hm, upd_same, hl, h2.mono s, RepP.mono s _ _ h3⟩
  | _ => exact c.elim
theorem SR.frzO {a : Addr} {o : HO} (S : SR P w K F Pn O G ρ σ H) (h : H a = some o) (n : G a = none) (f : F a = none) (k : ∀ j ∈ O, ∀ d, lk ρ j = some d → σ[j]? ≠ some (some (.ref a))) : SR P w K F Pn O (upd G a o) ρ σ H where
  sub := same_upd S.sub h
  frm := fun b u e => by
    have hb : b ≠ a := fun z => by subst z; rw [f] at e; cases e
    rw [upd_ne hb]; exact S.frm b u e
  len := S.len
  val := fun i d e hi => by
    obtain ⟨v, h1, h2⟩ := S.val i d e hi
    exact ⟨v, h1, Rep.mono (same_to n) _ _ h2⟩
  own := fun i hi d e => by
    obtain ⟨b, h1, h2, h3, h4, h5⟩ := S.own i hi d e
    have hb : b ≠ a := fun z => by subst z; exact k i hi d e h1
    exact ⟨b, h1, by rw [upd_ne hb]; exact h2, h3, h4.mono (same_to n) rfl, h5⟩
  pin := S.pin
theorem SR.frz1 {i : Nat} (S : SR P w K F Pn O G ρ σ H) (hp : ∀ p ∈ Pn, p.1 ≠ i) : ∃ G', SR P w K F Pn (O.filter (· != i)) G' ρ σ H ∧ Same G G' := by
  have hm : ∀ j, j ∈ O.filter (· != i) ↔ j ∈ O ∧ j ≠ i := fun j => by simp
  have pinok : ∀ p ∈ Pn, p.1 ∈ O.filter (· != i) ∧ σ[p.1]? = some (some (.ref p.2)) := fun p hpp => ⟨(hm _).mpr ⟨(S.pin p hpp).1, hp p hpp⟩, (S.pin p hpp).2⟩
  by_cases hi : i ∈ O
  · cases e : lk ρ i with
    | none =>
      refine ⟨G, ⟨S.sub, S.frm, S.len, fun j d ej hj => ?_, fun j hj d ej => ?_, pinok⟩, Same.refl _⟩
      · have hji : j ≠ i := fun z => by subst z; rw [e] at ej; cases ej
        exact S.val j d ej fun z => hj ((hm j).mpr ⟨z, hji⟩)
      · obtain ⟨b, h1, h2, h3, h4, h5⟩ := S.own j ((hm j).mp hj).1 d ej
        exact ⟨b, h1, h2, h3, h4, fun m hm' => h5 m ((hm m).mp hm').1⟩
    | some d =>
      obtain ⟨a, h1, h2, h3, h4, h5⟩ := S.own i hi d e
      obtain ⟨o, ho⟩ := h4.some
      have s : Same G (upd G a o) := same_to h2
      refine ⟨upd G a o, ⟨same_upd S.sub ho, fun b u eb => ?_, S.len, fun j d' ej hj => ?_, fun j hj d' ej => ?_, pinok⟩, s⟩
      · have hb : b ≠ a := fun z => by subst z; rw [h3] at eb; cases eb
        rw [upd_ne hb]; exact S.frm b u eb
      · by_cases hji : j = i
        · subst hji
          rw [e] at ej; cases ej
          exact ⟨_, h1, frz_rep h4 ho h2⟩
        · obtain ⟨v, k1, k2⟩ := S.val j d' ej fun z => hj ((hm j).mpr ⟨z, hji⟩)
          exact ⟨v, k1, Rep.mono s _ _ k2⟩
      · obtain ⟨hjO, hji⟩ := (hm j).mp hj
        obtain ⟨b, k1, k2, k3, k4, k5⟩ := S.own j hjO d' ej
        have hb : b ≠ a := fun z => by subst z; exact h5 j hjO hji d' ej k1
        exact ⟨b, k1, by rw [upd_ne hb]; exact k2, k3, k4.mono s rfl, fun m hm' => k5 m ((hm m).mp hm').1⟩
  · refine ⟨G, ⟨S.sub, S.frm, S.len, fun j d ej hj => ?_, fun j hj d ej => ?_, pinok⟩, Same.refl _⟩
    · exact S.val j d ej fun z => hj ((hm j).mpr ⟨z, fun y => hi (y ▸ z)⟩)
    · obtain ⟨b, h1, h2, h3, h4, h5⟩ := S.own j ((hm j).mp hj).1 d ej
      exact ⟨b, h1, h2, h3, h4, fun m hm' => h5 m ((hm m).mp hm').1⟩
def cut (O : List Nat) : List Nat → List Nat
  | [] => O
  | i :: l => (cut O l).filter (· != i)
theorem SR.frz : ∀ (l : List Nat), SR P w K F Pn O G ρ σ H → (∀ p ∈ Pn, p.1 ∉ l) → ∃ G', SR P w K F Pn (cut O l) G' ρ σ H ∧ Same G G'
  | [], S, _ => ⟨G, S, Same.refl _⟩
  | i :: l, S, h => by
    obtain ⟨G1, S1, s1⟩ := SR.frz l S fun p hp z => h p hp (List.mem_cons_of_mem _ z)
    obtain ⟨G2, S2, s2⟩ := S1.frz1 (i := i) fun p hp z => h p hp (z ▸ List.mem_cons_self ..)
    exact ⟨G2, S2, s1.trans s2⟩
theorem cut_self : ∀ (l : List Nat) (O : List Nat), (∀ j ∈ O, j ∈ l) → cut O l = []
  | l, O, h => by
    have m : ∀ (l : List Nat) (j : Nat), j ∈ cut O l ↔ j ∈ O ∧ j ∉ l := by
      intro l
      induction l with
      | nil => intro j; simp [cut]
      | cons i l ih => intro j; simp only [cut, List.mem_filter, ih, List.mem_cons, bne_iff_ne, ne_eq, not_or]; constructor <;> (intro z; simp_all)
    refine List.eq_nil_iff_forall_not_mem.mpr fun j hj => ?_
    have z := (m l j).mp hj
    exact z.2 (h j z.1)
theorem SR.unpin (S : SR P w K F Pn O G ρ σ H) : SR P w K F [] O G ρ σ H := ⟨S.sub, S.frm, S.len, S.val, S.own, fun p hp => by cases hp⟩
theorem SR.frzA (S : SR P w K F Pn O G ρ σ H) : ∃ G', SR P w K F [] [] G' ρ σ H ∧ Same G G' := by
  obtain ⟨G', S', s⟩ := S.unpin.frz O (fun p hp => by cases hp)
  rw [cut_self O O (fun _ h => h)] at S'
  exact ⟨G', S', s⟩
theorem SR.thaw {G2 : Hp} (S : SR P w K F Pn O G ρ σ H) (s : Same G G') (S' : SR P w K F [] [] G' ρ σ H) (S2 : Same G2 H') (s2 : Same G' G2) (f2 : ∀ b o, F b = some o → H' b = some o ∧ G2 b = none) : SR P w K F Pn O G ρ σ H' where
  sub := (s.trans s2).trans S2
  frm := fun b o e => ⟨(f2 b o e).1, (S.frm b o e).2⟩
  len := S.len
  val := S.val
  own := fun i hi d e => by
    obtain ⟨a, h1, h2, h3, h4, h5⟩ := S.own i hi d e
    refine ⟨a, h1, h2, h3, ?_, h5⟩
    obtain ⟨o, ho⟩ := h4.some
    obtain ⟨v, k1, k2⟩ := S'.val i d e (by simp)
    rw [h1] at k1; cases k1
    have ga : H' a = some o := by
      cases d with
      | lst ds =>
        obtain ⟨a', vs, z, g, _⟩ := k2
        cases z
        have := S'.sub _ _ g
        rw [ho] at this; cases this
        exact S2 _ _ (s2 _ _ g)
      | dct ds =>
        obtain ⟨a', o', vs, z, _, g, _⟩ := k2
        cases z
        have := S'.sub _ _ g
        rw [ho] at this; cases this
        exact S2 _ _ (s2 _ _ g)
      | _ => exact h4.elim
    exact h4.mono (Same.refl _) (ga.trans ho.symm)
  pin := S.pin
end
def D.flat : D → Bool
  | .non => true | .bl _ => true | .int _ => true | .str _ => true | _ => false
theorem rep_flat {P : Program} {w : World} {K : PySem.W.Frag} {G G' : Hp} {d : D} {v : V} (f : d.flat = true) (h : Rep P w K G d v) : Rep P w K G' d v := by
  cases d <;> first | exact h | cases f
def xPk (f : FX) : FX := fun ρ => (f ρ).bind fun p => if p.1.flat then some (p.1, ρ) else none
def ePk (f : FE) : FE := fun ρ => (f ρ).bind fun d => if d.flat then some d else none
theorem xPk_up (f : FE) : xPk (up f) = up (ePk f) := by
  funext ρ; unfold xPk up ePk
  cases h : f ρ with
  | none => rfl
  | some d =>
    show (if d.flat then some (d, ρ) else none) = (if d.flat then some d else none).map _
    cases d.flat <;> rfl
section
variable {X : Cx} {O : List Nat} {e : Expr} {f : FX}
theorem x_pk (h : DX X [] e f) : DX X O e (xPk f) := by
  refine PE.imp h fun σ H Q ⟨F, Pn, G, ρ, d, ρ', S, e, k⟩ => ?_
  obtain ⟨⟨x, ρ1⟩, e1, e⟩ := bindE e
  obtain ⟨hf, e⟩ := ifE e
  cases e
  obtain ⟨G', S', s⟩ := S.frzA
  refine ⟨F, [], G', ρ, _, ρ1, S', e1, fun v G2 H2 S2 s2 r => ?_⟩
  exact k v G H2 (S.thaw s S' S2.sub s2 S2.frm) (Same.refl _) (rep_flat hf r)
theorem e_pk {f : FE} (h : DE X [] e f) : DE X O e (ePk f) := (x_pk h).congr (xPk_up f)
end
def tPk (f : FTx) : FTx := fun ρ => (f ρ).map fun p => (p.1, ρ)
theorem tPk_up (f : FT) : tPk (up f) = up f := by
  funext ρ; unfold tPk up; cases f ρ <;> rfl
theorem xt_pk {X : Cx} {O : List Nat} {e : Expr} {f : FTx} (h : DTx X [] e f) : DTx X O e (tPk f) := by
  refine PT.imp h fun σ H Q ⟨F, Pn, G, ρ, d, ρ', S, e, k⟩ => ?_
  obtain ⟨⟨x, ρ1⟩, e1, e⟩ := mapE e
  cases e
  obtain ⟨G', S', s⟩ := S.frzA
  refine ⟨F, [], G', ρ, x, _, S', e1, fun G2 H2 S2 s2 => ?_⟩
  exact k G H2 (S.thaw s S' S2.sub s2 S2.frm) (Same.refl _)
theorem et_pk {X : Cx} {O : List Nat} {e : Expr} {f : FT} (h : DT X [] e f) : DT X O e f := (xt_pk h).congr (tPk_up f)
def tDf (P : Program) (w : World) (K : PySem.W.Frag) (O : List Nat) (f : FX) : TE := fun σ H Q => ∃ F Pn G ρ d ρ', SR P w K F Pn O G ρ σ H ∧ f ρ = some (d, ρ') ∧
  ∀ a G' H', SR P w K F Pn O G' ρ' σ H' → Same G G' → G' a = none → F a = none → Cell P w K G' H' a d → (∀ j ∈ O, ∀ d, lk ρ' j = some d → σ[j]? ≠ some (some (.ref a))) → Q (.ref a) H'
abbrev DF (X : Cx) (O : List Nat) (e : Expr) (f : FX) : Prop := PE X e (tDf X.prog X.w X.K O f)
theorem tD_of_tDf {P : Program} {w : World} {K : PySem.W.Frag} {O : List Nat} {f : FX} {σ : St} {H : Hp} {Q : VK} (h : tD P w K O f σ H Q) : tDf P w K O f σ H Q := by
  obtain ⟨F, Pn, G, ρ, d, ρ', S, e, k⟩ := h
  refine ⟨F, Pn, G, ρ, d, ρ', S, e, fun a G' H' S' s n nf c hj => ?_⟩
  obtain ⟨o, ho⟩ := c.some
  exact k _ _ _ (S'.frzO ho n nf hj) (s.trans (same_to n)) (frz_rep c ho n)
theorem DF.x {X : Cx} {O : List Nat} {e : Expr} {f : FX} (h : DF X O e f) : DX X O e f := PE.imp h fun _ _ _ q => tD_of_tDf q
theorem DF.congr {X : Cx} {O : List Nat} {e : Expr} {f g : FX} (h : DF X O e f) (k : f = g) : DF X O e g := k ▸ h
theorem SR.lay {P : Program} {w : World} {K : PySem.W.Frag} {F G H : Hp} {Pn : List (Nat × Addr)} {O : List Nat} {ρ : Env} {σ : St} {p : Addr} {o : HO} (S : SR P w K F Pn O G ρ σ H) (hp : H p = none) :
    SR P w K F Pn O G ρ σ (upd H p o) ∧ G p = none ∧ F p = none ∧ ∀ j ∈ O, ∀ d, lk ρ j = some d → σ[j]? ≠ some (some (.ref p)) := by
  refine ⟨S.grow (Grow.laid S.sub hp), ?_, ?_, fun j hj d e z => ?_⟩
  · cases h : G p with
    | none => rfl
    | some u => rw [S.sub _ _ h] at hp; cases hp
  · cases h : F p with
    | none => rfl
    | some u => rw [(S.frm _ _ h).1] at hp; cases hp
  · obtain ⟨a, h1, _, _, h4, _⟩ := S.own j hj d e
    rw [h1] at z; cases z
    obtain ⟨u, hu⟩ := h4.some
    rw [hp] at hu; cases hu
section
variable {X : Cx} {O : List Nat} {es : List Expr} {fl : FL} {pos : Pos}
theorem f_lst (h : DA X O es fl) : DF X O (.List es pos) (xCall mkLst fl) := by
  refine PE.imp (pe_lst h) fun σ H Q ⟨F, Pn, G, ρ, d, ρ', S, e, k⟩ => ?_
  obtain ⟨⟨ys, ρ1⟩, e1, e⟩ := bindE e
  obtain ⟨z, e2, e⟩ := mapE e
  cases e
  obtain ⟨hl, rfl⟩ := ifE (show (if lineOk ys.length = true then some (D.lst ys) else none) = some _ from e2)
  refine ⟨F, Pn, G, ρ, ys, _, S, e1, fun vs G1 H1 S1 s1 r1 => ⟨by rw [r1.length]; exact lineOk_iff.mp hl, fun p hp => ?_⟩⟩
  obtain ⟨S2, n, nf, hj⟩ := S1.lay (o := .lst vs) hp
  exact k p G1 _ S2 s1 n nf ⟨vs, upd_same, r1⟩ hj
end
section
variable {P : Program} {w : World} {K : PySem.W.Frag} {F G H : Hp} {Pn : List (Nat × Addr)} {O : List Nat} {ρ : Env} {σ : St} {i : Nat} {d : D} {v : V}
theorem lk_set_ne {ρ : Env} {i j : Nat} {o : Option D} (h : j ≠ i) : lk (ρ.set i o) j = lk ρ j := by
  unfold lk; rw [List.getElem?_set_ne (Ne.symm h)]
theorem lk_set_self {ρ : Env} {i : Nat} {o : Option D} {d : D} (h : lk (ρ.set i o) i = some d) : o = some d ∧ i < ρ.length := by
  unfold lk at h
  rw [List.getElem?_set] at h
  simp only [if_true] at h
  split at h
  · exact ⟨h, by assumption⟩
  · cases h
theorem SR.set (S : SR P w K F Pn O G ρ σ H) (hi : i ∉ O) (r : Rep P w K G d v) : SR P w K F Pn O G (ρ.set i (some d)) (σ.set i (some v)) H where
  sub := S.sub
  frm := S.frm
  len := by rw [List.length_set, List.length_set]; exact S.len
  val := fun j x e hj => by
    by_cases h : j = i
    · subst h
      obtain ⟨e1, hl⟩ := lk_set_self e
      cases e1
      exact ⟨v, by rw [List.getElem?_set_self (by rw [← S.len]; exact hl)], r⟩
    · rw [lk_set_ne h] at e
      rw [List.getElem?_set_ne (Ne.symm h)]
      exact S.val j x e hj
  own := fun j hj x e => by
    have h : j ≠ i := fun z => hi (z ▸ hj)
    rw [lk_set_ne h] at e
    obtain ⟨a, h1, h2, h3, h4, h5⟩ := S.own j hj x e
    refine ⟨a, by rw [List.getElem?_set_ne (Ne.symm h)]; exact h1, h2, h3, h4, fun m hm hmj y ey => ?_⟩
    have h' : m ≠ i := fun z => hi (z ▸ hm)
    rw [lk_set_ne h'] at ey
    rw [List.getElem?_set_ne (Ne.symm h')]
    exact h5 m hm hmj y ey
  pin := fun p hp => ⟨(S.pin p hp).1, by rw [List.getElem?_set_ne (fun z : i = p.1 => hi (z.symm ▸ (S.pin p hp).1))]; exact (S.pin p hp).2⟩
theorem SR.drop (S : SR P w K F Pn O G ρ σ H) (hp : ∀ p ∈ Pn, p.1 ≠ i) : SR P w K F Pn (O.filter (· != i)) G (ρ.set i none) σ H where
  sub := S.sub
  frm := S.frm
  len := by rw [List.length_set]; exact S.len
  val := fun j x e hj => by
    have h : j ≠ i := fun z => by subst z; exact nomatch (lk_set_self e).1
    rw [lk_set_ne h] at e
    exact S.val j x e fun z => hj (List.mem_filter.mpr ⟨z, by simp [h]⟩)
  own := fun j hj x e => by
    obtain ⟨hjO, h⟩ := List.mem_filter.mp hj
    have h : j ≠ i := by simpa using h
    rw [lk_set_ne h] at e
    obtain ⟨a, h1, h2, h3, h4, h5⟩ := S.own j hjO x e
    refine ⟨a, h1, h2, h3, h4, fun m hm hmj y ey => ?_⟩
    obtain ⟨hmO, h'⟩ := List.mem_filter.mp hm
    rw [lk_set_ne (by simpa using h')] at ey
    exact h5 m hmO hmj y ey
  pin := fun p hp' => ⟨List.mem_filter.mpr ⟨(S.pin p hp').1, by simp [hp p hp']⟩, (S.pin p hp').2⟩
theorem SR.setF {a : Addr} (S : SR P w K F Pn O G ρ σ H) (hi : i ∉ O) (n : G a = none) (nf : F a = none) (c : Cell P w K G H a d) (hj : ∀ j ∈ O, ∀ d, lk ρ j = some d → σ[j]? ≠ some (some (.ref a))) :
    SR P w K F Pn (i :: O) G (ρ.set i (some d)) (σ.set i (some (.ref a))) H where
  sub := S.sub
  frm := S.frm
  len := by rw [List.length_set, List.length_set]; exact S.len
  val := fun j x e hjn => by
    have h : j ≠ i := fun z => hjn (z ▸ List.mem_cons_self ..)
    rw [lk_set_ne h] at e
    rw [List.getElem?_set_ne (Ne.symm h)]
    exact S.val j x e fun z => hjn (List.mem_cons_of_mem _ z)
  own := fun j hjm x e => by
    by_cases h : j = i
    · subst h
      obtain ⟨e1, hl⟩ := lk_set_self e
      cases e1
      refine ⟨a, by rw [List.getElem?_set_self (by rw [← S.len]; exact hl)], n, nf, c, fun m hm hmj y ey => ?_⟩
      rw [lk_set_ne hmj] at ey
      rw [List.getElem?_set_ne (Ne.symm hmj)]
      exact hj m ((List.mem_cons.mp hm).resolve_left hmj) y ey
    · have hjO := (List.mem_cons.mp hjm).resolve_left h
      rw [lk_set_ne h] at e
      obtain ⟨b, h1, h2, h3, h4, h5⟩ := S.own j hjO x e
      refine ⟨b, by rw [List.getElem?_set_ne (Ne.symm h)]; exact h1, h2, h3, h4, fun m hm hmj y ey => ?_⟩
      by_cases h' : m = i
      · subst h'
        intro z
        have hl := (lk_set_self ey).2
        rw [List.getElem?_set_self (by rw [← S.len]; exact hl)] at z
        cases z
        exact hj j hjO x e h1
      · rw [lk_set_ne h'] at ey
        rw [List.getElem?_set_ne (Ne.symm h')]
        exact h5 m ((List.mem_cons.mp hm).resolve_left h') hmj y ey
  pin := fun p hp => ⟨List.mem_cons_of_mem _ (S.pin p hp).1, by rw [List.getElem?_set_ne (fun z : i = p.1 => hi (z.symm ▸ (S.pin p hp).1))]; exact (S.pin p hp).2⟩
theorem SR.chg {a : Addr} {o : HO} {d' : D} (S : SR P w K F Pn O G ρ σ H) (hi : i ∈ O) (e : lk ρ i = some d) (h1 : σ[i]? = some (some (.ref a))) (c : Cell P w K G (L2.upd H a o) a d') : SR P w K F Pn O G (ρ.set i (some d')) σ (L2.upd H a o) := by
  obtain ⟨a', k1, k2, k3, k4, k5⟩ := S.own i hi d e
  rw [h1] at k1; cases k1
  refine ⟨fun b u eb => ?_, fun b u eb => ?_, by rw [List.length_set]; exact S.len, fun j x ej hj => ?_, fun j hj x ej => ?_, S.pin⟩
  · rw [upd_ne (ne_of_none eb k2)]; exact S.sub _ _ eb
  · rw [upd_ne (ne_of_none eb k3)]; exact S.frm b u eb
  · have h : j ≠ i := fun z => hj (z ▸ hi)
    rw [lk_set_ne h] at ej
    exact S.val j x ej hj
  · by_cases h : j = i
    · subst h
      obtain ⟨e1, _⟩ := lk_set_self ej
      cases e1
      refine ⟨a, h1, k2, k3, c, fun m hm hmj y ey => ?_⟩
      rw [lk_set_ne hmj] at ey
      exact k5 m hm hmj y ey
    · rw [lk_set_ne h] at ej
      obtain ⟨b, p1, p2, p3, p4, p5⟩ := S.own j hj x ej
      have hb : b ≠ a := fun z => by subst z; exact p5 i hi (Ne.symm h) d e h1
      refine ⟨b, p1, p2, p3, p4.mono (Same.refl _) (by rw [upd_ne hb]), fun m hm hmj y ey => ?_⟩
      by_cases h' : m = i
      · subst h'; exact p5 m hm hmj d e
      · rw [lk_set_ne h'] at ey; exact p5 m hm hmj y ey
end
end RF
set_option Elab.async false
set_option linter.all false
set_option maxRecDepth 100000
set_option maxHeartbeats 1000000
namespace RF
open PySem PySem.Spec L2
open PyProof.Rows hiding St
section
variable (P : Program) (w : World) (K : PySem.W.Frag)
def Wk (G : Hp) (J : It) (ds : List D) : Prop := ∀ G1 H, Same G G1 → Same G1 H → J.stop ds.length H ∧ ∀ i x, ds[i]? = some x → J.go i H ∧ ∀ v H', J.yld i H v H' → ∃ G2, Grow G1 H G2 H' ∧ Rep P w K G2 x v
def tDi (O : List Nat) (f : FL) : TI := fun σ H R => ∃ F Pn G ρ ds ρ', SR P w K F Pn O G ρ σ H ∧ f ρ = some (ds, ρ') ∧ ∀ J G' H', SR P w K F Pn O G' ρ' σ H' → Same G G' → Wk P w K G' J ds → R J H'
end
abbrev DI (X : Cx) (O : List Nat) (tg e : Expr) (f : FL) : Prop := PI X tg e (tDi X.prog X.w X.K O f)
theorem PI.imp {X : Cx} {tg e : Expr} {t t' : TI} (h : PI X tg e t) (k : ∀ σ H Q, t' σ H Q → t σ H Q) : PI X tg e t' := ⟨fun pins s σ H Q I q => h.run pins s σ H Q I (k σ H Q q)⟩
theorem pi_or {X : Cx} {tg e : Expr} {t u : TI} (h : PI X tg e t) (k : PI X tg e u) : PI X tg e (fun σ H R => t σ H R ∨ u σ H R) := ⟨fun pins s σ H Q I q => q.elim (h.run pins s σ H Q I) (k.run pins s σ H Q I)⟩
theorem DI.congr {X : Cx} {O : List Nat} {tg e : Expr} {f g : FL} (h : DI X O tg e f) (k : f = g) : DI X O tg e g := k ▸ h
def D.noInt : D → Bool
  | .bl _ => false | _ => true
def D.walk : D → Option (List D)
  | .lst l => some l
  | .tup l => some l
  | .str s => some (s.cps.toList.map fun c => .str ⟨#[c]⟩)
  | .dct l => if l.all (fun p => p.1.noInt) then some (l.map (·.1)) else none
  | .scr l => some (l.map .int)
  | _ => none
def xWl (f : FX) : FL := fun ρ => (f ρ).bind fun p => p.1.walk.map fun l => (l, p.2)
def eWl (f : FE) : FEL := fun ρ => (f ρ).bind D.walk
theorem xWl_up (f : FE) : xWl (up f) = up (eWl f) := by
  funext ρ; show ((f ρ).map _).bind _ = ((f ρ).bind _).map _
  cases f ρ <;> rfl
section
variable {P : Program} {w : World} {K : PySem.W.Frag} {G H : Hp}
theorem wk_list {a : Addr} {vs : List V} {ds : List D} (h : G a = some (.lst vs)) (r : Reps P w K G ds vs) : Wk P w K G (Itl K a) ds := fun G1 H s1 s2 => by
  have q : SqL K H a vs := .inl (Rd.of (s2 _ _ (s1 _ _ h)))
  have r1 := Reps.mono s1 _ _ r
  refine ⟨⟨vs, q, Nat.le_of_eq r.length⟩, fun i x e => ?_⟩
  obtain ⟨y, e1, r2⟩ := r1.get e
  refine ⟨⟨vs, y, q, e1⟩, fun v H' ⟨z, k⟩ => ?_⟩
  subst z
  have := k vs q
  rw [e1] at this; cases this
  exact ⟨G1, Grow.refl s2, r2⟩
theorem wk_scr {a : Addr} {ns : List Int} (h : SqL K G a (ns.map V.int)) : Wk P w K G (Itl K a) (ns.map D.int) := fun G1 H s1 s2 => by
  have q : SqL K H a (ns.map V.int) := s2.seq (s1.seq h)
  refine ⟨⟨_, q, by simp⟩, fun i x e => ?_⟩
  rw [List.getElem?_map] at e
  obtain ⟨n, e1, e2⟩ := mapE e
  subst e2
  have e3 : (ns.map V.int)[i]? = some (.int n) := by rw [List.getElem?_map, e1]; rfl
  refine ⟨⟨_, _, q, e3⟩, fun v H' ⟨z, k⟩ => ?_⟩
  subst z
  have := k _ q
  rw [e3] at this; cases this
  exact ⟨G1, Grow.refl s2, rfl⟩
theorem wk_tup {a : Addr} {vs : List V} {ds : List D} (h : G a = some (.tup vs)) (r : Reps P w K G ds vs) : Wk P w K G (Itt K a) ds := fun G1 H s1 s2 => by
  have q : SqT K H a vs := .inl (Rd.of (s2 _ _ (s1 _ _ h)))
  have r1 := Reps.mono s1 _ _ r
  refine ⟨⟨vs, q, Nat.le_of_eq r.length⟩, fun i x e => ?_⟩
  obtain ⟨y, e1, r2⟩ := r1.get e
  refine ⟨⟨vs, y, q, e1⟩, fun v H' ⟨z, k⟩ => ?_⟩
  subst z
  have := k vs q
  rw [e1] at this; cases this
  exact ⟨G1, Grow.refl s2, r2⟩
theorem wk_str {x : Str} : Wk P w K G (Its x) (x.cps.toList.map fun c => .str ⟨#[c]⟩) := fun G1 H s1 s2 => by
  refine ⟨by simp [Its], fun i d e => ?_⟩
  rw [List.getElem?_map, Array.getElem?_toList] at e
  obtain ⟨c, e1, e2⟩ := mapE e
  subst e2
  refine ⟨(Array.getElem?_eq_some_iff.mp e1).1, fun v H' ⟨z, c', e3, e4⟩ => ?_⟩
  subst z e4
  rw [e1] at e3; cases e3
  exact ⟨G1, Grow.refl s2, rfl⟩
theorem wk_range {lo : Int} {n : Nat} : Wk P w K G (Itr lo n) ((List.range n).map fun (i : Nat) => .int (lo + i)) := fun G1 H s1 s2 => by
  refine ⟨by simp [Itr], fun i d e => ?_⟩
  rw [List.getElem?_map] at e
  obtain ⟨c, e1, e2⟩ := mapE e
  subst e2
  obtain ⟨hl, e3⟩ := List.getElem?_eq_some_iff.mp e1
  rw [List.getElem_range] at e3
  subst e3
  refine ⟨show i < n by simpa using hl, fun v H' ⟨z, e4⟩ => ?_⟩
  subst z e4
  exact ⟨G1, Grow.refl s2, rfl⟩
def Itp (d : Addr) (o : Obj) (us : List V) : It := ⟨fun i H => H d = some (pinO d o) ∧ i < us.length, fun i H x H' => H' = H ∧ us[i]? = some x, fun i H => H d = some (pinO d o) ∧ us.length ≤ i⟩
theorem wk_keys {d : Addr} {o : Obj} {us : List V} {ds : List D} (h : G d = some (pinO d o)) (r : Reps P w K G ds us) : Wk P w K G (Itp d o us) ds := fun G1 H s1 s2 => by
  have q := s2 _ _ (s1 _ _ h)
  have r1 := Reps.mono s1 _ _ r
  refine ⟨⟨q, Nat.le_of_eq r.length⟩, fun i x e => ?_⟩
  obtain ⟨y, e1, r2⟩ := r1.get e
  refine ⟨⟨q, (List.getElem?_eq_some_iff.mp e1).1⟩, fun v H' ⟨z, k⟩ => ?_⟩
  subst z
  rw [e1] at k; cases k
  exact ⟨G1, Grow.refl s2, r2⟩
theorem leaf_rel {k : D} {l : Leaf} {v : Value} (hk : k.noInt = true) (h : leafOf k = some l) (e : (leafK0 P w).is l v = true) : ∃ x, RelV x v ∧ Rep P w K G k x := by
  cases k <;> first | (cases h; done) | skip
  · cases h
    have : v = .none := by
      have e2 := isK0_of e
      cases v <;> first | rfl | exact absurd e2 (by simp [Leaf.isOf])
    subst this
    exact ⟨.non, rfl, rfl⟩
  · cases h
    rename_i i
    have e2 : (Leaf.isOf (.num i) v && notB v) = true := e
    cases v <;> first | (cases e2; done) | skip
    · simp [notB] at e2
    · rename_i j t
      have e3 : j = i := by simpa [Leaf.isOf, notB] using e2
      subst e3
      exact ⟨.int j, ⟨t, rfl⟩, rfl⟩
    all_goals (simp [Leaf.isOf] at e2)
  · cases h
    obtain ⟨t, rfl⟩ := Value.isStrOf_shape (show Value.isStrOf _ v = true from isK0_of e)
    exact ⟨.str _, ⟨t, rfl⟩, rfl⟩
theorem flat_reps : ∀ {ds : List D} {kv : List V}, kv.map flatD = ds.map some → Reps P w K G ds kv
  | [], kv, h => by cases kv with | nil => rfl | cons _ _ => cases h
  | d :: ds, kv, h => by
    cases kv with
    | nil => cases h
    | cons x kv =>
      simp only [List.map_cons, List.cons.injEq] at h
      refine ⟨x, kv, rfl, ?_, flat_reps h.2⟩
      have h1 := h.1
      cases x <;> first | (cases h1; rfl) | (cases h1; done)
theorem dict_keys {o : Obj} {ks : List D} {vs : List V} (d : DictO P w G o ks vs) (hk : ks.all D.noInt = true) :
    ∃ (es : Array DictEntry) (ep : Nat) (us : List V), o.ExactDict ∧ o.data = .dict es ep ∧ es.size = us.length ∧ Reps P w K G ks us ∧ ∀ (i : Nat) x, us[i]? = some x → ∃ en, es[i]? = some en ∧ RelV x en.key := by
  rcases d with ⟨us, ⟨es, ep, h1, h2, h3, h4, h5⟩, q, _⟩ | ⟨xs, ⟨h1, ⟨es, ep, h2, h3⟩, h4⟩, q, _, g⟩
  · have key : ∀ (es : List DictEntry) (us : List (Leaf × Value)) (ks : List D), Pairs (leafK0 P w) es us → ks.all D.noInt = true → ks.map leafOf = us.map (fun u => some u.1) →
        ∃ vs : List V, es.length = vs.length ∧ Reps P w K G ks vs ∧ ∀ (i : Nat) x, vs[i]? = some x → ∃ en, es[i]? = some en ∧ RelV x en.key := by
      intro es us ks p
      induction p generalizing ks with
      | nil => intro _ e; cases ks with
        | nil => exact ⟨[], rfl, rfl, fun i x e => by simp at e⟩
        | cons _ _ => cases e
      | @cons en kv es us p1 p2 p3 ih => intro hk e; cases ks with
        | nil => cases e
        | cons k ks =>
          simp only [List.map_cons, List.cons.injEq] at e
          rw [List.all_cons, Bool.and_eq_true_iff] at hk
          obtain ⟨vs, i1, i2, i3⟩ := ih ks hk.2 e.2
          obtain ⟨x, x1, x2⟩ := leaf_rel (K := K) (G := G) hk.1 e.1 p1
          refine ⟨x :: vs, by simp [i1], ⟨x, vs, rfl, x2, i2⟩, fun i y ey => ?_⟩
          cases i with
          | zero => cases ey; exact ⟨en, rfl, x1⟩
          | succ i => exact i3 i y (by simpa using ey)
    obtain ⟨vs, i1, i2, i3⟩ := key es.toList us ks h4 hk q
    exact ⟨es, ep, vs, h1, h2, by simpa using i1, i2, fun i x e => by obtain ⟨en, e1, e2⟩ := i3 i x e; exact ⟨en, by simpa using e1, e2⟩⟩
  · refine ⟨es, ep, xs.map (fun x => V.ref x.2.1), h1, h2, by rw [size_of_entries h3, List.length_map], ?_, fun i x e => ?_⟩
    · have hl : ks.length = xs.length := by have := congrArg List.length q; simpa using this
      refine Reps.of (by rw [List.length_map, hl]) fun i k y e1 e2 => ?_
      rw [List.getElem?_map] at e2
      obtain ⟨x, e3, e4⟩ := mapE e2
      subst e4
      obtain ⟨ds, kv, k1, k2, k3⟩ := g i k x e1 e3
      subst k1
      exact ⟨_, kv, rfl, k2, flat_reps k3⟩
    · rw [List.getElem?_map] at e
      obtain ⟨x, e3, e4⟩ := mapE e
      subst e4
      have := entry_at h3 i
      rw [e3] at this
      exact ⟨_, this, rfl⟩
end
theorem turn_keysP {P : Program} {w : World} {K : PySem.W.Frag} {tg : Expr} {d : Addr} {o : Obj} {es : Array DictEntry} {ep : Nat} {us : List V} (it : Addr) (hod : o.data = .dict es ep) (hsz : es.size = us.length) (hk : ∀ (i : Nat) x, us[i]? = some x → ∃ en, es[i]? = some en ∧ RelV x en.key) :
    Turn P w K tg (Itp d o us) [it] it (fun i h => h.IsKeyIter it d i us.length ep) where
  mem := by simp
  obj := fun i h st b hb => by
    have e : b = it := by simpa using hb
    subst e
    obtain ⟨oi, e, c, dd⟩ := st
    exact ⟨oi, e, fun v z => by rw [dd] at z; cases z⟩
  keep := fun i h h' st k => st.at fun oi e => k it (by simp) oi e
  item := by
    intro X hP hw hK hc i pins s σ H E I hf st hg
    subst hP hw hK
    obtain ⟨hd, hi⟩ := hg
    obtain ⟨f0, f1, f2, f3, f4, f5⟩ := hf it (by simp)
    have hx : us[i]? = some us[i] := List.getElem?_eq_getElem hi
    obtain ⟨en, hen, hr⟩ := hk i _ hx
    refine next_key_item st (rdp I hd) hod hsz hen fun h' st' sb => ?_
    have I1 : L2.Inv X pins σ H { s with heap := h' } := I.turned (t' := s.toks) (fun b ob hb e => (sb.2 b hb).trans e) f0 f1 f3 f4 f5
    obtain ⟨oi, e, c, dd⟩ := id st'
    exact ⟨en.key, rfl, go_of (s := { s with heap := h' }) e c dd (by decide) ⟨us[i], H, I1, hr, ⟨rfl, hx⟩, st', fun b hb => (hf b hb).1⟩⟩
  done := by
    intro X hP hw hK hc i pins s σ H E I hf st hg
    subst hP hw hK
    obtain ⟨hd, hi⟩ := hg
    obtain ⟨f0, f1, f2, f3, f4, f5⟩ := hf it (by simp)
    exact next_key_end (I.ok.hd hc) st (rdp I hd) hod hsz hi fun h' eb => ⟨rfl, I.turned (t' := s.toks) (fun b ob hb e => eb b ob hb e) f0 f1 f3 f4 f5⟩
  self := fun A i s Q E st h => by
    refine wpAny_pyIter_slot st.typeIs F.slot_dict_keyiterator_iter (wpAny_call_entry F.slot_dict_keyiterator_iter st.typeIs F.entry_dict_keyiterator_iter ?_ (F.args_dict_keyiterator_iter_1 _))
    show wpAny _ _ (ret (.ref it)) _ _ s
    exact wpAny_pure ⟨_, rfl, "dict_keyiterator", _, st.typeIs, F.slot_dict_keyiterator_next.lookup, h⟩
section
variable {X : Cx} {O : List Nat} {tg e : Expr} {f : FX}
theorem pi_keysP {te : TE} (he : PE X e te) : PI X tg e (fun σ H R => te σ H fun x H1 => ∃ d o es ep us, x = .ref d ∧ (d == sysModules) = false ∧ H1 d = some (pinO d o) ∧ o.ExactDict ∧ o.data = .dict es ep ∧ es.size = us.length ∧ (∀ (i : Nat) x, us[i]? = some x → ∃ en, es[i]? = some en ∧ RelV x en.key) ∧ R (Itp d o us) H1) := by
  refine ⟨fun pins s σ H R I h => ?_⟩
  refine thn (he.run pins s σ H _ I h) fun u s1 ⟨x, H1, I1, rx, d, o, es, ep, us, ex, hs, hd, hx, hdt, hsz, hk, q⟩ => ?_
  subst ex
  obtain rfl : u = Value.ref d := rx
  refine iter_keys hs (rdp I1 hd) hx hdt (pi_one (tk := s1.toks) I1 _ (turn_keysP _ hdt hsz hk) ⟨_, Heap.get?_push_size _ rfl, rfl, ?_⟩ q)
  rw [hsz] <;> rfl
theorem di_any (he : DX X O e f) : DI X O tg e (xWl f) := by
  refine PI.imp (pi_or (pi_list he) (pi_or (pi_tup he) (pi_or (pi_str he) (pi_keysP he)))) fun σ H Q ⟨F, Pn, G, ρ, d, ρ', S, e, k⟩ => ?_
  obtain ⟨⟨x, ρ1⟩, e1, e⟩ := bindE e
  obtain ⟨l, e2, e⟩ := mapE e
  cases e
  cases x with
  | lst ds =>
    cases e2
    refine .inl ⟨F, Pn, G, ρ, _, _, S, e1, fun v G1 H1 S1 s1 ⟨a, vs, ev, r1, r2⟩ => ?_⟩
    exact ⟨a, ev, ⟨vs, .inl (Rd.of (S1.sub _ _ r1))⟩, k _ G1 H1 S1 s1 (wk_list r1 r2)⟩
  | scr ds =>
    cases e2
    refine .inl ⟨F, Pn, G, ρ, _, _, S, e1, fun v G1 H1 S1 s1 ⟨a, ev, r1⟩ => ?_⟩
    exact ⟨a, ev, ⟨_, S1.sub.seq r1⟩, k _ G1 H1 S1 s1 (wk_scr r1)⟩
  | tup ds =>
    cases e2
    refine .inr (.inl ⟨F, Pn, G, ρ, _, _, S, e1, fun v G1 H1 S1 s1 ⟨a, vs, ev, r1, r2⟩ => ?_⟩)
    exact ⟨a, ev, ⟨vs, .inl (Rd.of (S1.sub _ _ r1))⟩, k _ G1 H1 S1 s1 (wk_tup r1 r2)⟩
  | str z =>
    cases e2
    refine .inr (.inr (.inl ⟨F, Pn, G, ρ, _, _, S, e1, fun v G1 H1 S1 s1 ev => ?_⟩))
    exact ⟨z, ev, k _ G1 H1 S1 s1 wk_str⟩
  | dct kvs =>
    obtain ⟨hki, e2⟩ := ifE (show (if kvs.all (fun p => p.1.noInt) then some (kvs.map (·.1)) else none) = some _ from e2)
    subst e2
    refine .inr (.inr (.inr ⟨F, Pn, G, ρ, _, _, S, e1, fun v G1 H1 S1 s1 ⟨a, o, vs, ev, hm, r1, hl, r2, r3⟩ => ?_⟩))
    obtain ⟨es, ep, us, k1, k2, k3, k4, k5⟩ := dict_keys (K := X.K) r2 (by rw [List.all_map]; exact hki)
    exact ⟨a, o, es, ep, us, ev, hm, S1.sub _ _ r1, k1, k2, k3, k5, k _ G1 H1 S1 s1 (wk_keys r1 k4)⟩
  | _ => cases e2
theorem die_any {f : FE} (he : DE X O e f) : DI X O tg e (up (eWl f)) := (di_any he).congr (xWl_up f)
def rng1 : List D → Option (List D)
  | [.int j] => if decide (-(2 ^ 62) ≤ j) && decide (j < 2 ^ 62) then some ((List.range j.toNat).map fun (i : Nat) => .int (0 + i)) else none
  | _ => none
def xLs (op : List D → Option (List D)) (f : FL) : FL := fun ρ => (f ρ).bind fun p => (op p.1).map fun l => (l, p.2)
def eLs (op : List D → Option (List D)) (f : FEL) : FEL := fun ρ => (f ρ).bind op
theorem xLs_up (op : List D → Option (List D)) (f : FEL) : xLs op (up f) = up (eLs op f) := by
  funext ρ; show ((f ρ).map _).bind _ = ((f ρ).bind _).map _
  cases f ρ <;> rfl
theorem di_range1 {a : Expr} {fl : FL} {p pos : Pos} (hg : Gl X "range") (hm : X.mg "range" = none) (ha : DA X O [a] fl) (hs : starEach [a] X.env = [(false, eval a X.env)] := by rfl) : DI X O tg (.Call (.Name "range" p) [a] [] pos) (xLs rng1 fl) := by
  refine PI.imp (pi_range1 hg hm ha hs) fun σ H Q ⟨F, Pn, G, ρ, d, ρ', S, e, k⟩ => ?_
  obtain ⟨⟨ys, ρ1⟩, e1, e⟩ := bindE e
  obtain ⟨l, e2, e⟩ := mapE e
  cases e
  refine ⟨F, Pn, G, ρ, _, _, S, e1, fun vs G1 H1 S1 s1 r1 => ?_⟩
  unfold rng1 at e2
  split at e2
  · rename_i j hq
    replace hq : ys = _ := hq
    subst hq
    obtain ⟨hj, rfl⟩ := ifE e2
    simp only [Bool.and_eq_true, decide_eq_true_eq] at hj
    obtain ⟨v, r, ev, rv, er⟩ := r1
    subst ev er rv
    exact ⟨j, rfl, hj.1, hj.2, k _ G1 H1 S1 s1 wk_range⟩
  · cases e2
theorem die_range1 {a : Expr} {fl : FEL} {p pos : Pos} (hg : Gl X "range") (hm : X.mg "range" = none) (ha : DAe X O [a] fl) (hs : starEach [a] X.env = [(false, eval a X.env)] := by rfl) : DI X O tg (.Call (.Name "range" p) [a] [] pos) (up (eLs rng1 fl)) := (di_range1 hg hm ha hs).congr (xLs_up _ _)
def enumL : List D → Option (List D)
  | [.lst l] => some (l.mapIdx fun i x => .tup [.int (i : Nat), x])
  | _ => none
theorem wk_enum {P : Program} {w : World} {K : PySem.W.Frag} {G : Hp} {a : Addr} {vs : List V} {ds : List D} (h : G a = some (.lst vs)) (r : Reps P w K G ds vs) : Wk P w K G (Ite K a) (ds.mapIdx fun i x => .tup [.int (i : Nat), x]) := fun G1 H s1 s2 => by
  have q : SqL K H a vs := .inl (Rd.of (s2 _ _ (s1 _ _ h)))
  have r1 := Reps.mono s1 _ _ r
  refine ⟨⟨vs, q, by rw [List.length_mapIdx]; exact Nat.le_of_eq r.length⟩, fun i x e => ?_⟩
  rw [List.getElem?_mapIdx] at e
  obtain ⟨d, e0, e'⟩ := mapE e
  subst e'
  obtain ⟨y, e1, r2⟩ := r1.get e0
  refine ⟨⟨vs, y, q, e1⟩, fun v H' ⟨T, x, ev, hT, z, k⟩ => ?_⟩
  subst z ev
  have := k vs q
  rw [e1] at this; cases this
  have g := Grow.alloc (o := .tup [.int (i : Nat), y]) s2 hT
  exact ⟨_, g, T, _, rfl, upd_same, .int (i : Nat), [y], rfl, rfl, y, [], rfl, Rep.mono g.g _ _ r2, rfl⟩
theorem di_enum {a : Expr} {fl : FL} {p pos tpos : Pos} {elts : List Expr} {kk : Nat} (hg : Gl X "enumerate") (hm : X.mg "enumerate" = none) (ha : DA X O [a] fl) (hs : starEach [a] X.env = [(false, eval a X.env)] := by rfl) :
    DI X O (.Tuple elts kk tpos) (.Call (.Name "enumerate" p) [a] [] pos) (xLs enumL fl) := by
  refine PI.imp (pi_enum hg hm ha hs) fun σ H Q ⟨F, Pn, G, ρ, d, ρ', S, e, k⟩ => ?_
  obtain ⟨⟨ys, ρ1⟩, e1, e⟩ := bindE e
  obtain ⟨l, e2, e⟩ := mapE e
  cases e
  refine ⟨F, Pn, G, ρ, _, _, S, e1, fun vs G1 H1 S1 s1 r1 => ?_⟩
  unfold enumL at e2
  split at e2
  · rename_i hq
    replace hq : ys = _ := hq
    subst hq
    cases e2
    obtain ⟨v, r, ev, ⟨a, us, rv, q1, q2⟩, er⟩ := r1
    subst ev er rv
    exact ⟨a, us, rfl, .inl (Rd.of (S1.sub _ _ q1)), k _ G1 H1 S1 s1 (wk_enum q1 q2)⟩
  · cases e2
theorem die_enum {a : Expr} {fl : FEL} {p pos tpos : Pos} {elts : List Expr} {kk : Nat} (hg : Gl X "enumerate") (hm : X.mg "enumerate" = none) (ha : DAe X O [a] fl) (hs : starEach [a] X.env = [(false, eval a X.env)] := by rfl) :
    DI X O (.Tuple elts kk tpos) (.Call (.Name "enumerate" p) [a] [] pos) (up (eLs enumL fl)) := (di_enum hg hm ha hs).congr (xLs_up _ _)
theorem wk_zip {P : Program} {w : World} {K : PySem.W.Frag} {G : Hp} {a b : Addr} {vs us : List V} {ds es : List D} (h : G a = some (.lst vs)) (r : Reps P w K G ds vs) (h' : G b = some (.lst us)) (r' : Reps P w K G es us) :
    Wk P w K G (Itz K a b) (List.zipWith (fun x y => .tup [x, y]) ds es) := fun G1 H s1 s2 => by
  have q : SqL K H a vs := .inl (Rd.of (s2 _ _ (s1 _ _ h)))
  have q' : SqL K H b us := .inl (Rd.of (s2 _ _ (s1 _ _ h')))
  have r1 := Reps.mono s1 _ _ r
  have r1' := Reps.mono s1 _ _ r'
  refine ⟨⟨vs, us, q, q', ?_⟩, fun i x e => ?_⟩
  · rw [List.length_zipWith, ← r.length, ← r'.length]
    omega
  · rw [List.getElem?_zipWith] at e
    cases e0 : ds[i]? with
    | none => rw [e0] at e; cases e
    | some d =>
      cases e0' : es[i]? with
      | none => rw [e0, e0'] at e; cases e
      | some d' =>
        rw [e0, e0'] at e
        cases e
        obtain ⟨y, e1, r2⟩ := r1.get e0
        obtain ⟨y', e1', r2'⟩ := r1'.get e0'
        refine ⟨⟨vs, us, y, y', q, q', e1, e1'⟩, fun v H' hy => ?_⟩
        obtain ⟨T, x, x', ev, hT, z, k, k'⟩ := hy
        subst z ev
        have h1 := k vs q
        have h2 := k' us q'
        rw [e1] at h1; cases h1
        rw [e1'] at h2; cases h2
        have g := Grow.alloc (o := .tup [y, y']) s2 hT
        exact ⟨_, g, T, _, rfl, upd_same, y, [y'], rfl, Rep.mono g.g _ _ r2, y', [], rfl, Rep.mono g.g _ _ r2', rfl⟩
end
theorem ifN {α : Type} {c : Prop} [Decidable c] {a : Option α} {z : α} (h : (if c then a else none) = some z) : c ∧ a = some z := by
  by_cases hc : c
  · rw [if_pos hc] at h; exact ⟨hc, h⟩
  · rw [if_neg hc] at h; cases h
def Off (is : List Nat) (σ τ : St) : Prop := τ.length = σ.length ∧ ∀ j, j ∉ is → τ[j]? = σ[j]?
def tDg (P : Program) (w : World) (K : PySem.W.Frag) (O is : List Nat) (f : D → Env → Option Env) : TG := fun v σ H Q => ∃ F Pn G ρ d ρ', SR P w K F Pn O G ρ σ H ∧ Rep P w K G d v ∧ f d ρ = some ρ' ∧
  ∀ σ' G' H', SR P w K F Pn O G' ρ' σ' H' → Same G G' → Off is σ σ' → Q σ' H'
abbrev DG (X : Cx) (O is : List Nat) (tg : Expr) (f : D → Env → Option Env) : Prop := PG X tg (tDg X.prog X.w X.K O is f)
def tDgs (P : Program) (w : World) (K : PySem.W.Frag) (O is : List Nat) (f : List D → Env → Option Env) : TGs := fun v σ H Q => ∃ F Pn G ρ d ρ', SR P w K F Pn O G ρ σ H ∧ Reps P w K G d v ∧ f d ρ = some ρ' ∧
  ∀ σ' G' H', SR P w K F Pn O G' ρ' σ' H' → Same G G' → Off is σ σ' → Q σ' H'
abbrev DGs (X : Cx) (O is : List Nat) (tg : List Expr) (f : List D → Env → Option Env) : Prop := PGs X tg (tDgs X.prog X.w X.K O is f)
theorem PG.imp {X : Cx} {e : Expr} {t t' : TG} (h : PG X e t) (k : ∀ v σ H Q, t' v σ H Q → t v σ H Q) : PG X e t' := ⟨fun pins s σ H v u Q I r q => h.run pins s σ H v u Q I r (k v σ H Q q)⟩
theorem PGs.imp {X : Cx} {e : List Expr} {t t' : TGs} (h : PGs X e t) (k : ∀ v σ H Q, t' v σ H Q → t v σ H Q) : PGs X e t' := ⟨fun pins s σ H v u Q I r q => h.run pins s σ H v u Q I r (k v σ H Q q)⟩
def gNm (i : Nat) : D → Env → Option Env := fun d ρ => some (ρ.set i (some d))
def gNl : List D → Env → Option Env
  | [], ρ => some ρ
  | _, _ => none
def gCn (f : D → Env → Option Env) (g : List D → Env → Option Env) : List D → Env → Option Env
  | d :: ds, ρ => (f d ρ).bind (g ds)
  | _, _ => none
def gTp (n : Nat) (g : List D → Env → Option Env) : D → Env → Option Env
  | .tup ds, ρ => if ds.length = n then g ds ρ else none
  | _, _ => none
theorem Off.refl (is : List Nat) (σ : St) : Off is σ σ := ⟨rfl, fun _ _ => rfl⟩
theorem Off.trans {is js : List Nat} {σ τ υ : St} (h : Off is σ τ) (k : Off js τ υ) : Off (is ++ js) σ υ :=
  ⟨k.1.trans h.1, fun j hj => (k.2 j fun z => hj (List.mem_append_right _ z)).trans (h.2 j fun z => hj (List.mem_append_left _ z))⟩
section
variable {X : Cx} {O is js : List Nat} {pos : Pos}
theorem dg_name {i : Nat} {x : Str} (hN : X.N.Nodup) (hi : X.N[i]? = some x) (hx : Loc X.env.scope x) (hO : i ∉ O) (hf : X.fn x = true ∨ X.env.scope.names.lookup x = some .local := by first | exact .inl rfl | exact .inr rfl | assumption) : DG X O [i] (.Name x pos) (gNm i) := by
  refine PG.imp (pg_name hN hi hx hf) fun v σ H Q ⟨F, Pn, G, ρ, d, ρ', S, r, e, k⟩ => ?_
  cases e
  exact k _ G H (S.set hO r) (Same.refl _) ⟨List.length_set .., fun j hj => List.getElem?_set_ne fun z : i = j => hj (z ▸ List.mem_singleton.mpr rfl)⟩
theorem dgs_nil : DGs X O [] [] gNl := by
  refine PGs.imp pgs_nil fun v σ H Q ⟨F, Pn, G, ρ, d, ρ', S, r, e, k⟩ => ?_
  cases d with
  | nil => cases r; cases e; exact ⟨rfl, k _ G H S (Same.refl _) (Off.refl _ _)⟩
  | cons _ _ => cases e
theorem dgs_cons {e : Expr} {es : List Expr} {f : D → Env → Option Env} {g : List D → Env → Option Env} (h1 : DG X O is e f) (h2 : DGs X O js es g) (hs : (assignEach (e :: es) X.env).map (·.2) = assign e X.env :: (assignEach es X.env).map (·.2) := by rfl) : DGs X O (is ++ js) (e :: es) (gCn f g) := by
  refine PGs.imp (pgs_cons h1 h2 hs) fun v σ H Q ⟨F, Pn, G, ρ, d, ρ', S, r, e, k⟩ => ?_
  cases d with
  | nil => cases e
  | cons d ds =>
    obtain ⟨x, xr, ev, r1, r2⟩ := r
    subst ev
    obtain ⟨ρ1, e1, e2⟩ := bindE (show (f d ρ).bind (g ds) = some ρ' from e)
    refine ⟨x, xr, rfl, F, Pn, G, ρ, d, ρ1, S, r1, e1, fun σ1 G1 H1 S1 s1 o1 => ⟨F, Pn, G1, ρ1, ds, ρ', S1, Reps.mono s1 _ _ r2, e2, fun σ2 G2 H2 S2 s2 o2 => ?_⟩⟩
    exact k σ2 G2 H2 S2 (s1.trans s2) (o1.trans o2)
theorem dg_tup {es : List Expr} {n k : Nat} {g : List D → Env → Option Env} (hc : X.calm = true) (h : DGs X O is es g) (hn : (assignEach es X.env).length = n := by rfl) (hst : (assignEach es X.env).findIdx? (·.1) = none := by rfl) : DG X O is (.Tuple es k pos) (gTp n g) := by
  refine PG.imp (pg_tup hc h hn hst) fun v σ H Q ⟨F, Pn, G, ρ, d, ρ', S, r, e, k⟩ => ?_
  cases d with
  | tup ds =>
    obtain ⟨hl, e⟩ := ifN (show (if ds.length = n then g ds ρ else none) = some ρ' from e)
    obtain ⟨a, vs, ev, r1, r2⟩ := r
    exact ⟨a, vs, ev, .inl (Rd.of (S.sub _ _ r1)), r2.length.trans hl, F, Pn, G, ρ, ds, ρ', S, r2, e, k⟩
  | _ => cases e
end
end RF
set_option Elab.async false
set_option linter.all false
set_option maxRecDepth 100000
set_option maxHeartbeats 1000000
namespace RF
open PySem PySem.Spec L2
open PyProof.Rows hiding St
def wp (ρ : Env) : List Nat → Env
  | [] => ρ
  | v :: vs => (wp ρ vs).set v none
def rst (ρ0 ρ : Env) : List Nat → Env
  | [] => ρ
  | v :: vs => (rst ρ0 ρ vs).set v (lk ρ0 v)
theorem wp_length (ρ : Env) : ∀ vs, (wp ρ vs).length = ρ.length
  | [] => rfl
  | v :: vs => by unfold wp; rw [List.length_set]; exact wp_length ρ vs
theorem rst_length (ρ0 ρ : Env) : ∀ vs, (rst ρ0 ρ vs).length = ρ.length
  | [] => rfl
  | v :: vs => by unfold rst; rw [List.length_set]; exact rst_length ρ0 ρ vs
theorem wp_lk {ρ : Env} {j : Nat} {d : D} : ∀ {vs : List Nat}, lk (wp ρ vs) j = some d → lk ρ j = some d ∧ j ∉ vs
  | [], h => ⟨h, by simp⟩
  | v :: vs, h => by
    unfold wp at h
    by_cases hj : j = v
    · subst hj; exact nomatch (lk_set_self h).1
    · rw [lk_set_ne hj] at h
      obtain ⟨a, b⟩ := wp_lk h
      exact ⟨a, by simp [hj, b]⟩
theorem rst_lk {ρ0 ρ : Env} {j : Nat} {d : D} : ∀ {vs : List Nat}, lk (rst ρ0 ρ vs) j = some d → (j ∈ vs ∧ lk ρ0 j = some d) ∨ (j ∉ vs ∧ lk ρ j = some d)
  | [], h => .inr ⟨by simp, h⟩
  | v :: vs, h => by
    unfold rst at h
    by_cases hj : j = v
    · subst hj; exact .inl ⟨by simp, (lk_set_self h).1⟩
    · rw [lk_set_ne hj] at h
      rcases rst_lk h with ⟨a, b⟩ | ⟨a, b⟩
      · exact .inl ⟨by simp [a], b⟩
      · exact .inr ⟨by simp [hj, a], b⟩
theorem wipe_ne {σ : St} {j : Nat} : ∀ {vs : List Nat}, j ∉ vs → (wipe σ vs)[j]? = σ[j]?
  | [], _ => rfl
  | v :: vs, h => by
    simp only [List.mem_cons, not_or] at h
    unfold wipe
    rw [List.getElem?_set_ne (Ne.symm h.1)]
    exact wipe_ne h.2
theorem wipe_in {σ : St} {j : Nat} : ∀ {vs : List Nat}, j ∈ vs → (wipe σ vs)[j]? = (σ[j]?).map fun _ => none
  | [], h => by cases h
  | v :: vs, h => by
    unfold wipe
    by_cases hj : v = j
    · subst hj
      by_cases hl : v < (wipe σ vs).length
      · rw [List.getElem?_set_self hl]
        rw [wipe_length] at hl
        rw [List.getElem?_eq_getElem hl]; rfl
      · rw [List.getElem?_eq_none (by simpa using hl)]
        rw [wipe_length] at hl
        rw [List.getElem?_eq_none (by omega)]; rfl
    · rw [List.getElem?_set_ne hj]
      exact wipe_in ((List.mem_cons.mp h).resolve_left (Ne.symm hj))
theorem off_wipe {is vs : List Nat} {σ τ : St} (o : Off is (wipe σ vs) τ) (h : ∀ i ∈ is, i ∈ vs) : wipe τ vs = wipe σ vs := by
  have hl : τ.length = σ.length := o.1.trans (wipe_length _ _)
  refine List.ext_getElem? fun j => ?_
  by_cases hj : j ∈ vs
  · rw [wipe_in hj, wipe_in hj]
    by_cases hb : j < σ.length
    · rw [List.getElem?_eq_getElem hb, List.getElem?_eq_getElem (by omega)]; rfl
    · rw [List.getElem?_eq_none (by omega), List.getElem?_eq_none (by omega)]
  · rw [wipe_ne hj, wipe_ne hj, o.2 j fun z => hj (h j z), wipe_ne hj]
theorem wipe_wipe {σ : St} {vs ws : List Nat} (h : ∀ i ∈ ws, i ∈ vs) : wipe (wipe σ ws) vs = wipe σ vs := by
  refine List.ext_getElem? fun j => ?_
  by_cases hj : j ∈ vs
  · rw [wipe_in hj, wipe_in hj]
    by_cases hb : j < σ.length
    · rw [List.getElem?_eq_getElem hb, List.getElem?_eq_getElem (by rw [wipe_length]; exact hb)]; rfl
    · have h1 : (wipe σ ws)[j]? = none := List.getElem?_eq_none (by rw [wipe_length]; omega)
      rw [h1, List.getElem?_eq_none (by omega)]
  · rw [wipe_ne hj, wipe_ne hj, wipe_ne fun z => hj (h j z)]
section
variable {P : Program} {w : World} {K : PySem.W.Frag} {F G G0 H H0 : Hp} {Pn : List (Nat × Addr)} {O : List Nat} {ρ ρ0 : Env} {σ : St} {vs : List Nat} {A : Addr} {o o' : HO}
theorem SR.wipe (S : SR P w K F Pn O G ρ σ H) (hv : ∀ v ∈ vs, v ∉ O) : SR P w K F Pn O G (wp ρ vs) (L2.wipe σ vs) H where
  sub := S.sub
  frm := S.frm
  len := by rw [wp_length, wipe_length]; exact S.len
  val := fun i d e hi => by
    obtain ⟨e1, e2⟩ := wp_lk e
    rw [wipe_ne e2]
    exact S.val i d e1 hi
  own := fun i hi d e => by
    obtain ⟨e1, e2⟩ := wp_lk e
    obtain ⟨a, h1, h2, h3, h4, h5⟩ := S.own i hi d e1
    refine ⟨a, by rw [wipe_ne e2]; exact h1, h2, h3, h4, fun j hj hji x ex => ?_⟩
    obtain ⟨e3, e4⟩ := wp_lk ex
    rw [wipe_ne e4]
    exact h5 j hj hji x e3
  pin := fun p hp => ⟨(S.pin p hp).1, by rw [wipe_ne fun z => hv _ z (S.pin p hp).1]; exact (S.pin p hp).2⟩
theorem SR.unwipe (S0 : SR P w K F Pn O G0 ρ0 σ H0) (s : Same G0 G) (S : SR P w K F Pn O G ρ (L2.wipe σ vs) H) (hv : ∀ v ∈ vs, v ∉ O) : SR P w K F Pn O G (rst ρ0 ρ vs) σ H where
  sub := S.sub
  frm := S.frm
  len := by rw [rst_length, S.len, wipe_length]
  val := fun i d e hi => by
    rcases rst_lk e with ⟨e1, e2⟩ | ⟨e1, e2⟩
    · obtain ⟨v, h1, h2⟩ := S0.val i d e2 hi
      exact ⟨v, h1, Rep.mono s _ _ h2⟩
    · obtain ⟨v, h1, h2⟩ := S.val i d e2 hi
      rw [wipe_ne e1] at h1
      exact ⟨v, h1, h2⟩
  own := fun i hi d e => by
    rcases rst_lk e with ⟨e1, e2⟩ | ⟨e1, e2⟩
    · exact absurd hi (hv i e1)
    · obtain ⟨a, h1, h2, h3, h4, h5⟩ := S.own i hi d e2
      rw [wipe_ne e1] at h1
      refine ⟨a, h1, h2, h3, h4, fun j hj hji x ex => ?_⟩
      rcases rst_lk ex with ⟨e3, e4⟩ | ⟨e3, e4⟩
      · exact absurd hj (hv j e3)
      · have := h5 j hj hji x e4
        rw [wipe_ne e3] at this
        exact this
  pin := fun p hp => ⟨(S.pin p hp).1, by have := (S.pin p hp).2; rw [wipe_ne fun z => hv _ z (S.pin p hp).1] at this; exact this⟩
theorem SR.addF (S : SR P w K F Pn O G ρ σ H) (hp : H A = none) : SR P w K (upd F A o) Pn O G ρ σ (upd H A o) := by
  obtain ⟨S1, n, nf, hj⟩ := S.lay (o := o) hp
  refine ⟨S1.sub, fun b u e => ?_, S1.len, S1.val, fun i hi d e => ?_, S1.pin⟩
  · by_cases hb : b = A
    · subst hb; rw [upd_same] at e ⊢; exact ⟨e, n⟩
    · rw [upd_ne hb] at e; exact S1.frm b u e
  · obtain ⟨a, h1, h2, h3, h4, h5⟩ := S1.own i hi d e
    refine ⟨a, h1, h2, ?_, h4, h5⟩
    have ha : a ≠ A := fun z => by subst z; exact hj i hi d e h1
    rw [upd_ne ha]; exact h3
theorem SR.chgF (S : SR P w K (upd F A o) Pn O G ρ σ H) : SR P w K (upd F A o') Pn O G ρ σ (upd H A o') := by
  obtain ⟨hA, nA⟩ := S.frm A o upd_same
  refine ⟨fun b u e => ?_, fun b u e => ?_, S.len, S.val, fun i hi d e => ?_, S.pin⟩
  · rw [upd_ne (ne_of_none e nA)]; exact S.sub _ _ e
  · by_cases hb : b = A
    · subst hb; rw [upd_same] at e ⊢; exact ⟨e, nA⟩
    · rw [upd_ne hb] at e ⊢
      exact S.frm b u (by rw [upd_ne hb]; exact e)
  · obtain ⟨a, h1, h2, h3, h4, h5⟩ := S.own i hi d e
    have ha : a ≠ A := fun z => by subst z; rw [upd_same] at h3; cases h3
    rw [upd_ne ha] at h3
    exact ⟨a, h1, h2, by rw [upd_ne ha]; exact h3, h4.mono (Same.refl _) (by rw [upd_ne ha]), h5⟩
theorem SR.delF (S : SR P w K (upd F A o) Pn O G ρ σ H) (nf : F A = none) : SR P w K F Pn O G ρ σ H ∧ G A = none ∧ H A = some o ∧ ∀ j ∈ O, ∀ d, lk ρ j = some d → σ[j]? ≠ some (some (.ref A)) := by
  obtain ⟨hA, nA⟩ := S.frm A o upd_same
  refine ⟨⟨S.sub, fun b u e => S.frm b u (by rw [upd_ne (ne_of_none e nf)]; exact e), S.len, S.val, fun i hi d e => ?_, S.pin⟩, nA, hA, fun j hj d e z => ?_⟩
  · obtain ⟨a, h1, h2, h3, h4, h5⟩ := S.own i hi d e
    have ha : a ≠ A := fun z => by subst z; rw [upd_same] at h3; cases h3
    rw [upd_ne ha] at h3
    exact ⟨a, h1, h2, h3, h4, h5⟩
  · obtain ⟨a, h1, h2, h3, h4, h5⟩ := S.own j hj d e
    rw [h1] at z; cases z
    rw [upd_same] at h3; cases h3
end
def runGo (go : D → D → Env → Option (D × Env)) : List D → D → Env → Option (D × Env)
  | [], a, ρ => some (a, ρ)
  | d :: ds, a, ρ => (go d a ρ).bind fun p => runGo go ds p.1 p.2
def At (P : Program) (w : World) (K : PySem.W.Frag) (F : Hp) (Pn : List (Nat × Addr)) (O : List Nat) (A : Addr) (G : Hp) (a : D) (ρ : Env) (τ : St) (H : Hp) : Prop := ∃ o, SR P w K (upd F A o) Pn O G ρ τ H ∧ Cell P w K G H A a
theorem loopW {P : Program} {w : World} {K : PySem.W.Frag} {F G H : Hp} {Pn : List (Nat × Addr)} {O : List Nat} {A : Addr} {J : It} {go : D → D → Env → Option (D × Env)} {ds : List D} {a a' : D} {ρ ρ' : Env} {τ : St} {Qd : Hp → Prop} (step : V → Hp → (Hp → Prop) → Prop)
    (hstep : ∀ G H d v a ρ a' ρ', At P w K F Pn O A G a ρ τ H → Rep P w K G d v → go d a ρ = some (a', ρ') → ∀ Nx : Hp → Prop, (∀ G' H', At P w K F Pn O A G' a' ρ' τ H' → Same G G' → Nx H') → step v H Nx)
    (S : At P w K F Pn O A G a ρ τ H) (W : Wk P w K G J ds) (e : runGo go ds a ρ = some (a', ρ')) (hd : ∀ G' H', At P w K F Pn O A G' a' ρ' τ H' → Same G G' → Qd H') :
    ∃ W : Nat → Nat → Hp → Prop, (∃ m, W 0 m H) ∧ ∀ i m H, W i m H → (J.stop i H ∧ Qd H) ∨ (J.go i H ∧ ∃ Nx : Hp → Prop, (∀ H', Nx H' → ∃ m', m' < m ∧ W (i + 1) m' H') ∧ ∀ x H', J.yld i H x H' → step x H' Nx) := by
  refine ⟨fun i m H => m = ds.length - i ∧ i ≤ ds.length ∧ ∃ G1 b ρ1, At P w K F Pn O A G1 b ρ1 τ H ∧ Same G G1 ∧ runGo go (ds.drop i) b ρ1 = some (a', ρ'), ⟨ds.length, by simp, Nat.zero_le _, G, a, ρ, S, Same.refl _, e⟩, ?_⟩
  rintro i m H1 ⟨rfl, hi, G1, b, ρ1, ⟨o, S1, C1⟩, s1, e1⟩
  obtain ⟨w1, w2⟩ := W G1 H1 s1 S1.sub
  by_cases hlt : i < ds.length
  · have hx : ds[i]? = some ds[i] := List.getElem?_eq_getElem hlt
    obtain ⟨g1, g2⟩ := w2 i _ hx
    rw [List.drop_eq_getElem_cons hlt] at e1
    obtain ⟨⟨c, ρ2⟩, e2, e3⟩ := bindE (show (go ds[i] b ρ1).bind (fun p => runGo go (ds.drop (i + 1)) p.1 p.2) = some (a', ρ') from e1)
    refine .inr ⟨g1, fun H' => ∃ G2, At P w K F Pn O A G2 c ρ2 τ H' ∧ Same G G2, fun H' ⟨G2, S2, s2⟩ => ⟨ds.length - (i + 1), by omega, rfl, hlt, G2, c, ρ2, S2, s2, e3⟩, fun v H' y => ?_⟩
    obtain ⟨G2, gr, r⟩ := g2 v H' y
    have hA := (S1.frm A o upd_same).1
    refine hstep G2 H' _ v b ρ1 c ρ2 ⟨o, S1.grow gr, C1.mono gr.g ((gr.h _ _ hA).trans hA.symm)⟩ r e2 _ fun G3 H3 S3 s3 => ⟨G3, S3, s1.trans (gr.g.trans s3)⟩
  · have : i = ds.length := by omega
    subst this
    rw [List.drop_length] at e1
    cases e1
    exact .inl ⟨w1, hd G1 H1 ⟨o, S1, C1⟩ s1⟩
abbrev DTs (X : Cx) (O : List Nat) (ifs : List Expr) (f : FTx) : Prop := PTs X ifs (tDt X.prog X.w X.K O f)
theorem PTs.imp {X : Cx} {e : List Expr} {t t' : TT} (h : PTs X e t) (k : ∀ σ H Q, t' σ H Q → t σ H Q) : PTs X e t' := ⟨fun pins s σ H Q I q => h.run pins s σ H Q I (k σ H Q q)⟩
def yesT : FT := fun _ => some true
theorem dts_nil {X : Cx} {O : List Nat} : DTs X O [] (up yesT) := PTs.imp pts_nil fun σ H Q ⟨F, Pn, G, ρ, d, ρ', S, e, k⟩ => by cases e; exact k G H S (Same.refl _)
theorem dts_one {X : Cx} {O : List Nat} {c : Expr} {f : FTx} (h : DTx X O c f) : DTs X O [c] f := pts_one h
def push (y : D) : D → Option D
  | .lst l => if lineOk (l.length + 1) then some (.lst (l ++ [y])) else none
  | _ => none
def go1 (vs : List Nat) (g : D → Env → Option Env) (t : FTx) (e : FX) (d a : D) (ρ : Env) : Option (D × Env) :=
  (g d ρ).bind fun ρ1 => (t ρ1).bind fun b => if b.1 then (e b.2).bind fun y => (push y.1 a).map fun a' => (a', wp y.2 vs) else some (a, wp b.2 vs)
def go2 (vs vs1 : List Nat) (g : D → Env → Option Env) (t : FTx) (w1 : FL) (g1 : D → Env → Option Env) (t1 : FTx) (e : FX) (d a : D) (ρ : Env) : Option (D × Env) :=
  (g d ρ).bind fun ρ1 => (t ρ1).bind fun b => if b.1 then (w1 b.2).bind fun p => (runGo (go1 vs1 g1 t1 e) p.1 a (wp p.2 vs1)).map fun r => (r.1, wp r.2 vs) else some (a, wp b.2 vs)
def xLc (vs : List Nat) (w : FL) (g : D → Env → Option Env) (t : FTx) (e : FX) : FX := fun ρ => (w ρ).bind fun p => (runGo (go1 vs g t e) p.1 (.lst []) (wp p.2 vs)).map fun r => (r.1, rst p.2 r.2 vs)
def xLc2 (vs vs1 : List Nat) (w : FL) (g : D → Env → Option Env) (t : FTx) (w1 : FL) (g1 : D → Env → Option Env) (t1 : FTx) (e : FX) : FX := fun ρ => (w ρ).bind fun p => (runGo (go2 vs vs1 g t w1 g1 t1 e) p.1 (.lst []) (wp p.2 vs)).map fun r => (r.1, rst p.2 r.2 vs)
section
variable {P : Program} {w : World} {K : PySem.W.Frag} {O : List Nat} {is is1 vs vs1 : List Nat} {g g1 : D → Env → Option Env} {t t1 : FTx} {e : FX} {wf wf1 : FL}
theorem At.push {F G H : Hp} {Pn : List (Nat × Addr)} {A : Addr} {a a' y : D} {v : V} {ρ : Env} {τ : St} (S : At P w K F Pn O A G a ρ τ H) (r : Rep P w K G y v) (e : push y a = some a') :
    ∃ acc, H A = some (.lst acc) ∧ acc.length < sizeLine ∧ At P w K F Pn O A G a' ρ τ (upd H A (.lst (acc ++ [v]))) := by
  obtain ⟨o, S, C⟩ := S
  cases a with
  | lst l =>
    obtain ⟨hl, rfl⟩ := ifE (show (if lineOk (l.length + 1) then some (D.lst (l ++ [y])) else none) = some a' from e)
    obtain ⟨us, h1, h2⟩ := C
    have hz := lineOk_iff.mp hl
    exact ⟨us, h1, by rw [h2.length]; omega, _, S.chgF, _, upd_same, h2.append (Reps.one r)⟩
  | _ => cases e
theorem step1 {F : Hp} {Pn : List (Nat × Addr)} {A : Addr} {σ : St} (hi : ∀ i ∈ is, i ∈ vs) (hv : ∀ v ∈ vs, v ∉ O) (G H : Hp) (d : D) (v : V) (a : D) (ρ : Env) (a' : D) (ρ' : Env) (S : At P w K F Pn O A G a ρ (wipe σ vs) H) (r : Rep P w K G d v)
    (h : go1 vs g t e d a ρ = some (a', ρ')) (Nx : Hp → Prop) (k : ∀ G' H', At P w K F Pn O A G' a' ρ' (wipe σ vs) H' → Same G G' → Nx H') :
    tDg P w K O is g v (wipe σ vs) H fun σ2 H2 => wipe σ2 vs = wipe σ vs ∧ tDt P w K O t σ2 H2 fun b H3 => if b = true then tD P w K O e σ2 H3 fun y H4 => ∃ acc, H4 A = some (.lst acc) ∧ acc.length < sizeLine ∧ Nx (upd H4 A (.lst (acc ++ [y]))) else Nx H3 := by
  obtain ⟨o, S, C⟩ := S
  have hA := (S.frm A o upd_same).1
  obtain ⟨ρ1, e1, h⟩ := bindE h
  obtain ⟨⟨b, ρ2⟩, e2, h⟩ := bindE h
  refine ⟨_, Pn, G, ρ, d, ρ1, S, r, e1, fun σ2 G2 H2 S2 s2 o2 => ⟨off_wipe o2 hi, _, Pn, G2, ρ1, b, ρ2, S2, e2, fun G3 H3 S3 s3 => ?_⟩⟩
  have hw := off_wipe o2 hi
  have hA3 := (S3.frm A o upd_same).1
  cases b with
  | true =>
    show (if true = true then _ else _)
    rw [if_pos rfl]
    obtain ⟨⟨y, ρ3⟩, e3, h⟩ := bindE (show (e ρ2).bind (fun y => (push y.1 a).map fun a' => (a', wp y.2 vs)) = some (a', ρ') from h)
    obtain ⟨a1, e4, h⟩ := mapE h
    cases h
    refine ⟨_, Pn, G3, ρ2, y, ρ3, S3, e3, fun u G4 H4 S4 s4 r4 => ?_⟩
    have hA4 := (S4.frm A o upd_same).1
    obtain ⟨acc, k1, k2, k3⟩ := At.push (⟨o, S4, C.mono (s2.trans (s3.trans s4)) (hA4.trans hA.symm)⟩ : At P w K F Pn O A G4 a ρ3 σ2 H4) r4 e4
    refine ⟨acc, k1, k2, k G4 _ ?_ (s2.trans (s3.trans s4))⟩
    obtain ⟨o', S5, C5⟩ := k3
    exact ⟨o', by rw [← hw]; exact S5.wipe hv, C5⟩
  | false =>
    show (if false = true then _ else _)
    rw [if_neg Bool.false_ne_true]
    cases h
    refine k G3 H3 ⟨o, by rw [← hw]; exact S3.wipe hv, C.mono (s2.trans s3) (hA3.trans hA.symm)⟩ (s2.trans s3)
theorem tLc_of {σ : St} {H : Hp} {Q : VK} (hi : ∀ i ∈ is, i ∈ vs) (hv : ∀ v ∈ vs, v ∉ O) (h : tDf P w K O (xLc vs wf g t e) σ H Q) : tLc (tDi P w K O wf) (tDg P w K O is g) (tDt P w K O t) (tD P w K O e) vs σ H Q := by
  obtain ⟨F, Pn, G, ρ, d, ρ', S, h, k⟩ := h
  obtain ⟨⟨ds, ρ1⟩, e1, h⟩ := bindE h
  obtain ⟨⟨a, ρ2⟩, e2, h⟩ := mapE h
  cases h
  refine ⟨F, Pn, G, ρ, ds, ρ1, S, e1, fun J G1 H1 S1 s1 W A hA => ?_⟩
  obtain ⟨_, n, nf, _⟩ := S1.lay (o := .lst []) hA
  have S2 : At P w K F Pn O A G1 (.lst []) (wp ρ1 vs) (wipe σ vs) (upd H1 A (.lst [])) := ⟨.lst [], (S1.wipe hv).addF hA, [], upd_same, rfl⟩
  exact loopW (Qd := fun H => Q (.ref A) H) (fun x H' Nx => tDg P w K O is g x (wipe σ vs) H' fun σ2 H2 => wipe σ2 vs = wipe σ vs ∧ tDt P w K O t σ2 H2 fun b H3 => if b = true then tD P w K O e σ2 H3 fun y H4 => ∃ acc, H4 A = some (.lst acc) ∧ acc.length < sizeLine ∧ Nx (upd H4 A (.lst (acc ++ [y]))) else Nx H3)
    (fun G H d v a ρ a' ρ' => step1 hi hv G H d v a ρ a' ρ') S2 W e2 fun G3 H3 ⟨o, S3, C3⟩ s3 => by
      obtain ⟨S4, n4, hA4, hj4⟩ := S3.delF nf
      have S5 := S1.unwipe s3 S4 hv
      refine k A G3 H3 S5 (s1.trans s3) n4 nf C3 fun j hj d' ej => ?_
      rcases rst_lk ej with ⟨z1, z2⟩ | ⟨z1, z2⟩
      · exact absurd hj (hv j z1)
      · have := hj4 j hj d' z2
        rw [wipe_ne z1] at this
        exact this
theorem step2 {F : Hp} {Pn : List (Nat × Addr)} {A : Addr} {σ : St} (hi : ∀ i ∈ is, i ∈ vs) (hv : ∀ v ∈ vs, v ∉ O) (hi1 : ∀ i ∈ is1, i ∈ vs1) (hv1 : ∀ v ∈ vs1, v ∈ vs) (G H : Hp) (d : D) (v : V) (a : D) (ρ : Env) (a' : D) (ρ' : Env) (S : At P w K F Pn O A G a ρ (wipe σ vs) H) (r : Rep P w K G d v)
    (h : go2 vs vs1 g t wf1 g1 t1 e d a ρ = some (a', ρ')) (Nx : Hp → Prop) (k : ∀ G' H', At P w K F Pn O A G' a' ρ' (wipe σ vs) H' → Same G G' → Nx H') :
    tDg P w K O is g v (wipe σ vs) H fun σ2 H2 => wipe σ2 vs = wipe σ vs ∧ tDt P w K O t σ2 H2 fun b H3 => if b = true then tDi P w K O wf1 σ2 H3 fun J1 H4 => ∃ W1 : Nat → Nat → Hp → Prop, (∃ m, W1 0 m H4) ∧ ∀ j k H, W1 j k H →
      (J1.stop j H ∧ Nx H) ∨ (J1.go j H ∧ ∃ Nx1 : Hp → Prop, (∀ H', Nx1 H' → ∃ k', k' < k ∧ W1 (j + 1) k' H') ∧ ∀ x H', J1.yld j H x H' → tDg P w K O is1 g1 x (wipe σ2 vs1) H' fun σ3 H5 => wipe σ3 vs1 = wipe σ2 vs1 ∧ tDt P w K O t1 σ3 H5 fun b H6 =>
        if b = true then tD P w K O e σ3 H6 fun y H7 => ∃ acc, H7 A = some (.lst acc) ∧ acc.length < sizeLine ∧ Nx1 (upd H7 A (.lst (acc ++ [y]))) else Nx1 H6) else Nx H3 := by
  obtain ⟨o, S, C⟩ := S
  have hA := (S.frm A o upd_same).1
  obtain ⟨ρ1, e1, h⟩ := bindE h
  obtain ⟨⟨b, ρ2⟩, e2, h⟩ := bindE h
  refine ⟨_, Pn, G, ρ, d, ρ1, S, r, e1, fun σ2 G2 H2 S2 s2 o2 => ⟨off_wipe o2 hi, _, Pn, G2, ρ1, b, ρ2, S2, e2, fun G3 H3 S3 s3 => ?_⟩⟩
  have hw := off_wipe o2 hi
  have hA3 := (S3.frm A o upd_same).1
  cases b with
  | true =>
    show (if true = true then _ else _)
    rw [if_pos rfl]
    obtain ⟨⟨ds, ρ3⟩, e3, h⟩ := bindE (show (wf1 ρ2).bind (fun p => (runGo (go1 vs1 g1 t1 e) p.1 a (wp p.2 vs1)).map fun r => (r.1, wp r.2 vs)) = some (a', ρ') from h)
    obtain ⟨⟨a1, ρ4⟩, e4, h⟩ := mapE h
    cases h
    refine ⟨_, Pn, G3, ρ2, ds, ρ3, S3, e3, fun J1 G4 H4 S4 s4 W1 => ?_⟩
    have hA4 := (S4.frm A o upd_same).1
    have hv1O : ∀ v ∈ vs1, v ∉ O := fun v z => hv v (hv1 v z)
    have S5 : At P w K F Pn O A G4 a (wp ρ3 vs1) (wipe σ2 vs1) H4 := ⟨o, S4.wipe hv1O, C.mono (s2.trans (s3.trans s4)) (hA4.trans hA.symm)⟩
    exact loopW (fun x H' Nx1 => tDg P w K O is1 g1 x (wipe σ2 vs1) H' fun σ3 H5 => wipe σ3 vs1 = wipe σ2 vs1 ∧ tDt P w K O t1 σ3 H5 fun b H6 =>
        if b = true then tD P w K O e σ3 H6 fun y H7 => ∃ acc, H7 A = some (.lst acc) ∧ acc.length < sizeLine ∧ Nx1 (upd H7 A (.lst (acc ++ [y]))) else Nx1 H6)
      (fun G H d v a ρ a' ρ' => step1 hi1 hv1O G H d v a ρ a' ρ') S5 W1 e4 fun G6 H6 ⟨o6, S6, C6⟩ s6 => by
        refine k G6 H6 ⟨o6, ?_, C6⟩ (s2.trans (s3.trans (s4.trans s6)))
        have := S6.wipe hv
        rw [wipe_wipe hv1, hw] at this
        exact this
  | false =>
    show (if false = true then _ else _)
    rw [if_neg Bool.false_ne_true]
    cases h
    refine k G3 H3 ⟨o, by rw [← hw]; exact S3.wipe hv, C.mono (s2.trans s3) (hA3.trans hA.symm)⟩ (s2.trans s3)
theorem tLc2_of {σ : St} {H : Hp} {Q : VK} (hi : ∀ i ∈ is, i ∈ vs) (hv : ∀ v ∈ vs, v ∉ O) (hi1 : ∀ i ∈ is1, i ∈ vs1) (hv1 : ∀ v ∈ vs1, v ∈ vs) (h : tDf P w K O (xLc2 vs vs1 wf g t wf1 g1 t1 e) σ H Q) :
    tLc2 (tDi P w K O wf) (tDg P w K O is g) (tDt P w K O t) (tDi P w K O wf1) (tDg P w K O is1 g1) (tDt P w K O t1) (tD P w K O e) vs vs1 σ H Q := by
  obtain ⟨F, Pn, G, ρ, d, ρ', S, h, k⟩ := h
  obtain ⟨⟨ds, ρ1⟩, e1, h⟩ := bindE h
  obtain ⟨⟨a, ρ2⟩, e2, h⟩ := mapE h
  cases h
  refine ⟨F, Pn, G, ρ, ds, ρ1, S, e1, fun J G1 H1 S1 s1 W A hA => ?_⟩
  obtain ⟨_, n, nf, _⟩ := S1.lay (o := .lst []) hA
  have S2 : At P w K F Pn O A G1 (.lst []) (wp ρ1 vs) (wipe σ vs) (upd H1 A (.lst [])) := ⟨.lst [], (S1.wipe hv).addF hA, [], upd_same, rfl⟩
  exact loopW (Qd := fun H => Q (.ref A) H) _ (fun G H d v a ρ a' ρ' => step2 hi hv hi1 hv1 G H d v a ρ a' ρ') S2 W e2 fun G3 H3 ⟨o, S3, C3⟩ s3 => by
      obtain ⟨S4, n4, hA4, hj4⟩ := S3.delF nf
      have S5 := S1.unwipe s3 S4 hv
      refine k A G3 H3 S5 (s1.trans s3) n4 nf C3 fun j hj d' ej => ?_
      rcases rst_lk ej with ⟨z1, z2⟩ | ⟨z1, z2⟩
      · exact absurd hj (hv j z1)
      · have := hj4 j hj d' z2
        rw [wipe_ne z1] at this
        exact this
end
end RF
set_option Elab.async false
set_option linter.all false
set_option maxRecDepth 100000
set_option maxHeartbeats 1000000
namespace RF
open PySem PySem.Spec L2
open PyProof.Rows hiding St
structure Ct where
  kd : Bool
  io : List Nat
  ob : List Nat
section
variable (P : Program) (w : World) (K : PySem.W.Frag)
structure Ret (F : Hp) (Pn : List (Nat × Addr)) (G : Hp) (ρ : Env) (H : Hp) : Prop where
  sub : Same G H
  frm : ∀ b o, F b = some o → H b = some o ∧ G b = none
  cel : ∀ p ∈ Pn, ∀ d, lk ρ p.1 = some d → G p.2 = none ∧ F p.2 = none ∧ Cell P w K G H p.2 d
def Out (kd : Bool) (F : Hp) (Pn : List (Nat × Addr)) (ρ : Env) (G H : Hp) (d : D) (v : V) : Prop :=
  match kd with
  | true => ∃ a, v = .ref a ∧ G a = none ∧ F a = none ∧ (∀ p ∈ Pn, ∀ x, lk ρ p.1 = some x → p.2 ≠ a) ∧ Cell P w K G H a d
  | false => Rep P w K G d v
def EndOk (c : Ct) (F : Hp) (Pn : List (Nat × Addr)) (O' : List Nat) (G0 : Hp) (D : Ends) : Fl → Prop
  | .nx ρ => ∀ G σ H, SR P w K F Pn O' G ρ σ H → Same G0 G → D.nx σ H
  | .bk ρ => ∀ G σ H, SR P w K F Pn c.ob G ρ σ H → Same G0 G → D.bk σ H
  | .ct ρ => ∀ G σ H, SR P w K F Pn c.ob G ρ σ H → Same G0 G → D.ct σ H
  | .rt d ρ => ∀ G H v, Ret P w K F Pn G ρ H → Same G0 G → Out P w K c.kd F Pn ρ G H d v → D.rt v H
def tDs (c : Ct) (O O' : List Nat) (f : FS) : TS := fun D σ H => ∃ F Pn G ρ fl, (∀ p ∈ Pn, p.1 ∈ c.io) ∧ SR P w K F Pn O G ρ σ H ∧ f ρ = some fl ∧ EndOk P w K c F Pn O' G D fl
end
abbrev DS (X : Cx) (c : Ct) (O O' : List Nat) (st : Stmt) (f : FS) : Prop := PS X st (tDs X.prog X.w X.K c O O' f)
abbrev DSs (X : Cx) (c : Ct) (O O' : List Nat) (sts : List Stmt) (f : FS) : Prop := PSs X sts (tDs X.prog X.w X.K c O O' f)
section
variable {P : Program} {w : World} {K : PySem.W.Frag} {c : Ct} {F G G0 G1 H : Hp} {Pn : List (Nat × Addr)} {O O' : List Nat} {ρ : Env} {σ : St} {D : Ends} {fl : Fl}
theorem EndOk.mono (s : Same G0 G1) (h : EndOk P w K c F Pn O' G0 D fl) : EndOk P w K c F Pn O' G1 D fl := by
  cases fl <;> exact fun G σ H S s' => h G σ H S (s.trans s')
theorem SR.ret (S : SR P w K F Pn O G ρ σ H) : Ret P w K F Pn G ρ H := ⟨S.sub, S.frm, fun p hp d e => by
  obtain ⟨h1, h2⟩ := S.pin p hp
  obtain ⟨a, k1, k2, k3, k4, _⟩ := S.own p.1 h1 d e
  rw [h2] at k1; cases k1
  exact ⟨k2, k3, k4⟩⟩
end
def fNx : FS := fun ρ => some (.nx ρ)
def fSeq (f g : FS) : FS := fun ρ => (f ρ).bind fun fl => match fl with | .nx ρ1 => g ρ1 | o => some o
def fSet (i : Nat) (f : FX) : FS := fun ρ => (f ρ).map fun p => .nx (p.2.set i (some p.1))
def fDo (f : FX) : FS := fun ρ => (f ρ).map fun p => .nx p.2
def fRt (f : FX) : FS := fun ρ => (f ρ).map fun p => .rt p.1 p.2
def fRtN : FS := fun ρ => some (.rt .non ρ)
def fIf (t : FTx) (a b : FS) : FS := fun ρ => (t ρ).bind fun p => if p.1 then a p.2 else b p.2
def fBk : FS := fun ρ => some (.bk ρ)
def fCt : FS := fun ρ => some (.ct ρ)
def fNo : FS := fun _ => none
def fAsg (f : FX) (g : D → Env → Option Env) : FS := fun ρ => (f ρ).bind fun p => (g p.1 p.2).map .nx
def forGo (g : D → Env → Option Env) (fb : FS) : List D → Env → Option Fl
  | [], ρ => some (.nx ρ)
  | d :: ds, ρ => (g d ρ).bind fun ρ1 => (fb ρ1).bind fun fl => match fl with
    | .nx ρ2 => forGo g fb ds ρ2
    | .ct ρ2 => forGo g fb ds ρ2
    | .bk ρ2 => some (.nx ρ2)
    | .rt d ρ2 => some (.rt d ρ2)
def fFor (wf : FL) (g : D → Env → Option Env) (fb : FS) : FS := fun ρ => (wf ρ).bind fun p => forGo g fb p.1 p.2
def whGo (t : FTx) (fb : FS) : Nat → Env → Option Fl
  | 0, _ => none
  | n + 1, ρ => (t ρ).bind fun b => if b.1 then (fb b.2).bind fun fl => match fl with
    | .nx ρ2 => whGo t fb n ρ2
    | .ct ρ2 => whGo t fb n ρ2
    | .bk ρ2 => some (.nx ρ2)
    | .rt d ρ2 => some (.rt d ρ2) else some (.nx b.2)
section
variable {X : Cx} {c : Ct} {O O1 O' : List Nat} {st : Stmt} {rest sts a b body : List Stmt} {f g fa fb : FS} {pos : Pos}
theorem dss_nil : DSs X c O O [] fNx := PSs.imp pss_nil fun D σ H ⟨F, Pn, G, ρ, fl, hp, S, e, k⟩ => by cases e; exact k G σ H S (Same.refl _)
theorem dss_cons (h1 : DS X c O O1 st f) (h2 : DSs X c O1 O' rest g) : DSs X c O O' (st :: rest) (fSeq f g) := by
  refine PSs.imp (pss_cons h1 h2) fun D σ H ⟨F, Pn, G, ρ, fl, hp, S, e, k⟩ => ?_
  obtain ⟨f1, e1, e⟩ := bindE e
  refine ⟨F, Pn, G, ρ, f1, hp, S, e1, ?_⟩
  cases f1 with
  | nx ρ1 => exact fun G1 σ1 H1 S1 s1 => ⟨F, Pn, G1, ρ1, fl, hp, S1, e, k.mono s1⟩
  | bk ρ1 => cases e; exact k
  | ct ρ1 => cases e; exact k
  | rt d ρ1 => cases e; exact k
theorem dss_one (h1 : DS X c O O' st f) : DSs X c O O' [st] f := pss_one h1
theorem dss_never : DSs X c O O' sts fNo := ⟨fun _ _ _ _ _ _ ⟨_, _, _, _, _, _, _, e, _⟩ => nomatch e⟩
theorem ds_set {i : Nat} {fx : FX} (h : PS X st (tAsg (tD X.prog X.w X.K O fx) (gName i))) (hi : i ∉ c.io) : DS X c O (O.filter (· != i)) st (fSet i fx) := by
  refine PS.imp h fun D σ H ⟨F, Pn, G, ρ, fl, hp, S, e, k⟩ => ?_
  obtain ⟨⟨d, ρ1⟩, e1, e⟩ := mapE e
  cases e
  refine ⟨F, Pn, G, ρ, d, ρ1, S, e1, fun v G1 H1 S1 s1 r1 => ?_⟩
  have hpi : ∀ p ∈ Pn, p.1 ≠ i := fun p hp' z => hi (z ▸ hp p hp')
  have S2 := (S1.drop hpi).set (i := i) (by simp) r1
  rw [List.set_set] at S2
  exact k G1 _ H1 S2 s1
theorem ds_setF {i : Nat} {fx : FX} (h : PS X st (tAsg (tDf X.prog X.w X.K O fx) (gName i))) (hi : i ∉ c.io) : DS X c O (i :: O.filter (· != i)) st (fSet i fx) := by
  refine PS.imp h fun D σ H ⟨F, Pn, G, ρ, fl, hp, S, e, k⟩ => ?_
  obtain ⟨⟨d, ρ1⟩, e1, e⟩ := mapE e
  cases e
  refine ⟨F, Pn, G, ρ, d, ρ1, S, e1, fun a G1 H1 S1 s1 n nf cc hj => ?_⟩
  have hpi : ∀ p ∈ Pn, p.1 ≠ i := fun p hp' z => hi (z ▸ hp p hp')
  have S2 := (S1.drop hpi).setF (i := i) (by simp) n nf cc fun j hj' d' ej => by
    obtain ⟨m1, m2⟩ := List.mem_filter.mp hj'
    rw [lk_set_ne (by simpa using m2)] at ej
    exact hj j m1 d' ej
  rw [List.set_set] at S2
  exact k G1 _ H1 S2 s1
theorem ds_do {e : Expr} {fx : FX} (he : DX X O e fx) (hs : swapsWith e none pos.line X.env = pure false := by rfl) : DS X c O O (.Expr e pos) (fDo fx) := by
  refine PS.imp (ps_expr he hs) fun D σ H ⟨F, Pn, G, ρ, fl, hp, S, e, k⟩ => ?_
  obtain ⟨⟨d, ρ1⟩, e1, e⟩ := mapE e
  cases e
  exact ⟨F, Pn, G, ρ, d, ρ1, S, e1, fun v G1 H1 S1 s1 _ => k G1 _ H1 S1 s1⟩
theorem ds_ret {e : Expr} {fx : FX} (he : DX X O e fx) (hk : c.kd = false := by rfl) : DS X c O O' (.Return (some e) pos) (fRt fx) := by
  refine PS.imp (ps_ret he) fun D σ H ⟨F, Pn, G, ρ, fl, hp, S, e, k⟩ => ?_
  obtain ⟨⟨d, ρ1⟩, e1, e⟩ := mapE e
  cases e
  refine ⟨F, Pn, G, ρ, d, ρ1, S, e1, fun v G1 H1 S1 s1 r1 => k G1 H1 v S1.ret s1 ?_⟩
  unfold Out; rw [hk]; exact r1
theorem ds_retF {e : Expr} {fx : FX} (he : DF X O e fx) (hk : c.kd = true := by rfl) : DS X c O O' (.Return (some e) pos) (fRt fx) := by
  refine PS.imp (ps_ret he) fun D σ H ⟨F, Pn, G, ρ, fl, hp, S, e, k⟩ => ?_
  obtain ⟨⟨d, ρ1⟩, e1, e⟩ := mapE e
  cases e
  refine ⟨F, Pn, G, ρ, d, ρ1, S, e1, fun a G1 H1 S1 s1 n nf cc hj => k G1 H1 _ S1.ret s1 ?_⟩
  unfold Out; rw [hk]
  refine ⟨a, rfl, n, nf, fun p hp' x ex z => ?_, cc⟩
  obtain ⟨h1, h2⟩ := S1.pin p hp'
  exact hj p.1 h1 x ex (by rw [h2, z])
theorem ds_if {t : Expr} {ft : FTx} (hc : DTx X O t ft) (ha : DSs X c O O' a fa) (hb : DSs X c O O' b fb) : DS X c O O' (.If t a b pos) (fIf ft fa fb) := by
  refine PS.imp (ps_if hc ha hb) fun D σ H ⟨F, Pn, G, ρ, fl, hp, S, e, k⟩ => ?_
  obtain ⟨⟨x, ρ1⟩, e1, e⟩ := bindE e
  refine ⟨F, Pn, G, ρ, x, ρ1, S, e1, fun G1 H1 S1 s1 => ?_⟩
  cases x with
  | true => exact iteT ⟨F, Pn, G1, ρ1, fl, hp, S1, e, k.mono s1⟩
  | false => exact iteF ⟨F, Pn, G1, ρ1, fl, hp, S1, e, k.mono s1⟩
theorem ds_asg {is : List Nat} {fx : FX} {gg : D → Env → Option Env} (h : PS X st (tAsg (tD X.prog X.w X.K O fx) (tDg X.prog X.w X.K O is gg))) : DS X c O O st (fAsg fx gg) := by
  refine PS.imp h fun D σ H ⟨F, Pn, G, ρ, fl, hp, S, e, k⟩ => ?_
  obtain ⟨⟨d, ρ1⟩, e1, e⟩ := bindE e
  obtain ⟨ρ2, e2, e⟩ := mapE e
  cases e
  exact ⟨F, Pn, G, ρ, d, ρ1, S, e1, fun v G1 H1 S1 s1 r1 => ⟨F, Pn, G1, ρ1, d, ρ2, S1, r1, e2, fun σ2 G2 H2 S2 s2 _ => k G2 σ2 H2 S2 (s1.trans s2)⟩⟩
theorem ds_for {tg iter : Expr} {is : List Nat} {wf : FL} {gg : D → Env → Option Env} (hp : PassesOwn (model X.prog X.w) X.A X.env X.xe) (hc : X.calm = true) (hi : DI X O tg iter wf) (hg : DG X O is tg gg) (hb : DSs X { c with ob := O } O O body fb)
    (hs : ∀ x, foldedSetIterable iter X.env x = pure x := by intro _; rfl) : DS X c O O (.For tg iter body [] pos) (fFor wf gg fb) := by
  refine PS.imp (ps_for hp hc hi hg hb hs) fun D σ H ⟨F, Pn, G, ρ, fl, hio, S, e, k⟩ => ?_
  obtain ⟨⟨ds, ρ1⟩, e1, e⟩ := bindE e
  refine ⟨F, Pn, G, ρ, ds, ρ1, S, e1, fun J G1 H1 S1 s1 W => ?_⟩
  refine ⟨fun i m σ H => m = ds.length - i ∧ i ≤ ds.length ∧ ∃ G2 ρ2, SR X.prog X.w X.K F Pn O G2 ρ2 σ H ∧ Same G1 G2 ∧ forGo gg fb (ds.drop i) ρ2 = some fl, ⟨ds.length, by simp, Nat.zero_le _, G1, ρ1, S1, Same.refl _, e⟩, ?_⟩
  rintro i m σ2 H2 ⟨rfl, hi, G2, ρ2, S2, s2, e2⟩
  obtain ⟨w1, w2⟩ := W G2 H2 s2 S2.sub
  by_cases hlt : i < ds.length
  · have hx : ds[i]? = some ds[i] := List.getElem?_eq_getElem hlt
    obtain ⟨g1, g2⟩ := w2 i _ hx
    rw [List.drop_eq_getElem_cons hlt] at e2
    obtain ⟨ρ3, e3, e4⟩ := bindE e2
    obtain ⟨f5, e5, e6⟩ := bindE e4
    refine .inr ⟨g1, fun σ' H' => ∃ G' ρ', SR X.prog X.w X.K F Pn O G' ρ' σ' H' ∧ Same G1 G' ∧ forGo gg fb (ds.drop (i + 1)) ρ' = some fl, fun σ' H' ⟨G', ρ', q1, q2, q3⟩ => ⟨ds.length - (i + 1), by omega, rfl, hlt, G', ρ', q1, q2, q3⟩, fun v H' y => ?_⟩
    obtain ⟨G3, gr, r⟩ := g2 v H' y
    refine ⟨F, Pn, G3, ρ2, _, ρ3, S2.grow gr, r, e3, fun σ4 G4 H4 S4 s4 _ => ?_⟩
    have s14 : Same G1 G4 := s2.trans (gr.g.trans s4)
    refine ⟨F, Pn, G4, ρ3, f5, hio, S4, e5, ?_⟩
    cases f5 with
    | nx ρ5 => exact fun G5 σ5 H5 S5 s5 => ⟨G5, ρ5, S5, s14.trans s5, e6⟩
    | ct ρ5 => exact fun G5 σ5 H5 S5 s5 => ⟨G5, ρ5, S5, s14.trans s5, e6⟩
    | bk ρ5 =>
      cases e6
      exact fun G5 σ5 H5 S5 s5 => k G5 σ5 H5 S5 (s1.trans (s14.trans s5))
    | rt d ρ5 =>
      cases e6
      exact fun G5 H5 v5 S5 s5 o5 => k G5 H5 v5 S5 (s1.trans (s14.trans s5)) o5
  · have : i = ds.length := by omega
    subst this
    rw [List.drop_length] at e2
    cases e2
    exact .inl ⟨w1, k G2 σ2 H2 S2 (s1.trans s2)⟩
theorem ds_while {t : Expr} {ft : FTx} (n : Nat) (hp : PassesOwn (model X.prog X.w) X.A X.env X.xe) (hc : DTx X O t ft) (hb : DSs X { c with ob := O } O O body fb) : DS X c O O (.While t body [] pos) (whGo ft fb n) := by
  refine PS.imp (ps_while hp hc hb) fun D σ H ⟨F, Pn, G, ρ, fl, hio, S, e, k⟩ => ?_
  refine ⟨fun m σ H => ∃ G2 ρ2, SR X.prog X.w X.K F Pn O G2 ρ2 σ H ∧ Same G G2 ∧ whGo ft fb m ρ2 = some fl, ⟨n, G, ρ, S, Same.refl _, e⟩, ?_⟩
  rintro m σ2 H2 ⟨G2, ρ2, S2, s2, e2⟩
  cases m with
  | zero => cases e2
  | succ m =>
    obtain ⟨⟨b, ρ3⟩, e3, e4⟩ := bindE e2
    refine ⟨F, Pn, G2, ρ2, b, ρ3, S2, e3, fun G3 H3 S3 s3 => ?_⟩
    cases b with
    | true =>
      obtain ⟨f5, e5, e6⟩ := bindE (show (fb ρ3).bind _ = some fl from e4)
      refine ⟨fun σ' H' => ∃ m', m' < m + 1 ∧ ∃ G2 ρ2, SR X.prog X.w X.K F Pn O G2 ρ2 σ' H' ∧ Same G G2 ∧ whGo ft fb m' ρ2 = some fl, fun σ' H' q => q, ?_⟩
      have s13 := s2.trans s3
      refine ⟨F, Pn, G3, ρ3, f5, hio, S3, e5, ?_⟩
      cases f5 with
      | nx ρ5 => exact fun G5 σ5 H5 S5 s5 => ⟨m, Nat.lt_succ_self _, G5, ρ5, S5, s13.trans s5, e6⟩
      | ct ρ5 => exact fun G5 σ5 H5 S5 s5 => ⟨m, Nat.lt_succ_self _, G5, ρ5, S5, s13.trans s5, e6⟩
      | bk ρ5 =>
        cases e6
        exact fun G5 σ5 H5 S5 s5 => k G5 σ5 H5 S5 (s13.trans s5)
      | rt d ρ5 =>
        cases e6
        exact fun G5 H5 v5 S5 s5 o5 => k G5 H5 v5 S5 (s13.trans s5) o5
    | false =>
      cases e4
      exact k G3 σ2 H3 S3 (s2.trans s3)
end
end RF
set_option Elab.async false
set_option linter.all false
set_option maxRecDepth 100000
set_option maxHeartbeats 1000000
namespace RF
open PySem PySem.Spec L2
open PyProof.Rows hiding St
def run0 (kd : Bool) (N n : Nat) (body : FS) (ds : List D) : Option D :=
  if ds.length = n then (body (ds.map some ++ List.replicate (N - n) none)).bind fun fl => match fl with
    | .rt d _ => some d
    | .nx _ => if kd then none else some .non
    | _ => none
  else none
def run1 (kd : Bool) (N n : Nat) (body : FS) (d0 : D) (ds : List D) : Option (D × D) :=
  if ds.length + 1 = n then (body (some d0 :: (ds.map some ++ List.replicate (N - n) none))).bind fun fl => match fl with
    | .rt d ρ => (lk ρ 0).map fun x => (d, x)
    | .nx ρ => if kd then none else (lk ρ 0).map fun x => (.non, x)
    | _ => none
  else none
section
variable (P : Program) (w : World) (K : PySem.W.Frag)
def Frm (F G H : Hp) : Prop := ∀ b o, F b = some o → H b = some o ∧ G b = none
def sp0 (kd : Bool) (n : Nat) (Fn : List D → Option D) : Sp := fun vs H Q _ => vs.length = n ∧ ∃ F G ds d, Same G H ∧ Frm F G H ∧ Reps P w K G ds vs ∧ Fn ds = some d ∧
  ∀ G' H' v, Same G G' → Same G' H' → Frm F G' H' → Out P w K kd F [] [] G' H' d v → Q v H'
def sp1 (kd : Bool) (n : Nat) (Fn : D → List D → Option (D × D)) : Sp := fun vs H Q _ => vs.length = n ∧ ∃ F G d0 ds d d1 a rest, vs = .ref a :: rest ∧ Same G H ∧ Frm F G H ∧ G a = none ∧ F a = none ∧ Cell P w K G H a d0 ∧ Reps P w K G ds rest ∧ Fn d0 ds = some (d, d1) ∧
  ∀ G' H' v, Same G G' → Same G' H' → Frm F G' H' → G' a = none → Cell P w K G' H' a d1 → Out P w K kd F [(0, a)] [some d1] G' H' d v → Q v H'
end
section
variable {P : Program} {w : World} {K : PySem.W.Frag} {F G H : Hp}
theorem lk_start {ds : List D} {m i : Nat} {d : D} (h : lk (ds.map some ++ List.replicate m none) i = some d) : ds[i]? = some d := by
  unfold lk at h
  by_cases hi : i < ds.length
  · rw [List.getElem?_append_left (by simpa using hi), List.getElem?_map] at h
    cases e : ds[i]? with
    | none => rw [e] at h; cases h
    | some x => rw [e] at h; exact h
  · rw [List.getElem?_append_right (by simpa using hi), List.getElem?_replicate] at h
    split at h <;> cases h
theorem start_get {N : List Str} {vs : List V} {i : Nat} {v : V} (h : vs[i]? = some v) : (L2.start N vs)[i]? = some (some v) := by
  unfold L2.start
  rw [List.getElem?_append_left (by simpa using (List.getElem?_eq_some_iff.mp h).1), List.getElem?_map, h]; rfl
theorem SR.start0 {N : List Str} {ds : List D} {vs : List V} (sub : Same G H) (frm : Frm F G H) (r : Reps P w K G ds vs) : SR P w K F [] [] G (ds.map some ++ List.replicate (N.length - ds.length) none) (L2.start N vs) H where
  sub := sub
  frm := frm
  len := by unfold L2.start; simp [r.length]
  val := fun i d e _ => by
    obtain ⟨v, h1, h2⟩ := r.get (lk_start e)
    exact ⟨v, start_get h1, h2⟩
  own := fun i hi => by cases hi
  pin := fun p hp => by cases hp
theorem SR.start1 {N : List Str} {d0 : D} {ds : List D} {a : Addr} {vs : List V} (sub : Same G H) (frm : Frm F G H) (n : G a = none) (nf : F a = none) (cc : Cell P w K G H a d0) (r : Reps P w K G ds vs) :
    SR P w K F [(0, a)] [0] G (some d0 :: (ds.map some ++ List.replicate (N.length - (ds.length + 1)) none)) (L2.start N (.ref a :: vs)) H where
  sub := sub
  frm := frm
  len := by unfold L2.start; simp [r.length]
  val := fun i d e hi => by
    have hi : i ≠ 0 := fun z => hi (by simp [z])
    obtain ⟨j, rfl⟩ := Nat.exists_eq_succ_of_ne_zero hi
    obtain ⟨v, h1, h2⟩ := r.get (lk_start (show lk (ds.map some ++ List.replicate (N.length - (ds.length + 1)) none) j = some d from e))
    exact ⟨v, start_get (vs := .ref a :: vs) h1, h2⟩
  own := fun i hi d e => by
    have hi : i = 0 := by simpa using hi
    subst hi
    have e' : d0 = d := Option.some.inj e
    subst e'
    exact ⟨a, start_get (vs := .ref a :: vs) rfl, n, nf, cc, fun j hj hji => absurd (by simpa using hj) hji⟩
  pin := fun p hp => by
    have e : p = (0, a) := by simpa using hp
    subst e
    exact ⟨by simp, start_get (vs := .ref a :: vs) rfl⟩
end
section
variable {P : Program} {w : World} {K : PySem.W.Frag} {mg : Str → Option Value} {base : Heap} {x qual : Str} {params : Arguments} {body : List Stmt} {scope : Scope} {dvs : List V} {kws : List (Str × V)} {f : Addr} {fd : FuncData} {N ps : List Str} {k : Nat} {O' : List Nat} {fb : FS}
theorem ok0 (kd : Bool) (F : FunD K x qual params body scope dvs kws f fd) (S : FnScope N ps scope)
    (hb : ∀ (cdv : Value) (A : Around) (outer : List PySem.Env) (s : Shared) (H : Hp) (E : XK), Room k (A.deeper (envOfC qual scope s.heap.objs.size f cdv)) → DSs (cxOf CX0 P w K mg base N qual scope f cdv A outer s H E).nox ⟨kd, [], []⟩ [] O' body fb) :
    FnOk P w K mg base CX0 (k + 1) f fd ps (sp0 P w K kd ps.length (run0 kd N.length ps.length fb)) := by
  refine F.ok S (fun vs H Q E h => h.1) fun cdv A outer s H vs Q E hr hs => ⟨_, (hb cdv A outer s H E hr).nox, ?_⟩
  obtain ⟨hl, F, G, ds, d, sub, frm, r, e, k⟩ := hs
  unfold run0 at e
  obtain ⟨hd, e⟩ := ifN e
  obtain ⟨fl, e1, e⟩ := bindE e
  rw [← hd] at e1
  refine ⟨F, [], G, _, fl, fun p hp => (nomatch hp), SR.start0 sub frm r, e1, ?_⟩
  cases fl with
  | rt d' ρ =>
    cases e
    intro G' H' v R s' o
    refine k G' H' v s' R.sub R.frm ?_
    cases kd with
    | true => obtain ⟨a, h1, h2, h3, h4, h5⟩ := o; exact ⟨a, h1, h2, h3, fun p hp => (nomatch hp), h5⟩
    | false => exact o
  | nx ρ =>
    cases kd with
    | true => cases e
    | false =>
      cases e
      exact fun G' σ' H' S' s' => k G' H' _ s' S'.sub S'.frm rfl
  | bk ρ => cases e
  | ct ρ => cases e
theorem ok1 (kd : Bool) (F : FunD K x qual params body scope dvs kws f fd) (S : FnScope N ps scope)
    (hb : ∀ (cdv : Value) (A : Around) (outer : List PySem.Env) (s : Shared) (H : Hp) (E : XK), Room k (A.deeper (envOfC qual scope s.heap.objs.size f cdv)) → DSs (cxOf CX0 P w K mg base N qual scope f cdv A outer s H E).nox ⟨kd, [0], []⟩ [0] O' body fb) :
    FnOk P w K mg base CX0 (k + 1) f fd ps (sp1 P w K kd ps.length (run1 kd N.length ps.length fb)) := by
  refine F.ok S (fun vs H Q E h => h.1) fun cdv A outer s H vs Q E hr hs => ⟨_, (hb cdv A outer s H E hr).nox, ?_⟩
  obtain ⟨hl, F, G, d0, ds, d, d1, a, rest, ev, sub, frm, n, nf, cc, r, e, k⟩ := hs
  subst ev
  unfold run1 at e
  obtain ⟨hd, e⟩ := ifN e
  obtain ⟨fl, e1, e⟩ := bindE e
  rw [← hd] at e1
  refine ⟨F, [(0, a)], G, _, fl, fun p hp => (by have e : p = (0, a) := by simpa using hp
                                                 subst e; simp), SR.start1 sub frm n nf cc r, e1, ?_⟩
  cases fl with
  | rt d' ρ =>
    obtain ⟨x, e2, e⟩ := mapE e
    cases e
    intro G' H' v R s' o
    obtain ⟨c1, c2, c3⟩ := R.cel (0, a) (by simp) _ e2
    refine k G' H' v s' R.sub R.frm c1 c3 ?_
    cases kd with
    | true =>
      obtain ⟨b, h1, h2, h3, h4, h5⟩ := o
      refine ⟨b, h1, h2, h3, fun p hp y _ => ?_, h5⟩
      have e : p = (0, a) := by simpa using hp
      subst e
      exact h4 (0, a) (by simp) _ e2
    | false => exact o
  | nx ρ =>
    cases kd with
    | true => cases e
    | false =>
      obtain ⟨x, e2, e⟩ := mapE (show (lk ρ 0).map _ = _ from e)
      cases e
      intro G' σ' H' S' s'
      obtain ⟨c1, c2, c3⟩ := S'.ret.cel (0, a) (by simp) _ e2
      exact k G' H' _ s' S'.sub S'.frm c1 c3 rfl
  | bk ρ => cases e
  | ct ρ => cases e
end
open Classical in
noncomputable def keepF (F : Hp) (O I : List Nat) (ρ : Env) (σ : St) (H : Hp) : Hp := fun b => if ∃ i, i ∈ O ∧ i ∉ I ∧ (∃ d, lk ρ i = some d) ∧ σ[i]? = some (some (.ref b)) then H b else F b
section
variable {P : Program} {w : World} {K : PySem.W.Frag} {F G G' H H' : Hp} {Pn : List (Nat × Addr)} {O : List Nat} {ρ : Env} {σ : St}
theorem SR.keep (S : SR P w K F Pn O G ρ σ H) (I : List Nat) : Frm (keepF F O I ρ σ H) G H := fun b o e => by
  unfold keepF at e
  split at e
  · rename_i h
    obtain ⟨i, h1, _, ⟨d, h2⟩, h3⟩ := h
    obtain ⟨a, k1, k2, k3, k4, _⟩ := S.own i h1 d h2
    rw [h3] at k1; cases k1
    exact ⟨e, k2⟩
  · exact S.frm b o e
theorem SR.called (S : SR P w K F Pn O G ρ σ H) (s : Same G G') (s' : Same G' H') (f : Frm (keepF F O [] ρ σ H) G' H') :
    SR P w K F Pn O G' ρ σ H' ∧ ∀ a, keepF F O [] ρ σ H a = none → G' a = none → F a = none ∧ ∀ j ∈ O, ∀ d, lk ρ j = some d → σ[j]? ≠ some (some (.ref a)) := by
  have ce : ∀ i ∈ O, ∀ d, lk ρ i = some d → ∀ a, σ[i]? = some (some (.ref a)) → keepF F O [] ρ σ H a = H a := fun i hi d e a ha => by
    unfold keepF; rw [if_pos ⟨i, hi, by simp, ⟨d, e⟩, ha⟩]
  refine ⟨⟨s', fun b o e => ?_, S.len, fun i d e hi => ?_, fun i hi d e => ?_, S.pin⟩, fun a n _ => ?_⟩
  · refine f b o ?_
    unfold keepF
    split
    · rename_i h
      obtain ⟨i, h1, _, ⟨d, h2⟩, h3⟩ := h
      obtain ⟨a, k1, k2, k3, k4, _⟩ := S.own i h1 d h2
      rw [h3] at k1; cases k1
      rw [k3] at e; cases e
    · exact e
  · obtain ⟨v, h1, h2⟩ := S.val i d e hi
    exact ⟨v, h1, Rep.mono s _ _ h2⟩
  · obtain ⟨a, h1, h2, h3, h4, h5⟩ := S.own i hi d e
    obtain ⟨o, ho⟩ := h4.some
    obtain ⟨f1, f2⟩ := f a o (by rw [ce i hi d e a h1]; exact ho)
    exact ⟨a, h1, f2, h3, h4.mono s (f1.trans ho.symm), h5⟩
  · have no : ∀ j ∈ O, ∀ d, lk ρ j = some d → σ[j]? ≠ some (some (.ref a)) := fun j hj d e z => by
      rw [ce j hj d e a z] at n
      obtain ⟨b, h1, _, _, h4, _⟩ := S.own j hj d e
      rw [z] at h1; cases h1
      obtain ⟨o, ho⟩ := h4.some
      rw [n] at ho; cases ho
    refine ⟨?_, no⟩
    unfold keepF at n
    split at n
    · rename_i h
      obtain ⟨i, h1, _, ⟨d, h2⟩, h3⟩ := h
      exact absurd h3 (no i h1 d h2)
    · exact n
theorem SR.called1 {i : Nat} {a : Addr} {d0 d1 : D} (S : SR P w K F Pn O G ρ σ H) (hi : i ∈ O) (e0 : lk ρ i = some d0) (ha : σ[i]? = some (some (.ref a))) (s : Same G G') (s' : Same G' H') (f : Frm (keepF F O [i] ρ σ H) G' H') (n : G' a = none) (cc : Cell P w K G' H' a d1) :
    SR P w K F Pn O G' (ρ.set i (some d1)) σ H' ∧ ∀ b, keepF F O [i] ρ σ H b = none → G' b = none → b ≠ a → F b = none ∧ ∀ j ∈ O, ∀ d, lk (ρ.set i (some d1)) j = some d → σ[j]? ≠ some (some (.ref b)) := by
  have ce : ∀ j ∈ O, j ≠ i → ∀ d, lk ρ j = some d → ∀ a, σ[j]? = some (some (.ref a)) → keepF F O [i] ρ σ H a = H a := fun j hj hji d e a ha => by
    unfold keepF; rw [if_pos ⟨j, hj, by simp [hji], ⟨d, e⟩, ha⟩]
  obtain ⟨a', p1, p2, p3, p4, p5⟩ := S.own i hi d0 e0
  rw [ha] at p1; cases p1
  refine ⟨⟨s', fun b o e => ?_, by rw [List.length_set]; exact S.len, fun j d e hj => ?_, fun j hj d e => ?_, S.pin⟩, fun b n' _ hb => ?_⟩
  · refine f b o ?_
    unfold keepF
    split
    · rename_i h
      obtain ⟨i, h1, _, ⟨d, h2⟩, h3⟩ := h
      obtain ⟨a, k1, k2, k3, k4, _⟩ := S.own i h1 d h2
      rw [h3] at k1; cases k1
      rw [k3] at e; cases e
    · exact e
  · have h : j ≠ i := fun z => hj (z ▸ hi)
    rw [lk_set_ne h] at e
    obtain ⟨v, h1, h2⟩ := S.val j d e hj
    exact ⟨v, h1, Rep.mono s _ _ h2⟩
  · by_cases h : j = i
    · subst h
      obtain ⟨e1, _⟩ := lk_set_self e
      cases e1
      refine ⟨a, ha, n, p3, cc, fun m hm hmj y ey => ?_⟩
      rw [lk_set_ne hmj] at ey
      exact p5 m hm hmj y ey
    · rw [lk_set_ne h] at e
      obtain ⟨b, h1, h2, h3, h4, h5⟩ := S.own j hj d e
      obtain ⟨o, ho⟩ := h4.some
      obtain ⟨f1, f2⟩ := f b o (by rw [ce j hj h d e b h1]; exact ho)
      refine ⟨b, h1, f2, h3, h4.mono s (f1.trans ho.symm), fun m hm hmj y ey => ?_⟩
      by_cases h' : m = i
      · subst h'; exact h5 m hm hmj d0 e0
      · rw [lk_set_ne h'] at ey; exact h5 m hm hmj y ey
  · have no : ∀ j ∈ O, j ≠ i → ∀ d, lk ρ j = some d → σ[j]? ≠ some (some (.ref b)) := fun j hj hji d e z => by
      rw [ce j hj hji d e b z] at n'
      obtain ⟨b', h1, _, _, h4, _⟩ := S.own j hj d e
      rw [z] at h1; cases h1
      obtain ⟨o, ho⟩ := h4.some
      rw [n'] at ho; cases ho
    refine ⟨?_, fun j hj d e z => ?_⟩
    · unfold keepF at n'
      split at n'
      · rename_i h
        obtain ⟨j, h1, hji, ⟨d, h2⟩, h3⟩ := h
        exact absurd h3 (no j h1 (by simpa using hji) d h2)
      · exact n'
    · by_cases h : j = i
      · subst h; rw [ha] at z; cases z; exact hb rfl
      · rw [lk_set_ne h] at e
        exact no j hj h d e z
end
def xCall1 (i : Nat) (Fn : D → List D → Option (D × D)) (fl : FL) : FX := fun ρ => (lk ρ i).bind fun _ => (fl ρ).bind fun p => (lk p.2 i).bind fun d0 => (Fn d0 p.1).map fun r => (r.1, p.2.set i (some r.2))
def Ok0 (P : Program) (w : World) (K : PySem.W.Frag) (mg : Str → Option Value) (base : Heap) (kd : Bool) (x : Str) (k n : Nat) (Fn : List D → Option D) : Prop := ∃ (f : Addr) (fd : FuncData) (ps : List Str),
  FnOk P w K mg base CX0 k f fd ps (sp0 P w K kd n Fn) ∧ mg x = some (.ref f) ∧ PySem.W.keepIn K (.ref f) = true ∧ Binds K fd ps [] ∧ ∀ ds d, Fn ds = some d → ds.length = n
def Ok1 (P : Program) (w : World) (K : PySem.W.Frag) (mg : Str → Option Value) (base : Heap) (kd : Bool) (x : Str) (k n : Nat) (Fn : D → List D → Option (D × D)) : Prop := ∃ (f : Addr) (fd : FuncData) (ps : List Str),
  FnOk P w K mg base CX0 k f fd ps (sp1 P w K kd n Fn) ∧ mg x = some (.ref f) ∧ PySem.W.keepIn K (.ref f) = true ∧ Binds K fd ps [] ∧ ∀ d0 ds d, Fn d0 ds = some d → ds.length + 1 = n
theorem run0_len {kd : Bool} {N n : Nat} {fb : FS} (ds : List D) (d : D) (h : run0 kd N n fb ds = some d) : ds.length = n := (ifN h).1
theorem run1_len {kd : Bool} {N n : Nat} {fb : FS} (d0 : D) (ds : List D) (d : D × D) (h : run1 kd N n fb d0 ds = some d) : ds.length + 1 = n := (ifN h).1
section
variable {X : Cx} {O : List Nat} {k j : Nat} {n : Nat} {Fn : List D → Option D} {Fn1 : D → List D → Option (D × D)} {x : Str} {p pos : Pos} {e : Expr} {es : List Expr} {fl : FL}
theorem call_x {σ : St} {H : Hp} {Q : VK} {E : XK} {F G : Hp} {Pn : List (Nat × Addr)} {ρ : Env} {ds : List D} {d : D} {vs : List V} (S : SR X.prog X.w X.K F Pn O G ρ σ H) (r : Reps X.prog X.w X.K G ds vs) (e : Fn ds = some d) (hn : vs.length = n)
    (k : ∀ v G' H', SR X.prog X.w X.K F Pn O G' ρ σ H' → Same G G' → Rep X.prog X.w X.K G' d v → Q v H') : sp0 X.prog X.w X.K false n Fn vs H Q E := by
  refine ⟨hn, keepF F O [] ρ σ H, G, ds, d, S.sub, S.keep [], r, e, fun G' H' v s s' f o => ?_⟩
  exact k v G' H' (S.called s s' f).1 s o
theorem call_f {σ : St} {H : Hp} {Q : VK} {E : XK} {F G : Hp} {Pn : List (Nat × Addr)} {ρ : Env} {ds : List D} {d : D} {vs : List V} (S : SR X.prog X.w X.K F Pn O G ρ σ H) (r : Reps X.prog X.w X.K G ds vs) (e : Fn ds = some d) (hn : vs.length = n)
    (k : ∀ a G' H', SR X.prog X.w X.K F Pn O G' ρ σ H' → Same G G' → G' a = none → F a = none → Cell X.prog X.w X.K G' H' a d → (∀ j ∈ O, ∀ d, lk ρ j = some d → σ[j]? ≠ some (some (.ref a))) → Q (.ref a) H') : sp0 X.prog X.w X.K true n Fn vs H Q E := by
  refine ⟨hn, keepF F O [] ρ σ H, G, ds, d, S.sub, S.keep [], r, e, fun G' H' v s s' f ⟨a, ev, n, nf, _, cc⟩ => ?_⟩
  subst ev
  obtain ⟨h1, h2⟩ := S.called s s' f
  obtain ⟨h3, h4⟩ := h2 a nf n
  exact k a G' H' h1 s n h3 cc h4
theorem x_call (h : Ok0 X.prog X.w X.K X.mg X.base false x k n Fn) (hr : Room j X.A) (hkj : k ≤ j) (hg : Gl X x)
    (ha : DA X O (e :: es) fl) (hdb : (x == ("__debug__" : Str)) = false := by decide) (he : starEach (e :: es) X.env = (false, eval e X.env) :: starEach es X.env := by rfl) (hpl : (backTo pos (starEach es X.env)).any (·.1) = false := by rfl) :
    DX X O (.Call (.Name x p) (e :: es) [] pos) (xCall Fn fl) := by
  obtain ⟨f, fd, ps, F, hm, hk, hb, hl⟩ := h
  refine PE.imp (pe_call F (hr.mono hkj) hg hm hk hb .nil pass0 (E := E0) ha hdb he hpl) fun σ H Q ⟨F, Pn, G, ρ, d, ρ', S, e, k⟩ => ?_
  obtain ⟨⟨ys, ρ1⟩, e1, e⟩ := bindE e
  obtain ⟨z, e2, e⟩ := mapE e
  cases e
  refine ⟨F, Pn, G, ρ, ys, _, S, e1, fun vs G1 H1 S1 s1 r1 => ?_⟩
  show sp0 _ _ _ _ _ _ (vs ++ []) _ _ _
  rw [List.append_nil]
  exact call_x S1 r1 e2 (r1.length.trans (hl _ _ e2)) fun v G2 H2 S2 s2 r2 => k v G2 H2 S2 (s1.trans s2) r2
theorem f_call (h : Ok0 X.prog X.w X.K X.mg X.base true x k n Fn) (hr : Room j X.A) (hkj : k ≤ j) (hg : Gl X x)
    (ha : DA X O (e :: es) fl) (hdb : (x == ("__debug__" : Str)) = false := by decide) (he : starEach (e :: es) X.env = (false, eval e X.env) :: starEach es X.env := by rfl) (hpl : (backTo pos (starEach es X.env)).any (·.1) = false := by rfl) :
    DF X O (.Call (.Name x p) (e :: es) [] pos) (xCall Fn fl) := by
  obtain ⟨f, fd, ps, F, hm, hk, hb, hl⟩ := h
  refine PE.imp (pe_call F (hr.mono hkj) hg hm hk hb .nil pass0 (E := E0) ha hdb he hpl) fun σ H Q ⟨F, Pn, G, ρ, d, ρ', S, e, k⟩ => ?_
  obtain ⟨⟨ys, ρ1⟩, e1, e⟩ := bindE e
  obtain ⟨z, e2, e⟩ := mapE e
  cases e
  refine ⟨F, Pn, G, ρ, ys, _, S, e1, fun vs G1 H1 S1 s1 r1 => ?_⟩
  show sp0 _ _ _ _ _ _ (vs ++ []) _ _ _
  rw [List.append_nil]
  exact call_f S1 r1 e2 (r1.length.trans (hl _ _ e2)) fun a G2 H2 S2 s2 n nf cc hj => k a G2 H2 S2 (s1.trans s2) n nf cc hj
theorem e_call {el : FEL} (h : Ok0 X.prog X.w X.K X.mg X.base false x k n Fn) (hr : Room j X.A) (hkj : k ≤ j) (hg : Gl X x)
    (ha : DAe X O (e :: es) el) (hdb : (x == ("__debug__" : Str)) = false := by decide) (he : starEach (e :: es) X.env = (false, eval e X.env) :: starEach es X.env := by rfl) (hpl : (backTo pos (starEach es X.env)).any (·.1) = false := by rfl) :
    DE X O (.Call (.Name x p) (e :: es) [] pos) (eCall Fn el) := (x_call h hr hkj hg ha hdb he hpl).congr (xCall_up el Fn)
theorem x_call1 {i : Nat} {y : Str} {py : Pos} (h : Ok1 X.prog X.w X.K X.mg X.base false x k n Fn1) (hr : Room j X.A) (hkj : k ≤ j) (hg : Gl X x) (hN : X.N[i]? = some y) (hv : Vis X.env.scope y) (hi : i ∈ O)
    (ha : DA X O es fl) (hd : (y == ("__debug__" : Str)) = false := by decide) (hcd : (y == ("__classdict__" : Str)) = false := by decide) (hdb : (x == ("__debug__" : Str)) = false := by decide) (he : starEach (.Name y py :: es) X.env = (false, eval (.Name y py) X.env) :: starEach es X.env := by rfl) (hpl : (backTo pos (starEach es X.env)).any (·.1) = false := by rfl) :
    DX X O (.Call (.Name x p) (.Name y py :: es) [] pos) (xCall1 i Fn1 fl) := by
  obtain ⟨f, fd, ps, F, hm, hk, hb, hl⟩ := h
  refine PE.imp (pe_call F (hr.mono hkj) hg hm hk hb .nil pass0 (E := E0) (pa_cons (pe_var hN hv hd hcd) ha he) hdb he hpl) fun σ H Q ⟨F, Pn, G, ρ, d, ρ', S, e, k⟩ => ?_
  obtain ⟨dp, ep, e⟩ := bindE e
  obtain ⟨⟨ys, ρ1⟩, e1, e⟩ := bindE e
  obtain ⟨d0, e2, e⟩ := bindE e
  obtain ⟨⟨z, d1⟩, e3, e⟩ := mapE e
  cases e
  obtain ⟨a0, hv0, _⟩ := S.own i hi dp ep
  refine ⟨.ref a0, hv0, F, Pn, G, ρ, ys, ρ1, S, e1, fun vs G1 H1 S1 s1 r1 => ?_⟩
  show sp1 _ _ _ _ _ _ (V.ref a0 :: vs ++ []) _ _ _
  rw [List.append_nil]
  obtain ⟨a, h1, h2, h3, h4, h5⟩ := S1.own i hi d0 e2
  rw [hv0] at h1; cases h1
  refine ⟨by rw [List.length_cons, r1.length]; exact hl _ _ _ e3, keepF F O [i] ρ1 σ H1, G1, d0, ys, _, d1, _, vs, rfl, S1.sub, S1.keep [i], h2, ?_, h4, r1, e3, fun G2 H2 v s2 sub2 f2 n2 cc o => ?_⟩
  · unfold keepF
    split
    · rename_i h
      obtain ⟨m, k1, k2, ⟨d, k3⟩, k4⟩ := h
      exact absurd k4 (h5 m k1 (by simpa using k2) d k3)
    · exact h3
  · exact k v G2 H2 (S1.called1 hi e2 hv0 s2 sub2 f2 n2 cc).1 (s1.trans s2) o
end
end RF
set_option Elab.async false
set_option linter.all false
set_option maxRecDepth 100000
set_option maxHeartbeats 2000000
namespace RF
open PySem PySem.Spec L2
open PyProof.Rows hiding St
def D.pow : D → D → Option D
  | .int i, .int j => if decide (0 ≤ j) && decide ((Builtin.Int.intBits i : Int) * j ≤ 2 ^ 27) then some (.int (i ^ j.toNat)) else none
  | _, _ => none
def asInts : List D → Option (List Int)
  | [] => some []
  | .int x :: r => (asInts r).map (x :: ·)
  | _ => none
def D.sum : List D → Option D
  | [.lst l] => (asInts l).map fun ns => .int ns.sum
  | _ => none
def D.max2 : List D → Option D
  | [.int i, .int j] => some (.int (if j > i then j else i))
  | _ => none
def D.min2 : List D → Option D
  | [.int i, .int j] => some (.int (if j < i then j else i))
  | _ => none
def D.bits : D → Option D
  | .int i => some (.int (Builtin.Int.intBits i : Nat))
  | _ => none
section
variable {P : Program} {w : World} {K : PySem.W.Frag} {G : Hp}
theorem asInts_vals : ∀ {l : List D} {xs : List Int} {vs : List V}, asInts l = some xs → Reps P w K G l vs → vs = xs.map V.int
  | [], xs, vs, h, r => by cases h; cases r; rfl
  | d :: l, xs, vs, h, r => by
    obtain ⟨x, xr, e, r1, r2⟩ := r
    subst e
    cases d <;> first | (cases h; done) | skip
    obtain ⟨ys, h1, h2⟩ := mapE (show (asInts l).map _ = some xs from h)
    subst h2
    have r1 : x = .int _ := r1
    rw [r1, asInts_vals h1 r2]; rfl
end
section
variable {X : Cx}
theorem op_powD : OpR X (binaryOp .Pow) (RO X D.pow) := by
  intro pins s σ H x y v u Q I rx ry ⟨G, d, e, z, sub, rd, re, h, k⟩
  cases d <;> cases e <;> first | (cases h; done) | skip
  rename_i i j
  obtain ⟨hj, rfl⟩ := ifE (show (if decide (0 ≤ j) && decide ((Builtin.Int.intBits i : Int) * j ≤ 2 ^ 27) then some (D.int (i ^ j.toNat)) else none) = some z from h)
  simp only [Bool.and_eq_true, decide_eq_true_eq] at hj
  have rd : x = .int i := rd
  have re : y = .int j := re
  subst rd re
  obtain ⟨t, rfl⟩ := rx
  obtain ⟨t', rfl⟩ := ry
  exact pow_int hj.1 hj.2 ⟨.int _, H, I.tok _, ⟨_, rfl⟩, k _ G H (Grow.refl sub) rfl⟩
theorem call_sumD (hc : X.calm = true) : CallR X (.builtin "sum") (RC X D.sum) := by
  intro pins s σ H vs us Q I r ⟨G, ds, z, sub, rs, h, k⟩
  unfold D.sum at h
  split at h
  · rename_i l
    obtain ⟨ns, e1, e2⟩ := mapE h
    subst e2
    obtain ⟨v, vr, e3, ⟨a, xs, e4, g1, g2⟩, e5⟩ := rs
    subst e3 e4 e5
    rw [asInts_vals e1 g2] at g1
    exact cr_sum hc pins s σ H _ us Q I r ⟨a, ns, rfl, .inl (Rd.of (sub _ _ g1)), k _ G H (Grow.refl sub) rfl⟩
  · cases h
theorem call_max2D (hc : X.calm = true) : CallR X (.builtin "max") (RC X D.max2) := by
  intro pins s σ H vs us Q I r ⟨G, ds, z, sub, rs, h, k⟩
  unfold D.max2 at h
  split at h
  · rename_i i j
    cases h
    obtain ⟨v, vr, e3, e4, v2, vr2, e5, e6, e7⟩ := rs
    subst e3 e4 e5 e6 e7
    exact call_max2 hc pins s σ H _ us Q I r ⟨i, j, rfl, k _ G H (Grow.refl sub) rfl⟩
  · cases h
theorem call_min2D (hc : X.calm = true) : CallR X (.builtin "min") (RC X D.min2) := by
  intro pins s σ H vs us Q I r ⟨G, ds, z, sub, rs, h, k⟩
  unfold D.min2 at h
  split at h
  · rename_i i j
    cases h
    obtain ⟨v, vr, e3, e4, v2, vr2, e5, e6, e7⟩ := rs
    subst e3 e4 e5 e6 e7
    exact call_min2 hc pins s σ H _ us Q I r ⟨i, j, rfl, k _ G H (Grow.refl sub) rfl⟩
  · cases h
def D.list : List D → Option D
  | [.lst l] => some (.lst l)
  | [.tup l] => if lineOk l.length then some (.lst l) else none
  | _ => none
end
section
variable {X : Cx} {O : List Nat} {e : Expr} {es : List Expr} {fl : FL} {fa : FX} {p pos apos : Pos}
theorem x_bits (ha : DX X O e fa) (hbase : attributeBase e "bit_length" X.env (eval e X.env) = eval e X.env := by rfl) (hline : (apos.endLine == pos.line) = true := by rfl) : DX X O (.Call (.Attribute e "bit_length" apos) [] [] pos) (o1 D.bits fa) := by
  refine PE.imp (pe_bits ha hbase hline) fun σ H Q ⟨F, Pn, G, ρ, d, ρ', S, e, k⟩ => ?_
  obtain ⟨⟨x, ρ1⟩, e1, e⟩ := bindE e
  obtain ⟨z, e2, e⟩ := mapE e
  cases e
  refine ⟨F, Pn, G, ρ, x, _, S, e1, fun v G1 H1 S1 s1 r1 => ?_⟩
  cases x <;> first | (cases e2; done) | skip
  cases e2
  exact ⟨_, r1, k _ G1 H1 S1 s1 rfl⟩
theorem e_bits {ea : FE} (ha : DE X O e ea) (hbase : attributeBase e "bit_length" X.env (eval e X.env) = eval e X.env := by rfl) (hline : (apos.endLine == pos.line) = true := by rfl) : DE X O (.Call (.Attribute e "bit_length" apos) [] [] pos) (e1 D.bits ea) := (x_bits ha hbase hline).congr (o1_up D.bits ea)
theorem f_list (hg : Gl X "list") (hm : X.mg "list" = none) (ha : DA X O (e :: es) fl) (he : starEach (e :: es) X.env = (false, eval e X.env) :: starEach es X.env := by rfl) (hpl : (backTo pos (starEach es X.env)).any (·.1) = false := by rfl) :
    DF X O (.Call (.Name "list" p) (e :: es) [] pos) (xCall D.list fl) := by
  refine PE.imp (pe_callTy call_list_of hg hm (by decide +kernel) ha (by decide) (by decide) he hpl) fun σ H Q ⟨F, Pn, G, ρ, d, ρ', S, e, k⟩ => ?_
  obtain ⟨⟨ys, ρ1⟩, e1, e⟩ := bindE e
  obtain ⟨z, e2, e⟩ := mapE e
  cases e
  refine ⟨F, Pn, G, ρ, ys, _, S, e1, fun vs G1 H1 S1 s1 r1 => ?_⟩
  unfold D.list at e2
  split at e2
  · rename_i hq
    replace hq : ys = _ := hq
    subst hq
    cases e2
    obtain ⟨v, vr, e3, ⟨a, xs, e4, g1, g2⟩, e5⟩ := r1
    subst e3 e4 e5
    refine ⟨a, xs, rfl, .inl (.inl (Rd.of (S1.sub _ _ g1))), fun l hl => ?_⟩
    obtain ⟨S2, n, nf, hj⟩ := S1.lay (o := .lst xs) hl
    exact k l G1 _ S2 s1 n nf ⟨xs, upd_same, g2⟩ hj
  · rename_i hq
    replace hq : ys = _ := hq
    subst hq
    obtain ⟨_, rfl⟩ := ifE e2
    obtain ⟨v, vr, e3, ⟨a, xs, e4, g1, g2⟩, e5⟩ := r1
    subst e3 e4 e5
    refine ⟨a, xs, rfl, .inr (.inl (Rd.of (S1.sub _ _ g1))), fun l hl => ?_⟩
    obtain ⟨S2, n, nf, hj⟩ := S1.lay (o := .lst xs) hl
    exact k l G1 _ S2 s1 n nf ⟨xs, upd_same, g2⟩ hj
  · cases e2
def D.split : D → List D → Option D
  | .str a, [.str b] => if b.length != 0 && lineOk (a.length + 2) then some (.lst ((Txt.split a b).map .str)) else none
  | _, _ => none
def xM (op : D → List D → Option D) (a : FX) (fl : FL) : FX := fun ρ => (a ρ).bind fun p => (fl p.2).bind fun q => (op p.1 q.1).map fun z => (z, q.2)
def eM (op : D → List D → Option D) (a : FE) (fl : FEL) : FE := fun ρ => (a ρ).bind fun p => (fl ρ).bind fun q => op p q
theorem xM_up (op : D → List D → Option D) (a : FE) (fl : FEL) : xM op (up a) (up fl) = up (eM op a fl) := by
  funext ρ; unfold xM up eM
  cases a ρ with
  | none => rfl
  | some x => show ((fl ρ).map fun d => (d, ρ)).bind _ = _; cases fl ρ <;> rfl
theorem f_split (ha : DX X O e fa) {e' : Expr} (hl : DA X O [e'] fl) (hbase : attributeBase e "split" X.env (eval e X.env) = eval e X.env := by rfl)
    (hfew : ((backTo pos (starEach [e'] X.env)).all (fun x => !x.1) && (backToKw pos (keywordEach [] X.env)).all (fun x => x.1.isSome)
      && decide (([e'] : List Expr).length + ([] : List Keyword).length + (if ([] : List Keyword).isEmpty then 0 else 1) < 30)) = true := by rfl)
    (hline : (apos.endLine == pos.line) = true := by rfl) (hs : starEach [e'] X.env = (false, eval e' X.env) :: starEach [] X.env := by rfl) (hplain : (backTo pos (starEach [] X.env)).any (·.1) = false := by rfl) :
    DF X O (.Call (.Attribute e "split" apos) [e'] [] pos) (xM D.split fa fl) := by
  refine PE.imp (pe_bm PySem.F.plainAttrs_str PySem.F.slot_str_split PySem.F.type_str_split mt_split ha hl hbase hfew hline hs hplain) fun σ H Q ⟨F, Pn, G, ρ, d, ρ', S, e, k⟩ => ?_
  obtain ⟨⟨x, ρ1⟩, e1, e⟩ := bindE e
  obtain ⟨⟨ys, ρ2⟩, e2, e⟩ := bindE e
  obtain ⟨z, e3, e⟩ := mapE e
  cases e
  unfold D.split at e3
  split at e3
  · rename_i a b hx hy
    replace hx : x = _ := hx
    replace hy : ys = _ := hy
    subst hx hy
    obtain ⟨hb, rfl⟩ := ifE e3
    simp only [Bool.and_eq_true, bne_iff_ne, ne_eq] at hb
    refine ⟨F, Pn, G, ρ, _, ρ1, S, e1, fun v G1 H1 S1 s1 r1 => ?_⟩
    have r1 : v = .str a := r1
    subst r1
    refine ⟨rfl, F, Pn, G1, ρ1, _, _, S1, e2, fun vs G2 H2 S2 s2 r2 => ?_⟩
    obtain ⟨v, vr, e3, e4, e5⟩ := r2
    subst e3 e5
    have e4 : v = .str b := e4
    subst e4
    refine ⟨a, b, rfl, rfl, by simpa using hb.1, lineOk_iff.mp hb.2, fun l hl => ?_⟩
    obtain ⟨S3, n, nf, hj⟩ := S2.lay (o := .lst ((Txt.split a b).map V.str)) hl
    refine k l G2 _ S3 (s1.trans s2) n nf ⟨_, upd_same, ?_⟩ hj
    refine Reps.of (by simp) fun i x y e6 e7 => ?_
    rw [List.getElem?_map] at e6 e7
    obtain ⟨c, e8, e9⟩ := mapE e6
    rw [e8] at e7
    cases e7
    subst e9
    rfl
  · cases e3
end
def asL : D → Option (List D)
  | .lst l => some l
  | _ => none
def fPush (i : Nat) (f : FX) : FS := fun ρ => ((lk ρ i).bind asL).bind fun _ => (f ρ).bind fun p => (lk p.2 i).bind fun l => (push p.1 l).map fun l' => .nx (p.2.set i (some l'))
section
variable {X : Cx} {c : Ct} {O : List Nat} {i : Nat} {y : Str} {e : Expr} {f : FX} {py apos pos pos' : Pos}
theorem ds_push (hN : X.N[i]? = some y) (hv : Vis X.env.scope y) (hi : i ∈ O) (he : DX X O e f) (hd : (y == ("__debug__" : Str)) = false := by decide) (hcd : (y == ("__classdict__" : Str)) = false := by decide)
    (hbase : attributeBase (.Name y py) "append" X.env (eval (.Name y py) X.env) = eval (.Name y py) X.env := by rfl)
    (hfew : ((backTo pos (starEach [e] X.env)).all (fun x => !x.1) && (backToKw pos (keywordEach [] X.env)).all (fun x => x.1.isSome)
      && decide (([e] : List Expr).length + ([] : List Keyword).length + (if ([] : List Keyword).isEmpty then 0 else 1) < 30)) = true := by rfl)
    (hline : (apos.endLine == pos.line) = true := by rfl) (hs : starEach [e] X.env = (false, eval e X.env) :: starEach [] X.env := by rfl) (hplain : (backTo pos (starEach [] X.env)).any (·.1) = false := by rfl)
    (hsw : swapsWith (.Call (.Attribute (.Name y py) "append" apos) [e] [] pos) none pos'.line X.env = pure false := by rfl) :
    DS X c O O (.Expr (.Call (.Attribute (.Name y py) "append" apos) [e] [] pos) pos') (fPush i f) := by
  refine PS.imp (ps_expr (pe_bm (r := rAppend) PySem.F.plainAttrs_list PySem.F.slot_list_append PySem.F.type_list_append mt_append (pe_var hN hv hd hcd) (pa_cons he pa_nil hs) hbase hfew hline hs hplain) hsw) fun Dd σ H ⟨F, Pn, G, ρ, fl, hp, S, e, k⟩ => ?_
  obtain ⟨l0, e0, e⟩ := bindE e
  obtain ⟨l1, e0, e00⟩ := bindE e0
  obtain ⟨⟨x, ρ1⟩, e1, e⟩ := bindE e
  obtain ⟨l, e2, e⟩ := bindE e
  obtain ⟨l', e3, e⟩ := mapE e
  cases e
  obtain ⟨a0, h0, _, _, c0, _⟩ := S.own i hi l1 e0
  refine ⟨.ref a0, h0, ?_, F, Pn, G, ρ, x, ρ1, S, e1, fun v G1 H1 S1 s1 r1 => ?_⟩
  · cases l1 with
    | lst ds => obtain ⟨us, g1, g2⟩ := c0; exact .inl ⟨rfl, us, .inl (Rd.of g1)⟩
    | _ => cases e00
  · obtain ⟨a, h1, h2, h3, h4, h5⟩ := S1.own i hi l e2
    rw [h0] at h1; cases h1
    cases l with
    | lst ds =>
      obtain ⟨hl, rfl⟩ := ifE (show (if lineOk (ds.length + 1) then some (D.lst (ds ++ [x])) else none) = some l' from e3)
      obtain ⟨us, g1, g2⟩ := h4
      have hz := lineOk_iff.mp hl
      exact ⟨a0, us, v, rfl, rfl, g1, by rw [g2.length]; omega, k G1 _ _ (S1.chg hi e2 h0 ⟨_, upd_same, g2.append (Reps.one r1)⟩) s1⟩
    | _ => cases e3
end
end RF
set_option Elab.async false
set_option linter.all false
set_option maxRecDepth 100000
set_option maxHeartbeats 2000000
namespace RF
open PySem PySem.Spec L2
open PyProof.Rows hiding St
structure Lf (P : Program) (w : World) (K : PySem.W.Frag) (G : Hp) (kvs : List (D × D)) (us : List (Leaf × Value)) (vs : List V) : Prop where
  ks : (kvs.map (·.1)).map leafOf = us.map (fun u => some u.1)
  vl : Vals vs (us.map (·.2))
  rp : RepP P w K G kvs vs
theorem Lf.length {P : Program} {w : World} {K : PySem.W.Frag} {G : Hp} {kvs : List (D × D)} {us : List (Leaf × Value)} {vs : List V} (h : Lf P w K G kvs us vs) : us.length = kvs.length := by
  have := congrArg List.length h.ks; simpa using this.symm
theorem stored_cons_ne {us : List (Leaf × Value)} {q : Leaf × Value} {l : Leaf} {u : Value} (h : q.1 ≠ l) : stored (q :: us) l u = q :: stored us l u := by
  unfold stored
  rw [List.any_cons, decide_eq_false h, Bool.false_or]
  split
  · rw [List.map_cons, if_neg h]
  · rfl
theorem stored_cons_eq {us : List (Leaf × Value)} {q : Leaf × Value} {l : Leaf} {u : Value} (h : q.1 = l) (n : ∀ x ∈ us, x.1 ≠ l) : stored (q :: us) l u = (l, u) :: us := by
  unfold stored
  rw [List.any_cons, decide_eq_true h, Bool.true_or, if_pos rfl, List.map_cons, if_pos h, h]
  congr 1
  exact (List.map_congr_left fun x hx => if_neg (n x hx)).trans (List.map_id _)
section
variable {P : Program} {w : World} {K : PySem.W.Frag} {G : Hp}
theorem Lf.put : ∀ {kvs : List (D × D)} {us : List (Leaf × Value)} {vs : List V}, Lf P w K G kvs us vs → (us.map (·.1)).Nodup → ∀ {k d : D} {l : Leaf} {v : V} {u : Value}, leafOf k = some l → RelV v u → Rep P w K G d v → ∃ vs', Lf P w K G (putK kvs k d) (stored us l u) vs'
  | [], us, vs, h, _, k, d, l, v, u, hk, r, rd => by
    have e : us = [] := by have := h.length; simpa using this
    subst e
    have e2 : vs = [] := h.rp
    subst e2
    exact ⟨[v], by show [leafOf k] = [some l]; rw [hk], .cons r .nil, v, [], rfl, rd, rfl⟩
  | (a, e) :: kvs, us, vs, h, n, k, d, l, v, u, hk, r, rd => by
    cases us with
    | nil => have := h.length; simp at this
    | cons q us =>
      obtain ⟨x, xr, ev, p1, p2⟩ := h.rp
      subst ev
      have hks := h.ks
      simp only [List.map_cons, List.cons.injEq] at hks
      cases h.vl with
      | cons r1 r2 =>
        rw [List.map_cons, List.nodup_cons] at n
        by_cases hak : a = k
        · subst hak
          have hq : q.1 = l := by have := hks.1.symm.trans hk; exact Option.some.inj this
          rw [stored_cons_eq hq fun y hy z => n.1 (by rw [hq, ← z]; exact List.mem_map.mpr ⟨y, hy, rfl⟩)]
          have e1 : putK ((a, e) :: kvs) a d = (a, d) :: kvs := by show (if a = a then _ else _) = _; rw [if_pos rfl]
          rw [e1]
          exact ⟨v :: xr, by simp only [List.map_cons, hk]; rw [← hks.2], .cons r r2, v, xr, rfl, rd, p2⟩
        · have hq : q.1 ≠ l := fun z => hak (leafOf_inj (hks.1.trans (by rw [z])) hk)
          rw [stored_cons_ne hq]
          have e1 : putK ((a, e) :: kvs) k d = (a, e) :: putK kvs k d := by show (if a = k then _ else _) = _; rw [if_neg hak]
          rw [e1]
          obtain ⟨vs', i⟩ := Lf.put (⟨hks.2, r2, p2⟩ : Lf P w K G kvs us xr) n.2 hk r rd
          exact ⟨x :: vs', by simp only [List.map_cons]; rw [hks.1, i.ks], .cons r1 i.vl, x, vs', rfl, p1, i.rp⟩
theorem stored_nodup {us : List (Leaf × Value)} (n : (us.map (·.1)).Nodup) (l : Leaf) (u : Value) : ((stored us l u).map (·.1)).Nodup := by
  unfold stored
  split
  · have e : (us.map fun kv => if kv.1 = l then (kv.1, u) else kv).map (·.1) = us.map (·.1) := by
      rw [List.map_map]
      exact List.map_congr_left fun x _ => by show (if x.1 = l then (x.1, u) else x).1 = x.1; split <;> rfl
    rw [e]; exact n
  · rename_i h
    rw [List.map_append, List.nodup_append]
    refine ⟨n, by simp, fun a ha b hb e => ?_⟩
    have hb : b = l := by simpa using hb
    subst e hb
    obtain ⟨x, hx, e⟩ := List.mem_map.mp ha
    exact h (List.any_eq_true.mpr ⟨x, hx, by simpa using e⟩)
theorem putK_len (kvs : List (D × D)) (k d : D) : (putK kvs k d).length ≤ kvs.length + 1 := by
  induction kvs with
  | nil => exact Nat.le_refl _
  | cons p r ih =>
    obtain ⟨a, e⟩ := p
    show (if a = k then _ else _ : List (D × D)).length ≤ _
    split
    · simp
    · simp only [List.length_cons]; omega
def mergeD : List (D × D) → List (D × D) → List (D × D)
  | kvs, [] => kvs
  | kvs, p :: r => mergeD (putK kvs p.1 p.2) r
theorem mergeD_len : ∀ (more kvs : List (D × D)), (mergeD kvs more).length ≤ kvs.length + more.length
  | [], kvs => Nat.le_refl _
  | p :: r, kvs => by
    show (mergeD (putK kvs p.1 p.2) r).length ≤ _
    have := mergeD_len r (putK kvs p.1 p.2)
    have := putK_len kvs p.1 p.2
    simp only [List.length_cons]; omega
inductive Prs (P : Program) (w : World) (K : PySem.W.Frag) (G : Hp) : List (D × D) → List (Leaf × Value) → Prop
  | nil : Prs P w K G [] []
  | cons {k d : D} {l : Leaf} {u : Value} {v : V} {r : List (D × D)} {s : List (Leaf × Value)} : leafOf k = some l → RelV v u → Rep P w K G d v → Prs P w K G r s → Prs P w K G ((k, d) :: r) ((l, u) :: s)
theorem Lf.merge {more : List (D × D)} {ms : List (Leaf × Value)} (p : Prs P w K G more ms) : ∀ {kvs : List (D × D)} {us : List (Leaf × Value)} {vs : List V}, Lf P w K G kvs us vs → (us.map (·.1)).Nodup → ∃ vs', Lf P w K G (mergeD kvs more) (merged us ms) vs' := by
  induction p with
  | nil => intro kvs us vs h _; exact ⟨vs, h⟩
  | cons hk r rd _ ih =>
    intro kvs us vs h n
    obtain ⟨vs1, h1⟩ := h.put n hk r rd
    exact ih h1 (stored_nodup n _ _)
theorem Lf.nil : Lf P w K G [] [] [] := ⟨rfl, .nil, rfl⟩
theorem Lf.cell {H : Hp} {a : Addr} {o : Obj} {kvs : List (D × D)} {us : List (Leaf × Value)} {vs : List V} (h : Lf P w K G kvs us vs) (hm : (a == sysModules) = false) (ha : H a = some (pinO a o)) (hl : kvs.length ≤ sizeLine) (i : o.IsDictOf (leafK0 P w) us) : Cell P w K G H a (.dct kvs) :=
  ⟨hm, o, vs, ha, hl, .inl ⟨us, i, h.ks, h.vl⟩, h.rp⟩
end
theorem pinO_ok {P : Program} {w : World} {H : Hp} {h : Heap} {a : Addr} {o : Obj} (e : h.get? a = some o) : ObjOk P w H h a (pinO a o) := ⟨e, ⟨o, e⟩, fun h1 h2 e1 k => k o e1⟩
section
variable {X : Cx} {O : List Nat} {pos : Pos}
theorem f_dict0 : DF X O (.Dict [] [] pos) (up (cn (.dct []))) := by
  refine ⟨fun pins s σ H Q I ⟨F, Pn, G, ρ, d, ρ', S, e, k⟩ => ?_⟩
  cases e
  have hn := I.hok.fresh (Nat.le_refl s.heap.objs.size)
  have hg : (s.heap.push { cls := .type "dict", data := .dict #[] }).get? s.heap.objs.size = some { cls := .type "dict", data := .dict #[] } := Heap.get?_push_size _ rfl
  refine wpAny_Dict_empty ⟨.ref s.heap.objs.size, _, I.laid (o := pinO s.heap.objs.size { cls := .type "dict", data := .dict #[] }) (t' := s.toks) (fun _ _ q => Heap.get?_push_of_some _ q) (Nat.le_refl _) (pinO_ok hg), rfl, ?_⟩
  obtain ⟨S2, n, nf, hj⟩ := S.lay (o := pinO s.heap.objs.size { cls := .type "dict", data := .dict #[] }) hn
  have di : ({ cls := .type "dict", data := .dict #[] } : Obj).IsDictOf (leafK0 X.prog X.w) [] := by
    have := Heap.DictOf.new (knd := leafK0 X.prog X.w) s.heap
    obtain ⟨o, ho, i⟩ := Heap.dictOf_iff.mp this
    rw [hg] at ho; cases ho
    exact i
  exact k _ G _ S2 (Same.refl _) n nf (Lf.nil.cell (beq_eq_false_iff_ne.mpr (Ne.symm (Nat.ne_of_lt I.big))) upd_same (Nat.zero_le _) di) hj
variable {a b : Expr} {fl : FL}
end
end RF
set_option Elab.async false
set_option linter.all false
set_option maxRecDepth 100000
set_option maxHeartbeats 2000000
namespace RF
open PySem PySem.Spec L2
open PyProof.Rows hiding St
def D.get2 : D → List D → Option D
  | .dct l, [k, x] => if (leafKey k && leafKs l) || (flatTup k && tupKs l) then some ((getK l k).getD x) else none
  | _, _ => none
section
variable {X : Cx} {pins : List (Addr × Obj)} {σ : St} {H G : Hp} {s : Shared}
theorem dct_type (I : L2.Inv X pins σ H s) {a : Addr} {o : Obj} (h : H a = some (pinO a o)) {ks : List D} {vs : List V} {G : Hp} (d : DictO X.prog X.w G o ks vs) : s.TypeIs (.ref a) "dict" ∧ ∀ b, Value.ref a = .ref b → ∃ ob, s.heap.get? b = some ob ∧ ob.dict = none := by
  have ho := rdp I h
  have he : o.ExactDict := by
    rcases d with ⟨us, ⟨es, ep, h1, _⟩, _⟩ | ⟨xs, ⟨h1, _⟩, _⟩
    · exact h1
    · exact h1
  exact ⟨⟨o, ho, he.1⟩, fun b e => by cases e; exact ⟨o, ho, he.2.1⟩⟩
theorem get2_run {A : Around} {E : Value → Shared → Prop} (hu : A.units + 64 < cLine) (I : L2.Inv X pins σ H s) (sub : Same G H) {l : List (D × D)} {k x z : D} {a : Addr} {kv xv : V} {u r : Value} {Q : VK} (hd : Rep X.prog X.w X.K G (.dct l) (.ref a)) (hk : Rep X.prog X.w X.K G k kv) (hx : Rep X.prog X.w X.K G x xv)
    (rk : RelV kv u) (rx : RelV xv r) (h : D.get2 (.dct l) [k, x] = some z) (q : ∀ v, Rep X.prog X.w X.K G z v → Q v H) : wpAny (model X.prog X.w) A (call (.builtin "dict.get") [.ref a, u, r]) (EP X pins σ Q) E s := by
  obtain ⟨a', o, vs, e, hm, r1, hl1, d1, q1⟩ := hd
  cases e
  obtain ⟨hg, rfl⟩ := ifE (show (if ((leafKey k && leafKs l) || (flatTup k && tupKs l)) = true then some ((getK l k).getD x) else none) = some z from h)
  rcases (Bool.or_eq_true _ _).mp hg with hg | hg
  · obtain ⟨g1, g2⟩ := Bool.and_eq_true_iff.mp hg
    obtain ⟨us, i1, _, w1, v1⟩ := leafDict I sub r1 d1 g2
    obtain ⟨lf, hlf⟩ := leafOf_some g1
    refine call_meetsIn PySem.F.slot_dict_get i1.typeIs PySem.F.entry_dict_get (PySem.F.args_dict_get_3 _ _ _) (meets_dict_get_default (leafK0 X.prog X.w) a (leafOf_rel hlf hk rk) hm r) ⟨_, i1.mapOf, ?_⟩
    rcases leaf_val w1 v1 q1 hlf with ⟨z1, z2⟩ | ⟨d', v', u', z1, z2, z3, z4⟩
    · rw [z1] at q
      rw [z2]
      exact ⟨xv, H, I.tok _, rx, q _ hx⟩
    · rw [z1] at q
      rw [z2]
      exact ⟨v', H, I.tok _, z3, q _ z4⟩
  · obtain ⟨g1, g2⟩ := Bool.and_eq_true_iff.mp hg
    obtain ⟨us, i1, w1, v1⟩ := tupDict I sub r1 d1 g2
    obtain ⟨ak, n, rfl, hn, hk'⟩ := tupKey I sub g1 hk
    cases rk
    refine getOr_keyed (by show A.units + 1 + 8 < cLine; omega) hk' hm i1 ?_
    rcases nest_val w1 v1 q1 hn with ⟨z1, z2⟩ | ⟨d', v', u', z1, z2, z3, z4⟩
    · rw [z1] at q
      rw [z2]
      exact ⟨xv, H, I.tok _, rx, q _ hx⟩
    · rw [z1] at q
      rw [z2]
      exact ⟨v', H, I.tok _, z3, q _ z4⟩
end
section
variable {X : Cx} {O : List Nat} {o e f : Expr} {fa : FX} {fl : FL} {apos cpos : Pos}
theorem x_get2 (hu : X.A.units + 64 < cLine) (ha : DX X O o fa) (hl : DA X O [e, f] fl) (m : M2 X o "get" apos e f cpos) : DX X O (.Call (.Attribute o "get" apos) [e, f] [] cpos) (xM D.get2 fa fl) := by
  refine ⟨fun pins s σ H Q I ⟨F, Pn, G, ρ, d, ρ', S, e, k⟩ => ?_⟩
  obtain ⟨⟨x, ρ1⟩, e1, e⟩ := bindE e
  obtain ⟨⟨ys, ρ2⟩, e2, e⟩ := bindE e
  obtain ⟨z, e3, e⟩ := mapE e
  cases e
  unfold D.get2 at e3
  split at e3
  · rename_i l k0 x0 hx hy
    replace hx : x = _ := hx
    replace hy : ys = _ := hy
    subst hx hy
    refine wpAny_Call_method m.base m.few m.line PySem.F.plainAttrs_dict PySem.F.slot_dict_get PySem.F.type_dict_get (thn (ha.run pins s σ H (fun v H1 => ∃ G1, SR X.prog X.w X.K F Pn O G1 ρ1 σ H1 ∧ Same G G1 ∧ Rep X.prog X.w X.K G1 (.dct l) v) I ⟨F, Pn, G, ρ, _, ρ1, S, e1, fun v G1 H1 S1 s1 r1 => ⟨G1, S1, s1, r1⟩⟩) fun u s1 ⟨v, H1, I1, r1, G1, S1, g1, q1⟩ => ?_)
    have q1' := q1
    obtain ⟨a, o, vs, ev, hm, p1, p2, p3, p4⟩ := q1
    subst ev
    cases r1
    obtain ⟨t1, t2⟩ := dct_type I1 (S1.sub _ _ p1) p3
    refine ⟨t1, t2, ?_⟩
    have ht := (hl.run cpos pins s1 σ H1 (fun vs H2 => ∃ G2, SR X.prog X.w X.K F Pn O G2 ρ2 σ H2 ∧ Same G1 G2 ∧ Reps X.prog X.w X.K G2 [k0, x0] vs) I1 ⟨F, Pn, G1, ρ1, _, ρ2, S1, e2, fun v G1 H1 S1 s1 r1 => ⟨G1, S1, s1, r1⟩⟩)
    rw [m.trees] at ht ⊢
    refine Calls.callWith_builtin rfl (Calls.evalArgs_plain (thn ht fun us s2 ⟨ws, H2, I2, r2, G2, S2, g2, q2⟩ => ?_))
    obtain ⟨v1, r1', e4, b1, v2, r2', e5, b2, e6⟩ := q2
    subst e4 e5 e6
    cases r2 with
    | cons c1 c2 =>
      cases c2 with
      | cons c2 c3 =>
        cases c3
        exact get2_run hu I2 S2.sub (Rep.mono g2 _ _ q1') b1 b2 c1 c2 e3 fun v' r' => k v' G2 H2 S2 (g1.trans g2) r'
  · cases e3
theorem e_get2 {ea : FE} {el : FEL} (hu : X.A.units + 64 < cLine) (ha : DE X O o ea) (hl : DAe X O [e, f] el) (m : M2 X o "get" apos e f cpos) : DE X O (.Call (.Attribute o "get" apos) [e, f] [] cpos) (eM D.get2 ea el) := (x_get2 hu ha hl m).congr (xM_up D.get2 ea el)
end
abbrev FP := Env → Option (List (D × D) × Env)
def pNil : FP := fun ρ => some ([], ρ)
def pCons (a b : FX) (r : FP) : FP := fun ρ => (a ρ).bind fun p => (b p.2).bind fun q => (r q.2).map fun t => ((p.1, q.1) :: t.1, t.2)
def RepVV (P : Program) (w : World) (K : PySem.W.Frag) (G : Hp) : List (D × D) → List (V × V) → Prop
  | [], ps => ps = []
  | (k, d) :: r, ps => ∃ x y s, ps = (x, y) :: s ∧ Rep P w K G k x ∧ Rep P w K G d y ∧ RepVV P w K G r s
theorem RepVV.mono {P : Program} {w : World} {K : PySem.W.Frag} {G G' : Hp} (s : Same G G') : ∀ {a : List (D × D)} {b : List (V × V)}, RepVV P w K G a b → RepVV P w K G' a b
  | [], b, h => h
  | (k, d) :: r, b, h => by
    obtain ⟨x, y, t, e, h1, h2, h3⟩ := h
    exact ⟨x, y, t, e, Rep.mono s _ _ h1, Rep.mono s _ _ h2, RepVV.mono s h3⟩
def DP (X : Cx) (O : List Nat) (pos : Pos) (ks : List (Option Expr)) (vs : List Expr) (f : FP) : Prop := ∃ trs, PPs X pos ks vs trs ∧ ∀ σ H (Q : List (V × V) → Hp → Prop) F Pn G ρ ds ρ', SR X.prog X.w X.K F Pn O G ρ σ H → f ρ = some (ds, ρ') →
  (∀ ps G' H', SR X.prog X.w X.K F Pn O G' ρ' σ H' → Same G G' → RepVV X.prog X.w X.K G' ds ps → Q ps H') → tPairs trs σ H Q
section
variable {X : Cx} {O : List Nat} {pos : Pos} {a b : Expr} {fa fb : FX} {f : FP} {ks : List (Option Expr)} {vs : List Expr}
theorem dp_nil : DP X O pos [] [] pNil := ⟨[], pps_nil, fun σ H Q F Pn G ρ ds ρ' S e k => by cases e; exact k [] G H S (Same.refl _) rfl⟩
theorem dp_cons (ha : DX X O a fa) (hb : DX X O b fb) (hr : DP X O pos ks vs f) : DP X O pos (some a :: ks) (b :: vs) (pCons fa fb f) := by
  obtain ⟨trs, h1, h2⟩ := hr
  refine ⟨_, pps_cons ha hb h1, fun σ H Q F Pn G ρ ds ρ' S e k => ?_⟩
  obtain ⟨⟨x, ρ1⟩, e1, e⟩ := bindE e
  obtain ⟨⟨y, ρ2⟩, e2, e⟩ := bindE e
  obtain ⟨⟨t, ρ3⟩, e3, e⟩ := mapE e
  cases e
  refine ⟨F, Pn, G, ρ, x, ρ1, S, e1, fun v G1 H1 S1 s1 r1 => ⟨F, Pn, G1, ρ1, y, ρ2, S1, e2, fun u G2 H2 S2 s2 r2 => ?_⟩⟩
  exact h2 σ H2 _ F Pn G2 ρ2 t _ S2 e3 fun ps G3 H3 S3 s3 r3 => k _ G3 H3 S3 (s1.trans (s2.trans s3)) ⟨v, u, ps, rfl, Rep.mono (s2.trans s3) _ _ r1, Rep.mono s3 _ _ r2, r3⟩
def mkDct (l : List (D × D)) : Option D := if leafKs l && decide (l.length ≤ 15) then some (.dct (mergeD [] l)) else none
def xDct (f : FP) : FX := fun ρ => (f ρ).bind fun p => (mkDct p.1).map fun z => (z, p.2)
theorem carry_leaf {P : Program} {w : World} {K : PySem.W.Frag} {G : Hp} : ∀ {ds : List (D × D)} {ps : List (V × V)} {ws : List (Value × Value)}, leafKs ds = true → RepVV P w K G ds ps → VV ps ws → ∃ ms, Carries (leafK0 P w) ws ms ∧ Prs P w K G ds ms
  | [], ps, ws, _, r, v => by cases r; cases v; exact ⟨[], True.intro, .nil⟩
  | (k, d) :: r, ps, ws, hk, rr, v => by
    obtain ⟨x, y, t, e, h1, h2, h3⟩ := rr
    subst e
    cases v with
    | @cons p q _ ws' v1 v2 =>
      obtain ⟨q1, q2⟩ := q
      have hk : (leafKey k && leafKs r) = true := hk
      rw [Bool.and_eq_true_iff] at hk
      obtain ⟨l, hl⟩ := leafOf_some hk.1
      obtain ⟨ms, c, p⟩ := carry_leaf hk.2 h3 v2
      exact ⟨(l, q2) :: ms, ⟨leafOf_rel hl h1 v1.1, rfl, c⟩, .cons hl v1.2 h2 p⟩
theorem f_dct (h : DP X O pos ks vs f) (hall : ks.all (·.isSome) = true := by rfl) (hl : ks.length = vs.length := by rfl) (h0 : ks ≠ [] := by decide) (h15 : ks.length ≤ 15 := by decide) : DF X O (.Dict ks vs pos) (xDct f) := by
  obtain ⟨trs, hp, ht⟩ := h
  refine ⟨fun pins s σ H Q I ⟨F, Pn, G, ρ, d, ρ', S, e, k⟩ => ?_⟩
  obtain ⟨⟨ds, ρ1⟩, e1, e⟩ := bindE e
  obtain ⟨z, e2, e⟩ := mapE e
  cases e
  obtain ⟨hb, rfl⟩ := ifE (show (if leafKs ds && decide (ds.length ≤ 15) then some (D.dct (mergeD [] ds)) else none) = some _ from e2)
  simp only [Bool.and_eq_true, decide_eq_true_eq] at hb
  have hn := I.hok.fresh (Nat.le_refl s.heap.objs.size)
  have hg : (s.heap.push { cls := .type "dict", data := .dict #[] }).get? s.heap.objs.size = some { cls := .type "dict", data := .dict #[] } := Heap.get?_push_size _ rfl
  have di : ({ cls := .type "dict", data := .dict #[] } : Obj).IsDictOf (leafK0 X.prog X.w) [] := by
    have := Heap.DictOf.new (knd := leafK0 X.prog X.w) s.heap
    obtain ⟨o, ho, i⟩ := Heap.dictOf_iff.mp this
    rw [hg] at ho; cases ho
    exact i
  have I1 := I.laid (a := s.heap.objs.size) (o := pinO s.heap.objs.size { cls := .type "dict", data := .dict #[] }) (h' := s.heap.push { cls := .type "dict", data := .dict #[] }) (t' := s.toks) (fun _ _ q => Heap.get?_push_of_some _ q) (Nat.le_refl _) (pinO_ok hg)
  have S1 := S.addF (o := pinO s.heap.objs.size { cls := .type "dict", data := .dict #[] }) hn
  have nf := (S.lay (o := pinO s.heap.objs.size { cls := .type "dict", data := .dict #[] }) hn).2.2.1
  refine wpAny_Dict_walk (knd := leafK0 X.prog X.w) hall hl h0 h15 (thn (hp.run pins _ σ _ (fun ps H2 => ∃ G2, SR X.prog X.w X.K (upd F s.heap.objs.size (pinO s.heap.objs.size { cls := .type "dict", data := .dict #[] })) Pn O G2 ρ1 σ H2 ∧ Same G G2 ∧ RepVV X.prog X.w X.K G2 ds ps) I1
    (ht σ _ _ _ Pn G ρ ds ρ1 S1 e1 fun ps G2 H2 S2 s2 r2 => ⟨G2, S2, s2, r2⟩)) fun ws s2 ⟨ps, H2, I2, rel, G2, S2, g2, r2⟩ => ?_)
  obtain ⟨ms, c, pr⟩ := carry_leaf hb.1 r2 rel
  have hH2 := (S2.frm _ _ upd_same).1
  have ho2 := rdp I2 hH2
  refine ⟨ms, c, Heap.dictOf_iff.mpr ⟨_, ho2, di⟩, fun h' dd' hs => ?_⟩
  obtain ⟨o, ho, hi⟩ := Heap.dictOf_iff.mp dd'
  obtain ⟨vs', L⟩ := Lf.merge pr Lf.nil List.nodup_nil
  have S3 := S2.chgF (o' := pinO s.heap.objs.size o)
  obtain ⟨S4, n4, h4, hj⟩ := S3.delF nf
  have I3 := I2.write (x := s.heap.objs.size) (e := s.heap.objs.size) (o := pinO s.heap.objs.size o) (t' := s2.toks + ws.length) (h' := h') (by rw [hH2]; trivial) (.inl rfl) (fun b q hb z => (hs.2 b hb).trans z) ⟨_, ho⟩ (pinO_ok ho)
  refine ⟨.ref s.heap.objs.size, _, I3, rfl, ?_⟩
  have hlen : (mergeD [] ds).length ≤ sizeLine := by
    have h1 := mergeD_len ds []
    simp only [List.length_nil, Nat.zero_add] at h1
    rw [sizeLine_eq]; omega
  exact k _ G2 _ S4 g2 n4 nf (L.cell (beq_eq_false_iff_ne.mpr (Ne.symm (Nat.ne_of_lt I.big))) h4 hlen hi) hj
end
end RF
set_option Elab.async false
set_option linter.all false
set_option maxRecDepth 100000
set_option maxHeartbeats 2000000
namespace RF
open PySem PySem.Spec L2
open PyProof.Rows hiding St
def D.put : D → D → D → Option D
  | .lst l, .int k, v => (L2.ixN l.length k).map fun j => .lst (l.set j v)
  | .dct l, k, v => if ((leafKey k && leafKs l) || (flatTup k && tupKs l)) && lineOk (l.length + 1) then some (.dct (putK l k v)) else none
  | _, _, _ => none
theorem tup_flat {P : Program} {w : World} {K : PySem.W.Frag} {G : Hp} {k : D} {a : Addr} (hk : flatTup k = true) (r : Rep P w K G k (.ref a)) : ∃ (ds : List D) (kv : List V), k = D.tup ds ∧ G a = some (.tup kv) ∧ kv.map flatD = ds.map some := by
  cases k with
  | tup l =>
    obtain ⟨a', vs, e, r1, q⟩ := r
    cases e
    refine ⟨l, vs, rfl, r1, ?_⟩
    have hl : l.all leafKey = true := hk
    clear hk r1
    induction l generalizing vs with
    | nil => cases q; rfl
    | cons d r ih =>
      rw [List.all_cons, Bool.and_eq_true_iff] at hl
      obtain ⟨v, vr, rfl, q1, q2⟩ := q
      rw [List.map_cons, List.map_cons, ih vr q2 hl.2]
      congr 1
      cases d <;> first | (cases hl.1; done) | (cases q1; rfl)
  | _ => cases hk
structure Nf (P : Program) (w : World) (K : PySem.W.Frag) (G : Hp) (kvs : List (D × D)) (xs : List (NestedKey × Addr × Value)) (vs : List V) : Prop where
  ks : (kvs.map (·.1)).map nestOf = xs.map (fun x => some x.1)
  vl : Vals vs (xs.map (·.2.2))
  rp : RepP P w K G kvs vs
  tu : ∀ (i : Nat) (k : D) (x : NestedKey × Addr × Value), (kvs.map (·.1))[i]? = some k → xs[i]? = some x → ∃ (ds : List D) (kv : List V), k = D.tup ds ∧ G x.2.1 = some (.tup kv) ∧ kv.map flatD = ds.map some
theorem Nf.length {P : Program} {w : World} {K : PySem.W.Frag} {G : Hp} {kvs : List (D × D)} {us : List (NestedKey × Addr × Value)} {vs : List V} (h : Nf P w K G kvs us vs) : us.length = kvs.length := by
  have := congrArg List.length h.ks; simpa using this.symm
theorem storedH_cons_ne {xs : List (NestedKey × Addr × Value)} {q : NestedKey × Addr × Value} {l : NestedKey} {a : Addr} {u : Value} (h : q.1 ≠ l) : storedH (q :: xs) l a u = q :: storedH xs l a u := by
  unfold storedH atKey
  rw [List.find?_cons, show decide (q.1 = l) = false from decide_eq_false h]
  show (if ((List.find? (fun x => decide (x.1 = l)) xs).map _).isSome = true then _ else _) = q :: (if ((List.find? (fun x => decide (x.1 = l)) xs).map _).isSome = true then _ else _)
  split
  · rw [List.map_cons]
    congr 1
    show putAt l u q = q
    unfold putAt; rw [if_neg h]
  · rfl
theorem storedH_cons_eq {xs : List (NestedKey × Addr × Value)} {q : NestedKey × Addr × Value} {l : NestedKey} {a : Addr} {u : Value} (h : q.1 = l) (n : ∀ x ∈ xs, x.1 ≠ l) : storedH (q :: xs) l a u = (l, q.2.1, u) :: xs := by
  unfold storedH atKey
  rw [List.find?_cons, show decide (q.1 = l) = true from decide_eq_true h]
  show (q :: xs).map (putAt l u) = _
  rw [List.map_cons]
  have e1 : putAt l u q = (l, q.2.1, u) := by unfold putAt; rw [if_pos h, h]
  rw [e1]
  congr 1
  exact (List.map_congr_left fun x hx => by show putAt l u x = x; unfold putAt; rw [if_neg (n x hx)]).trans (List.map_id _)
section
variable {P : Program} {w : World} {K : PySem.W.Frag} {G : Hp}
theorem Nf.put : ∀ {kvs : List (D × D)} {us : List (NestedKey × Addr × Value)} {vs : List V}, Nf P w K G kvs us vs → (us.map (·.1)).Nodup → ∀ {k d : D} {l : NestedKey} {a : Addr} {v : V} {u : Value}, flatTup k = true → Rep P w K G k (.ref a) → nestOf k = some l → RelV v u → Rep P w K G d v → ∃ vs', Nf P w K G (putK kvs k d) (storedH us l a u) vs'
  | [], us, vs, h, _, k, d, l, a, v, u, hf, ht, hk, r, rd => by
    have e : us = [] := by have := h.length; simpa using this
    subst e
    have e2 : vs = [] := h.rp
    subst e2
    refine ⟨[v], by show [nestOf k] = [some l]; rw [hk], .cons r .nil, ⟨v, [], rfl, rd, rfl⟩, fun i k' x e1 e2 => ?_⟩
    cases i with
    | zero =>
      cases e1; cases e2
      exact tup_flat hf ht
    | succ i => cases e1
  | (b, e) :: kvs, us, vs, h, n, k, d, l, a, v, u, hf, ht, hk, r, rd => by
    cases us with
    | nil => have := h.length; simp at this
    | cons q us =>
      obtain ⟨x, xr, ev, p1, p2⟩ := h.rp
      subst ev
      have hks := h.ks
      simp only [List.map_cons, List.cons.injEq] at hks
      have htu : ∀ (i : Nat) (k : D) (x : NestedKey × Addr × Value), (kvs.map (·.1))[i]? = some k → us[i]? = some x → ∃ (ds : List D) (kv : List V), k = D.tup ds ∧ G x.2.1 = some (.tup kv) ∧ kv.map flatD = ds.map some := fun i k x e1 e2 => h.tu (i + 1) k x (by simpa using e1) (by simpa using e2)
      cases h.vl with
      | cons r1 r2 =>
        rw [List.map_cons, List.nodup_cons] at n
        by_cases hak : b = k
        · subst hak
          have hq : q.1 = l := by have := hks.1.symm.trans hk; exact Option.some.inj this
          rw [storedH_cons_eq hq fun y hy z => n.1 (by rw [hq, ← z]; exact List.mem_map.mpr ⟨y, hy, rfl⟩)]
          have e1 : putK ((b, e) :: kvs) b d = (b, d) :: kvs := by show (if b = b then _ else _) = _; rw [if_pos rfl]
          rw [e1]
          refine ⟨v :: xr, by simp only [List.map_cons, hk]; rw [← hks.2], .cons r r2, ⟨v, xr, rfl, rd, p2⟩, fun i k' x e1 e2 => ?_⟩
          cases i with
          | zero => cases e1; cases e2; exact h.tu 0 _ q rfl rfl
          | succ i => exact htu i k' x (by simpa using e1) (by simpa using e2)
        · have hq : q.1 ≠ l := fun z => hak (nest_inj (hks.1.trans (by rw [z])) hk)
          rw [storedH_cons_ne hq]
          have e1 : putK ((b, e) :: kvs) k d = (b, e) :: putK kvs k d := by show (if b = k then _ else _) = _; rw [if_neg hak]
          rw [e1]
          obtain ⟨vs', i⟩ := Nf.put (⟨hks.2, r2, p2, htu⟩ : Nf P w K G kvs us xr) n.2 hf ht hk r rd
          refine ⟨x :: vs', by simp only [List.map_cons]; rw [hks.1, i.ks], .cons r1 i.vl, ⟨x, vs', rfl, p1, i.rp⟩, fun j k' x e1 e2 => ?_⟩
          cases j with
          | zero => cases e1; cases e2; exact h.tu 0 _ q rfl rfl
          | succ j => exact i.tu j k' x (by simpa using e1) (by simpa using e2)
end
section
variable {X : Cx} {pins : List (Addr × Obj)} {σ : St} {H G : Hp} {s : Shared}
theorem tupEntries (I : L2.Inv X pins σ H s) (sub : Same G H) {a : Addr} {o : Obj} {kvs : List (D × D)} {vs : List V} (ho : s.heap.get? a = some o) (d : DictO X.prog X.w G o (kvs.map (·.1)) vs) (rp : RepP X.prog X.w X.K G kvs vs) (hk : tupKs kvs = true) :
    ∃ xs : List (NestedKey × Addr × Value), s.heap.DictOfH (nestedKind X.prog X.w) a xs ∧ Nf X.prog X.w X.K G kvs xs vs := by
  rcases d with ⟨us, i1, w1, v1⟩ | ⟨xs, ⟨h1, ⟨es, ep, h2, h3⟩, h4⟩, h5, h6, h7⟩
  · cases kvs with
    | nil =>
      have e0 : us = [] := by
        cases us with
        | nil => rfl
        | cons _ _ => simp at w1
      subst e0
      obtain ⟨es, ep, h1, h2, _, p, _⟩ := i1
      refine ⟨[], ⟨o, es, ep, ho, h1, h2, ?_, fun _ hx => (nomatch hx), List.nodup_nil⟩, rfl, v1, rp, fun i k x e1 _ => by cases e1⟩
      generalize es.toList = l at p
      cases p
      rfl
    | cons p r' =>
      have hp := (List.all_eq_true.mp hk) p List.mem_cons_self
      cases us with
      | nil => simp at w1
      | cons u us =>
        simp only [List.map_cons, List.cons.injEq] at w1
        obtain ⟨p1, p2⟩ := p
        have w1a := w1.1
        cases p1 <;> first | (cases hp; done) | (cases w1a; done)
  · refine ⟨xs, ⟨o, es, ep, ho, h1, h2, h3, fun x hx => ?_, h4⟩, h5, h6, rp, h7⟩
    obtain ⟨i, hi⟩ := List.mem_iff_getElem?.mp hx
    have e5 := congrArg (fun z => z[i]?) h5
    simp only [List.getElem?_map, hi, Option.map_some] at e5
    obtain ⟨k, ek, ek2⟩ := Option.map_eq_some_iff.mp e5
    have hki : (kvs.map (·.1))[i]? = some k := by rw [List.getElem?_map]; exact ek
    obtain ⟨ds, kv, e, g1, g2⟩ := h7 i k x hki hi
    subst e
    exact nest_is I (sub _ _ g1) g2 ek2
def tPut (P : Program) (w : World) (K : PySem.W.Frag) : TSet := fun o i v H Q => ∃ G a d k x d', o = .ref a ∧ Same G H ∧ G a = none ∧ Cell P w K G H a d ∧ Rep P w K G k i ∧ Rep P w K G x v ∧ D.put d k x = some d' ∧
  ∀ o', Cell P w K G (upd H a o') a d' → Q (upd H a o')
end
section
variable {X : Cx}
theorem pset_D (hu : X.A.units + 64 < cLine) : PSet X (tPut X.prog X.w X.K) := by
  intro pins s σ H o i v ov iv u Q I ro ri rv ⟨G, a, d, k, x, d', eo, sub, ga, c, rk, rx, h, q⟩
  subst eo
  cases d with
  | lst l =>
    cases k with
    | int j =>
      obtain ⟨m, e1, e2⟩ := mapE (show (L2.ixN l.length j).map _ = some d' from h)
      subst e2
      obtain ⟨vs, h1, h2⟩ := c
      have rk : i = .int j := rk
      subst rk
      exact set_list pins s σ H _ _ v ov iv u Q I ro ri rv ⟨a, vs, j, m, rfl, rfl, h1, by rw [h2.length]; exact e1, q _ ⟨_, upd_same, h2.set rx⟩⟩
    | _ => cases h
  | dct l =>
    obtain ⟨hg, rfl⟩ := ifE (show (if ((leafKey k && leafKs l) || (flatTup k && tupKs l)) && lineOk (l.length + 1) then some (D.dct (putK l k x)) else none) = some d' from h)
    rw [Bool.and_eq_true_iff] at hg
    obtain ⟨hg, hz⟩ := hg
    have hz := lineOk_iff.mp hz
    obtain ⟨hm, ob, vs, h1, hl, h2, h3⟩ := c
    cases (show ov = Value.ref a from ro)
    have ho := rdp I h1
    have hlen : (putK l k x).length ≤ sizeLine := by have := putK_len l k x; omega
    rcases (Bool.or_eq_true _ _).mp hg with hg | hg
    · obtain ⟨g1, g2⟩ := Bool.and_eq_true_iff.mp hg
      obtain ⟨us, i1, w1, v1⟩ := leaf_of_nest (K := X.K) h2 g2
      obtain ⟨lf, hlf⟩ := leafOf_some g1
      have L : Lf X.prog X.w X.K G l us vs := ⟨w1, v1, h3⟩
      have nd : (us.map (·.1)).Nodup := by obtain ⟨_, _, _, _, _, _, nd⟩ := i1; exact nd
      refine wpAny_setItem_pairs (knd := leafK0 X.prog X.w) (hsz := by rw [L.length]; omega) (leafOf_rel hlf rk ri) (Heap.dictOf_iff.mpr ⟨ob, ho, i1⟩) fun h' dd' hs => ?_
      obtain ⟨o2, ho2, hi2⟩ := Heap.dictOf_iff.mp dd'
      obtain ⟨vs', L'⟩ := L.put nd hlf rv rx
      exact ⟨upd H a (pinO a o2), I.write (x := a) (e := a) (by rw [h1]; trivial) (.inl rfl) (fun b q hb z => (hs.2 b hb).trans z) ⟨_, ho2⟩ (pinO_ok ho2), q _ (L'.cell hm upd_same hlen hi2)⟩
    · obtain ⟨g1, g2⟩ := Bool.and_eq_true_iff.mp hg
      obtain ⟨xs, i1, N⟩ := tupEntries I sub ho h2 h3 g2
      obtain ⟨ak, n, rfl, hn, hk⟩ := tupKey I sub g1 rk
      cases ri
      have nd : (xs.map (·.1)).Nodup := by obtain ⟨_, _, _, _, _, _, _, _, nd⟩ := i1; exact nd
      refine wpAny_setItem_heap (hsz := by rw [N.length]; omega) (show X.A.in1.units + 8 < cLine by show X.A.units + 1 + 8 < cLine; omega) hk i1 fun h' dd' hs => ?_
      obtain ⟨o2, es, ep, ho2, e1, e2, e3, _, e5⟩ := dd'
      obtain ⟨vs', N'⟩ := N.put nd g1 rk hn rv rx
      refine ⟨upd H a (pinO a o2), I.write (x := a) (e := a) (by rw [h1]; trivial) (.inl rfl) (fun b q hb z => (hs.2 b hb).trans z) ⟨_, ho2⟩ (pinO_ok ho2), q _ ⟨hm, o2, vs', upd_same, hlen, .inr ⟨_, ⟨e1, ⟨es, ep, e2, e3⟩, e5⟩, N'.ks, N'.vl, N'.tu⟩, N'.rp⟩⟩
  | _ => cases h
end
def fPut (i : Nat) (fk fv : FX) : FS := fun ρ => (fv ρ).bind fun p => (lk p.2 i).bind fun _ => (fk p.2).bind fun q => (lk q.2 i).bind fun d => (D.put d q.1 p.1).map fun d' => .nx (q.2.set i (some d'))
section
variable {X : Cx} {c : Ct} {O : List Nat} {i : Nat} {y : Str} {ke e : Expr} {fk fv : FX} {py sp pos : Pos}
theorem ds_put (hu : X.A.units + 64 < cLine) (hN : X.N[i]? = some y) (hv : Vis X.env.scope y) (hi : i ∈ O) (he : DX X O e fv) (hk : DX X O ke fk) (hd : (y == ("__debug__" : Str)) = false := by decide) (hcd : (y == ("__classdict__" : Str)) = false := by decide)
    (ha : ∀ v, assign (.Subscript (.Name y py) ke sp) X.env v = (do
      let ov ← holding [v] (eval (.Name y py) X.env)
      let iv ← holding [v, ov] (eval ke X.env)
      standAt sp
      holding [v, ov, iv] (setItem ov iv v)
      release [v, ov, iv] []) := by intro _; rfl)
    (hs : swapsWithSole [.Subscript (.Name y py) ke sp] e pos.line X.env = pure false := by rfl) (hw : swappedStores [.Subscript (.Name y py) ke sp] e X.env = pure none := by rfl)
    (h1 : (assignEach [.Subscript (.Name y py) ke sp] X.env).map (·.2) = [assign (.Subscript (.Name y py) ke sp) X.env] := by rfl) :
    DS X c O O (.Assign [.Subscript (.Name y py) ke sp] e pos) (fPut i fk fv) := by
  refine PS.imp (ps_asg he (pg_sub (pe_var hN hv hd hcd) hk (pset_D hu) ha) hs hw h1) fun Dd σ H ⟨F, Pn, G, ρ, fl, hp, S, e, k⟩ => ?_
  obtain ⟨⟨x, ρ1⟩, e1, e⟩ := bindE e
  obtain ⟨d0, e0, e⟩ := bindE e
  obtain ⟨⟨z, ρ2⟩, e2, e⟩ := bindE e
  obtain ⟨d, e3, e⟩ := bindE e
  obtain ⟨d', e4, e⟩ := mapE e
  cases e
  refine ⟨F, Pn, G, ρ, x, ρ1, S, e1, fun v G1 H1 S1 s1 r1 => ?_⟩
  obtain ⟨a0, h0, _⟩ := S1.own i hi d0 e0
  refine ⟨.ref a0, h0, F, Pn, G1, ρ1, z, ρ2, S1, e2, fun kv G2 H2 S2 s2 r2 => ?_⟩
  obtain ⟨a, h1, h2, h3, h4, h5⟩ := S2.own i hi d e3
  rw [h0] at h1; cases h1
  exact ⟨G2, a0, d, z, x, d', rfl, S2.sub, h2, h4, r2, Rep.mono s2 _ _ r1, e4, fun o' c' => k G2 _ _ (S2.chg hi e3 h0 c') (s1.trans s2)⟩
end
end RF
set_option Elab.async false
set_option linter.all false
set_option maxRecDepth 100000
set_option maxHeartbeats 2000000
namespace RF
open PySem PySem.Spec L2
open PyProof.Rows hiding St
def cellsOf : List (Bool × D) → List V → List Addr
  | (true, _) :: r, .ref a :: vs => a :: cellsOf r vs
  | (_, _) :: r, _ :: vs => cellsOf r vs
  | _, _ => []
section
variable (P : Program) (w : World) (K : PySem.W.Frag)
def Bag (F : Hp) (O : List Nat) (ρ : Env) (σ : St) (G H : Hp) : List (Bool × D) → List V → Prop
  | [], vs => vs = []
  | (false, d) :: r, vs => ∃ v vr, vs = v :: vr ∧ Rep P w K G d v ∧ Bag F O ρ σ G H r vr
  | (true, d) :: r, vs => ∃ a vr, vs = .ref a :: vr ∧ G a = none ∧ F a = none ∧ Cell P w K G H a d ∧ (∀ j ∈ O, ∀ d, lk ρ j = some d → σ[j]? ≠ some (some (.ref a))) ∧ a ∉ cellsOf r vr ∧ Bag F O ρ σ G H r vr
end
abbrev FB := Env → Option (List (Bool × D) × Env)
def tDb (P : Program) (w : World) (K : PySem.W.Frag) (O : List Nat) (f : FB) : TA := fun σ H Q => ∃ F Pn G ρ ds ρ', SR P w K F Pn O G ρ σ H ∧ f ρ = some (ds, ρ') ∧
  ∀ vs G' H', SR P w K F Pn O G' ρ' σ H' → Same G G' → Bag P w K F O ρ' σ G' H' ds vs → Q vs H'
abbrev DB (X : Cx) (O : List Nat) (es : List Expr) (f : FB) : Prop := PA X es (tDb X.prog X.w X.K O f)
def bNil : FB := fun ρ => some ([], ρ)
def bCons (k : Bool) (a : FX) (r : FB) : FB := fun ρ => (a ρ).bind fun p => (r p.2).map fun q => ((k, p.1) :: q.1, q.2)
section
variable {P : Program} {w : World} {K : PySem.W.Frag} {F G H : Hp} {Pn : List (Nat × Addr)} {O : List Nat} {ρ : Env} {σ : St}
theorem SR.takeF {a : Addr} {o : HO} (S : SR P w K F Pn O G ρ σ H) (n : G a = none) (h : H a = some o) (hj : ∀ j ∈ O, ∀ d, lk ρ j = some d → σ[j]? ≠ some (some (.ref a))) : SR P w K (upd F a o) Pn O G ρ σ H := by
  refine ⟨S.sub, fun b u e => ?_, S.len, S.val, fun i hi d e => ?_, S.pin⟩
  · by_cases hb : b = a
    · subst hb; rw [upd_same] at e; cases e; exact ⟨h, n⟩
    · rw [upd_ne hb] at e; exact S.frm b u e
  · obtain ⟨b, h1, h2, h3, h4, h5⟩ := S.own i hi d e
    have hb : b ≠ a := fun z => by subst z; exact hj i hi d e h1
    exact ⟨b, h1, h2, by rw [upd_ne hb]; exact h3, h4, h5⟩
theorem Bag.delF {a : Addr} {o : HO} (nf : F a = none) : ∀ {r : List (Bool × D)} {vs : List V}, Bag P w K (upd F a o) O ρ σ G H r vs → Bag P w K F O ρ σ G H r vs ∧ a ∉ cellsOf r vs
  | [], vs, h => by cases h; exact ⟨rfl, by simp [cellsOf]⟩
  | (false, d) :: r, vs, h => by
    obtain ⟨v, vr, e, h1, h2⟩ := h
    subst e
    obtain ⟨i1, i2⟩ := Bag.delF nf h2
    refine ⟨⟨v, vr, rfl, h1, i1⟩, ?_⟩
    unfold cellsOf
    cases v <;> exact i2
  | (true, d) :: r, vs, h => by
    obtain ⟨b, vr, e, h1, h2, h3, h4, h5, h6⟩ := h
    subst e
    obtain ⟨i1, i2⟩ := Bag.delF nf h6
    have hb : b ≠ a := fun z => by subst z; rw [upd_same] at h2; cases h2
    rw [upd_ne hb] at h2
    exact ⟨⟨b, vr, rfl, h1, h2, h3, h4, h5, i1⟩, by show a ∉ b :: cellsOf r vr; simp [Ne.symm hb, i2]⟩
end
section
variable {X : Cx} {O : List Nat} {a : Expr} {es : List Expr} {fa : FX} {fb : FB}
theorem db_nil : DB X O [] bNil := PA.imp pa_nil fun σ H Q ⟨F, Pn, G, ρ, d, ρ', S, e, k⟩ => by
  cases e; exact k [] G H S (Same.refl _) rfl
theorem db_cons (ha : DX X O a fa) (hr : DB X O es fb) (hs : starEach (a :: es) X.env = (false, eval a X.env) :: starEach es X.env := by rfl) : DB X O (a :: es) (bCons false fa fb) := by
  refine PA.imp (pa_cons ha hr hs) fun σ H Q ⟨F, Pn, G, ρ, d, ρ', S, e, k⟩ => ?_
  obtain ⟨⟨x, ρ1⟩, e1, e⟩ := bindE e
  obtain ⟨⟨ys, ρ2⟩, e2, e⟩ := mapE e
  cases e
  exact ⟨F, Pn, G, ρ, x, ρ1, S, e1, fun v G1 H1 S1 s1 r1 => ⟨F, Pn, G1, ρ1, ys, _, S1, e2, fun vs G2 H2 S2 s2 r2 => k _ G2 H2 S2 (s1.trans s2) ⟨v, vs, rfl, Rep.mono s2 _ _ r1, r2⟩⟩⟩
theorem db_consF (ha : DF X O a fa) (hr : DB X O es fb) (hs : starEach (a :: es) X.env = (false, eval a X.env) :: starEach es X.env := by rfl) : DB X O (a :: es) (bCons true fa fb) := by
  refine PA.imp (pa_cons ha hr hs) fun σ H Q ⟨F, Pn, G, ρ, d, ρ', S, e, k⟩ => ?_
  obtain ⟨⟨x, ρ1⟩, e1, e⟩ := bindE e
  obtain ⟨⟨ys, ρ2⟩, e2, e⟩ := mapE e
  cases e
  refine ⟨F, Pn, G, ρ, x, ρ1, S, e1, fun c G1 H1 S1 s1 n nf cc hj => ?_⟩
  obtain ⟨o, ho⟩ := cc.some
  refine ⟨upd F c o, Pn, G1, ρ1, ys, _, S1.takeF n ho hj, e2, fun vs G2 H2 S2 s2 r2 => ?_⟩
  obtain ⟨S3, n3, h3, hj3⟩ := S2.delF nf
  obtain ⟨b1, b2⟩ := Bag.delF nf r2
  exact k _ G2 H2 S3 (s1.trans s2) ⟨c, vs, rfl, n3, nf, cc.mono s2 (h3.trans ho.symm), hj3, b2, b1⟩
end
def bagO (O : List Nat) : List (Nat × Bool) → List Nat
  | [] => O
  | (i, true) :: r => bagO (i :: O.filter (· != i)) r
  | (i, false) :: r => bagO (O.filter (· != i)) r
def setD (ρ : Env) : List Nat → List (Bool × D) → Env
  | i :: is, (_, d) :: r => setD (ρ.set i (some d)) is r
  | _, _ => ρ
def setV (σ : St) : List Nat → List V → St
  | i :: is, v :: r => setV (σ.set i (some v)) is r
  | _, _ => σ
theorem bag_set {P : Program} {w : World} {K : PySem.W.Frag} {F G H : Hp} {Pn : List (Nat × Addr)} : ∀ {is : List (Nat × Bool)} {O : List Nat} {ρ : Env} {σ : St} {ds : List (Bool × D)} {vs : List V}, SR P w K F Pn O G ρ σ H → Bag P w K F O ρ σ G H ds vs → is.map (·.2) = ds.map (·.1) → (∀ p ∈ Pn, ∀ i ∈ is, p.1 ≠ i.1) →
    SR P w K F Pn (bagO O is) G (setD ρ (is.map (·.1)) ds) (setV σ (is.map (·.1)) vs) H
  | [], O, ρ, σ, ds, vs, S, b, e, _ => by
    cases ds with
    | nil => cases b; exact S
    | cons _ _ => cases e
  | (i, k) :: is, O, ρ, σ, ds, vs, S, b, e, hp => by
    cases ds with
    | nil => cases e
    | cons q r =>
      obtain ⟨k', d⟩ := q
      simp only [List.map_cons, List.cons.injEq] at e
      obtain ⟨ek, er⟩ := e
      subst ek
      have hpi : ∀ p ∈ Pn, p.1 ≠ i := fun p hq => hp p hq (i, k) (List.mem_cons_self ..)
      have hp' : ∀ p ∈ Pn, ∀ j ∈ is, p.1 ≠ j.1 := fun p hq j hj => hp p hq j (List.mem_cons_of_mem _ hj)
      cases k with
      | false =>
        obtain ⟨v, vr, ev, h1, h2⟩ := b
        subst ev
        have S2 := (S.drop hpi).set (i := i) (by simp) h1
        rw [List.set_set] at S2
        refine bag_set (is := is) S2 ?_ er hp'
        -- the rest of the bag under the new slots
        have key : ∀ {r : List (Bool × D)} {vr : List V}, Bag P w K F O ρ σ G H r vr → Bag P w K F (O.filter (· != i)) (ρ.set i (some d)) (σ.set i (some v)) G H r vr := by
          intro r
          induction r with
          | nil => intro vr h; exact h
          | cons q r ih =>
            intro vr h
            obtain ⟨k, x⟩ := q
            cases k with
            | false => obtain ⟨u, ur, e1, e2, e3⟩ := h; exact ⟨u, ur, e1, e2, ih e3⟩
            | true =>
              obtain ⟨a, ur, e1, e2, e3, e4, e5, e6, e7⟩ := h
              refine ⟨a, ur, e1, e2, e3, e4, fun j hj y ey => ?_, e6, ih e7⟩
              obtain ⟨m1, m2⟩ := List.mem_filter.mp hj
              have hji : j ≠ i := by simpa using m2
              rw [lk_set_ne hji] at ey
              rw [List.getElem?_set_ne (Ne.symm hji)]
              exact e5 j m1 y ey
        exact key h2
      | true =>
        obtain ⟨a, vr, ev, h1, h2, h3, h4, h5, h6⟩ := b
        subst ev
        have S2 := (S.drop hpi).setF (i := i) (by simp) h1 h2 h3 fun j hj' d' ej => by
          obtain ⟨m1, m2⟩ := List.mem_filter.mp hj'
          rw [lk_set_ne (by simpa using m2)] at ej
          exact h4 j m1 d' ej
        rw [List.set_set] at S2
        refine bag_set (is := is) S2 ?_ er hp'
        have key : ∀ {r : List (Bool × D)} {vr : List V}, a ∉ cellsOf r vr → Bag P w K F O ρ σ G H r vr → Bag P w K F (i :: O.filter (· != i)) (ρ.set i (some d)) (σ.set i (some (.ref a))) G H r vr := by
          intro r
          induction r with
          | nil => intro vr _ h; exact h
          | cons q r ih =>
            intro vr hn h
            obtain ⟨k, x⟩ := q
            cases k with
            | false =>
              obtain ⟨u, ur, e1, e2, e3⟩ := h
              subst e1
              exact ⟨u, ur, rfl, e2, ih (by unfold cellsOf at hn; cases u <;> exact hn) e3⟩
            | true =>
              obtain ⟨b, ur, e1, e2, e3, e4, e5, e6, e7⟩ := h
              subst e1
              have hn : a ∉ b :: cellsOf r ur := hn
              simp only [List.mem_cons, not_or] at hn
              refine ⟨b, ur, rfl, e2, e3, e4, fun j hj y ey => ?_, e6, ih hn.2 e7⟩
              by_cases hji : j = i
              · subst hji
                have hl := (lk_set_self ey).2
                rw [List.getElem?_set_self (by rw [← S.len]; exact hl)]
                intro z; cases z; exact hn.1 rfl
              · have m1 := (List.mem_filter.mp ((List.mem_cons.mp hj).resolve_left hji)).1
                rw [lk_set_ne hji] at ey
                rw [List.getElem?_set_ne (Ne.symm hji)]
                exact e5 j m1 y ey
        exact key h5 h6
def fBag (is : List Nat) (f : FB) : FS := fun ρ => (f ρ).map fun p => .nx (setD p.2 is p.1)
def Kinds (ks : List Bool) (f : FB) : Prop := ∀ ρ ds ρ', f ρ = some (ds, ρ') → ds.map (·.1) = ks
theorem kinds_nil : Kinds [] bNil := fun ρ ds ρ' e => by cases e; rfl
theorem kinds_cons {k : Bool} {ks : List Bool} {a : FX} {r : FB} (h : Kinds ks r) : Kinds (k :: ks) (bCons k a r) := fun ρ ds ρ' e => by
  obtain ⟨⟨x, ρ1⟩, e1, e⟩ := bindE e
  obtain ⟨⟨ys, ρ2⟩, e2, e⟩ := mapE e
  cases e
  rw [List.map_cons, h _ _ _ e2]
section
variable {X : Cx} {c : Ct} {O : List Nat} {fb : FB} {st : Stmt}
theorem bag_len {P : Program} {w : World} {K : PySem.W.Frag} {F G H : Hp} {O : List Nat} {ρ : Env} {σ : St} : ∀ {ds : List (Bool × D)} {vs : List V}, Bag P w K F O ρ σ G H ds vs → vs.length = ds.length
  | [], vs, h => by cases h; rfl
  | (false, d) :: r, vs, h => by obtain ⟨v, vr, e, _, h2⟩ := h; subst e; simp [bag_len h2]
  | (true, d) :: r, vs, h => by obtain ⟨v, vr, e, _, _, _, _, _, h2⟩ := h; subst e; simp [bag_len h2]
theorem ds_par {i j : Nat} {k1 k2 : Bool} (h : PS X st (tPar i j (tDb X.prog X.w X.K O fb))) (hk : Kinds [k1, k2] fb) (hi : i ∉ c.io) (hj : j ∉ c.io) : DS X c O (bagO O [(i, k1), (j, k2)]) st (fBag [i, j] fb) := by
  refine PS.imp h fun Dd σ H ⟨F, Pn, G, ρ, fl, hp, S, e, k⟩ => ?_
  obtain ⟨⟨ds, ρ1⟩, e1, e⟩ := mapE e
  cases e
  have hks := hk _ _ _ e1
  refine ⟨F, Pn, G, ρ, ds, ρ1, S, e1, fun vs G1 H1 S1 s1 b => ?_⟩
  have hl : vs.length = 2 := by rw [bag_len b]; have := congrArg List.length hks; simpa using this
  match vs, hl with
  | [v, u], _ =>
    refine ⟨v, u, rfl, k G1 _ H1 (bag_set (is := [(i, k1), (j, k2)]) S1 b hks.symm fun p hp' q hq z => ?_) s1⟩
    simp only [List.mem_cons, List.not_mem_nil, or_false] at hq
    rcases hq with rfl | rfl
    · exact hi ((show p.1 = i from z) ▸ hp p hp')
    · exact hj ((show p.1 = j from z) ▸ hp p hp')
theorem ds_par3 {i j l : Nat} {k1 k2 k3 : Bool} (h : PS X st (tPar3 i j l (tDb X.prog X.w X.K O fb))) (hk : Kinds [k1, k2, k3] fb) (hi : i ∉ c.io) (hj : j ∉ c.io) (hl : l ∉ c.io) : DS X c O (bagO O [(i, k1), (j, k2), (l, k3)]) st (fBag [i, j, l] fb) := by
  refine PS.imp h fun Dd σ H ⟨F, Pn, G, ρ, fl, hp, S, e, k⟩ => ?_
  obtain ⟨⟨ds, ρ1⟩, e1, e⟩ := mapE e
  cases e
  have hks := hk _ _ _ e1
  refine ⟨F, Pn, G, ρ, ds, ρ1, S, e1, fun vs G1 H1 S1 s1 b => ?_⟩
  have hln : vs.length = 3 := by rw [bag_len b]; have := congrArg List.length hks; simpa using this
  match vs, hln with
  | [v, u, t], _ =>
    refine ⟨v, u, t, rfl, k G1 _ H1 (bag_set (is := [(i, k1), (j, k2), (l, k3)]) S1 b hks.symm fun p hp' q hq z => ?_) s1⟩
    simp only [List.mem_cons, List.not_mem_nil, or_false] at hq
    rcases hq with rfl | rfl | rfl
    · exact hi ((show p.1 = i from z) ▸ hp p hp')
    · exact hj ((show p.1 = j from z) ▸ hp p hp')
    · exact hl ((show p.1 = l from z) ▸ hp p hp')
end
theorem Bag.grow {P : Program} {w : World} {K : PySem.W.Frag} {F G H : Hp} {O : List Nat} {ρ : Env} {σ : St} {p : Addr} {o : HO} (hp : H p = none) : ∀ {ds : List (Bool × D)} {vs : List V}, Bag P w K F O ρ σ G H ds vs → Bag P w K F O ρ σ G (upd H p o) ds vs
  | [], vs, h => h
  | (false, d) :: r, vs, h => by obtain ⟨v, vr, e, h1, h2⟩ := h; exact ⟨v, vr, e, h1, Bag.grow hp h2⟩
  | (true, d) :: r, vs, h => by
    obtain ⟨a, vr, e, h1, h2, h3, h4, h5, h6⟩ := h
    obtain ⟨u, hu⟩ := h3.some
    exact ⟨a, vr, e, h1, h2, h3.mono (Same.refl _) (upd_ne (ne_of_none hu hp)), h4, h5, Bag.grow hp h6⟩
section
variable {X : Cx} {c : Ct} {O : List Nat} {fb : FB} {st : Stmt} {is : List (Nat × Bool)}
end
theorem e_globS {X : Cx} {O : List Nat} {x z : Str} {pos : Pos} (hg : Gl X x) (hm : ∃ t, X.mg x = some (.str z t)) (hd : (x == ("__debug__" : Str)) = false := by decide) : DE X O (.Name x pos) (cn (.str z)) := by
  obtain ⟨t, ht⟩ := hm
  refine PE.imp (pe_glob (v := .str z) hg ht ⟨t, rfl⟩ hd) fun σ H Q ⟨F, Pn, G, ρ, d, ρ', S, e, k⟩ => ?_
  cases e
  exact k _ G H S (Same.refl _) rfl
abbrev DK (X : Cx) (O : List Nat) (kws : List Keyword) (f : FL) : Prop := PK X kws (tDa X.prog X.w X.K O f)
theorem PK.imp {X : Cx} {e : List Keyword} {t t' : TA} (h : PK X e t) (k : ∀ σ H Q, t' σ H Q → t σ H Q) : PK X e t' := ⟨fun p pins s σ H Q I q => h.run p pins s σ H Q I (k σ H Q q)⟩
section
variable {X : Cx} {O : List Nat} {a : Expr} {kws : List Keyword} {fa : FX} {fl : FL} {nm : Option Str} {kpos : Pos}
theorem dk_nil : DK X O [] xNil := PK.imp pk_nil fun σ H Q ⟨F, Pn, G, ρ, d, ρ', S, e, k⟩ => by
  cases e; exact k [] G H S (Same.refl _) rfl
theorem dk_cons (ha : DX X O a fa) (hr : DK X O kws fl) : DK X O (⟨nm, a, kpos⟩ :: kws) (xCons fa fl) := by
  refine PK.imp (pk_cons ha hr) fun σ H Q ⟨F, Pn, G, ρ, d, ρ', S, e, k⟩ => ?_
  obtain ⟨⟨x, ρ1⟩, e1, e⟩ := bindE e
  obtain ⟨⟨ys, ρ2⟩, e2, e⟩ := mapE e
  cases e
  exact ⟨F, Pn, G, ρ, x, ρ1, S, e1, fun v G1 H1 S1 s1 r1 => ⟨F, Pn, G1, ρ1, ys, _, S1, e2, fun vs G2 H2 S2 s2 r2 => k _ G2 H2 S2 (s1.trans s2) ⟨v, vs, rfl, Rep.mono s2 _ _ r1, r2⟩⟩⟩
structure Sel (g : {α : Type} → List α → List α) : Prop where
  vals : ∀ {zs : List V} {ws : List Value}, Vals zs ws → Vals (g zs) (g ws)
  reps : ∀ {P : Program} {w : World} {K : PySem.W.Frag} {G : Hp} {ds : List D} {vs : List V}, Reps P w K G ds vs → Reps P w K G (g ds) (g vs)
end
end RF
set_option Elab.async false
set_option linter.all false
set_option maxRecDepth 100000
set_option maxHeartbeats 3200000
namespace RF
open PySem PySem.Spec
def ded1 (l : List Str) (x : Str) : List Str := if x ∈ l then l else l ++ [x]
def ded (l : List Str) : List Str := l.foldl ded1 []
def dedN (val : Nat → Str) (i : Nat) : List Str := ded ((List.range i).map val)
theorem dedN_succ (val : Nat → Str) (i : Nat) : dedN val (i + 1) = ded1 (dedN val i) (val i) := by
  unfold dedN ded; rw [List.range_succ, List.map_append, List.foldl_append]; rfl
theorem dedN_le (val : Nat → Str) : ∀ i, (dedN val i).length ≤ i
  | 0 => Nat.le_refl _
  | i + 1 => by
    rw [dedN_succ]; unfold ded1
    have := dedN_le val i
    split
    · omega
    · rw [List.length_append, List.length_singleton]; omega
section
variable {prog : Program} {w : World} {A : Around} {E : Value → Shared → Prop} {R : Result → Shared → Prop} {I : Addr} {fp wr : List Addr} {G : Array GenState → Array GenState → Prop} {n : Nat} {P : Nat → Value → Prop} {St : Nat → Shared → Prop} {s : Shared}
theorem set_updateS (W : WalksS prog w A.in1 I fp wr G n P St) (S : Addr) (hSf : S ∉ fp) (val : Nat → Str) (hval : ∀ i v, P i v → ∃ t, v = .str (val i) t) (hb : n + 1 < scanBound) :
    ∀ (k i : Nat) (s : Shared), n - i = k → i ≤ n → St i s → s.heap.SetOf (strKind prog w) S (fun k' => decide (k' ∈ dedN val i)) (dedN val i).length →
      (∀ s', Moved (S :: wr) G s s' → s'.heap.SetOf (strKind prog w) S (fun k' => decide (k' ∈ dedN val n)) (dedN val n).length → R (.ok (.ret .none)) s') →
      codeAny (model prog w) A (.builtin "set.update.loop" ⟨[.ref S, .ref I], []⟩) R s := by
  have hSw : S ∉ wr := fun h => hSf (W.sub _ h)
  have hsub : ∀ b ∈ wr, b ∈ S :: wr := fun b hb => List.mem_cons_of_mem _ hb
  intro k
  induction k with
  | zero =>
    intro i s hk hi hst hS hR
    obtain rfl : i = n := by omega
    refine codeAny_builtin PyProof.Rows.F.entry_set_update_loop ?_
    rw [Around.under_plainId PyProof.Rows.F.plain_set_update_loop _]
    show wpAny _ A.in1 (pyNext (.ref I) >>= _) _ _ s
    refine wpAny_bind (W.done s _ _ hst fun s' hm => ?_)
    exact wpAny_pure (hR s' (hm.mono hsub) (by
      obtain ⟨o, es, ep, t, ho, rest⟩ := hS
      exact ⟨o, es, ep, t, hm.heap S _ hSw ho, rest⟩))
  | succ k ih =>
    intro i s hk hi hst hS hR
    have hlt : i < n := by omega
    refine codeAny_builtin PyProof.Rows.F.entry_set_update_loop ?_
    rw [Around.under_plainId PyProof.Rows.F.plain_set_update_loop _]
    show wpAny _ A.in1 (pyNext (.ref I) >>= _) _ _ s
    refine wpAny_bind (W.item i s _ _ hlt hst fun v s' hP hst' hm => ?_)
    obtain ⟨t, rfl⟩ := hval i v hP
    have hS' : s'.heap.SetOf (strKind prog w) S (fun k' => decide (k' ∈ dedN val i)) (dedN val i).length := by
      obtain ⟨o, es, ep, tb, ho, rest⟩ := hS
      exact ⟨o, es, ep, tb, hm.heap S _ hSw ho, rest⟩
    show wpAny _ A.in1 (holding [Value.str (val i) t] (setAdd S (.str (val i) t)) >>= _) _ _ s'
    refine wpAny_bind (wpAny_holding ?_)
    unfold setAdd
    refine wpAny_holding ?_
    refine wpAny_bind ((strKind prog w).pyHash (k := val i) (strKind_is _ _ _ _) ?_)
    have hroom : (dedN val i).length + 1 < scanBound := by have := dedN_le val i; omega
    refine wpAny_setAddHashed_of (knd := strKind prog w) (s := { s' with toks := s'.toks + 1 }) (strKind_is _ _ _ _) rfl hS' hroom fun h' hsb hS2 => ?_
    have hSi : h'.SetOf (strKind prog w) S (fun k' => decide (k' ∈ dedN val (i + 1))) (dedN val (i + 1)).length :=
      PyProof.Rows.SetOf_congr hS2 (fun k' => by
        rw [dedN_succ]; unfold ded1
        by_cases h : val i ∈ dedN val i
        · rw [if_pos h]
          by_cases e : k' = val i
          · subst e; simp [h]
          · simp [e]
        · rw [if_neg h]; simp [List.mem_append, Bool.decide_or]) (by
        rw [dedN_succ]; unfold ded1
        by_cases h : val i ∈ dedN val i
        · simp [h]
        · simp [h])
    refine wpAny_pure ⟨plainId_quiet PyProof.Rows.F.plain_set_update_loop _, ih (i + 1) _ (by omega) hlt (W.frame _ s' _ _ hst' (Nat.le_succ _) fun b hb o e => ?_) hSi fun s'' hm'' hS'' => ?_⟩
    · rw [hsb.2 b (fun h : b = S => hSf (by rw [← h]; exact hb))]; exact e
    · refine hR s'' (Moved.trans W.gtrans ((hm.mono hsub).then_heap (Nat.le_succ _) fun b o hb e => ?_) hm'') hS''
      rw [hsb.2 b (fun h : b = S => hb (by rw [h]; exact List.mem_cons_self))]; exact e
end
theorem strsAre_at : ∀ {vs : List Value} {ns : List Str}, PyProof.Rows.StrsAre vs ns → ∀ (i : Nat) (v : Value), vs[i]? = some v → ∃ t, v = .str (ns.getD i default) t
  | _, _, .nil, i, v, h => by simp at h
  | _, _, .cons n t hr, 0, v, h => by simp at h; exact ⟨t, by rw [← h]; rfl⟩
  | _, _, .cons n t hr, i + 1, v, h => by
    simp only [List.getElem?_cons_succ] at h
    obtain ⟨t', e⟩ := strsAre_at hr i v h
    exact ⟨t', by rw [e]; rfl⟩
section
variable {prog : Program} {w : World} {A : Around} {E : Value → Shared → Prop} {s : Shared}
theorem call_set_strs {l : Addr} {items : Array Value} {ns : List Str} {Q : Value → Shared → Prop} (hh : A.handled = none) (hl : s.heap.IsList l items) (hi : PyProof.Rows.StrsAre items.toList ns) (hb : items.size + 1 < scanBound)
    (h : ∀ (h' : Heap) (tk : Nat), h'.SetOf (strKind prog w) s.heap.objs.size (fun k' => decide (k' ∈ dedN (fun i => ns.getD i default) items.size)) (dedN (fun i => ns.getD i default) items.size).length →
      (∀ b o, b < s.heap.objs.size → s.heap.get? b = some o → h'.get? b = some o) → Q (.ref s.heap.objs.size) { s with heap := h', toks := tk }) :
    wpAny (model prog w) A (call (.type "set") [.ref l]) Q E s := by
  obtain ⟨c, tl, hmro⟩ := PySem.F.called_set.mro
  have hmade := PySem.F.called_set.made
  have hsub := PySem.F.called_set.sub
  refine wpAny_call (codeAny_of_tree ?_)
  show wpAny _ _ (callAny (.type "set") _) _ _ _
  refine wpAny_pure ⟨Code.quiet_builtin _ (by decide +kernel), codeAny_builtin PySem.F.entry_type_call ?_⟩
  rw [Around.under_plain (weight_type_call_type "set" [.ref l] []) rfl]
  have h1 := PySem.F.called_set.notType
  have h2 := PySem.F.called_set.canCreate
  have hct := PySem.F.typeCall_set_1 (.ref l)
  repeat (any_goals (first | assumption | wp_step))
  refine codeAny_mono (code_set_new_1 (.ref l) (E := E) (Q₁ := fun obj s₁ => ∃ led : Bool, obj = .ref s.heap.objs.size ∧ s₁ = { s with heap := s.heap.push { cls := .type "set", dict := none, data := .set #[] 0 (.fresh 0 0 led) } }) fun led => ⟨led, rfl, rfl⟩) fun r s₁ hr => ?_
  cases r with
  | error e => exact hr
  | ok fl =>
    cases fl with
    | ret obj =>
      obtain ⟨led, rfl, rfl⟩ := hr
      have hS : (s.heap.push { cls := .type "set", dict := none, data := .set #[] 0 (.fresh 0 0 led) }).get? s.heap.objs.size = some { cls := .type "set", dict := none, data := .set #[] 0 (.fresh 0 0 led) } := Heap.get?_push_size _ rfl
      have hT : Shared.TypeIs { s with heap := s.heap.push { cls := .type "set", dict := none, data := .set #[] 0 (.fresh 0 0 led) } } (.ref s.heap.objs.size) "set" := ⟨_, hS, rfl⟩
      have hli := PySem.F.called_set.init.lookup
      have hbi := PySem.F.called_set.init.bind (.ref s.heap.objs.size)
      repeat (any_goals (first | assumption | wp_step))
      refine codeAny_mono (codeAny_call_builtin (R := wants (fun r s₂ => r = .none ∧ ∃ h' tk, s₂ = { s with heap := h', toks := tk } ∧
          h'.SetOf (strKind prog w) s.heap.objs.size (fun k' => decide (k' ∈ dedN (fun i => ns.getD i default) items.size)) (dedN (fun i => ns.getD i default) items.size).length ∧
          (∀ b o, b < s.heap.objs.size → s.heap.get? b = some o → h'.get? b = some o)) E) PySem.F.called_set.init.plain PySem.F.entry_set_init (check_set_init_1 hT ?_)) fun r₂ s₂ hr₂ => ?_
      · obtain ⟨ol, hol, hcl, nl, hdl⟩ := hl
        obtain ⟨ocls, odict, odata, oslots⟩ := ol
        simp only at hcl hdl
        subst hcl; subst hdl
        have hol' : (s.heap.push { cls := .type "set", dict := none, data := .set #[] 0 (.fresh 0 0 led) }).get? l = some { cls := .type "list", dict := odict, data := .seq items nl, slots := oslots } := Heap.get?_push_of_some _ hol
        have hsls := PySem.F.sub_list_set
        have hslf := PySem.F.sub_list_frozenset
        have hne : (Value.type "list" == Value.type "dict") = false := by decide
        have hl1 : (s.heap.push { cls := .type "set", dict := none, data := .set #[] 0 (.fresh 0 0 led) }).IsList l items := ⟨_, hol', rfl, nl, rfl⟩
        unfold Builtin.«set.__init__» noKeywords Builtin.Frozenset.updateFrom
        generalize hPI : pyIter = PI
        wp_walk
        subst hPI
        refine wpAny_pyIter_list hl1 ?_
        refine wpAny_bind (wpAny_runValue ?_)
        have hlS : l < s.heap.objs.size := Heap.lt_size hol
        have hh3 : A.in1.in1.in1.handled = none := by simp [hh]
        have hneI : l ≠ (s.heap.push { cls := .type "set", dict := none, data := .set #[] 0 (.fresh 0 0 led) }).objs.size := by
          rw [Heap.size_push]; exact Nat.ne_of_lt (Nat.lt_succ_of_lt hlS)
        have hSf : s.heap.objs.size ∉ [(s.heap.push { cls := .type "set", dict := none, data := .set #[] 0 (.fresh 0 0 led) }).objs.size, l] := by
          rw [Heap.size_push]; simp only [List.mem_cons, List.mem_singleton, List.not_mem_nil, or_false, not_or]
          exact ⟨Nat.ne_of_lt (Nat.lt_succ_self _), Nat.ne_of_gt hlS⟩
        have hval : ∀ (i : Nat) (v : Value), items[i]? = some v → ∃ t, v = .str ((fun i => ns.getD i default) i) t := fun i v hv =>
          strsAre_at hi i v (by rw [Array.getElem?_toList]; exact hv)
        refine set_updateS ((Walks.list hh3 _ l hneI items).toS) s.heap.objs.size
          hSf (fun i => ns.getD i default) hval hb (items.size - 0) 0 _ (by omega) (Nat.zero_le _)
          ⟨⟨_, Heap.get?_push_size _ rfl, rfl, rfl⟩, (hl1.push _)⟩ ?hS0 ?hR
        case hS0 =>
          have hget : ((s.heap.push { cls := .type "set", dict := none, data := .set #[] 0 (.fresh 0 0 led) }).push { cls := .type "list_iterator", data := .fields #[.ref l, .int 0 0] }).get? s.heap.objs.size
              = some { cls := .type "set", dict := none, data := .set #[] 0 (.fresh 0 0 led) } := Heap.get?_push_of_some _ hS
          exact PyProof.Rows.SetOf_congr ((PyProof.Rows.setObjOf_fresh (knd := strKind prog w) led).setOf hget (by unfold scanBound; omega)) (fun _ => by rfl) rfl
        case hR =>
          intro s' hm hS'
          obtain ⟨h', g', d', tk', os'⟩ := s'
          have eg : g' = s.gens := hm.gens
          have ed : d' = s.drawn := hm.drawn
          have eo : os' = s.os := hm.os
          subst eg; subst ed; subst eo
          show wpAny _ _ _ _ _ _
          refine wpAny_pure ?_
          show wpAny _ _ (ret Value.none) _ _ _
          refine wpAny_pure ⟨rfl, h', tk', rfl, hS', fun b o hb e => ?_⟩
          have hb1 : b ≠ s.heap.objs.size := Nat.ne_of_lt hb
          have hb2 : b ≠ (s.heap.push { cls := .type "set", dict := none, data := .set #[] 0 (.fresh 0 0 led) }).objs.size := by
            rw [Heap.size_push]; exact Nat.ne_of_lt (Nat.lt_succ_of_lt hb)
          exact hm.heap b o (by simp only [List.mem_cons, List.mem_singleton, List.not_mem_nil, or_false, not_or]; exact ⟨hb1, hb2⟩) (Heap.get?_push_of_some _ (Heap.get?_push_of_some _ e))
      · cases r₂ with
        | error e => exact hr₂
        | ok fl₂ =>
          cases fl₂ with
          | ret r =>
            obtain ⟨rfl, h', tk, rfl, hS', hk'⟩ := hr₂
            repeat (any_goals (first | assumption | wp_step))
            exact h _ _ hS' hk'
          | _ => exact hr₂.elim
    | _ => exact hr.elim
end
section
open L2
open PyProof.Rows hiding St
def asStrs : List D → Option (List Str)
  | [] => some []
  | .str x :: r => (asStrs r).map (x :: ·)
  | _ => none
def lenSet : D → Option D
  | .lst l => (asStrs l).bind fun xs => if xs.length + 1 < 4000 then some (.int (dedN (fun i => xs.getD i default) xs.length).length) else none
  | _ => none
theorem asStrs_vals {P : Program} {w : World} {K : PySem.W.Frag} {G : Hp} : ∀ {l : List D} {xs : List Str} {vs : List V} {us : List Value}, asStrs l = some xs → Reps P w K G l vs → Vals vs us → PyProof.Rows.StrsAre us xs ∧ l.length = xs.length
  | [], xs, vs, us, h, r, v => by cases h; cases r; cases v; exact ⟨.nil, rfl⟩
  | d :: l, xs, vs, us, h, r, v => by
    obtain ⟨x, xr, e, r1, r2⟩ := r
    subst e
    cases v with
    | cons v1 v2 =>
      cases d <;> first | (cases h; done) | skip
      obtain ⟨ys, h1, h2⟩ := mapE (show (asStrs l).map _ = some xs from h)
      subst h2
      obtain ⟨i1, i2⟩ := asStrs_vals h1 r2 v2
      have r1 : x = .str _ := r1
      subst r1
      obtain ⟨t, rfl⟩ := v1
      exact ⟨.cons _ t i1, by simp [i2]⟩
variable {X : Cx} {O : List Nat} {a : Expr} {fa : FX}
theorem x_lenSet {p p2 q pos : Pos} (hc : X.calm = true) (hg : Gl X "len") (hm : X.mg "len" = none) (hg2 : Gl X "set") (hm2 : X.mg "set" = none) (ha : DX X O a fa)
    (na : starEach [a] X.env = (false, eval a X.env) :: starEach [] X.env := by rfl) : DX X O (.Call (.Name "len" p) [.Call (.Name "set" p2) [a] [] q] [] pos) (o1 lenSet fa) := by
  refine ⟨fun pins s σ H Q I ⟨F, Pn, G, ρ, d, ρ', S, e, k⟩ => ?_⟩
  obtain ⟨⟨x, ρ1⟩, e1, e⟩ := bindE e
  obtain ⟨z, e2, e⟩ := mapE e
  cases e
  refine Call_ (ld_blt I hg hm boot_len ?_)
  refine PyProof.Rows.callWith_builtin1 (PyProof.Rows.args_cons ?_ rfl) rfl rfl
  refine Call_ (ld_blt I hg2 hm2 boot_set ?_)
  refine PyProof.Rows.callWith_type1 (PyProof.Rows.args_cons (thn (ha.run pins s σ H (fun v H1 => ∃ G1, SR X.prog X.w X.K F Pn O G1 ρ1 σ H1 ∧ Same G G1 ∧ Rep X.prog X.w X.K G1 x v) I ⟨F, Pn, G, ρ, x, ρ1, S, e1, fun v G1 H1 S1 s1 r1 => ⟨G1, S1, s1, r1⟩⟩) fun v s1 ⟨y, H1, I1, r1, G1, S1, g1, q1⟩ => PyProof.Rows.args_nil ?_) na) na rfl
  cases x with
  | lst l =>
    obtain ⟨xs, e3, e4⟩ := bindE (show (asStrs l).bind _ = some _ from e2)
    obtain ⟨hb, e4⟩ := ifE e4
    subst e4
    obtain ⟨b, vs, ev, q2, q3⟩ := q1
    subst ev
    cases r1
    obtain ⟨its, rv, pl, hz⟩ := I1.list (.inl (Rd.of (S1.sub _ _ q2)))
    obtain ⟨sa, hl⟩ := asStrs_vals e3 q3 rv
    have hsz : its.toArray.size = xs.length := by rw [List.size_toArray, ← rv.length, q3.length, hl]
    refine call_set_strs (I1.ok.hd hc) pl.isList (by simpa using sa) (by rw [hsz]; unfold scanBound; omega) fun h' tk hS hk => ?_
    refine PyProof.Rows.args_nil ?_
    rw [hsz] at hS
    obtain ⟨o, es, ep, t, ho, hex, hd, _, _, _, hf, hn⟩ := hS
    have hle := dedN_le (fun i => xs.getD i default) xs.length
    have I2 : L2.Inv X pins σ H1 { s1 with heap := h', toks := tk } := I1.kept fun b o e => hk b o (Heap.lt_size e) e
    exact call_len_set ho hex hd hf (by rw [hn]; omega) ⟨.int _, H1, I2.tok _, ⟨_, by rw [hn]⟩, k _ G1 H1 S1 g1 rfl⟩
  | _ => cases e2
theorem e_lenSet {p p2 q pos : Pos} {ea : FE} (hc : X.calm = true) (hg : Gl X "len") (hm : X.mg "len" = none) (hg2 : Gl X "set") (hm2 : X.mg "set" = none) (ha : DE X O a ea)
    (na : starEach [a] X.env = (false, eval a X.env) :: starEach [] X.env := by rfl) : DE X O (.Call (.Name "len" p) [.Call (.Name "set" p2) [a] [] q] [] pos) (e1 lenSet ea) := (x_lenSet hc hg hm hg2 hm2 ha na).congr (o1_up lenSet ea)
end
end RF
set_option Elab.async false
set_option linter.all false
set_option maxRecDepth 100000
set_option maxHeartbeats 2000000
namespace RF
open PySem PySem.Spec L2
open PyProof.Rows hiding St
structure Bl (mg : Str → Option Value) : Prop where
  isinstance : mg "isinstance" = none
  int : mg "int" = none
  bool : mg "bool" = none
  str : mg "str" = none
  list : mg "list" = none
  tuple : mg "tuple" = none
  dict : mg "dict" = none
  set : mg "set" = none
  len : mg "len" = none
  range : mg "range" = none
  enumerate : mg "enumerate" = none
  zip : mg "zip" = none
  sum : mg "sum" = none
  max : mg "max" = none
  min : mg "min" = none
  sorted : mg "sorted" = none
section
variable {X : Cx} {O : List Nat}
theorem vv (i : Nat) {x : Str} {pos : Pos} (hN : X.N[i]? = some x := by rfl) (hv : Vis X.env.scope x := by first | exact Or.inl rfl | exact Or.inr (Or.inl rfl) | exact Or.inr (Or.inr rfl)) (hO : i ∉ O := by decide)
    (hd : (x == ("__debug__" : Str)) = false := by decide) (hcd : (x == ("__classdict__" : Str)) = false := by decide) : DE X O (.Name x pos) (vr i) := dx_var hN hv hO hd hcd
theorem gn (i : Nat) {x : Str} {pos : Pos} (hN : X.N.Nodup) (hi : X.N[i]? = some x := by rfl) (hx : Loc X.env.scope x := by first | exact Or.inl rfl | exact Or.inr rfl) (hO : i ∉ O := by decide) (hf : X.fn x = true ∨ X.env.scope.names.lookup x = some .local := by first | exact .inl rfl | exact .inr rfl) : DG X O [i] (.Name x pos) (gNm i) := dg_name hN hi hx hO hf
variable {elt tg iter : Expr} {ifs : List Expr} {scope : Scope} {pos : Pos} {wf : FL} {g : D → Env → Option Env} {t : FTx} {e : FX} {is : List Nat}
theorem f_lc (own : List (Str × Nat)) (hc : X.calm = true) (hN : X.N.Nodup) (hi : DI X O tg iter wf) (ok : BlkOk X.N X.env.scope scope own)
    (hg : ∀ (s : Shared) (H : Hp) (C : Addr) (cl : List (Str × Addr)) (fp : List Addr), DG (X.blk s H scope (compEnvC scope cl C X.env) fp) O is tg g) (ht : ∀ (s : Shared) (H : Hp) (C : Addr) (cl : List (Str × Addr)) (fp : List Addr), DTs (X.blk s H scope (compEnvC scope cl C X.env) fp) O ifs t)
    (he : ∀ (s : Shared) (H : Hp) (C : Addr) (cl : List (Str × Addr)) (fp : List Addr), DX (X.blk s H scope (compEnvC scope cl C X.env) fp) O elt e) (h1 : ∀ i ∈ is, i ∈ own.map (·.2) := by decide) (h2 : ∀ v ∈ own.map (·.2), v ∉ O := by decide) (hs : ∀ x, foldedSetIterable iter X.env x = pure x := by intro _; rfl) :
    DF X O (.ListComp elt [⟨tg, iter, ifs, 0⟩] scope pos) (xLc (own.map (·.2)) wf g t e) := PE.imp (pe_lc hc hN hi ok hg ht he hs) fun _ _ _ q => tLc_of h1 h2 q
theorem s_lc {i : Nat} {y : Str} {py spos : Pos} (own : List (Str × Nat)) (hc : X.calm = true) (hN : X.N.Nodup) (hy : X.N[i]? = some y) (hyl : X.env.scope.names.lookup y = some .local) (hsw : swapsWith (.ListComp elt [⟨tg, iter, ifs, 0⟩] scope pos) (some (.Name y py)) spos.line X.env = pure true) (hi : DI X O tg iter wf) (ok : BlkOk X.N X.env.scope scope own)
    (hg : ∀ (s : Shared) (H : Hp) (C : Addr) (cl : List (Str × Addr)) (fp : List Addr), DG (X.blk s H scope (compEnvC scope cl C X.env) fp) O is tg g) (ht : ∀ (s : Shared) (H : Hp) (C : Addr) (cl : List (Str × Addr)) (fp : List Addr), DTs (X.blk s H scope (compEnvC scope cl C X.env) fp) O ifs t)
    (he : ∀ (s : Shared) (H : Hp) (C : Addr) (cl : List (Str × Addr)) (fp : List Addr), DX (X.blk s H scope (compEnvC scope cl C X.env) fp) O elt e) (h1 : ∀ i ∈ is, i ∈ own.map (·.2) := by decide) (h2 : ∀ v ∈ own.map (·.2), v ∉ O := by decide) (hs : ∀ x, foldedSetIterable iter X.env x = pure x := by intro _; rfl) :
    PS X (.Assign [.Name y py] (.ListComp elt [⟨tg, iter, ifs, 0⟩] scope pos) spos) (tAsg (tDf X.prog X.w X.K O (xLc (own.map (·.2)) wf g t e)) (gName i)) := PS.imp (ps_setLc hc hN hy hyl hsw hi ok hg ht he hs) fun _ _ _ q => tLc_of h1 h2 q
variable {tg1 iter1 : Expr} {ifs1 : List Expr} {wf1 : FL} {g1 : D → Env → Option Env} {t1 : FTx} {is1 : List Nat}
theorem f_lc2 (own : List (Str × Nat)) (vs1 : List Nat) (hc : X.calm = true) (hN : X.N.Nodup) (hi : DI X O tg iter wf) (ok : BlkOk X.N X.env.scope scope own)
    (hg : ∀ (s : Shared) (H : Hp) (C : Addr) (cl : List (Str × Addr)) (fp : List Addr), DG (X.blk s H scope (compEnvC scope cl C X.env) fp) O is tg g) (ht : ∀ (s : Shared) (H : Hp) (C : Addr) (cl : List (Str × Addr)) (fp : List Addr), DTs (X.blk s H scope (compEnvC scope cl C X.env) fp) O ifs t)
    (hi1 : ∀ (s : Shared) (H : Hp) (C : Addr) (cl : List (Str × Addr)) (fp : List Addr), DI (X.blk s H scope (compEnvC scope cl C X.env) fp) O tg1 iter1 wf1)
    (hg1 : ∀ (s : Shared) (H : Hp) (C : Addr) (cl : List (Str × Addr)) (fp : List Addr), DG (X.blk s H scope (compEnvC scope cl C X.env) fp) O is1 tg1 g1) (ht1 : ∀ (s : Shared) (H : Hp) (C : Addr) (cl : List (Str × Addr)) (fp : List Addr), DTs (X.blk s H scope (compEnvC scope cl C X.env) fp) O ifs1 t1)
    (he : ∀ (s : Shared) (H : Hp) (C : Addr) (cl : List (Str × Addr)) (fp : List Addr), DX (X.blk s H scope (compEnvC scope cl C X.env) fp) O elt e) (h1 : ∀ i ∈ is, i ∈ own.map (·.2) := by decide) (h2 : ∀ v ∈ own.map (·.2), v ∉ O := by decide) (h3 : ∀ i ∈ is1, i ∈ vs1 := by decide) (h4 : ∀ v ∈ vs1, v ∈ own.map (·.2) := by decide)
    (hs : ∀ x, foldedSetIterable iter X.env x = pure x := by intro _; rfl) (hs1 : ∀ env x, foldedSetIterable iter1 env x = pure x := by intro _ _; rfl) :
    DF X O (.ListComp elt [⟨tg, iter, ifs, 0⟩, ⟨tg1, iter1, ifs1, 0⟩] scope pos) (xLc2 (own.map (·.2)) vs1 wf g t wf1 g1 t1 e) := PE.imp (pe_lc2 hc hN hi ok h4 hg ht hi1 hg1 ht1 he hs hs1) fun _ _ _ q => tLc2_of h1 h2 h3 h4 q
theorem ds_setX {c : Ct} {i : Nat} {y : Str} {py spos : Pos} {fx : FX} (he : DX X O elt fx) (hN : X.N.Nodup) (hi : X.N[i]? = some y := by rfl) (hx : Loc X.env.scope y := by first | exact Or.inl rfl | exact Or.inr rfl) (hio : i ∉ c.io := by decide)
    (hs : swapsWith elt (some (.Name y py)) spos.line X.env = pure false := by rfl) (hf : X.fn y = true ∨ X.env.scope.names.lookup y = some .local := by first | exact .inl rfl | exact .inr rfl) :
    DS X c O (O.filter (· != i)) (.Assign [.Name y py] elt spos) (fSet i fx) := ds_set (ps_set hN hi hx he hs hf) hio
theorem ds_setFX {c : Ct} {i : Nat} {y : Str} {py spos : Pos} {fx : FX} (he : DF X O elt fx) (hN : X.N.Nodup) (hi : X.N[i]? = some y := by rfl) (hx : Loc X.env.scope y := by first | exact Or.inl rfl | exact Or.inr rfl) (hio : i ∉ c.io := by decide)
    (hs : swapsWith elt (some (.Name y py)) spos.line X.env = pure false := by rfl) (hf : X.fn y = true ∨ X.env.scope.names.lookup y = some .local := by first | exact .inl rfl | exact .inr rfl) :
    DS X c O (i :: O.filter (· != i)) (.Assign [.Name y py] elt spos) (fSet i fx) := ds_setF (ps_set hN hi hx he hs hf) hio
end
end RF
set_option Elab.async false
set_option linter.all false
set_option maxRecDepth 100000
set_option maxHeartbeats 2000000
namespace RF
open PySem PySem.Spec L2
open PyProof.Rows hiding St
def asB : D → Option Bool
  | .bl b => some b
  | _ => none
def xB (f : FX) : FTx := fun ρ => (f ρ).bind fun p => (asB p.1).map fun b => (b, p.2)
def eB (f : FE) : FT := fun ρ => (f ρ).bind asB
theorem xB_up (f : FE) : xB (up f) = up (eB f) := by
  funext ρ; show ((f ρ).map _).bind _ = ((f ρ).bind _).map _
  cases f ρ <;> rfl
section
variable {X : Cx} {O : List Nat} {a b c : Expr} {fa fb fc : FX} {ea eb ec : FE} {pos : Pos}
theorem xt_tst {e : Expr} {t : TE} {f : FX} (h : PT X e (tTest t)) (k : ∀ σ H Q, tD X.prog X.w X.K O f σ H Q → t σ H Q) : DTx X O e (xB f) := by
  refine PT.imp h fun σ H Q ⟨F, Pn, G, ρ, d, ρ', S, e, q⟩ => k σ H _ ?_
  obtain ⟨⟨x, ρ1⟩, e1, e⟩ := bindE e
  obtain ⟨z, e2, e⟩ := mapE e
  cases e
  refine ⟨F, Pn, G, ρ, x, _, S, e1, fun v G1 H1 S1 s1 r1 => ?_⟩
  cases x <;> first | (cases e2; done) | skip
  cases e2
  exact ⟨_, r1, q G1 H1 S1 s1⟩
theorem cmp_imp {f : D → D → Option D} (σ : St) (H : Hp) (Q : VK) (h : tD X.prog X.w X.K O (o2 f fa fb) σ H Q) : tOp (RO X f) (tD X.prog X.w X.K O fa) (tD X.prog X.w X.K O fb) σ H Q := by
  obtain ⟨F, Pn, G, ρ, d, ρ', S, e, k⟩ := h
  obtain ⟨⟨x, ρ1⟩, e1, e⟩ := bindE e
  obtain ⟨⟨y, ρ2⟩, e2, e⟩ := bindE e
  obtain ⟨z, e3, e⟩ := mapE e
  cases e
  exact ⟨F, Pn, G, ρ, x, ρ1, S, e1, fun v G1 H1 S1 s1 r1 => ⟨F, Pn, G1, ρ1, y, _, S1, e2, fun u G2 H2 S2 s2 r2 => ⟨G2, x, y, _, S2.sub, Rep.mono s2 _ _ r1, r2, e3, fun v' G' H' g r => k v' G' H' (S2.grow g) (s1.trans (s2.trans g.g)) r⟩⟩⟩
theorem xt_cmp {op : CmpOp} {f : D → D → Option D} (ho : OpR X (compareOp op) (RO X f)) (ha : DX X O a fa) (hb : DX X O b fb) (hm : behindInMarks op b = false := by first | exact nomark _ | rfl) : DTx X O (.Compare a [op] [b] pos) (xB (o2 f fa fb)) :=
  xt_tst (pt_cmpR ho ha hb hm) cmp_imp
theorem et_cmp {op : CmpOp} {f : D → D → Option D} (ho : OpR X (compareOp op) (RO X f)) (ha : DE X O a ea) (hb : DE X O b eb) (hm : behindInMarks op b = false := by first | exact nomark _ | rfl) : DT X O (.Compare a [op] [b] pos) (eB (e2 f ea eb)) :=
  (xt_cmp ho ha hb hm).congr (by rw [o2_up, xB_up])
theorem chain_imp {f g : D → D → Option D} (σ : St) (H : Hp) (Q : VK) (h : tD X.prog X.w X.K O (xChain f g fa fb fc) σ H Q) : tChain (RO X f) (RO X g) (tD X.prog X.w X.K O fa) (tD X.prog X.w X.K O fb) (tD X.prog X.w X.K O fc) σ H Q := by
  obtain ⟨F, Pn, G, ρ, d, ρ', S, e, k⟩ := h
  obtain ⟨⟨x, ρ1⟩, e1, e⟩ := bindE e
  obtain ⟨⟨y, ρ2⟩, e2, e⟩ := bindE e
  obtain ⟨z, e3, e⟩ := bindE e
  refine ⟨F, Pn, G, ρ, x, ρ1, S, e1, fun v G1 H1 S1 s1 r1 => ⟨F, Pn, G1, ρ1, y, ρ2, S1, e2, fun u G2 H2 S2 s2 r2 => ⟨G2, x, y, z, S2.sub, Rep.mono s2 _ _ r1, r2, e3, fun v' G3 H3 g3 r3 => ?_⟩⟩⟩
  have S3 := S2.grow g3
  cases z with
  | bl t =>
    refine ⟨t, r3, ?_⟩
    cases t with
    | true =>
      obtain ⟨⟨w, ρ3⟩, e4, e⟩ := bindE e
      obtain ⟨y', e5, e⟩ := mapE e
      cases e
      rw [if_pos rfl]
      exact ⟨F, Pn, G3, ρ2, w, ρ3, S3, e4, fun u' G4 H4 S4 s4 r4 => ⟨G4, y, w, _, S4.sub, Rep.mono (g3.g.trans s4) _ _ r2, r4, e5, fun v5 G5 H5 g5 r5 => k v5 G5 H5 (S4.grow g5) (s1.trans (s2.trans (g3.g.trans (s4.trans g5.g)))) r5⟩⟩
    | false =>
      cases e
      rw [if_neg Bool.false_ne_true]
      exact k _ G3 H3 S3 (s1.trans (s2.trans g3.g)) rfl
  | _ => cases e
theorem xt_chain {op op' : CmpOp} {f g : D → D → Option D} (ho : OpR X (compareOp op) (RO X f)) (ho' : OpR X (compareOp op') (RO X g)) (ha : DX X O a fa) (hb : DX X O b fb) (hc : DX X O c fc) (hm : lastMarks [op, op'] [b, c] = false := by with_unfolding_all rfl) :
    DTx X O (.Compare a [op, op'] [b, c] pos) (xB (xChain f g fa fb fc)) := by
  refine xt_tst ?_ chain_imp
  exact pt_chain ho ho' ha hb hc hm
theorem et_chain {op op' : CmpOp} {f g : D → D → Option D} (ho : OpR X (compareOp op) (RO X f)) (ho' : OpR X (compareOp op') (RO X g)) (ha : DE X O a ea) (hb : DE X O b eb) (hc : DE X O c ec) (hm : lastMarks [op, op'] [b, c] = false := by with_unfolding_all rfl) :
    DT X O (.Compare a [op, op'] [b, c] pos) (eB (eChain f g ea eb ec)) := (xt_chain ho ho' ha hb hc hm).congr (by rw [xChain_up, xB_up])
end
end RF
set_option Elab.async false
set_option linter.all false
set_option maxRecDepth 100000
set_option maxHeartbeats 2000000
namespace RF
open PySem PySem.Spec L2
open PyProof.Rows hiding St
theorem cut_mem : ∀ (l O : List Nat) (j : Nat), j ∈ cut O l ↔ j ∈ O ∧ j ∉ l := by
  intro l O
  induction l with
  | nil => intro j; simp [cut]
  | cons i l ih => intro j; simp only [cut, List.mem_filter, ih, List.mem_cons, bne_iff_ne, ne_eq, not_or]; constructor <;> (intro z; simp_all)
section
variable {P : Program} {w : World} {K : PySem.W.Frag} {F G H : Hp} {Pn : List (Nat × Addr)} {O O2 : List Nat} {ρ : Env} {σ : St}
theorem SR.perm (S : SR P w K F Pn O G ρ σ H) (h : ∀ j, j ∈ O ↔ j ∈ O2) : SR P w K F Pn O2 G ρ σ H where
  sub := S.sub
  frm := S.frm
  len := S.len
  val := fun i d e hi => S.val i d e fun z => hi ((h i).mp z)
  own := fun i hi d e => by
    obtain ⟨a, h1, h2, h3, h4, h5⟩ := S.own i ((h i).mpr hi) d e
    exact ⟨a, h1, h2, h3, h4, fun j hj => h5 j ((h j).mpr hj)⟩
  pin := fun p hp => ⟨(h _).mp (S.pin p hp).1, (S.pin p hp).2⟩
theorem SR.to (S : SR P w K F Pn O G ρ σ H) (h2 : ∀ j ∈ O2, j ∈ O) (hp : ∀ p ∈ Pn, p.1 ∈ O2) : ∃ G', SR P w K F Pn O2 G' ρ σ H ∧ Same G G' := by
  obtain ⟨G', S', s⟩ := S.frz (O.filter fun j => decide (j ∉ O2)) fun p hpp z => by
    have := (List.mem_filter.mp z).2
    simp only [decide_eq_true_eq] at this
    exact this (hp p hpp)
  refine ⟨G', S'.perm fun j => ?_, s⟩
  rw [cut_mem, List.mem_filter]
  simp only [decide_eq_true_eq, not_and, Decidable.not_not]
  exact ⟨fun ⟨a, b⟩ => b a, fun z => ⟨h2 j z, fun _ => z⟩⟩
end
section
variable {X : Cx} {c : Ct} {O O1 O' : List Nat} {sts : List Stmt} {f : FS} {pos : Pos}
theorem dss_from (O1 : List Nat) (h : DSs X c O1 O' sts f) (h2 : ∀ j ∈ O1, j ∈ O := by decide) (hio : ∀ i ∈ c.io, i ∈ O1 := by decide) : DSs X c O O' sts f := PSs.imp h fun D σ H ⟨F, Pn, G, ρ, fl, hp, S, e, k⟩ => by
  obtain ⟨G1, S1, s1⟩ := S.to h2 fun p hp' => hio _ (hp p hp')
  exact ⟨F, Pn, G1, ρ, fl, hp, S1, e, k.mono s1⟩
theorem ds_break' (h2 : ∀ j ∈ c.ob, j ∈ O := by decide) (hio : ∀ i ∈ c.io, i ∈ c.ob := by decide) : DS X c O O' (.Break pos) fBk := PS.imp ps_break fun D σ H ⟨F, Pn, G, ρ, fl, hp, S, e, k⟩ => by
  cases e
  obtain ⟨G2, S2, s2⟩ := S.to h2 fun p hp' => hio _ (hp p hp')
  exact k G2 σ H S2 s2
end
def D.is2 : D → D → Option D := fun a b => if b.isNone then a.isN else none
def D.isnt2 : D → D → Option D := fun a b => if b.isNone then a.notN else none
theorem op_is2 {X : Cx} : OpR X (compareOp .Is) (RO X D.is2) := op_isNX
theorem op_isnt2 {X : Cx} : OpR X (compareOp .IsNot) (RO X D.isnt2) := op_notNX
end RF
set_option Elab.async false
set_option linter.all false
set_option maxRecDepth 100000
set_option maxHeartbeats 2000000
namespace RF
open PySem PySem.Spec L2
open PyProof.Rows hiding St
section
variable {X : Cx} {O : List Nat} {kws : List Keyword} {fl : FL} {k j : Nat} {ks : List Str} {Fn : List D → Option D} {x : Str} {p pos : Pos} {g : {α : Type} → List α → List α}
end
def selI (is : List Nat) (n : Nat) {α : Type} (l : List α) : List α := if l.length = n then is.filterMap fun i => l[i]? else []
theorem selI_vals {is : List Nat} {n : Nat} {zs : List V} {ws : List Value} (h : Vals zs ws) : Vals (selI is n zs) (selI is n ws) := by
  unfold selI
  rw [h.length]
  split
  · induction is with
    | nil => exact .nil
    | cons i is ih =>
      rw [List.filterMap_cons, List.filterMap_cons]
      cases e : zs[i]? with
      | none =>
        rw [h.none_of e]
        exact ih
      | some x =>
        obtain ⟨u, e1, r⟩ := h.get e
        rw [e1]
        exact .cons r ih
  · exact .nil
theorem selI_reps {is : List Nat} {n : Nat} {P : Program} {w : World} {K : PySem.W.Frag} {G : Hp} {ds : List D} {vs : List V} (h : Reps P w K G ds vs) : Reps P w K G (selI is n ds) (selI is n vs) := by
  unfold selI
  rw [h.length]
  split
  · induction is with
    | nil => rfl
    | cons i is ih =>
      rw [List.filterMap_cons, List.filterMap_cons]
      cases e : ds[i]? with
      | none =>
        have e1 : vs[i]? = none := List.getElem?_eq_none (by have := List.getElem?_eq_none_iff.mp e; rw [h.length]; exact this)
        rw [e1]
        exact ih
      | some x =>
        obtain ⟨u, e1, r⟩ := h.get e
        rw [e1]
        exact ⟨u, _, rfl, r, ih⟩
  · rfl
theorem selI_len {is : List Nat} {n m : Nat} {Fn : List D → Option D} (hl : ∀ ds d, Fn ds = some d → ds.length = m) (hm : 0 < m) (ds : List D) (z : D) (h : Fn (selI is n ds) = some z) : (selI is n ds).length = m ∧ ds.length = n := by
  have h1 := hl _ _ h
  refine ⟨h1, ?_⟩
  unfold selI at h1
  split at h1
  · assumption
  · simp at h1; omega
end RF
set_option Elab.async false
set_option linter.all false
set_option maxRecDepth 100000
namespace RF
open PySem PySem.Spec L2
open PyProof.Rows hiding St
theorem sp_law {P : Program} {w : World} {K : PySem.W.Frag} {H : Hp} {a : Addr} {ns : List Int} {Fn : List D → Option D} (hS : SqL K H a (ns.map V.int)) (h : Fn [.scr ns] = some (.bl true)) : sp0 P w K false 1 Fn [.ref a] H (fun v _ => v = .bl true) (fun _ _ _ => False) :=
  ⟨rfl, fun _ => none, H, [.scr ns], .bl true, Same.refl _, (fun b o e => nomatch e), ⟨.ref a, [], rfl, ⟨a, rfl, hS⟩, rfl⟩, h, fun G' H' v _ _ _ o => o⟩
end RF
set_option Elab.async false
set_option linter.all false
set_option maxRecDepth 100000
set_option maxHeartbeats 4000000
namespace RF
open PySem PySem.Spec L2
open PyProof.Rows hiding St
section
variable {ρ ρ1 ρ2 : Env} {a b : FE} {x y z : D} {l : List D}
theorem up_of {α : Type} {f : Env → Option α} {x : α} (h : f ρ = some x) : up f ρ = some (x, ρ) := by unfold up; rw [h]; rfl
theorem cn_of (d : D) (ρ : Env) : cn d ρ = some d := rfl
theorem e1_of {op : D → Option D} (h : a ρ = some x) (h1 : op x = some y) : RF.e1 op a ρ = some y := by unfold RF.e1; rw [h]; exact h1
theorem e2_of {op : D → D → Option D} (h : a ρ = some x) (h1 : b ρ = some y) (h2 : op x y = some z) : RF.e2 op a b ρ = some z := by unfold RF.e2; rw [h, Option.bind_some, h1]; exact h2
theorem fSeq_nx {f g : FS} {fl : Fl} (h : f ρ = some (.nx ρ1)) (h1 : g ρ1 = some fl) : fSeq f g ρ = some fl := by unfold fSeq; rw [h]; exact h1
theorem fSet_of {i : Nat} {f : FX} (h : f ρ = some (x, ρ1)) : fSet i f ρ = some (.nx (ρ1.set i (some x))) := by unfold fSet; rw [h]; rfl
theorem fRt_of {f : FX} (h : f ρ = some (x, ρ1)) : fRt f ρ = some (.rt x ρ1) := by unfold fRt; rw [h]; rfl
theorem fFor_of {wf : FL} {g : D → Env → Option Env} {fb : FS} {fl : Fl} (h : wf ρ = some (l, ρ1)) (h1 : forGo g fb l ρ1 = some fl) : fFor wf g fb ρ = some fl := by unfold fFor; rw [h]; exact h1
theorem eNil_of (ρ : Env) : eNil ρ = some [] := rfl
theorem eCons_of {r : FEL} (h : a ρ = some x) (h1 : r ρ = some l) : eCons a r ρ = some (x :: l) := by unfold eCons; rw [h, Option.bind_some, h1]; rfl
theorem eLs_of {op : List D → Option (List D)} {f : FEL} {d : List D} (h : f ρ = some d) (h1 : op d = some l) : eLs op f ρ = some l := by unfold eLs; rw [h]; exact h1
end
theorem mulOk {a b : Int} (h : small64 a = true ∨ small64 b = true) : D.mul (.int a) (.int b) = some (.int (a * b)) := by
  show (if small64 a || small64 b then some (D.int (a * b)) else none) = _
  rw [if_pos (by rcases h with h | h <;> simp [h])]
theorem modOk {a b : Int} (h : 0 < b) : D.mod (.int a) (.int b) = some (.int (a % b)) := by
  show (if 0 < b then some (D.int (a % b)) else none) = _
  rw [if_pos h]
theorem small_of {a : Int} (h1 : 0 ≤ a) (h2 : a < 2 ^ 64) : small64 a = true := by
  unfold small64; simp; constructor <;> omega
theorem flI (i : Int) : (D.int i).flat = true := rfl
theorem rng1_ok {j : Int} (h1 : 0 ≤ j) (h2 : j < 1000000000) : rng1 [.int j] = some ((List.range j.toNat).map fun (i : Nat) => .int (0 + i)) := by
  show (if decide (-(2 ^ 62) ≤ j) && decide (j < 2 ^ 62) then some _ else none) = _
  have a1 : -(2 ^ 62) ≤ j := by omega
  have a2 : j < 2 ^ 62 := by omega
  rw [decide_eq_true a1, decide_eq_true a2]; rfl
theorem fdivOk {a b : Int} (h : 0 < b) (h2 : b.natAbs.log2 < 9000) : D.fdiv (.int a) (.int b) = some (.int (a / b)) := by
  show (if 0 < b ∧ b.natAbs.log2 < 9000 then some (D.int (a / b)) else none) = _
  rw [if_pos ⟨h, h2⟩]
theorem gtT {a b : Int} (h : b < a) : D.gt (.int a) (.int b) = some (.bl true) := by
  show some (D.bl (decide (b < a))) = _; rw [decide_eq_true h]
theorem gtF {a b : Int} (h : ¬ b < a) : D.gt (.int a) (.int b) = some (.bl false) := by
  show some (D.bl (decide (b < a))) = _; rw [decide_eq_false h]
theorem lg28 : (28 : Int).natAbs.log2 < 9000 := by
  have e : (28 : Int).natAbs.log2 = 4 := by decide +kernel
  rw [e]; omega
theorem bitsOk (m : Int) : D.bits (.int m) = some (.int (Builtin.Int.intBits m : Nat)) := rfl
theorem addOk (a b : Int) : D.add (.int a) (.int b) = some (.int (a + b)) := rfl
theorem drawB_f2 {k m : Int} {l : List D} {x : Option D} {t : List (Option D)} (q2 : D.fdiv (.int (Builtin.Int.intBits m : Nat)) (.int 28) = some (.int k)) (q3 : rng1 [.int (1 + k)] = some l) :
    (up (eLs rng1 (eCons (RF.e2 D.add (cn (.int 1)) (RF.e2 D.fdiv (RF.e1 D.bits (vr 1)) (cn (.int 28)))) eNil))) (x :: some (.int m) :: t) = some (l, x :: some (.int m) :: t) :=
  up_of (eLs_of (eCons_of (e2_of (cn_of _ _) (e2_of (e1_of (x := .int m) rfl (bitsOk m)) (cn_of _ _) q2) (addOk 1 k)) (eNil_of _)) q3)
end RF
set_option Elab.async false
set_option linter.all false
set_option maxRecDepth 100000
namespace RF
open PySem PySem.Spec L2
open PyProof.Rows hiding St
def ov : List (Nat × Option D) → Env → Env
  | [], ρ => ρ
  | (i, x) :: r, ρ => (ov r ρ).set i x
section
variable (hs : List (Nat × Option D))
end
section
variable {hs : List (Nat × Option D)}
variable {a b c : FE} {t u : FT} {l : FEL} {p q : FEO} {xa xb xc : FX} {xt xu : FTx} {xl : FL} {xp xq : FO} {fp : FP} {fb : FB}
end
end RF
set_option Elab.async false
set_option linter.all false
set_option maxRecDepth 100000
namespace RF
open PySem PySem.Spec L2
open PyProof.Rows hiding St
theorem subOk (a b : Int) : D.sub (.int a) (.int b) = some (.int (a - b)) := rfl
theorem asInts_map : ∀ l : List Int, asInts (l.map D.int) = some l
  | [] => rfl
  | x :: r => by show (asInts (r.map D.int)).map _ = _; rw [asInts_map r]; rfl
theorem sumOk (l : List Int) : D.sum [.lst (l.map D.int)] = some (.int l.sum) := by
  show (asInts (l.map D.int)).map _ = _; rw [asInts_map]; rfl
theorem powA : D.pow (.int 10) (.int 18) = some (.int 1000000000000000000) := by decide +kernel
theorem powB : D.pow (.int 10) (.int 60) = some (.int 1000000000000000000000000000000000000000000000000000000000000) := by decide +kernel
theorem powC : D.pow (.int 1000000000000000000000000000000000000000000000000000000000000) (.int 8) = some (.int (1000000000000000000000000000000000000000000000000000000000000 ^ 8)) := by decide +kernel
theorem powPos : (0 : Int) < 1000000000000000000000000000000000000000000000000000000000000 ^ 8 := by decide +kernel
theorem max2Ok (a b : Int) : D.max2 [.int a, .int b] = some (.int (if b > a then b else a)) := rfl
section
variable {ρ ρ1 ρ2 : Env} {x y z : D} {l : List D}
theorem eCall_of {op : List D → Option D} {f : FEL} (h : f ρ = some l) (h1 : op l = some x) : eCall op f ρ = some x := by unfold eCall; rw [h]; exact h1
theorem xCall_of {op : List D → Option D} {f : FL} (h : f ρ = some (l, ρ1)) (h1 : op l = some x) : xCall op f ρ = some (x, ρ1) := by
  unfold xCall; rw [h]; show (op l).map _ = _; rw [h1]; rfl
theorem eSlice_of {a : FE} {p q : FEO} {i j : Option Int} (h : a ρ = some x) (h1 : p ρ = some i) (h2 : q ρ = some j) (h3 : D.slice i j x = some y) : eSlice a p q ρ = some y := by
  unfold eSlice; rw [h, Option.bind_some, h1, Option.bind_some, h2]; exact h3
theorem ePart_of {a : FE} {i : Int} (h : a ρ = some (.int i)) : ePart a ρ = some (some i) := by unfold ePart; rw [h]; rfl
theorem xNil_of (ρ : Env) : xNil ρ = some ([], ρ) := rfl
theorem bNil_of (ρ : Env) : bNil ρ = some ([], ρ) := rfl
theorem xCons_of {a : FX} {r : FL} (h : a ρ = some (x, ρ1)) (h1 : r ρ1 = some (l, ρ2)) : xCons a r ρ = some (x :: l, ρ2) := by unfold xCons; rw [h, Option.bind_some, h1]; rfl
theorem o2_of {op : D → D → Option D} {a b : FX} (h : a ρ = some (x, ρ1)) (h1 : b ρ1 = some (y, ρ2)) (h2 : op x y = some z) : RF.o2 op a b ρ = some (z, ρ2) := by unfold RF.o2; rw [h, Option.bind_some, h1, Option.bind_some, h2]; rfl
theorem bCons_of {k : Bool} {a : FX} {r : FB} {bs : List (Bool × D)} (h : a ρ = some (x, ρ1)) (h1 : r ρ1 = some (bs, ρ2)) : bCons k a r ρ = some ((k, x) :: bs, ρ2) := by unfold bCons; rw [h, Option.bind_some, h1]; rfl
theorem fBag_of {is : List Nat} {f : FB} {bs : List (Bool × D)} (h : f ρ = some (bs, ρ1)) : fBag is f ρ = some (.nx (setD ρ1 is bs)) := by unfold fBag; rw [h]; rfl
theorem xCall1_of {i : Nat} {Fn : D → List D → Option (D × D)} {fl : FL} {d0 d1 d2 : D} (h0 : lk ρ i = some d0) (h : fl ρ = some (l, ρ1)) (h1 : lk ρ1 i = some d1) (h2 : Fn d1 l = some (x, d2)) : xCall1 i Fn fl ρ = some (x, ρ1.set i (some d2)) := by
  unfold xCall1; rw [h0, Option.bind_some, h, Option.bind_some, h1, Option.bind_some, h2]; rfl
end
theorem for_nx {g : D → Env → Option Env} {fb : FS} (P : Env → Prop) : ∀ (l : List D) (ρ : Env), P ρ → (∀ d ∈ l, ∀ ρ, P ρ → ∃ ρ1 ρ2, g d ρ = some ρ1 ∧ fb ρ1 = some (.nx ρ2) ∧ P ρ2) → ∃ ρ', forGo g fb l ρ = some (.nx ρ') ∧ P ρ'
  | [], ρ, h, _ => ⟨ρ, rfl, h⟩
  | d :: l, ρ, h, k => by
    obtain ⟨ρ1, ρ2, e1, e2, p⟩ := k d (by simp) ρ h
    obtain ⟨ρ', e3, p'⟩ := for_nx P l ρ2 p fun d hd => k d (by simp [hd])
    refine ⟨ρ', ?_, p'⟩
    show (g d ρ).bind _ = _
    rw [e1, Option.bind_some, e2]
    exact e3
end RF
set_option Elab.async false
set_option linter.all false
set_option maxRecDepth 100000
set_option maxHeartbeats 2000000
namespace TxS
open PySem PySem.Spec PyProof.Rows L2
def keyT (e : Int × Value) : Str := match e.2 with | .str k _ => k | _ => default
def GoodT (w : World) (e : Int × Value) : Prop := ∃ k tk, e.2 = Value.str k tk ∧ e.1 = hashStr w k
def SetT (w : World) (h : Heap) (a : Addr) (S : Str → Bool) (n : Nat) : Prop :=
  ∃ o es ep t, h.get? a = some o ∧ o.ExactSet ∧ o.data = .set es ep t ∧ (∀ e ∈ es.toList, GoodT w e) ∧ (es.toList.map keyT).Nodup ∧ (∀ k, S k = true ↔ k ∈ es.toList.map keyT) ∧
    es.size < scanBound ∧ t.fits es.size = true ∧ es.size = n ∧ Ris t.place.toList ∧ (w.params.followText "set-order" = true ∨ t.led = true)
section
variable {P : Program} {w : World} {h h' : Heap} {a : Addr} {S : Str → Bool} {n : Nat}
theorem SetT.at (R : SetT w h a S n) (k : ∀ o, h.get? a = some o → h'.get? a = some o) : SetT w h' a S n := by
  obtain ⟨o, es, ep, t, ho, r⟩ := R
  exact ⟨o, es, ep, t, k o ho, r⟩
theorem SetT.lt (R : SetT w h a S n) : a < h.objs.size := by
  obtain ⟨o, es, ep, t, ho, r⟩ := R
  exact Heap.lt_size ho
theorem SetT.congr {S' : Str → Bool} (R : SetT w h a S n) (e : ∀ k, S' k = S k) : SetT w h a S' n := by
  have q : S' = S := funext e
  rw [q]; exact R
theorem goodT_elems {l : List (Int × Value)} (g : ∀ e ∈ l, GoodT w e) : ElemsOf (strKind P w) l := fun e he => by
  obtain ⟨k, tk, h1, h2⟩ := g e he
  exact ⟨⟨k, by rw [h1]; exact strKind_is P w k tk, h2⟩, by rw [h1] <;> rfl⟩
theorem goodT_is {e : Int × Value} (g : GoodT w e) (k : Str) : (strKind P w).is k e.2 = true ↔ keyT e = k := by
  obtain ⟨k0, tk0, h1, _⟩ := g
  unfold keyT
  rw [h1]
  show ((strKind P w).is k (.str k0 tk0) = true) ↔ k0 = k
  constructor
  · intro (z : Value.isStrOf k (.str k0 tk0) = true)
    obtain ⟨u, hu⟩ := Value.isStrOf_shape z
    injection hu
  · intro z
    rw [z]; exact strKind_is P w k tk0
theorem goodT_mem {l : List (Int × Value)} (g : ∀ e ∈ l, GoodT w e) (k : Str) : k ∈ l.map keyT ↔ ∃ e ∈ l, (strKind P w).is k e.2 = true := by
  rw [List.mem_map]
  constructor
  · rintro ⟨e, he, q⟩
    exact ⟨e, he, (goodT_is (g e he) k).2 q⟩
  · rintro ⟨e, he, q⟩
    exact ⟨e, he, (goodT_is (g e he) k).1 q⟩
theorem SetT.setOf (R : SetT w h a S n) : h.SetOf (strKind P w) a S n := by
  obtain ⟨o, es, ep, t, ho, hx, hd, g, nd, hm, hb, hf, hn, _⟩ := R
  exact ⟨o, es, ep, t, ho, hx, hd, goodT_elems g, fun k => (hm k).trans (goodT_mem g k), hb, hf, hn⟩
end
section
variable {P : Program} {w : World} {A : Around} {E : Value → Shared → Prop} {s : Shared} {a : Addr} {S : Str → Bool} {n : Nat}
theorem storeT_at {h : Heap} {a : Addr} {o : Obj} {es es' : Array (Int × Value)} {ep : Nat} {t t' : SetTable} (ho : h.get? a = some o) (hd : o.data = .set es ep t) :
    (h.update a (Obj.putSet es' t')).get? a = some { o with data := .set es' (ep + 1) t' } := by
  have q := Heap.get?_update_self (Obj.putSet es' t') ho (by rw [putSet_of es' t' hd]; rfl)
  rw [putSet_of es' t' hd] at q
  exact q
theorem setT_add_tail {g : Bool → Sem Unit} (hg : ∀ (b : Bool) (s₁ : Shared) (Q' : Unit → Shared → Prop), Q' () s₁ → wpAny (model P w) A (g b) Q' E s₁)
    {o : Obj} {es : Array (Int × Value)} {ep : Nat} {t : SetTable} (ho : s.heap.get? a = some o) (hex : o.ExactSet) (hd : o.data = .set es ep t)
    {es1 : Array (Int × Value)} {t2 : SetTable} {S' : Str → Bool} (g1 : ∀ e ∈ es1.toList, GoodT w e) (nd1 : (es1.toList.map keyT).Nodup) (m1 : ∀ k, S' k = true ↔ k ∈ es1.toList.map keyT)
    (hb1 : es1.size < scanBound) (hf2 : t2.fits es1.size = true) (hr : Ris t2.place.toList) (hl : w.params.followText "set-order" = true ∨ t2.led = true) {wasDummy : Bool} {R : Option Bool → Shared → Prop}
    (hR : ∀ h', Heap.SameBut a s.heap h' → SetT w h' a S' es1.size → R (some true) { s with heap := h' }) :
    wpAny (model P w) A (do
        storeSet a es1 t2
        if (!wasDummy && t2.tooFull) = true then do
            g (relayAll t2 es1 (SetTable.grown es1.size)).2.2
            storeSet a (relayAll t2 es1 (SetTable.grown es1.size)).1 (relayAll t2 es1 (SetTable.grown es1.size)).2.1
            pure (some true)
          else pure (some true)) R E s := by
  refine wpAny_bind (wpAny_storeSet_of ho hd ?_ (fits_of_scanBound hb1))
  have ho1 := storeT_at (es' := es1) (t' := t2) ho hd
  have sb1 := Heap.SameBut.update s.heap a (Obj.putSet es1 t2)
  split
  · have pm := relayAll_perm t2 es1 (SetTable.grown es1.size)
    have hf3 := relayAll_fits t2 es1 (SetTable.grown es1.size)
    have hr3 := relayAll_ris t2 es1 (SetTable.grown es1.size)
    have hl3 := relayAll_led t2 es1 (SetTable.grown es1.size)
    generalize relayAll t2 es1 (SetTable.grown es1.size) = Z at pm hf3 hr3 hl3 ⊢
    obtain ⟨es2, t3, gave⟩ := Z
    dsimp only at pm hf3 hr3 hl3 ⊢
    have hsz : es2.size = es1.size := by rw [← Array.length_toList, pm.length_eq, Array.length_toList]
    have hb2 : es2.size < scanBound := by rw [hsz]; exact hb1
    refine wpAny_bind (hg _ _ _ ?_)
    refine wpAny_bind (wpAny_storeSet_of ho1 rfl ?_ (fits_of_scanBound hb2))
    have ho2 := storeT_at (es' := es2) (t' := t3) ho1 rfl
    refine wpAny_pure (hR _ (sb1.trans (Heap.SameBut.update _ a _)) ?_)
    exact ⟨_, es2, _, t3, ho2, hex, rfl, fun e he => g1 e (pm.mem_iff.mp he), (pm.map keyT).nodup_iff.mpr nd1, fun k => (m1 k).trans (pm.map keyT).mem_iff.symm, hb2, hf3, hsz, hr3,
      hl.imp id fun z => by rw [hl3]; exact z⟩
  · exact wpAny_pure (hR _ sb1 ⟨_, es1, _, t2, ho1, hex, rfl, g1, nd1, m1, hb1, hf2, rfl, hr, hl⟩)
theorem setT_add_hashed {k : Str} {tk : Tok} {Q : Bool → Shared → Prop} (R : SetT w s.heap a S n) (room : n + 1 < scanBound)
    (hQ : ∀ h', Heap.SameBut a s.heap h' → SetT w h' a (fun j => S j || decide (j = k)) (if S k = true then n else n + 1) → Q (!S k) { s with heap := h' }) :
    wpAny (model P w) A (setAddHashed a ((.str k tk)) ((strKind P w).hash k)) Q E s := by
  obtain ⟨o, es, ep, t, ho, hex, hd, g, nd, hm, hb, hf, hn, hr, hl⟩ := R
  have hkey : (strKind P w).is k ((.str k tk)) = true := strKind_is P w k tk
  have hsc : ((Value.str k tk)).scannable = true := rfl
  have hel : ElemsOf (strKind P w) es.toList := goodT_elems g
  unfold setAddHashed setAddHashedIn
  refine wpAny_holding (wpAny_bind (wpAny_setState_of ho hd hf ?_))
  dsimp only
  rw [byScan_of hsc hb hel]
  simp only [↓reduceIte]
  unfold setAddByScan
  refine wpAny_bind ?_
  refine wpAny_bind (wpAny_rule ?_)
  refine wpAny_bind (wpAny_setScan_of hkey ho hd hf hel ?_)
  cases hfi : List.findIdx? (fun e => (strKind P w).is k e.2) es.toList with
  | some j =>
    dsimp only
    obtain ⟨hj, pj, _⟩ := List.findIdx?_eq_some_iff_getElem.mp hfi
    have hSk : S k = true := (hm k).2 ((goodT_mem (P := P) (w := w) g k).2 ⟨es.toList[j], List.getElem_mem hj, pj⟩)
    refine wpAny_pure (wpAny_pure ?_)
    have q := hQ s.heap (Heap.SameBut.refl a s.heap) ⟨o, es, ep, t, ho, hex, hd, g, nd, fun i => by
      rw [Bool.or_eq_true, decide_eq_true_eq, ← hm i]
      exact ⟨fun z => z.elim id (fun e => e ▸ hSk), .inl⟩, hb, hf, by rw [if_pos hSk]; exact hn, hr, hl⟩
    rw [hSk] at q
    exact q
  | none =>
    dsimp only
    have hnk : k ∉ es.toList.map keyT := fun z => by
      obtain ⟨e, he, q⟩ := (goodT_mem (P := P) (w := w) g k).1 z
      have c := List.findIdx?_eq_none_iff.mp hfi e he
      rw [q] at c
      cases c
    have hSk : S k = false := by
      cases q : S k with
      | false => rfl
      | true => exact absurd ((hm k).1 q) hnk
    have hgw : ∀ (b : Bool) {s₁ : Shared} {Q' : Unit → Shared → Prop}, Q' () s₁ → wpAny (model P w) A (match b with | true => rule "set.scan.the-table-gave-way" | false => pure ()) Q' E s₁ :=
      fun b s₁ Q' q => by cases b <;> first | exact wpAny_pure q | exact wpAny_rule q
    have pm := layNew_perm t es ((strKind P w).hash k) ((.str k tk))
    have hf1 := layNew_fits t es ((strKind P w).hash k) ((.str k tk))
    have hr1 := layNew_ris t es ((strKind P w).hash k) ((.str k tk)) hr
    have hl1 := layNew_led t es ((strKind P w).hash k) ((.str k tk))
    generalize layNew t es ((strKind P w).hash k) ((.str k tk)) = Z at pm hf1 hr1 hl1 ⊢
    obtain ⟨es1, t1, wasDummy, gave⟩ := Z
    dsimp only at pm hf1 hr1 hl1 ⊢
    rw [Array.toList_push] at pm
    have pc : es1.toList.Perm (((strKind P w).hash k, (Value.str k tk)) :: es.toList) := pm.trans (List.perm_append_singleton _ _)
    have pk : (es1.toList.map keyT).Perm (k :: es.toList.map keyT) := pc.map keyT
    have g1 : ∀ e ∈ es1.toList, GoodT w e := fun e he => by
      rcases List.mem_cons.mp (pc.mem_iff.mp he) with z | z
      · rw [z]; exact ⟨k, tk, rfl, rfl⟩
      · exact g e z
    have nd1 : (es1.toList.map keyT).Nodup := pk.nodup_iff.mpr (List.nodup_cons.mpr ⟨hnk, nd⟩)
    have m1 : ∀ i, (S i || decide (i = k)) = true ↔ i ∈ es1.toList.map keyT := fun i => by
      rw [Bool.or_eq_true, decide_eq_true_eq, hm i, pk.mem_iff, List.mem_cons]
      exact Or.comm
    have hsz : es1.size = n + 1 := by rw [← Array.length_toList, pc.length_eq, List.length_cons, Array.length_toList, hn]
    have hb1 : es1.size < scanBound := by rw [hsz]; exact room
    have hled : w.params.followText "set-order" = true ∨ t1.led = true := hl.imp id fun z => by rw [hl1]; exact z
    have fin : ∀ h', Heap.SameBut a s.heap h' → SetT w h' a (fun j => S j || decide (j = k)) es1.size → Q true { s with heap := h' } := fun h' sb r => by
      have q := hQ h' sb
      rw [hSk] at q
      rw [hsz] at r
      exact q r
    refine wpAny_bind (hgw _ ?_)
    split
    · refine wpAny_bind ?_
      rw [hashByValue_scannable 8 hsc]
      refine wpAny_pure ?_
      refine setT_add_tail ?_ ho hex hd g1 nd1 m1 hb1 ?_ ?_ ?_ ?_
      · intro b s₁ Q' q; cases b <;> first | exact wpAny_pure q | exact wpAny_rule q
      · first | (split <;> first | exact hf1 | exact SetTable.fits_plain_off hf1) | exact hf1
      · first | (split <;> exact hr1) | exact hr1
      · first | (split <;> exact hled) | exact hled
      · intro h' sb r; dsimp only; exact wpAny_pure (fin h' sb r)
    · refine wpAny_bind (wpAny_pure ?_)
      simp only [↓reduceIte]
      refine setT_add_tail ?_ ho hex hd g1 nd1 m1 hb1 hf1 hr1 hled ?_
      · intro b s₁ Q' q; cases b <;> first | exact wpAny_pure q | exact wpAny_rule q
      · intro h' sb r; dsimp only; exact wpAny_pure (fin h' sb r)
theorem setT_add {k : Str} {tk : Tok} {Q : Value → Shared → Prop} (R : SetT w s.heap a S n) (room : n + 1 < scanBound)
    (hQ : ∀ h', Heap.SameBut a s.heap h' → SetT w h' a (fun j => S j || decide (j = k)) (if S k = true then n else n + 1) → Q .none { s with heap := h', toks := s.toks + 1 }) :
    wpAny (model P w) A (call (.builtin "set.add") [.ref a, (.str k tk)]) Q E s := by
  have hS : s.heap.SetOf (strKind P w) a S n := R.setOf
  refine wpAny_call_entry F.slot_set_add hS.typeIs F.entry_set_add ?_ (F.args_set_add_2 _ _)
  unfold Builtin.«set.add» Builtin.Frozenset.oneOther
  simp only [List.isEmpty_nil, bind_assoc]
  unfold Builtin.Frozenset.addrOf setAdd
  refine wpAny_bind (wpAny_pure ?_)
  try dsimp only
  refine wpAny_bind (wpAny_pure ?_)
  try dsimp only
  refine wpAny_bind ?_
  refine wpAny_holding ?_
  refine wpAny_bind ((strKind P w).pyHash (strKind_is P w k tk) ?_)
  refine setT_add_hashed (s := { s with toks := s.toks + 1 }) R room fun h' sb r => ?_
  show wpAny _ _ (ret Value.none) _ _ _
  exact wpAny_pure ⟨_, rfl, hQ h' sb r⟩
end
section
variable {P : Program} {w : World} {A : Around} {E : Value → Shared → Prop} {s : Shared}
theorem setT_fresh {h : Heap} (w : World) : SetT w (h.push { cls := .type "set", dict := none, data := .set #[] 0 (.fresh 0 0 (!w.params.followText "set-order")) }) h.objs.size (fun _ => false) 0 :=
  ⟨_, #[], 0, _, Heap.get?_push_size _ rfl, ⟨rfl, rfl, rfl⟩, rfl, (fun e he => by simp at he), (by simp), (fun k => by simp), (by decide), (by rfl), rfl, List.Pairwise.nil, by
    show _ ∨ (!w.params.followText "set-order") = true
    cases w.params.followText "set-order"
    · exact .inr rfl
    · exact .inl rfl⟩
def SetTO (w : World) (a : Addr) (S : Str → Bool) (n : Nat) : HO := .ext fun h => SetT w h a S n
theorem setTO_new {w : World} {P : Program} {H : Hp} {h : Heap} {a : Addr} {S : Str → Bool} {n : Nat} (R : SetT w h a S n) : ObjOk P w H h a (SetTO w a S n) := by
  have ⟨o, _, _, _, ho, _⟩ := R
  exact ⟨R, ⟨o, ho⟩, fun h1 h2 p k => SetT.at p k⟩
section
variable {X : Cx}
theorem setTO_get {pins : List (Addr × Obj)} {σ : L2.St} {H : Hp} {s : Shared} {a : Addr} {S : Str → Bool} {n : Nat} (I : Inv X pins σ H s) (ha : H a = some (SetTO X.w a S n)) : SetT X.w s.heap a S n := (I.hok a _ ha).1
theorem addT_ok {pins : List (Addr × Obj)} {σ : L2.St} {H : Hp} {s : Shared} {E : Value → Shared → Prop} {D : Addr} {S : Str → Bool} {n : Nat} {y : Str} {tk : Tok} {Q : Value → Shared → Prop} (I : Inv X pins σ H s) (hD : H D = some (SetTO X.w D S n)) (room : n + 1 < scanBound)
    (h : ∀ s', Inv X pins σ (upd H D (SetTO X.w D (fun j => S j || decide (j = y)) (if S y = true then n else n + 1))) s' → Q .none s') : wpAny (model X.prog X.w) X.A (call (.builtin "set.add") [.ref D, .str y tk]) Q E s := by
  have R := setTO_get I hD
  refine setT_add R room fun h' sb new => ?_
  have he : ∃ u, h'.get? D = some u := by
    have ⟨o, _, _, _, ho, _⟩ := new
    exact ⟨o, ho⟩
  exact h _ (I.write (e := D) (t' := s.toks + 1) (by rw [hD]; trivial) (.inl rfl) (fun b u hb hu => (sb.2 b hb).trans hu) he (setTO_new new))
end
theorem sTurn2_out (elt t0 i0 t1 i1 : Expr) (ifs0 ifs1 : List Expr) (scope : Scope) (pos : Pos) (it acc : Value) (env : Env) :
    compTurn (.SetComp elt [⟨t0, i0, ifs0, 0⟩, ⟨t1, i1, ifs1, 0⟩] scope pos) 0 it acc env = (do
      standAt i0.pos
      match ← pyNext it with
      | none => pure (.done .next)
      | some v =>
        letOwnedTupleGo t0 it v
        assign t0 env v
        let mut ok := true
        for c in ifs0 do
          if ok then ok ← isTrue c env (eval c env)
        if ok then
          let x ← eval i1 env
          standAt i1.pos
          let x ← foldedSetIterable i1 env x
          let _ ← runOwn (.compStart (.SetComp elt [⟨t0, i0, ifs0, 0⟩, ⟨t1, i1, ifs1, 0⟩] scope pos) 1 (← holding [x] (pyIter x)) acc env) env
        again (.compLoop (.SetComp elt [⟨t0, i0, ifs0, 0⟩, ⟨t1, i1, ifs1, 0⟩] scope pos) 0 it acc env)) := by rfl
theorem sTurn2_in (elt t0 i0 t1 i1 : Expr) (ifs0 ifs1 : List Expr) (scope : Scope) (pos : Pos) (it acc : Value) (env : Env) :
    compTurn (.SetComp elt [⟨t0, i0, ifs0, 0⟩, ⟨t1, i1, ifs1, 0⟩] scope pos) 1 it acc env = (do
      standAt i1.pos
      match ← pyNext it with
      | none => pure (.done .next)
      | some v =>
        letOwnedTupleGo t1 it v
        assign t1 env v
        let mut ok := true
        for c in ifs1 do
          if ok then ok ← isTrue c env (eval c env)
        if ok then
          (do let v ← eval elt env; standAt elt.pos; let _ ← call (.builtin "set.add") [acc, v])
        again (.compLoop (.SetComp elt [⟨t0, i0, ifs0, 0⟩, ⟨t1, i1, ifs1, 0⟩] scope pos) 1 it acc env)) := by rfl
section
variable {prog : Program} {w : World} {A : Around} {R : Result → Shared → Prop} {s : Shared} {elt t0 i0 t1 i1 : Expr} {ifs0 ifs1 : List Expr} {scope : Scope} {pos : Pos} {it acc : Value} {env : Env}
theorem sLoop2_out (hs : ∀ x, foldedSetIterable i1 env x = pure x) (I : Nat → Shared → Prop)
    (turn : ∀ n s, I n s → wpAny (model prog w) A (pyNext it) (fun r s₁ => match r with
      | none => R (.ok .next) s₁
      | some v => wpAny (model prog w) A (letOwnedTupleGo t0 it v) (fun _ s₁' => wpAny (model prog w) A (assign t0 env v) (fun _ s₂ =>
          wpAny (model prog w) A (forIn ifs0 true fun c r => if r = true then do let ok ← isTrue c env (eval c env); pure (ForInStep.yield ok) else pure (ForInStep.yield r)) (fun ok s₃ =>
            if ok = true then wpAny (model prog w) A (eval i1 env) (fun x s₄ => wpAny (model prog w) A (pyIter x) (fun it1 s₅ =>
              codeAny (model prog w) A (.compStart (.SetComp elt [⟨t0, i0, ifs0, 0⟩, ⟨t1, i1, ifs1, 0⟩] scope pos) 1 it1 acc env) (fun r s' => match r with
                | .ok _ => ∃ m, m < n ∧ I m s'
                | .error _ => False) s₅) (notedBy (model prog w) A env fun e s' => R (.error e) s') s₄) (notedBy (model prog w) A env fun e s' => R (.error e) s') s₃
            else ∃ m, m < n ∧ I m s₃) (notedBy (model prog w) A env fun e s' => R (.error e) s') s₂) (notedBy (model prog w) A env fun e s' => R (.error e) s') s₁') (notedBy (model prog w) A env fun e s' => R (.error e) s') s₁) (notedBy (model prog w) A env fun e s' => R (.error e) s') s)
    (n : Nat) (h : I n s) :
    codeAny (model prog w) A (.compLoop (.SetComp elt [⟨t0, i0, ifs0, 0⟩, ⟨t1, i1, ifs1, 0⟩] scope pos) 0 it acc env) R s := by
  refine codeAny_loop rfl I (fun n s hI => ?_) n h
  show wpAny _ A ((compTurn (.SetComp elt [⟨t0, i0, ifs0, 0⟩, ⟨t1, i1, ifs1, 0⟩] scope pos) 0 it acc env).onRaise (fun x => do noteFrame x env; theTreesLotGoes x)) _ _ s
  refine wpAny_noted ?_
  rw [sTurn2_out]
  refine wpAny_bind (wpAny_standAt (wpAny_bind (wpAny_mono (turn n s hI) (fun r s₁ h₁ => ?_) fun _ _ h' => h')))
  cases r with
  | none => exact wpAny_pure h₁
  | some v =>
    refine wpAny_bind (wpAny_mono h₁ (fun _ s₁' h₁' => ?_) fun _ _ h' => h')
    refine wpAny_bind (wpAny_mono h₁' (fun _ s₂ h₂ => wpAny_bind (wpAny_mono h₂ (fun ok s₃ h₃ => ?_) fun _ _ h' => h')) fun _ _ h' => h')
    cases ok with
    | false => exact wpAny_pure ⟨rfl, h₃⟩
    | true =>
      refine wpAny_bind (wpAny_mono h₃ (fun x s₄ h₄ => ?_) fun _ _ h' => h')
      refine wpAny_bind (wpAny_standAt (wpAny_bind (wpAny_of_eq (hs x) (wpAny_bind (wpAny_holding (wpAny_mono h₄ (fun it1 s₅ h₅ => ?_) fun _ _ h' => h'))))))
      refine wpAny_bind (wpAny_runOwn ?_)
      rw [Around.mark_none]
      refine codeAny_mono h₅ fun r s' hr => ?_
      cases r with
      | ok f =>
        first
          | exact wpAny_pure ⟨rfl, hr⟩
          | exact wpAny_bind (wpAny_pure (wpAny_pure ⟨rfl, hr⟩))
      | error e => exact hr.elim
theorem sLoop2_in (I : Nat → Shared → Prop)
    (turn : ∀ n s, I n s → wpAny (model prog w) A (pyNext it) (fun r s₁ => match r with
      | none => R (.ok .next) s₁
      | some v => wpAny (model prog w) A (letOwnedTupleGo t1 it v) (fun _ s₁' => wpAny (model prog w) A (assign t1 env v) (fun _ s₂ =>
          wpAny (model prog w) A (forIn ifs1 true fun c r => if r = true then do let ok ← isTrue c env (eval c env); pure (ForInStep.yield ok) else pure (ForInStep.yield r)) (fun ok s₃ =>
            if ok = true then wpAny (model prog w) A (eval elt env) (fun x s₄ =>
              wpAny (model prog w) A (call (.builtin "set.add") [acc, x]) (fun _ s₅ => ∃ m, m < n ∧ I m s₅) (notedBy (model prog w) A env fun e s' => R (.error e) s') s₄) (notedBy (model prog w) A env fun e s' => R (.error e) s') s₃
            else ∃ m, m < n ∧ I m s₃) (notedBy (model prog w) A env fun e s' => R (.error e) s') s₂) (notedBy (model prog w) A env fun e s' => R (.error e) s') s₁') (notedBy (model prog w) A env fun e s' => R (.error e) s') s₁) (notedBy (model prog w) A env fun e s' => R (.error e) s') s)
    (n : Nat) (h : I n s) :
    codeAny (model prog w) A (.compLoop (.SetComp elt [⟨t0, i0, ifs0, 0⟩, ⟨t1, i1, ifs1, 0⟩] scope pos) 1 it acc env) R s := by
  refine codeAny_loop rfl I (fun n s hI => ?_) n h
  show wpAny _ A ((compTurn (.SetComp elt [⟨t0, i0, ifs0, 0⟩, ⟨t1, i1, ifs1, 0⟩] scope pos) 1 it acc env).onRaise (fun x => do noteFrame x env; theTreesLotGoes x)) _ _ s
  refine wpAny_noted ?_
  rw [sTurn2_in]
  refine wpAny_bind (wpAny_standAt (wpAny_bind (wpAny_mono (turn n s hI) (fun r s₁ h₁ => ?_) fun _ _ h' => h')))
  cases r with
  | none => exact wpAny_pure h₁
  | some v =>
    refine wpAny_bind (wpAny_mono h₁ (fun _ s₁' h₁' => ?_) fun _ _ h' => h')
    refine wpAny_bind (wpAny_mono h₁' (fun _ s₂ h₂ => wpAny_bind (wpAny_mono h₂ (fun ok s₃ h₃ => ?_) fun _ _ h' => h')) fun _ _ h' => h')
    cases ok with
    | false => exact wpAny_pure ⟨rfl, h₃⟩
    | true =>
      exact wpAny_bind (wpAny_bind (wpAny_mono h₃ (fun x s₄ h₄ => wpAny_bind (wpAny_standAt (wpAny_bind (wpAny_mono h₄ (fun _ s₅ h₅ => wpAny_pure (wpAny_pure ⟨rfl, h₅⟩)) fun _ _ h' => h')))) fun _ _ h' => h'))
theorem sStart1_ok (h0 : codeAny (model prog w) A (.compLoop (.SetComp elt [⟨t0, i0, ifs0, 0⟩, ⟨t1, i1, ifs1, 0⟩] scope pos) 1 it acc env) R s)
    (h : wpAny (model prog w) A (pyIter it) (fun it' s' => codeAny (model prog w) A (.compLoop (.SetComp elt [⟨t0, i0, ifs0, 0⟩, ⟨t1, i1, ifs1, 0⟩] scope pos) 1 it' acc env) R s')
      (notedBy (model prog w) A env fun x s' => R (.error x) s') s) :
    codeAny (model prog w) A (.compStart (.SetComp elt [⟨t0, i0, ifs0, 0⟩, ⟨t1, i1, ifs1, 0⟩] scope pos) 1 it acc env) R s := by
  refine codeAny_of_tree ?_
  show wpAny _ _ ((compStart (.SetComp elt [⟨t0, i0, ifs0, 0⟩, ⟨t1, i1, ifs1, 0⟩] scope pos) 1 it acc env).onRaise (fun x => do noteFrame x env; standAt theWindowsPlace)) _ _ s
  refine wpAny_notedAt ?_
  unfold compStart
  show wpAny _ _ (ask >>= _) _ _ s
  refine wpAny_bind (wpAny_askSetting (wpAny_ite ?_))
  split
  · first
      | exact wpAny_bind (wpAny_pure (wpAny_pure (And.intro rfl h0)))
      | exact wpAny_pure (And.intro rfl h0)
  · first
      | exact wpAny_bind (wpAny_rule (wpAny_bind (wpAny_standAt (wpAny_bind (wpAny_mono h (fun it' s' h' => wpAny_pure (And.intro rfl h')) fun _ _ x => x)))))
      | (refine wpAny_bind (wpAny_rule ?_); show wpAny _ _ (standAt i1.pos >>= _) _ _ s; exact wpAny_bind (wpAny_standAt (wpAny_bind (wpAny_mono h (fun it' s' h' => wpAny_pure (And.intro rfl h')) fun _ _ x => x))))
end
section
variable {X : Cx}
def tSc2 (w : World) (wi : TI) (g : TG) (tt : TT) (wi1 : TI) (g1 : TG) (tt1 : TT) (te : TE) (vs vs1 : List Nat) : TE := fun σ H Q => wi σ H fun J H1 => ∀ D, H1 D = none → ∃ W : Nat → Nat → Hp → Prop, (∃ m, W 0 m (upd H1 D (SetTO w D (fun _ => false) 0))) ∧ ∀ i m H, W i m H →
  (J.stop i H ∧ Q (.ref D) H) ∨ (J.go i H ∧ ∃ Nx : Hp → Prop, (∀ H', Nx H' → ∃ m', m' < m ∧ W (i + 1) m' H') ∧ ∀ x H', J.yld i H x H' → g x (wipe σ vs) H' fun σ2 H2 => wipe σ2 vs = wipe σ vs ∧ tt σ2 H2 fun b H3 =>
    if b = true then wi1 σ2 H3 fun J1 H4 => ∃ W1 : Nat → Nat → Hp → Prop, (∃ m, W1 0 m H4) ∧ ∀ j k H, W1 j k H →
      (J1.stop j H ∧ Nx H) ∨ (J1.go j H ∧ ∃ Nx1 : Hp → Prop, (∀ H', Nx1 H' → ∃ k', k' < k ∧ W1 (j + 1) k' H') ∧ ∀ x H', J1.yld j H x H' → g1 x (wipe σ2 vs1) H' fun σ3 H5 => wipe σ3 vs1 = wipe σ2 vs1 ∧ tt1 σ3 H5 fun b H6 =>
        if b = true then te σ3 H6 fun y H7 => ∃ (c : Str) (S : Str → Bool) (n : Nat), y = .str c ∧ H7 D = some (SetTO w D S n) ∧ n + 1 < scanBound ∧ Nx1 (upd H7 D (SetTO w D (fun j => S j || decide (j = c)) (if S c = true then n else n + 1))) else Nx1 H6)
    else Nx H3)
theorem sc2_core {pins : List (Addr × Obj)} {s : Shared} {σ : L2.St} {H : Hp} {Q : VK} {elt tg iter tg1 iter1 : Expr} {ifs ifs1 : List Expr} {scope : Scope} {own : List (Str × Nat)} {vs1 : List Nat} {pos pos' : Pos} {wi wi1 : TI} {g g1 : TG} {tt tt1 : TT} {te : TE} {use : Option (Value → Sem Unit)} {Qf : Value → Shared → Prop}
    (hc : X.calm = true) (hN : X.N.Nodup) (I : Inv X pins σ H s) (hi : PI X tg iter wi) (ok : BlkOk X.N X.env.scope scope own) (hv : ∀ i ∈ vs1, i ∈ own.map (·.2))
    (hg : ∀ (s : Shared) (H : Hp) (C : Addr) (cl : List (Str × Addr)) (fp : List Addr), PG (X.blk s H scope (compEnvC scope cl C X.env) fp) tg g) (ht : ∀ (s : Shared) (H : Hp) (C : Addr) (cl : List (Str × Addr)) (fp : List Addr), PTs (X.blk s H scope (compEnvC scope cl C X.env) fp) ifs tt)
    (he : ∀ (s : Shared) (H : Hp) (C : Addr) (cl : List (Str × Addr)) (fp : List Addr), PE (X.blk s H scope (compEnvC scope cl C X.env) fp) elt te) (hs : ∀ x, foldedSetIterable iter X.env x = pure x)
    (hi1 : ∀ (s : Shared) (H : Hp) (C : Addr) (cl : List (Str × Addr)) (fp : List Addr), PI (X.blk s H scope (compEnvC scope cl C X.env) fp) tg1 iter1 wi1)
    (hg1 : ∀ (s : Shared) (H : Hp) (C : Addr) (cl : List (Str × Addr)) (fp : List Addr), PG (X.blk s H scope (compEnvC scope cl C X.env) fp) tg1 g1)
    (ht1 : ∀ (s : Shared) (H : Hp) (C : Addr) (cl : List (Str × Addr)) (fp : List Addr), PTs (X.blk s H scope (compEnvC scope cl C X.env) fp) ifs1 tt1)
    (hs1 : ∀ env x, foldedSetIterable iter1 env x = pure x)
    (h : tSc2 X.w wi g tt wi1 g1 tt1 te (own.map (·.2)) vs1 σ H Q)
    (hRR : ∀ D C s' m H', Inv X pins σ H' s' → Q (.ref D) H' → s'.heap.Ns C m → FpOk X pins H' C → compPost (model X.prog X.w) X.A X.xe use Qf (.ref D) C (.ok .next) s') :
    wpAny (model X.prog X.w) X.A (comprehension (.SetComp elt [⟨tg, iter, ifs, 0⟩, ⟨tg1, iter1, ifs1, 0⟩] scope pos) scope X.env pos' (newSet (.type "set")) false (eval iter X.env) use) Qf X.xe s := by
  have hfree : ∀ y ∈ scope.names, y.2 = .free → ∃ c, X.env.cells.lookup y.1 = some c := fun y hy e => by
    rcases ok.free y hy e with k | k
    · exact I.ok.has _ (.inl k)
    · exact I.ok.has _ (.inr k)
  refine wpAny_comprehension_free (use := use) rfl hs (closure_ok hfree) ok.kind (fun y hy e => by rw [ok.uniq y hy, e])
    (thn (hi.run pins s σ H _ I h) fun xv s1 hx => thn hx fun itv s2 h2 => ?_)
  obtain ⟨it, fp, tn, J, H2, e, I2, T, st2, f2, q⟩ := h2
  subst e
  refine PpSet.newSet_ok (newEnv_comp ?_)
  generalize hD : s2.heap.objs.size = D
  have hDn : H2 D = none := I2.hok.fresh (Nat.le_of_eq hD)
  obtain ⟨W, ⟨m0, w0⟩, turn⟩ := q D hDn
  -- the new list
  generalize hs3 : ({ s2 with heap := s2.heap.push { cls := .type "set", dict := none, data := .set #[] 0 (.fresh 0 0 (!X.w.params.followText "set-order")) } } : Shared) = s3
  have I3 : Inv X pins σ (upd H2 D (SetTO X.w D (fun _ => false) 0)) s3 := by
    rw [← hs3]
    refine I2.laid (t' := s2.toks) (fun b o e => Heap.get?_push_of_some _ e) (Nat.le_of_eq hD) ?_
    rw [← hD]
    exact setTO_new (setT_fresh X.w)
  have h3 : s3.heap = s2.heap.push { cls := .type "set", dict := none, data := .set #[] 0 (.fresh 0 0 (!X.w.params.followText "set-order")) } := by rw [← hs3]
  have sz : ∀ b ∈ fp, b < s2.heap.objs.size := fun b hb => by
    obtain ⟨o, e, _⟩ := T.obj _ _ st2 b hb
    exact Heap.lt_size e
  have f3 : ∀ b ∈ fp, FpOk X pins (upd H2 D (SetTO X.w D (fun _ => false) 0)) b ∧ b < s3.heap.objs.size := fun b hb => by
    have hlt := sz b hb
    refine ⟨⟨?_, (f2 b hb).2⟩, by rw [h3, Heap.size_push]; exact Nat.lt_succ_of_lt hlt⟩
    rw [upd_ne (by rw [← hD]; exact Nat.ne_of_lt hlt)]
    exact (f2 b hb).1
  have st3 : tn 0 s3.heap := T.keep _ _ _ st2 fun b _ o e => by rw [h3]; exact Heap.get?_push_of_some _ e
  have I4 := block_start I3 ok hN f3
  have pg := hg s3 (upd H2 D (SetTO X.w D (fun _ => false) 0)) s3.heap.objs.size (cellsFrom (s3.heap.objs.size + 1) scope.names (cloFrom X.env.cells scope.names [])) fp
  have pt := ht s3 (upd H2 D (SetTO X.w D (fun _ => false) 0)) s3.heap.objs.size (cellsFrom (s3.heap.objs.size + 1) scope.names (cloFrom X.env.cells scope.names [])) fp
  have pe := he s3 (upd H2 D (SetTO X.w D (fun _ => false) 0)) s3.heap.objs.size (cellsFrom (s3.heap.objs.size + 1) scope.names (cloFrom X.env.cells scope.names [])) fp
  have pi1 := hi1 s3 (upd H2 D (SetTO X.w D (fun _ => false) 0)) s3.heap.objs.size (cellsFrom (s3.heap.objs.size + 1) scope.names (cloFrom X.env.cells scope.names [])) fp
  have pg1 := hg1 s3 (upd H2 D (SetTO X.w D (fun _ => false) 0)) s3.heap.objs.size (cellsFrom (s3.heap.objs.size + 1) scope.names (cloFrom X.env.cells scope.names [])) fp
  have pt1 := ht1 s3 (upd H2 D (SetTO X.w D (fun _ => false) 0)) s3.heap.objs.size (cellsFrom (s3.heap.objs.size + 1) scope.names (cloFrom X.env.cells scope.names [])) fp
  show codeAny _ _ (.compStart (.SetComp elt [⟨tg, iter, ifs, 0⟩, ⟨tg1, iter1, ifs1, 0⟩] scope pos) 0 (.ref it) (.ref D) (compEnvC scope (cellsFrom (s3.heap.objs.size + 1) scope.names (cloFrom X.env.cells scope.names [])) s3.heap.objs.size X.env)) (compPost (model X.prog X.w) X.A X.xe use Qf (.ref D) s3.heap.objs.size) { s3 with heap := pushCells (s3.heap.push { cls := .type "dict", data := .dict #[] }) scope.names }
  have nfp : ∀ b ∈ fp, (upd H2 D (SetTO X.w D (fun _ => false) 0)) b = none := fun b hb => (f3 b hb).1.1
  generalize hce : compEnvC scope (cellsFrom (s3.heap.objs.size + 1) scope.names (cloFrom X.env.cells scope.names [])) s3.heap.objs.size X.env = ce at I4 pg pt pe pi1 pg1 pt1 ⊢
  have cL : ce.locals = s3.heap.objs.size := by subst hce; rfl
  generalize hH3 : upd H2 D (SetTO X.w D (fun _ => false) 0) = H3 at I3 I4 pg pt pe pi1 pg1 pt1 w0 nfp f3
  generalize hs4 : ({ s3 with heap := pushCells (s3.heap.push { cls := .type "dict", data := .dict #[] }) scope.names } : Shared) = s4 at I4 ⊢
  have st4 : tn 0 s4.heap := T.keep _ _ _ st3 fun b _ o e => by rw [← hs4]; exact pushCells_keeps _ _ _ _ (Heap.get?_push_of_some _ e)
  have stat : ∀ {σ' : L2.St} {H' : Hp} {s' : Shared}, Inv (X.blk s3 H3 scope ce fp) [] σ' H' s' → (∀ b ∈ fp, H' b = none) → ∀ b ∈ fp, FpOk (X.blk s3 H3 scope ce fp) [] H' b := fun {σ' H' s'} I' hn b hb =>
    ⟨hn b hb, (I'.ok.exf b hb).1, I'.ok.exfs b hb, .inl hb, fun x c e => (I'.ok.exf b hb).2 x c e, fun p hp => absurd (show p ∈ ([] : List (Addr × Obj)) ++ [] from hp) (by simp)⟩
  have loop : codeAny (model X.prog X.w) X.A (.compLoop (.SetComp elt [⟨tg, iter, ifs, 0⟩, ⟨tg1, iter1, ifs1, 0⟩] scope pos) 0 (.ref it) (.ref D) ce) (compPost (model X.prog X.w) X.A X.xe use Qf (.ref D) s3.heap.objs.size) s4 := by
    refine sLoop2_out (hs1 ce) (fun n s' => ∃ i H', Inv (X.blk s3 H3 scope ce fp) [] (wipe σ (own.map (·.2))) H' s' ∧ tn i s'.heap ∧ (∀ b ∈ fp, H' b = none) ∧ W i n H') ?_ m0 ⟨0, H3, I4, st4, nfp, w0⟩
    rintro n s5 ⟨i, H5, I5, st5, n5, w5⟩
    rcases turn i n H5 w5 with ⟨stop, qq⟩ | ⟨go, Nx, hNx, step⟩
    · have td := T.done (X.blk s3 H3 scope ce fp) rfl rfl rfl hc i [] s5 _ H5 (fun _ _ => False) I5 (stat I5 n5) st5 stop
      refine thnF td fun r s6 ⟨hr, I6⟩ => ?_
      subst hr
      -- back in the def's context
      have I7 : Inv X pins σ H5 s6 := I3.call' (ch := fp) I6.os I6.base I6.hok I6.bare fun b hb => ⟨(f3 b hb).1.2.2.2.1, (f3 b hb).1.2.1, (f3 b hb).1.2.2.2.2.1, (f3 b hb).1.2.2.2.2.2⟩
      have nC : H5 s3.heap.objs.size = none := by
        have z : H5 ce.locals = none := I6.free
        rw [cL] at z
        exact z
      obtain ⟨m, hn, _⟩ := I6.loc
      have hn : s6.heap.Ns ce.locals m := hn
      rw [cL] at hn
      exact hRR D s3.heap.objs.size s6 m H5 I7 qq hn (I3.fpOk (Nat.le_refl _) nC)
    · have ti := T.item (X.blk s3 H3 scope ce fp) rfl rfl rfl hc i [] s5 _ H5 (fun _ _ => False) I5 (stat I5 n5) st5 go
      refine thnF ti fun r s6 ⟨u, hr, h6⟩ => ?_
      subst hr
      refine thnF h6 fun _ s7 ⟨x, H7, I7, r7, y7, st7, n7⟩ => ?_
      have I7' := I7.pinned (stat I7 n7) (T.obj _ _ st7)
      refine thnF (pg.run _ s7 _ H7 x u _ I7' r7 (step x H7 y7)) fun _ s8 ⟨σ8, H8, I8, hw8, q8⟩ => ?_
      refine thnF (pt.run _ s8 σ8 H8 _ I8 q8) fun b s9 ⟨H9, I9, q9⟩ => ?_
      -- the turn's end, from any slots that know what the block knew at its start
      have fin : ∀ {σ9 : L2.St} {s' : Shared} {H' : Hp}, Inv (X.blk s3 H3 scope ce fp) ([] ++ pinsAt fp s7.heap) σ9 H' s' → (wipe σ (own.map (·.2))).length = σ9.length → (∀ (j : Nat) v, (wipe σ (own.map (·.2)))[j]? = some (some v) → σ9[j]? = some (some v)) → Nx H' →
          ∃ m, m < n ∧ ∃ i H', Inv (X.blk s3 H3 scope ce fp) [] (wipe σ (own.map (·.2))) H' s' ∧ tn i s'.heap ∧ (∀ b ∈ fp, H' b = none) ∧ W i m H' := fun {σ9 s' H'} I' hl hk nx => by
        obtain ⟨m', hm, w'⟩ := hNx H' nx
        have pin' : ∀ b ∈ fp, ∀ o, s7.heap.get? b = some o → s'.heap.get? b = some o ∧ H' b = none := fun b hb o e =>
          let z := I'.pin (b, o) (List.mem_append_right _ (List.mem_append_right _ (mem_pinsAt hb e)))
          ⟨z.1, z.2.1⟩
        refine ⟨m', hm, i + 1, H', (I'.unpinned (pins := [])).weak hl hk, T.keep _ _ _ st7 fun b hb o e => (pin' b hb o e).1, fun b hb => ?_, w'⟩
        obtain ⟨o, e, _⟩ := T.obj _ _ st7 b hb
        exact (pin' b hb o e).2
      have hl8 : (wipe σ (own.map (·.2))).length = σ8.length := by rw [← hw8, wipe_length]
      have hk8 : ∀ (j : Nat) v, (wipe σ (own.map (·.2)))[j]? = some (some v) → σ8[j]? = some (some v) := fun j v e => by
        rw [← hw8] at e
        exact (wipe_some e).1
      have hk9 : ∀ (j : Nat) v, (wipe σ (own.map (·.2)))[j]? = some (some v) → (wipe σ8 vs1)[j]? = some (some v) := fun j v e => by
        rw [← hw8] at e
        obtain ⟨e1, e2⟩ := wipe_some e
        rw [wipe_out fun z => e2 (hv j z)]
        exact e1
      cases b with
      | false =>
        simp only [Bool.false_eq_true, if_false] at q9 ⊢
        exact fin I9 hl8 hk8 q9
      | true =>
        simp only [if_true] at q9 ⊢
        refine thnF (pi1.run _ s9 σ8 H9 _ I9 q9) fun xv s10 hx => thnF hx fun itv s11 h11 => ?_
        obtain ⟨it1, fp1, tn1, J1, H11, e1, I11, T1, st11, f11, W1, ⟨m1, w1⟩, turn1⟩ := h11
        subst e1
        -- the inner loop
        have stat1 : ∀ {H' : Hp}, (∀ b ∈ fp1, H' b = none) → ∀ b ∈ fp1, FpOk (X.blk s3 H3 scope ce fp) ([] ++ pinsAt fp s7.heap) H' b := fun hn b hb => ⟨hn b hb, (f11 b hb).2⟩
        have loop1 : codeAny (model X.prog X.w) X.A (.compLoop (.SetComp elt [⟨tg, iter, ifs, 0⟩, ⟨tg1, iter1, ifs1, 0⟩] scope pos) 1 (.ref it1) (.ref D) ce)
            (fun r s' => match r with
              | .ok _ => ∃ m, m < n ∧ ∃ i H', Inv (X.blk s3 H3 scope ce fp) [] (wipe σ (own.map (·.2))) H' s' ∧ tn i s'.heap ∧ (∀ b ∈ fp, H' b = none) ∧ W i m H'
              | .error _ => False) s11 := by
          refine sLoop2_in (fun k s' => ∃ j H', Inv (X.blk s3 H3 scope ce fp) ([] ++ pinsAt fp s7.heap) (wipe σ8 vs1) H' s' ∧ tn1 j s'.heap ∧ (∀ b ∈ fp1, H' b = none) ∧ W1 j k H') ?_ m1 ⟨0, H11, I11.weak (wipe_length _ _) (fun j v e => (wipe_some e).1), st11, fun b hb => (f11 b hb).1, w1⟩
          rintro k s12 ⟨j, H12, I12, st12, n12, w12⟩
          rcases turn1 j k H12 w12 with ⟨stop1, nx1⟩ | ⟨go1, Nx1, hNx1, step1⟩
          · refine thnF (T1.done (X.blk s3 H3 scope ce fp) rfl rfl rfl hc j _ s12 (wipe σ8 vs1) H12 (fun _ _ => False) I12 (stat1 n12) st12 stop1) fun r s13 ⟨hr, I13⟩ => ?_
            subst hr
            exact fin I13 (hl8.trans (wipe_length σ8 vs1).symm) hk9 nx1
          · refine thnF (T1.item (X.blk s3 H3 scope ce fp) rfl rfl rfl hc j _ s12 (wipe σ8 vs1) H12 (fun _ _ => False) I12 (stat1 n12) st12 go1) fun r s13 ⟨u1, hr, h13⟩ => ?_
            subst hr
            refine thnF h13 fun _ s14 ⟨x1, H14, I14, r14, y14, st14, n14⟩ => ?_
            have I14' := I14.pinned (stat1 n14) (T1.obj _ _ st14)
            refine thnF (pg1.run _ s14 (wipe σ8 vs1) H14 x1 u1 _ I14' r14 (step1 x1 H14 y14)) fun _ s15 ⟨σ15, H15, I15, hw15, q15⟩ => ?_
            refine thnF (pt1.run _ s15 σ15 H15 _ I15 q15) fun b1 s16 ⟨H16, I16, q16⟩ => ?_
            have fin1 : ∀ {s' : Shared} {H' : Hp}, Inv (X.blk s3 H3 scope ce fp) (([] ++ pinsAt fp s7.heap) ++ pinsAt fp1 s14.heap) σ15 H' s' → Nx1 H' → ∃ m, m < k ∧ ∃ j H', Inv (X.blk s3 H3 scope ce fp) ([] ++ pinsAt fp s7.heap) (wipe σ8 vs1) H' s' ∧ tn1 j s'.heap ∧ (∀ b ∈ fp1, H' b = none) ∧ W1 j m H' := fun {s' H'} I' nx => by
              obtain ⟨m', hm, w'⟩ := hNx1 H' nx
              have pin' : ∀ b ∈ fp1, ∀ o, s14.heap.get? b = some o → s'.heap.get? b = some o ∧ H' b = none := fun b hb o e =>
                let z := I'.pin (b, o) (List.mem_append_right _ (List.mem_append_right _ (mem_pinsAt hb e)))
                ⟨z.1, z.2.1⟩
              refine ⟨m', hm, j + 1, H', I'.unpinned.weak (by rw [← hw15, wipe_length]) (fun j v e => by rw [← hw15] at e; exact (wipe_some e).1), T1.keep _ _ _ st14 fun b hb o e => (pin' b hb o e).1, fun b hb => ?_, w'⟩
              obtain ⟨o, e, _⟩ := T1.obj _ _ st14 b hb
              exact (pin' b hb o e).2
            cases b1 with
            | false =>
              simp only [Bool.false_eq_true, if_false] at q16 ⊢
              exact fin1 I16 q16
            | true =>
              simp only [if_true] at q16 ⊢
              refine thnF (pe.run _ s16 σ15 H16 _ I16 q16) fun z s17 ⟨yv, H17, I17, r17, cb, S0, n0, ey, hD17, hz17, nx⟩ => ?_
              subst ey
              obtain ⟨tk, ez⟩ := (show ∃ tk, z = Value.str cb tk from r17)
              subst ez
              exact addT_ok (X := X.blk s3 H3 scope ce fp) I17 hD17 hz17 fun s18 I18 => fin1 I18 nx
        exact sStart1_ok loop1 (T1.self X.A 0 _ _ _ st11 loop1)
  exact PpSet.codeAny_compStart_set loop (T.self X.A 0 _ _ _ st4 loop)
theorem pe_sc2 {elt tg iter tg1 iter1 : Expr} {ifs ifs1 : List Expr} {scope : Scope} {own : List (Str × Nat)} {vs1 : List Nat} {pos : Pos} {wi wi1 : TI} {g g1 : TG} {tt tt1 : TT} {te : TE} (hc : X.calm = true) (hN : X.N.Nodup) (hi : PI X tg iter wi) (ok : BlkOk X.N X.env.scope scope own) (hv : ∀ i ∈ vs1, i ∈ own.map (·.2))
    (hg : ∀ (s : Shared) (H : Hp) (C : Addr) (cl : List (Str × Addr)) (fp : List Addr), PG (X.blk s H scope (compEnvC scope cl C X.env) fp) tg g) (ht : ∀ (s : Shared) (H : Hp) (C : Addr) (cl : List (Str × Addr)) (fp : List Addr), PTs (X.blk s H scope (compEnvC scope cl C X.env) fp) ifs tt)
    (hi1 : ∀ (s : Shared) (H : Hp) (C : Addr) (cl : List (Str × Addr)) (fp : List Addr), PI (X.blk s H scope (compEnvC scope cl C X.env) fp) tg1 iter1 wi1)
    (hg1 : ∀ (s : Shared) (H : Hp) (C : Addr) (cl : List (Str × Addr)) (fp : List Addr), PG (X.blk s H scope (compEnvC scope cl C X.env) fp) tg1 g1) (ht1 : ∀ (s : Shared) (H : Hp) (C : Addr) (cl : List (Str × Addr)) (fp : List Addr), PTs (X.blk s H scope (compEnvC scope cl C X.env) fp) ifs1 tt1)
    (he : ∀ (s : Shared) (H : Hp) (C : Addr) (cl : List (Str × Addr)) (fp : List Addr), PE (X.blk s H scope (compEnvC scope cl C X.env) fp) elt te) (hs : ∀ x, foldedSetIterable iter X.env x = pure x := by intro _; rfl) (hs1 : ∀ env x, foldedSetIterable iter1 env x = pure x := by intro _ _; rfl) :
    PE X (.SetComp elt [⟨tg, iter, ifs, 0⟩, ⟨tg1, iter1, ifs1, 0⟩] scope pos) (tSc2 X.w wi g tt wi1 g1 tt1 te (own.map (·.2)) vs1) := by
  refine ⟨fun pins s σ H Q I h => ?_⟩
  rw [PpSet.eval_SetComp]
  refine sc2_core hc hN I hi ok hv hg ht he hs hi1 hg1 ht1 hs1 h fun D C s' m H' I' q hn f => ⟨m, hn, fun h'' sb => ?_⟩
  obtain ⟨f0, f1, f2, f3, f4, f5⟩ := f
  exact ⟨.ref D, H', I'.turned (t' := s'.toks) (fun b o hb e => (sb.2 b hb).trans e) f0 f1 f3 f4 f5, rfl, q⟩
end
theorem goodT_str {w : World} {e : Int × Value} (g : GoodT w e) : strOf e.2 = keyT e := by
  obtain ⟨k, tk, h1, _⟩ := g
  unfold keyT
  rw [h1]
  rfl
theorem sorted_setT {P : Program} {w : World} {A : Around} {E : Value → Shared → Prop} {s : Shared} {a : Addr} {S : Str → Bool} {n : Nat} {Q : Value → Shared → Prop} (R : SetT w s.heap a S n) (hh : A.handled = none) (h64 : n < 64)
    (hQ : ∀ s' p (out : Array Value) (c : Nat) (ss : List Str), (∀ b o, s.heap.get? b = some o → s'.heap.get? b = some o) → s'.gens = s.gens → s'.os = s.os → s.heap.objs.size ≤ p →
      s'.heap.get? p = some (seqObj "list" out c) → StrsAre out.toList ss → sortedS ss = true → ss.Nodup → (∀ k, k ∈ ss ↔ S k = true) → ss.length = n → Q (.ref p) s') :
    wpAny (model P w) A (call (.builtin "sorted") [.ref a]) Q E s := by
  obtain ⟨o, es, ep, t, ho, hex, hd, g, nd, hm, hb, hf, hn, hr, hl⟩ := R
  refine Calls.call_function_entry kind_sorted plain_sorted entry_sorted (args_sorted1 _) ?_
  unfold Builtin.«sorted»
  refine wpAny_bind (m := checkCount "sorted" 1 1 _) (wpAny_pure ?_)
  refine wpAny_bind (collect_set (A := A.in1) hh ⟨o, ho, hex.1, hd⟩ hf hb hr hl fun s1 vs k1 hz g1 o1 pm => ?_)
  have len : vs.length = n := by rw [pm.length_eq, List.length_map, Array.length_toList]; exact hn
  have hS : StrsAre vs (vs.map strOf) := strsAre_map vs fun v hv => by
    obtain ⟨e, he, q⟩ := List.mem_map.mp (pm.mem_iff.mp hv)
    obtain ⟨k, tk, h1, _⟩ := g e he
    exact ⟨k, tk, by rw [← q]; exact h1⟩
  have pk : (vs.map strOf).Perm (es.toList.map keyT) := by
    have q := pm.map strOf
    rw [List.map_map] at q
    have e : es.toList.map (strOf ∘ fun x => x.2) = es.toList.map keyT := List.map_congr_left fun x hx => goodT_str (g x hx)
    rw [e] at q
    exact q
  refine wpAny_bind (wpAny_newList ?_ (by rw [len, sizeLine_eq]; omega))
  have hoL : (s1.heap.push (seqObj "list" vs.toArray 0)).get? s1.heap.objs.size = some (seqObj "list" vs.toArray 0) := Heap.get?_push_size _ rfl
  refine wpAny_bind (wpAny_holding (wpAny_call_entry slot_list_sort ⟨_, hoL, rfl⟩ entry_list_sort
    (list_sort_treeK strKind_oneLt (s := { s1 with heap := s1.heap.push (seqObj "list" vs.toArray 0) }) hoL hS.keysOf (fun v₁ v₂ rest e => keyKind_strs (by rw [← e]; exact hS)) (by rw [len]; exact h64) fun st' hp hs => ⟨_, rfl, ?_⟩) (args_list_sort _)))
  obtain ⟨ys, g2, g3, g4⟩ := sorted_out_str hS hp hs
  obtain ⟨c, hc⟩ := sortedHeap_at (vs := vs) (out := (arrOf st').map (·.2)) hoL
  have pn : ys.Perm (es.toList.map keyT) := g3.trans pk
  refine wpAny_pure ⟨_, rfl, hQ _ s1.heap.objs.size _ c ys (fun b u e => ?_) g1 o1 hz hc g2 g4 (pn.nodup_iff.mpr nd) (fun k => by rw [pn.mem_iff, ← hm k]) ?_⟩
  · have q := k1 b u e
    have hlt := Heap.lt_size q
    show (sortedHeap (s1.heap.push (seqObj "list" vs.toArray 0)) s1.heap.objs.size vs _).get? b = some u
    rw [sortedHeap_old (Nat.ne_of_lt hlt) (by rw [size_push']; exact Nat.lt_succ_of_lt hlt)]
    exact Heap.get?_push_of_some _ q
  · rw [pn.length_eq, List.length_map, Array.length_toList]; exact hn
def rSortedT (w : World) : List V → Hp → VK → Prop := fun vs H Q => ∃ (a : Addr) (S : Str → Bool) (n : Nat), vs = [V.ref a] ∧ H a = some (SetTO w a S n) ∧ n < 64 ∧
  ∀ (ss : List Str) (p : Addr), sortedS ss = true → ss.Nodup → (∀ k : Str, k ∈ ss ↔ S k = true) → ss.length = n → H p = none → Q (.ref p) (upd H p (.lst (ss.map V.str)))
theorem cr_sortedT {X : Cx} (hc : X.calm = true) : CallR X (.builtin "sorted") (rSortedT X.w) := by
  intro pins s σ H vs us Q I r h
  obtain ⟨a, S, n, rfl, ha, h64, q⟩ := h
  have R := setTO_get I ha
  rw [Vals.ref1 r]
  refine sorted_setT R (I.ok.hd hc) h64 fun s' p out c ss k g o hp hg hi hs hN hm hl => ?_
  have hlen : (ss.map V.str).length ≤ sizeLine := by rw [List.length_map, hl, sizeLine_eq]; omega
  have hn : H p = none := I.hok.fresh hp
  have J : Inv X pins σ (upd H p (.lst (ss.map V.str))) { s with heap := s'.heap, gens := s'.gens, drawn := s'.drawn, toks := s'.toks } :=
    I.call (ch := []) (Un.laid k hp hn) (I.hok.laid k hp ⟨hlen, out.toList, c, vals_of_strs hi, hg⟩) (by rw [g]; exact I.bare) (fun _ z => nomatch z)
  have e : s' = { s with heap := s'.heap, gens := s'.gens, drawn := s'.drawn, toks := s'.toks } := by
    cases s'
    cases s
    cases o
    rfl
  rw [e]
  exact ⟨.ref p, _, J, rfl, q ss p hs hN hm hl hn⟩
end
end TxS
set_option Elab.async false
set_option linter.all false
set_option maxRecDepth 100000
namespace RF
open PySem PySem.Spec L2
open PyProof.Rows hiding St
def sLt (a b : Str) : Prop := a.cps.toList < b.cps.toList
instance (a b : Str) : Decidable (sLt a b) := inferInstanceAs (Decidable (a.cps.toList < b.cps.toList))
theorem sLt_trans {a b c : Str} (h : sLt a b) (k : sLt b c) : sLt a c := List.lt_trans h k
theorem sLt_irr {a : Str} : ¬ sLt a a := List.lt_irrefl _
theorem sLt_tri {a b : Str} (h : ¬ sLt b a) (k : a ≠ b) : sLt a b := by
  unfold sLt at *
  have h1 : a.cps.toList ≤ b.cps.toList := List.not_lt.mp h
  rcases Decidable.em (a.cps.toList < b.cps.toList) with q | q
  · exact q
  · have h2 : b.cps.toList ≤ a.cps.toList := List.not_lt.mp q
    have e := List.le_antisymm h1 h2
    refine absurd ?_ k
    cases a; cases b
    simp only [Str.mk.injEq]
    exact Array.toList_inj.mp e
def insU (x : Str) : List Str → List Str
  | [] => [x]
  | y :: r => if x = y then y :: r else if sLt x y then x :: y :: r else y :: insU x r
def sortU : List Str → List Str
  | [] => []
  | x :: r => insU x (sortU r)
theorem insU_mem (x : Str) : ∀ (l : List Str) (z : Str), z ∈ insU x l ↔ z = x ∨ z ∈ l
  | [], z => by simp [insU]
  | y :: r, z => by
    unfold insU
    split
    · rename_i h; subst h; simp
    · split
      · simp
      · rw [List.mem_cons, insU_mem x r z, List.mem_cons]
        constructor <;> (intro q; rcases q with q | q | q <;> simp [q])
theorem insU_lt (x : Str) : ∀ l : List Str, l.Pairwise sLt → (insU x l).Pairwise sLt
  | [], _ => by simp [insU]
  | y :: r, h => by
    obtain ⟨h1, h2⟩ := List.pairwise_cons.mp h
    unfold insU
    split
    · exact h
    · split
      · rename_i q
        refine List.pairwise_cons.mpr ⟨fun z hz => ?_, h⟩
        rcases List.mem_cons.mp hz with e | e
        · rw [e]; exact q
        · exact sLt_trans q (h1 z e)
      · rename_i n q
        refine List.pairwise_cons.mpr ⟨fun z hz => ?_, insU_lt x r h2⟩
        rcases (insU_mem x r z).mp hz with e | e
        · rw [e]; exact sLt_tri q (Ne.symm n)
        · exact h1 z e
theorem sortU_mem : ∀ (l : List Str) (z : Str), z ∈ sortU l ↔ z ∈ l
  | [], z => by simp [sortU]
  | x :: r, z => by unfold sortU; rw [insU_mem, sortU_mem r z, List.mem_cons]
theorem sortU_lt : ∀ l : List Str, (sortU l).Pairwise sLt
  | [] => List.Pairwise.nil
  | x :: r => insU_lt x _ (sortU_lt r)
theorem lt_unique : ∀ (a b : List Str), a.Pairwise sLt → b.Pairwise sLt → (∀ z, z ∈ a ↔ z ∈ b) → a = b
  | [], [], _, _, _ => rfl
  | [], y :: s, _, _, m => by have := (m y).mpr (by simp); simp at this
  | x :: r, [], _, _, m => by have := (m x).mp (by simp); simp at this
  | x :: r, y :: s, h, k, m => by
    obtain ⟨h1, h2⟩ := List.pairwise_cons.mp h
    obtain ⟨k1, k2⟩ := List.pairwise_cons.mp k
    have e : x = y := by
      rcases List.mem_cons.mp ((m x).mp (by simp)) with e | e
      · exact e
      · rcases List.mem_cons.mp ((m y).mpr (by simp)) with q | q
        · exact q.symm
        · exact absurd (sLt_trans (h1 y q) (k1 x e)) sLt_irr
    subst e
    rw [lt_unique r s h2 k2 fun z => ?_]
    constructor
    · intro hz
      rcases List.mem_cons.mp ((m z).mp (by simp [hz])) with q | q
      · subst q; exact absurd (h1 z hz) sLt_irr
      · exact q
    · intro hz
      rcases List.mem_cons.mp ((m z).mpr (by simp [hz])) with q | q
      · subst q; exact absurd (k1 z hz) sLt_irr
      · exact q
theorem rising_lt : ∀ (p : Str) (l : List Str), risingS p l = true → (p :: l).Nodup → (p :: l).Pairwise sLt
  | p, [], _, _ => by simp
  | p, x :: r, h, n => by
    have h' : (!ltCps x.cps.toList p.cps.toList && risingS x r) = true := h
    obtain ⟨h1, h2⟩ := Bool.and_eq_true_iff.mp h'
    obtain ⟨n1, n2⟩ := List.nodup_cons.mp n
    have i := rising_lt x r h2 n2
    have q : sLt p x := by
      refine sLt_tri (fun z => ?_) fun e => n1 (by rw [e]; simp)
      rw [ltCps_eq, decide_eq_true (show x.cps.toList < p.cps.toList from z)] at h1
      cases h1
    refine List.pairwise_cons.mpr ⟨fun z hz => ?_, i⟩
    rcases List.mem_cons.mp hz with e | e
    · rw [e]; exact q
    · exact sLt_trans q ((List.pairwise_cons.mp i).1 z e)
theorem sorted_lt : ∀ (l : List Str), sortedS l = true → l.Nodup → l.Pairwise sLt
  | [], _, _ => List.Pairwise.nil
  | x :: r, h, n => rising_lt x r h n
theorem sortU_is {ss xs : List Str} (h : sortedS ss = true) (n : ss.Nodup) (m : ∀ k, k ∈ ss ↔ k ∈ xs) : ss = sortU xs :=
  lt_unique _ _ (sorted_lt ss h n) (sortU_lt xs) fun z => (m z).trans (sortU_mem xs z).symm
end RF
set_option Elab.async false
set_option linter.all false
set_option maxRecDepth 100000
set_option maxHeartbeats 2000000
namespace RF
open PySem PySem.Spec L2
open PyProof.Rows hiding St
def pushS (y : D) : D → Option D
  | .lst l => match y with
    | .str _ => if l.length + 1 < 4000 then some (.lst (l ++ [y])) else none
    | _ => none
  | _ => none
def goP (pu : D → D → Option D) (vs : List Nat) (g : D → Env → Option Env) (t : FTx) (e : FX) (d a : D) (ρ : Env) : Option (D × Env) :=
  (g d ρ).bind fun ρ1 => (t ρ1).bind fun b => if b.1 then (e b.2).bind fun y => (pu y.1 a).map fun a' => (a', wp y.2 vs) else some (a, wp b.2 vs)
def goP2 (pu : D → D → Option D) (vs vs1 : List Nat) (g : D → Env → Option Env) (t : FTx) (w1 : FL) (g1 : D → Env → Option Env) (t1 : FTx) (e : FX) (d a : D) (ρ : Env) : Option (D × Env) :=
  (g d ρ).bind fun ρ1 => (t ρ1).bind fun b => if b.1 then (w1 b.2).bind fun p => (runGo (goP pu vs1 g1 t1 e) p.1 a (wp p.2 vs1)).map fun r => (r.1, wp r.2 vs) else some (a, wp b.2 vs)
def xSc2 (vs vs1 : List Nat) (w : FL) (g : D → Env → Option Env) (t : FTx) (w1 : FL) (g1 : D → Env → Option Env) (t1 : FTx) (e : FX) : FX := fun ρ => (w ρ).bind fun p => (runGo (goP2 pushS vs vs1 g t w1 g1 t1 e) p.1 (.lst []) (wp p.2 vs)).map fun r => (r.1, rst p.2 r.2 vs)
def sortS : D → Option D
  | .lst l => (asStrs l).bind fun xs => if (ded xs).length < 64 then some (.lst ((sortU xs).map .str)) else none
  | _ => none
section
variable {P : Program} {w : World} {K : PySem.W.Frag} (C : Hp → Hp → Addr → D → Prop)
def AtC (P : Program) (w : World) (K : PySem.W.Frag) (C : Hp → Hp → Addr → D → Prop) (F : Hp) (Pn : List (Nat × Addr)) (O : List Nat) (A : Addr) (G : Hp) (a : D) (ρ : Env) (τ : St) (H : Hp) : Prop := ∃ o, SR P w K (upd F A o) Pn O G ρ τ H ∧ C G H A a
def MonoC : Prop := ∀ ⦃G G' H H' : Hp⦄ ⦃a : Addr⦄ ⦃d : D⦄, Same G G' → H' a = H a → C G H a d → C G' H' a d
theorem loopC {F G H : Hp} {Pn : List (Nat × Addr)} {O : List Nat} {A : Addr} {J : It} {go : D → D → Env → Option (D × Env)} {ds : List D} {a a' : D} {ρ ρ' : Env} {τ : St} {Qd : Hp → Prop} (mc : MonoC C) (step : V → Hp → (Hp → Prop) → Prop)
    (hstep : ∀ G H d v a ρ a' ρ', AtC P w K C F Pn O A G a ρ τ H → Rep P w K G d v → go d a ρ = some (a', ρ') → ∀ Nx : Hp → Prop, (∀ G' H', AtC P w K C F Pn O A G' a' ρ' τ H' → Same G G' → Nx H') → step v H Nx)
    (S : AtC P w K C F Pn O A G a ρ τ H) (W : Wk P w K G J ds) (e : runGo go ds a ρ = some (a', ρ')) (hd : ∀ G' H', AtC P w K C F Pn O A G' a' ρ' τ H' → Same G G' → Qd H') :
    ∃ W : Nat → Nat → Hp → Prop, (∃ m, W 0 m H) ∧ ∀ i m H, W i m H → (J.stop i H ∧ Qd H) ∨ (J.go i H ∧ ∃ Nx : Hp → Prop, (∀ H', Nx H' → ∃ m', m' < m ∧ W (i + 1) m' H') ∧ ∀ x H', J.yld i H x H' → step x H' Nx) := by
  refine ⟨fun i m H => m = ds.length - i ∧ i ≤ ds.length ∧ ∃ G1 b ρ1, AtC P w K C F Pn O A G1 b ρ1 τ H ∧ Same G G1 ∧ runGo go (ds.drop i) b ρ1 = some (a', ρ'), ⟨ds.length, by simp, Nat.zero_le _, G, a, ρ, S, Same.refl _, e⟩, ?_⟩
  rintro i m H1 ⟨rfl, hi, G1, b, ρ1, ⟨o, S1, C1⟩, s1, e1⟩
  obtain ⟨w1, w2⟩ := W G1 H1 s1 S1.sub
  by_cases hlt : i < ds.length
  · have hx : ds[i]? = some ds[i] := List.getElem?_eq_getElem hlt
    obtain ⟨g1, g2⟩ := w2 i _ hx
    rw [List.drop_eq_getElem_cons hlt] at e1
    obtain ⟨⟨c, ρ2⟩, e2, e3⟩ := bindE (show (go ds[i] b ρ1).bind (fun p => runGo go (ds.drop (i + 1)) p.1 p.2) = some (a', ρ') from e1)
    refine .inr ⟨g1, fun H' => ∃ G2, AtC P w K C F Pn O A G2 c ρ2 τ H' ∧ Same G G2, fun H' ⟨G2, S2, s2⟩ => ⟨ds.length - (i + 1), by omega, rfl, hlt, G2, c, ρ2, S2, s2, e3⟩, fun v H' y => ?_⟩
    obtain ⟨G2, gr, r⟩ := g2 v H' y
    have hA := (S1.frm A o upd_same).1
    refine hstep G2 H' _ v b ρ1 c ρ2 ⟨o, S1.grow gr, mc gr.g ((gr.h _ _ hA).trans hA.symm) C1⟩ r e2 _ fun G3 H3 S3 s3 => ⟨G3, S3, s1.trans (gr.g.trans s3)⟩
  · have : i = ds.length := by omega
    subst this
    rw [List.drop_length] at e1
    cases e1
    exact .inl ⟨w1, hd G1 H1 ⟨o, S1, C1⟩ s1⟩
variable {O : List Nat} {is is1 vs vs1 : List Nat} {g g1 : D → Env → Option Env} {t t1 : FTx} {e : FX} {wf wf1 : FL} {pu : D → D → Option D} {C}
theorem stepC {F : Hp} {Pn : List (Nat × Addr)} {A : Addr} {σ : St} {Pw : V → Hp → (Hp → Prop) → Prop} (mc : MonoC C)
    (hpu : ∀ ⦃G H : Hp⦄ ⦃a a' y : D⦄ ⦃v : V⦄ ⦃ρ : Env⦄ ⦃τ : St⦄, AtC P w K C F Pn O A G a ρ τ H → Rep P w K G y v → pu y a = some a' → ∀ Nx : Hp → Prop, (∀ H', AtC P w K C F Pn O A G a' ρ τ H' → Nx H') → Pw v H Nx)
    (hi : ∀ i ∈ is, i ∈ vs) (hv : ∀ v ∈ vs, v ∉ O) (G H : Hp) (d : D) (v : V) (a : D) (ρ : Env) (a' : D) (ρ' : Env) (S : AtC P w K C F Pn O A G a ρ (wipe σ vs) H) (r : Rep P w K G d v)
    (h : goP pu vs g t e d a ρ = some (a', ρ')) (Nx : Hp → Prop) (k : ∀ G' H', AtC P w K C F Pn O A G' a' ρ' (wipe σ vs) H' → Same G G' → Nx H') :
    tDg P w K O is g v (wipe σ vs) H fun σ2 H2 => wipe σ2 vs = wipe σ vs ∧ tDt P w K O t σ2 H2 fun b H3 => if b = true then tD P w K O e σ2 H3 fun y H4 => Pw y H4 Nx else Nx H3 := by
  obtain ⟨o, S, Cc⟩ := S
  have hA := (S.frm A o upd_same).1
  obtain ⟨ρ1, e1, h⟩ := bindE h
  obtain ⟨⟨b, ρ2⟩, e2, h⟩ := bindE h
  refine ⟨_, Pn, G, ρ, d, ρ1, S, r, e1, fun σ2 G2 H2 S2 s2 o2 => ⟨off_wipe o2 hi, _, Pn, G2, ρ1, b, ρ2, S2, e2, fun G3 H3 S3 s3 => ?_⟩⟩
  have hw := off_wipe o2 hi
  have hA3 := (S3.frm A o upd_same).1
  cases b with
  | true =>
    show (if true = true then _ else _)
    rw [if_pos rfl]
    obtain ⟨⟨y, ρ3⟩, e3, h⟩ := bindE (show (e ρ2).bind (fun y => (pu y.1 a).map fun a' => (a', wp y.2 vs)) = some (a', ρ') from h)
    obtain ⟨a1, e4, h⟩ := mapE h
    cases h
    refine ⟨_, Pn, G3, ρ2, y, ρ3, S3, e3, fun u G4 H4 S4 s4 r4 => ?_⟩
    have hA4 := (S4.frm A o upd_same).1
    refine hpu (⟨o, S4, mc (s2.trans (s3.trans s4)) (hA4.trans hA.symm) Cc⟩ : AtC P w K C F Pn O A G4 a ρ3 σ2 H4) r4 e4 Nx fun H5 ⟨o', S5, C5⟩ => ?_
    exact k G4 _ ⟨o', by rw [← hw]; exact S5.wipe hv, C5⟩ (s2.trans (s3.trans s4))
  | false =>
    show (if false = true then _ else _)
    rw [if_neg Bool.false_ne_true]
    cases h
    refine k G3 H3 ⟨o, by rw [← hw]; exact S3.wipe hv, mc (s2.trans s3) (hA3.trans hA.symm) Cc⟩ (s2.trans s3)
theorem stepC2 {F : Hp} {Pn : List (Nat × Addr)} {A : Addr} {σ : St} {Pw : V → Hp → (Hp → Prop) → Prop} (mc : MonoC C)
    (hpu : ∀ ⦃G H : Hp⦄ ⦃a a' y : D⦄ ⦃v : V⦄ ⦃ρ : Env⦄ ⦃τ : St⦄, AtC P w K C F Pn O A G a ρ τ H → Rep P w K G y v → pu y a = some a' → ∀ Nx : Hp → Prop, (∀ H', AtC P w K C F Pn O A G a' ρ τ H' → Nx H') → Pw v H Nx)
    (hi : ∀ i ∈ is, i ∈ vs) (hv : ∀ v ∈ vs, v ∉ O) (hi1 : ∀ i ∈ is1, i ∈ vs1) (hv1 : ∀ v ∈ vs1, v ∈ vs) (G H : Hp) (d : D) (v : V) (a : D) (ρ : Env) (a' : D) (ρ' : Env) (S : AtC P w K C F Pn O A G a ρ (wipe σ vs) H) (r : Rep P w K G d v)
    (h : goP2 pu vs vs1 g t wf1 g1 t1 e d a ρ = some (a', ρ')) (Nx : Hp → Prop) (k : ∀ G' H', AtC P w K C F Pn O A G' a' ρ' (wipe σ vs) H' → Same G G' → Nx H') :
    tDg P w K O is g v (wipe σ vs) H fun σ2 H2 => wipe σ2 vs = wipe σ vs ∧ tDt P w K O t σ2 H2 fun b H3 => if b = true then tDi P w K O wf1 σ2 H3 fun J1 H4 => ∃ W1 : Nat → Nat → Hp → Prop, (∃ m, W1 0 m H4) ∧ ∀ j k H, W1 j k H →
      (J1.stop j H ∧ Nx H) ∨ (J1.go j H ∧ ∃ Nx1 : Hp → Prop, (∀ H', Nx1 H' → ∃ k', k' < k ∧ W1 (j + 1) k' H') ∧ ∀ x H', J1.yld j H x H' → tDg P w K O is1 g1 x (wipe σ2 vs1) H' fun σ3 H5 => wipe σ3 vs1 = wipe σ2 vs1 ∧ tDt P w K O t1 σ3 H5 fun b H6 =>
        if b = true then tD P w K O e σ3 H6 fun y H7 => Pw y H7 Nx1 else Nx1 H6) else Nx H3 := by
  obtain ⟨o, S, Cc⟩ := S
  have hA := (S.frm A o upd_same).1
  obtain ⟨ρ1, e1, h⟩ := bindE h
  obtain ⟨⟨b, ρ2⟩, e2, h⟩ := bindE h
  refine ⟨_, Pn, G, ρ, d, ρ1, S, r, e1, fun σ2 G2 H2 S2 s2 o2 => ⟨off_wipe o2 hi, _, Pn, G2, ρ1, b, ρ2, S2, e2, fun G3 H3 S3 s3 => ?_⟩⟩
  have hw := off_wipe o2 hi
  have hA3 := (S3.frm A o upd_same).1
  cases b with
  | true =>
    show (if true = true then _ else _)
    rw [if_pos rfl]
    obtain ⟨⟨ds, ρ3⟩, e3, h⟩ := bindE (show (wf1 ρ2).bind (fun p => (runGo (goP pu vs1 g1 t1 e) p.1 a (wp p.2 vs1)).map fun r => (r.1, wp r.2 vs)) = some (a', ρ') from h)
    obtain ⟨⟨a1, ρ4⟩, e4, h⟩ := mapE h
    cases h
    refine ⟨_, Pn, G3, ρ2, ds, ρ3, S3, e3, fun J1 G4 H4 S4 s4 W1 => ?_⟩
    have hA4 := (S4.frm A o upd_same).1
    have hv1O : ∀ v ∈ vs1, v ∉ O := fun v z => hv v (hv1 v z)
    have S5 : AtC P w K C F Pn O A G4 a (wp ρ3 vs1) (wipe σ2 vs1) H4 := ⟨o, S4.wipe hv1O, mc (s2.trans (s3.trans s4)) (hA4.trans hA.symm) Cc⟩
    exact loopC C mc (fun x H' Nx1 => tDg P w K O is1 g1 x (wipe σ2 vs1) H' fun σ3 H5 => wipe σ3 vs1 = wipe σ2 vs1 ∧ tDt P w K O t1 σ3 H5 fun b H6 =>
        if b = true then tD P w K O e σ3 H6 fun y H7 => Pw y H7 Nx1 else Nx1 H6)
      (fun G H d v a ρ a' ρ' => stepC mc hpu hi1 hv1O G H d v a ρ a' ρ') S5 W1 e4 fun G6 H6 ⟨o6, S6, C6⟩ s6 => by
        refine k G6 H6 ⟨o6, ?_, C6⟩ (s2.trans (s3.trans (s4.trans s6)))
        have := S6.wipe hv
        rw [wipe_wipe hv1, hw] at this
        exact this
  | false =>
    show (if false = true then _ else _)
    rw [if_neg Bool.false_ne_true]
    cases h
    refine k G3 H3 ⟨o, by rw [← hw]; exact S3.wipe hv, mc (s2.trans s3) (hA3.trans hA.symm) Cc⟩ (s2.trans s3)
end
def CellT (w : World) (G H : Hp) (A : Addr) (d : D) : Prop := ∃ xs : List Str, d = .lst (xs.map .str) ∧ xs.length < 4000 ∧ H A = some (TxS.SetTO w A (fun k => decide (k ∈ xs)) (ded xs).length)
theorem cellT_mono (w : World) : MonoC (CellT w) := fun _ _ _ _ _ _ _ h ⟨xs, e, l, q⟩ => ⟨xs, e, l, h.trans q⟩
theorem ded_len : ∀ (xs : List Str), (ded xs).length ≤ xs.length := by
  intro xs
  have : ∀ (l acc : List Str), (l.foldl ded1 acc).length ≤ acc.length + l.length := by
    intro l
    induction l with
    | nil => intro acc; simp
    | cons x l ih =>
      intro acc
      have := ih (ded1 acc x)
      have h : (ded1 acc x).length ≤ acc.length + 1 := by unfold ded1; split <;> simp
      simp only [List.foldl_cons, List.length_cons]; omega
  have h := this xs []
  simp only [List.length_nil, Nat.zero_add] at h
  exact h
theorem ded_mem : ∀ (xs : List Str) (z : Str), z ∈ ded xs ↔ z ∈ xs := by
  intro xs z
  have : ∀ (l acc : List Str), z ∈ l.foldl ded1 acc ↔ z ∈ acc ∨ z ∈ l := by
    intro l
    induction l with
    | nil => intro acc; simp
    | cons x l ih =>
      intro acc
      rw [List.foldl_cons, ih]
      unfold ded1
      split
      · rename_i h
        simp only [List.mem_cons]
        constructor
        · rintro (q | q); exact .inl q; exact .inr (.inr q)
        · rintro (q | q | q); exact .inl q; exact .inl (q ▸ h); exact .inr q
      · simp [or_assoc]
  simpa [ded] using this xs []
theorem ded_snoc (xs : List Str) (y : Str) : (ded (xs ++ [y])).length = if y ∈ xs then (ded xs).length else (ded xs).length + 1 := by
  unfold ded
  rw [List.foldl_append]
  show (ded1 (ded xs) y).length = _
  unfold ded1
  have := ded_mem xs y
  by_cases h : y ∈ xs
  · rw [if_pos h, if_pos (this.mpr h)]; rfl
  · rw [if_neg h, if_neg (fun z => h (this.mp z)), List.length_append]; rfl
theorem asStrs_map : ∀ xs : List Str, asStrs (xs.map D.str) = some xs
  | [] => rfl
  | x :: r => by show (asStrs (r.map D.str)).map _ = _; rw [asStrs_map r]; rfl
section
variable {X : Cx} {O : List Nat} {elt tg iter tg1 iter1 : Expr} {ifs ifs1 : List Expr} {scope : Scope} {pos p cpos : Pos} {wf wf1 : FL} {g g1 : D → Env → Option Env} {t t1 : FTx} {e : FX} {is is1 : List Nat}
theorem pushT {P : Program} {w : World} {K : PySem.W.Frag} {F : Hp} {Pn : List (Nat × Addr)} {A : Addr} {G H : Hp} {a a' y : D} {v : V} {ρ : Env} {τ : St} (S : AtC P w K (CellT w) F Pn O A G a ρ τ H) (r : Rep P w K G y v) (h : pushS y a = some a') (Nx : Hp → Prop) (k : ∀ H', AtC P w K (CellT w) F Pn O A G a' ρ τ H' → Nx H') :
    ∃ (c : Str) (S : Str → Bool) (n : Nat), v = .str c ∧ H A = some (TxS.SetTO w A S n) ∧ n + 1 < scanBound ∧ Nx (upd H A (TxS.SetTO w A (fun j => S j || decide (j = c)) (if S c = true then n else n + 1))) := by
  obtain ⟨o, S, xs, ea, hl, hA⟩ := S
  subst ea
  cases y with
  | str c =>
    obtain ⟨hz, e⟩ := ifE (show (if (xs.map D.str).length + 1 < 4000 then some (D.lst (xs.map D.str ++ [D.str c])) else none) = some a' from h)
    subst e
    have r : v = .str c := r
    rw [List.length_map] at hz
    have := ded_len xs
    refine ⟨c, _, _, r, hA, by unfold scanBound; omega, k _ ⟨_, S.chgF, xs ++ [c], by simp, by simpa using hz, ?_⟩⟩
    rw [upd_same, ded_snoc]
    have e1 : (fun j => decide (j ∈ xs) || decide (j = c)) = fun j => decide (j ∈ xs ++ [c]) := by
      funext j
      rw [← Bool.decide_or]
      exact decide_eq_decide.mpr (by simp)
    rw [e1]
    by_cases hc : c ∈ xs
    · rw [decide_eq_true hc, if_pos rfl, if_pos hc]
    · rw [decide_eq_false hc, if_neg (by simp), if_neg hc]
  | _ => cases h
theorem tSc2_of {P : Program} {w : World} {K : PySem.W.Frag} {vs vs1 : List Nat} {σ : St} {H : Hp} {Q : VK} (hi : ∀ i ∈ is, i ∈ vs) (hv : ∀ v ∈ vs, v ∉ O) (hi1 : ∀ i ∈ is1, i ∈ vs1) (hv1 : ∀ v ∈ vs1, v ∈ vs) {F G : Hp} {Pn : List (Nat × Addr)} {ρ ρ' : Env} {d : D}
    (S : SR P w K F Pn O G ρ σ H) (h : xSc2 vs vs1 wf g t wf1 g1 t1 e ρ = some (d, ρ')) (k : ∀ A G' H', SR P w K F Pn O G' ρ' σ H' → Same G G' → CellT w G' H' A d → Q (.ref A) H') :
    TxS.tSc2 w (tDi P w K O wf) (tDg P w K O is g) (tDt P w K O t) (tDi P w K O wf1) (tDg P w K O is1 g1) (tDt P w K O t1) (tD P w K O e) vs vs1 σ H Q := by
  obtain ⟨⟨ds, ρ1⟩, e1, h⟩ := bindE h
  obtain ⟨⟨a, ρ2⟩, e2, h⟩ := mapE h
  cases h
  refine ⟨F, Pn, G, ρ, ds, ρ1, S, e1, fun J G1 H1 S1 s1 W A hA => ?_⟩
  obtain ⟨_, n, nf, _⟩ := S1.lay (o := .lst []) hA
  have S2 : AtC P w K (CellT w) F Pn O A G1 (.lst []) (wp ρ1 vs) (wipe σ vs) (upd H1 A (TxS.SetTO w A (fun _ => false) 0)) := ⟨_, (S1.wipe hv).addF hA, [], rfl, by decide, by rw [upd_same]; simp [ded]⟩
  exact loopC (CellT w) (cellT_mono w) (Qd := fun H => Q (.ref A) H) _ (fun G H d v a ρ a' ρ' => stepC2 (Pw := fun y H Nx => ∃ (c : Str) (S : Str → Bool) (n : Nat), y = .str c ∧ H A = some (TxS.SetTO w A S n) ∧ n + 1 < scanBound ∧ Nx (upd H A (TxS.SetTO w A (fun j => S j || decide (j = c)) (if S c = true then n else n + 1)))) (cellT_mono w) (fun _ _ _ _ _ _ _ _ S r h Nx k => pushT S r h Nx k) hi hv hi1 hv1 G H d v a ρ a' ρ') S2 W e2 fun G3 H3 ⟨o, S3, C3⟩ s3 => by
      obtain ⟨S4, n4, hA4, hj4⟩ := S3.delF nf
      exact k A G3 H3 (S1.unwipe s3 S4 hv) (s1.trans s3) C3
theorem f_sortSc (own : List (Str × Nat)) (vs1 : List Nat) (hg0 : Gl X "sorted") (hm : X.mg "sorted" = none) (hc : X.calm = true) (hN : X.N.Nodup) (hi : DI X O tg iter wf) (ok : BlkOk X.N X.env.scope scope own)
    (hg : ∀ (s : Shared) (H : Hp) (C : Addr) (cl : List (Str × Addr)) (fp : List Addr), DG (X.blk s H scope (compEnvC scope cl C X.env) fp) O is tg g) (ht : ∀ (s : Shared) (H : Hp) (C : Addr) (cl : List (Str × Addr)) (fp : List Addr), DTs (X.blk s H scope (compEnvC scope cl C X.env) fp) O ifs t)
    (hi1 : ∀ (s : Shared) (H : Hp) (C : Addr) (cl : List (Str × Addr)) (fp : List Addr), DI (X.blk s H scope (compEnvC scope cl C X.env) fp) O tg1 iter1 wf1)
    (hg1 : ∀ (s : Shared) (H : Hp) (C : Addr) (cl : List (Str × Addr)) (fp : List Addr), DG (X.blk s H scope (compEnvC scope cl C X.env) fp) O is1 tg1 g1) (ht1 : ∀ (s : Shared) (H : Hp) (C : Addr) (cl : List (Str × Addr)) (fp : List Addr), DTs (X.blk s H scope (compEnvC scope cl C X.env) fp) O ifs1 t1)
    (he : ∀ (s : Shared) (H : Hp) (C : Addr) (cl : List (Str × Addr)) (fp : List Addr), DX (X.blk s H scope (compEnvC scope cl C X.env) fp) O elt e) (h1 : ∀ i ∈ is, i ∈ own.map (·.2) := by decide) (h2 : ∀ v ∈ own.map (·.2), v ∉ O := by decide) (h3 : ∀ i ∈ is1, i ∈ vs1 := by decide) (h4 : ∀ v ∈ vs1, v ∈ own.map (·.2) := by decide)
    (hs : ∀ x, foldedSetIterable iter X.env x = pure x := by intro _; rfl) (hs1 : ∀ env x, foldedSetIterable iter1 env x = pure x := by intro _ _; rfl)
    (na : starEach [.SetComp elt [⟨tg, iter, ifs, 0⟩, ⟨tg1, iter1, ifs1, 0⟩] scope pos] X.env = (false, eval (.SetComp elt [⟨tg, iter, ifs, 0⟩, ⟨tg1, iter1, ifs1, 0⟩] scope pos) X.env) :: starEach [] X.env := by rfl) :
    DF X O (.Call (.Name "sorted" p) [.SetComp elt [⟨tg, iter, ifs, 0⟩, ⟨tg1, iter1, ifs1, 0⟩] scope pos] [] cpos) (o1 sortS (xSc2 (own.map (·.2)) vs1 wf g t wf1 g1 t1 e)) := by
  have hsc := TxS.pe_sc2 (elt := elt) (ifs := ifs) (ifs1 := ifs1) (tg1 := tg1) (pos := pos) (g := tDg X.prog X.w X.K O is g) (tt := tDt X.prog X.w X.K O t) (wi1 := tDi X.prog X.w X.K O wf1) (g1 := tDg X.prog X.w X.K O is1 g1) (tt1 := tDt X.prog X.w X.K O t1) (te := tD X.prog X.w X.K O e) hc hN hi ok h4 hg ht hi1 hg1 ht1 he hs hs1
  refine PE.imp (pe_callB (TxS.cr_sortedT hc) hg0 hm boot_sorted (pa_cons hsc pa_nil na)) fun σ H Q ⟨F, Pn, G, ρ, d, ρ', S, e, k⟩ => ?_
  obtain ⟨⟨x, ρ1⟩, e1, e⟩ := bindE e
  obtain ⟨z, e2, e⟩ := mapE e
  cases e
  unfold tCB tCons tNil
  refine tSc2_of h1 h2 h3 h4 S e1 fun A G1 H1 S1 s1 ⟨xs, ex, hl, hA⟩ => ?_
  subst ex
  obtain ⟨ys, e3, e4⟩ := bindE (show (asStrs (xs.map D.str)).bind _ = some _ from e2)
  rw [asStrs_map] at e3
  cases e3
  obtain ⟨hb, e4⟩ := ifE e4
  subst e4
  refine ⟨A, _, _, rfl, hA, hb, fun ss p' q1 q2 q3 q4 hp => ?_⟩
  have es : ss = sortU xs := sortU_is q1 q2 fun k => (q3 k).trans (by simp)
  subst es
  obtain ⟨S2, n, nf, hj⟩ := S1.lay (o := .lst ((sortU xs).map V.str)) hp
  refine k p' G1 _ S2 s1 n nf ⟨_, upd_same, ?_⟩ hj
  generalize sortU xs = l
  induction l with
  | nil => rfl
  | cons x l ih => exact ⟨_, _, rfl, rfl, ih⟩
end
end RF
set_option Elab.async false
set_option linter.all false
set_option maxRecDepth 100000
set_option maxHeartbeats 2000000
namespace DcP
open PySem PySem.Spec PyProof.Rows L2
open RF (pinO pinO_ok)
section
variable {X : Cx}
def tDcP (Pw : Addr → V → V → Hp → (Hp → Prop) → Prop) (wi : TI) (g : TG) (tt : TT) (tk tv : TE) (vs : List Nat) : TE := fun σ H Q => wi σ H fun J H1 => ∀ D, H1 D = none → (D == sysModules) = false → ∃ W : Nat → Nat → Hp → Prop, (∃ m, W 0 m (upd H1 D (pinO D { cls := .type "dict", data := .dict #[] }))) ∧ ∀ i m H, W i m H →
  (J.stop i H ∧ Q (.ref D) H) ∨ (J.go i H ∧ ∃ Nx : Hp → Prop, (∀ H', Nx H' → ∃ m', m' < m ∧ W (i + 1) m' H') ∧ ∀ x H', J.yld i H x H' → g x (wipe σ vs) H' fun σ2 H2 => wipe σ2 vs = wipe σ vs ∧ tt σ2 H2 fun b H3 =>
    if b = true then tk σ2 H3 fun y H4 => tv σ2 H4 fun z H5 => Pw D y z H5 Nx else Nx H3)
theorem dcP_core {pins : List (Addr × Obj)} {s : Shared} {σ : L2.St} {H : Hp} {Q : VK} {kx vx tg iter : Expr} {ifs : List Expr} {scope : Scope} {own : List (Str × Nat)} {pos pos' : Pos} {wi : TI} {g : TG} {tt : TT} {tk tv : TE} {Pw : Addr → V → V → Hp → (Hp → Prop) → Prop} {use : Option (Value → Sem Unit)} {Qf : Value → Shared → Prop}
    (hc : X.calm = true) (hN : X.N.Nodup) (I : Inv X pins σ H s) (hi : PI X tg iter wi) (ok : BlkOk X.N X.env.scope scope own)
    (hg : ∀ (s : Shared) (H : Hp) (C : Addr) (cl : List (Str × Addr)) (fp : List Addr), PG (X.blk s H scope (compEnvC scope cl C X.env) fp) tg g) (ht : ∀ (s : Shared) (H : Hp) (C : Addr) (cl : List (Str × Addr)) (fp : List Addr), PTs (X.blk s H scope (compEnvC scope cl C X.env) fp) ifs tt)
    (hk : ∀ (s : Shared) (H : Hp) (C : Addr) (cl : List (Str × Addr)) (fp : List Addr), PE (X.blk s H scope (compEnvC scope cl C X.env) fp) kx tk)
    (he : ∀ (s : Shared) (H : Hp) (C : Addr) (cl : List (Str × Addr)) (fp : List Addr), PE (X.blk s H scope (compEnvC scope cl C X.env) fp) vx tv) (hs : ∀ x, foldedSetIterable iter X.env x = pure x)
    (hP : ∀ (Y : Cx), Y.prog = X.prog → Y.w = X.w → Y.A = X.A → Y.K = X.K → ∀ (pins : List (Addr × Obj)) (σ : L2.St) (H : Hp) (s : Shared) (D : Addr) (y z : V) (u r : Value) (Nx : Hp → Prop) (Q : Unit → Shared → Prop) (E : Value → Shared → Prop), Inv Y pins σ H s → RelV y u → RelV z r → Pw D y z H Nx → (∀ H' s', Inv Y pins σ H' s' → Nx H' → Q () s') → wpAny (model X.prog X.w) X.A (dictSet D u r) Q E s)
    (h : tDcP Pw wi g tt tk tv (own.map (·.2)) σ H Q)
    (hRR : ∀ D C s' m H', Inv X pins σ H' s' → Q (.ref D) H' → s'.heap.Ns C m → FpOk X pins H' C → compPost (model X.prog X.w) X.A X.xe use Qf (.ref D) C (.ok .next) s') :
    wpAny (model X.prog X.w) X.A (comprehension (.DictComp kx vx [⟨tg, iter, ifs, 0⟩] scope pos) scope X.env pos' newDict false (eval iter X.env) use) Qf X.xe s := by
  have hfree : ∀ y ∈ scope.names, y.2 = .free → ∃ c, X.env.cells.lookup y.1 = some c := fun y hy e => by
    rcases ok.free y hy e with k | k
    · exact I.ok.has _ (.inl k)
    · exact I.ok.has _ (.inr k)
  refine wpAny_comprehension_free (use := use) rfl hs (closure_ok hfree) ok.kind (fun y hy e => by rw [ok.uniq y hy, e])
    (thn (hi.run pins s σ H _ I h) fun xv s1 hx => thn hx fun itv s2 h2 => ?_)
  obtain ⟨it, fp, tn, J, H2, e, I2, T, st2, f2, q⟩ := h2
  subst e
  refine wpAny_newObj_type (newEnv_comp ?_)
  generalize hD : s2.heap.objs.size = D
  have hDn : H2 D = none := I2.hok.fresh (Nat.le_of_eq hD)
  obtain ⟨W, ⟨m0, w0⟩, turn⟩ := q D hDn (by rw [← hD]; exact beq_eq_false_iff_ne.mpr (Ne.symm (Nat.ne_of_lt I2.big)))
  -- the new list
  generalize hs3 : ({ s2 with heap := s2.heap.push { cls := .type "dict", data := .dict #[] } } : Shared) = s3
  have I3 : Inv X pins σ (upd H2 D (pinO D { cls := .type "dict", data := .dict #[] })) s3 := by
    rw [← hs3]
    refine I2.laid (t' := s2.toks) (fun b o e => Heap.get?_push_of_some _ e) (Nat.le_of_eq hD) ?_
    rw [← hD]
    exact pinO_ok (Heap.get?_push_size _ rfl)
  have h3 : s3.heap = s2.heap.push { cls := .type "dict", data := .dict #[] } := by rw [← hs3]
  have sz : ∀ b ∈ fp, b < s2.heap.objs.size := fun b hb => by
    obtain ⟨o, e, _⟩ := T.obj _ _ st2 b hb
    exact Heap.lt_size e
  have f3 : ∀ b ∈ fp, FpOk X pins (upd H2 D (pinO D { cls := .type "dict", data := .dict #[] })) b ∧ b < s3.heap.objs.size := fun b hb => by
    have hlt := sz b hb
    refine ⟨⟨?_, (f2 b hb).2⟩, by rw [h3, Heap.size_push]; exact Nat.lt_succ_of_lt hlt⟩
    rw [upd_ne (by rw [← hD]; exact Nat.ne_of_lt hlt)]
    exact (f2 b hb).1
  have st3 : tn 0 s3.heap := T.keep _ _ _ st2 fun b _ o e => by rw [h3]; exact Heap.get?_push_of_some _ e
  have I4 := block_start I3 ok hN f3
  have pg := hg s3 (upd H2 D (pinO D { cls := .type "dict", data := .dict #[] })) s3.heap.objs.size (cellsFrom (s3.heap.objs.size + 1) scope.names (cloFrom X.env.cells scope.names [])) fp
  have pt := ht s3 (upd H2 D (pinO D { cls := .type "dict", data := .dict #[] })) s3.heap.objs.size (cellsFrom (s3.heap.objs.size + 1) scope.names (cloFrom X.env.cells scope.names [])) fp
  have pk := hk s3 (upd H2 D (pinO D { cls := .type "dict", data := .dict #[] })) s3.heap.objs.size (cellsFrom (s3.heap.objs.size + 1) scope.names (cloFrom X.env.cells scope.names [])) fp
  have pe := he s3 (upd H2 D (pinO D { cls := .type "dict", data := .dict #[] })) s3.heap.objs.size (cellsFrom (s3.heap.objs.size + 1) scope.names (cloFrom X.env.cells scope.names [])) fp
  show codeAny _ _ (.compStart (.DictComp kx vx [⟨tg, iter, ifs, 0⟩] scope pos) 0 (.ref it) (.ref D) (compEnvC scope (cellsFrom (s3.heap.objs.size + 1) scope.names (cloFrom X.env.cells scope.names [])) s3.heap.objs.size X.env)) (compPost (model X.prog X.w) X.A X.xe use Qf (.ref D) s3.heap.objs.size) { s3 with heap := pushCells (s3.heap.push { cls := .type "dict", data := .dict #[] }) scope.names }
  have nfp : ∀ b ∈ fp, (upd H2 D (pinO D { cls := .type "dict", data := .dict #[] })) b = none := fun b hb => (f3 b hb).1.1
  generalize hce : compEnvC scope (cellsFrom (s3.heap.objs.size + 1) scope.names (cloFrom X.env.cells scope.names [])) s3.heap.objs.size X.env = ce at I4 pg pt pk pe ⊢
  have cL : ce.locals = s3.heap.objs.size := by subst hce; rfl
  generalize hH3 : upd H2 D (pinO D { cls := .type "dict", data := .dict #[] }) = H3 at I3 I4 pg pt pk pe w0 nfp f3
  generalize hs4 : ({ s3 with heap := pushCells (s3.heap.push { cls := .type "dict", data := .dict #[] }) scope.names } : Shared) = s4 at I4 ⊢
  have st4 : tn 0 s4.heap := T.keep _ _ _ st3 fun b _ o e => by rw [← hs4]; exact pushCells_keeps _ _ _ _ (Heap.get?_push_of_some _ e)
  have stat : ∀ {σ' : L2.St} {H' : Hp} {s' : Shared}, Inv (X.blk s3 H3 scope ce fp) [] σ' H' s' → (∀ b ∈ fp, H' b = none) → ∀ b ∈ fp, FpOk (X.blk s3 H3 scope ce fp) [] H' b := fun {σ' H' s'} I' hn b hb =>
    ⟨hn b hb, (I'.ok.exf b hb).1, I'.ok.exfs b hb, .inl hb, fun x c e => (I'.ok.exf b hb).2 x c e, fun p hp => absurd (show p ∈ ([] : List (Addr × Obj)) ++ [] from hp) (by simp)⟩
  have loop : codeAny (model X.prog X.w) X.A (.compLoop (.DictComp kx vx [⟨tg, iter, ifs, 0⟩] scope pos) 0 (.ref it) (.ref D) ce) (compPost (model X.prog X.w) X.A X.xe use Qf (.ref D) s3.heap.objs.size) s4 := by
    refine compLoop_anyD (fun n s' => ∃ i H', Inv (X.blk s3 H3 scope ce fp) [] (wipe σ (own.map (·.2))) H' s' ∧ tn i s'.heap ∧ (∀ b ∈ fp, H' b = none) ∧ W i n H') ?_ m0 ⟨0, H3, I4, st4, nfp, w0⟩
    rintro n s5 ⟨i, H5, I5, st5, n5, w5⟩
    rcases turn i n H5 w5 with ⟨stop, qq⟩ | ⟨go, Nx, hNx, step⟩
    · have td := T.done (X.blk s3 H3 scope ce fp) rfl rfl rfl hc i [] s5 _ H5 (fun _ _ => False) I5 (stat I5 n5) st5 stop
      refine thnF td fun r s6 ⟨hr, I6⟩ => ?_
      subst hr
      -- back in the def's context
      have I7 : Inv X pins σ H5 s6 := I3.call' (ch := fp) I6.os I6.base I6.hok I6.bare fun b hb => ⟨(f3 b hb).1.2.2.2.1, (f3 b hb).1.2.1, (f3 b hb).1.2.2.2.2.1, (f3 b hb).1.2.2.2.2.2⟩
      have nC : H5 s3.heap.objs.size = none := by
        have z : H5 ce.locals = none := I6.free
        rw [cL] at z
        exact z
      obtain ⟨m, hn, _⟩ := I6.loc
      have hn : s6.heap.Ns ce.locals m := hn
      rw [cL] at hn
      exact hRR D s3.heap.objs.size s6 m H5 I7 qq hn (I3.fpOk (Nat.le_refl _) nC)
    · have ti := T.item (X.blk s3 H3 scope ce fp) rfl rfl rfl hc i [] s5 _ H5 (fun _ _ => False) I5 (stat I5 n5) st5 go
      refine thnF ti fun r s6 ⟨u, hr, h6⟩ => ?_
      subst hr
      refine thnF h6 fun _ s7 ⟨x, H7, I7, r7, y7, st7, n7⟩ => ?_
      have I7' := I7.pinned (stat I7 n7) (T.obj _ _ st7)
      refine thnF (pg.run _ s7 _ H7 x u _ I7' r7 (step x H7 y7)) fun _ s8 ⟨σ8, H8, I8, hw8, q8⟩ => ?_
      refine thnF (pt.run _ s8 σ8 H8 _ I8 q8) fun b s9 ⟨H9, I9, q9⟩ => ?_
      -- the turn's end
      have fin : ∀ {s' : Shared} {H' : Hp}, Inv (X.blk s3 H3 scope ce fp) ([] ++ pinsAt fp s7.heap) σ8 H' s' → Nx H' → ∃ m, m < n ∧ ∃ i H', Inv (X.blk s3 H3 scope ce fp) [] (wipe σ (own.map (·.2))) H' s' ∧ tn i s'.heap ∧ (∀ b ∈ fp, H' b = none) ∧ W i m H' := fun {s' H'} I' nx => by
        obtain ⟨m', hm, w'⟩ := hNx H' nx
        have pin' : ∀ b ∈ fp, ∀ o, s7.heap.get? b = some o → s'.heap.get? b = some o ∧ H' b = none := fun b hb o e =>
          let z := I'.pin (b, o) (List.mem_append_right _ (List.mem_append_right _ (mem_pinsAt hb e)))
          ⟨z.1, z.2.1⟩
        have hl : (wipe σ (own.map (·.2))).length = σ8.length := by rw [← hw8, wipe_length]
        refine ⟨m', hm, i + 1, H', (I'.unpinned (pins := [])).weak hl (fun j v e => ?_), T.keep _ _ _ st7 fun b hb o e => (pin' b hb o e).1, fun b hb => ?_, w'⟩
        · rw [← hw8] at e
          exact (wipe_some e).1
        · obtain ⟨o, e, _⟩ := T.obj _ _ st7 b hb
          exact (pin' b hb o e).2
      cases b with
      | false =>
        simp only [Bool.false_eq_true, if_false] at q9 ⊢
        exact fin I9 q9
      | true =>
        simp only [if_true] at q9 ⊢
        refine thnF (pk.run _ s9 σ8 H9 _ I9 q9) fun z s10 ⟨yk, H10, I10, r10, q10⟩ => ?_
        refine thnF (pe.run _ s10 σ8 H10 _ I10 q10) fun z2 s11 ⟨yv, H11, I11, r11, pw⟩ => ?_
        exact hP (X.blk s3 H3 scope ce fp) rfl rfl rfl rfl _ σ8 H11 s11 D yk yv z z2 Nx _ _ I11 r10 r11 pw fun H12 s12 I12 nx => fin I12 nx
  exact codeAny_compStart_dict loop (T.self X.A 0 _ _ _ st4 loop)
theorem pe_dcP {kx vx tg iter : Expr} {ifs : List Expr} {scope : Scope} {own : List (Str × Nat)} {pos : Pos} {wi : TI} {g : TG} {tt : TT} {tk tv : TE} {Pw : Addr → V → V → Hp → (Hp → Prop) → Prop} (hc : X.calm = true) (hN : X.N.Nodup) (hi : PI X tg iter wi) (ok : BlkOk X.N X.env.scope scope own)
    (hg : ∀ (s : Shared) (H : Hp) (C : Addr) (cl : List (Str × Addr)) (fp : List Addr), PG (X.blk s H scope (compEnvC scope cl C X.env) fp) tg g) (ht : ∀ (s : Shared) (H : Hp) (C : Addr) (cl : List (Str × Addr)) (fp : List Addr), PTs (X.blk s H scope (compEnvC scope cl C X.env) fp) ifs tt)
    (hk : ∀ (s : Shared) (H : Hp) (C : Addr) (cl : List (Str × Addr)) (fp : List Addr), PE (X.blk s H scope (compEnvC scope cl C X.env) fp) kx tk)
    (he : ∀ (s : Shared) (H : Hp) (C : Addr) (cl : List (Str × Addr)) (fp : List Addr), PE (X.blk s H scope (compEnvC scope cl C X.env) fp) vx tv) (hP : ∀ (Y : Cx), Y.prog = X.prog → Y.w = X.w → Y.A = X.A → Y.K = X.K → ∀ (pins : List (Addr × Obj)) (σ : L2.St) (H : Hp) (s : Shared) (D : Addr) (y z : V) (u r : Value) (Nx : Hp → Prop) (Q : Unit → Shared → Prop) (E : Value → Shared → Prop), Inv Y pins σ H s → RelV y u → RelV z r → Pw D y z H Nx → (∀ H' s', Inv Y pins σ H' s' → Nx H' → Q () s') → wpAny (model X.prog X.w) X.A (dictSet D u r) Q E s) (hs : ∀ x, foldedSetIterable iter X.env x = pure x := by intro _; rfl) :
    PE X (.DictComp kx vx [⟨tg, iter, ifs, 0⟩] scope pos) (tDcP Pw wi g tt tk tv (own.map (·.2))) := by
  refine ⟨fun pins s σ H Q I h => ?_⟩
  rw [arm_eval_DictComp]
  refine dcP_core hc hN I hi ok hg ht hk he hs hP h fun D C s' m H' I' q hn f => ⟨m, hn, fun h'' sb => ?_⟩
  obtain ⟨f0, f1, f2, f3, f4, f5⟩ := f
  exact ⟨.ref D, H', I'.turned (t' := s'.toks) (fun b o hb e => (sb.2 b hb).trans e) f0 f1 f3 f4 f5, rfl, q⟩
end
end DcP
set_option Elab.async false
set_option linter.all false
set_option maxRecDepth 100000
set_option maxHeartbeats 2000000
namespace RF
open PySem PySem.Spec L2
open PyProof.Rows hiding St
def D.putD : D → D → D → Option D
  | .dct l, k, v => if ((leafKey k && leafKs l) || (flatTup k && tupKs l)) && lineOk (l.length + 1) then some (.dct (putK l k v)) else none
  | _, _, _ => none
def goD (vs : List Nat) (g : D → Env → Option Env) (t : FTx) (ek ev : FX) (d a : D) (ρ : Env) : Option (D × Env) :=
  (g d ρ).bind fun ρ1 => (t ρ1).bind fun b => if b.1 then (ek b.2).bind fun y => (ev y.2).bind fun z => (D.putD a y.1 z.1).map fun a' => (a', wp z.2 vs) else some (a, wp b.2 vs)
def xDc (vs : List Nat) (w : FL) (g : D → Env → Option Env) (t : FTx) (ek ev : FX) : FX := fun ρ => (w ρ).bind fun p => (runGo (goD vs g t ek ev) p.1 (.dct []) (wp p.2 vs)).map fun r => (r.1, rst p.2 r.2 vs)
def PwD (P : Program) (w : World) (K : PySem.W.Frag) : Addr → V → V → Hp → (Hp → Prop) → Prop := fun A y z H Nx => ∃ G d k x d', Same G H ∧ G A = none ∧ Cell P w K G H A d ∧ Rep P w K G k y ∧ Rep P w K G x z ∧ D.putD d k x = some d' ∧ ∀ o', Cell P w K G (upd H A o') A d' → Nx (upd H A o')
theorem cell_mono (P : Program) (w : World) (K : PySem.W.Frag) : MonoC (Cell P w K) := fun _ _ _ _ _ _ s h c => c.mono s h
theorem dictSet_ok {X Y : Cx} (hu : X.A.units + 64 < cLine) (e1 : Y.prog = X.prog) (e2 : Y.w = X.w) (e3 : Y.A = X.A) (e4 : Y.K = X.K) {pins : List (Addr × Obj)} {σ : St} {H : Hp} {s : Shared} {A : Addr} {y z : V} {u r : Value} {Nx : Hp → Prop} {Q : Unit → Shared → Prop} {E : Value → Shared → Prop}
    (I : L2.Inv Y pins σ H s) (ry : RelV y u) (rz : RelV z r) (pw : PwD X.prog X.w X.K A y z H Nx) (k : ∀ H' s', L2.Inv Y pins σ H' s' → Nx H' → Q () s') : wpAny (model X.prog X.w) X.A (dictSet A u r) Q E s := by
  rw [← e1, ← e2, ← e3]
  rw [← e1, ← e2, ← e4] at pw
  rw [← e3] at hu
  obtain ⟨G, d, kd, x, d', sub, ga, c, rk, rx, h, q⟩ := pw
  cases d with
  | dct l =>
    obtain ⟨hg, rfl⟩ := ifE (show (if ((leafKey kd && leafKs l) || (flatTup kd && tupKs l)) && lineOk (l.length + 1) then some (D.dct (putK l kd x)) else none) = some d' from h)
    rw [Bool.and_eq_true_iff] at hg
    obtain ⟨hg, hz⟩ := hg
    have hz := lineOk_iff.mp hz
    obtain ⟨hm, ob, vs, h1, hl, h2, h3⟩ := c
    have ho := rdp I h1
    have hlen : (putK l kd x).length ≤ sizeLine := by have := putK_len l kd x; omega
    rcases (Bool.or_eq_true _ _).mp hg with hg | hg
    · obtain ⟨g1, g2⟩ := Bool.and_eq_true_iff.mp hg
      obtain ⟨us, i1, w1, v1⟩ := leaf_of_nest (K := Y.K) h2 g2
      obtain ⟨lf, hlf⟩ := leafOf_some g1
      have L : Lf Y.prog Y.w Y.K G l us vs := ⟨w1, v1, h3⟩
      have nd : (us.map (·.1)).Nodup := by obtain ⟨_, _, _, _, _, _, nd⟩ := i1; exact nd
      refine wpAny_dictSet_pairs (knd := leafK0 Y.prog Y.w) (hsz := by rw [L.length]; omega) (leafOf_rel hlf rk ry) (Heap.dictOf_iff.mpr ⟨ob, ho, i1⟩) fun h' dd' hs => ?_
      obtain ⟨o2, ho2, hi2⟩ := Heap.dictOf_iff.mp dd'
      obtain ⟨vs', L'⟩ := L.put nd hlf rz rx
      exact k (upd H A (pinO A o2)) _ (I.write (x := A) (e := A) (by rw [h1]; trivial) (.inl rfl) (fun b q hb z => (hs.2 b hb).trans z) ⟨_, ho2⟩ (pinO_ok ho2)) (q _ (L'.cell hm upd_same hlen hi2))
    · obtain ⟨g1, g2⟩ := Bool.and_eq_true_iff.mp hg
      obtain ⟨xs, i1, N⟩ := tupEntries I sub ho h2 h3 g2
      obtain ⟨ak, n, rfl, hn, hk⟩ := tupKey I sub g1 rk
      cases ry
      have nd : (xs.map (·.1)).Nodup := by obtain ⟨_, _, _, _, _, _, _, _, nd⟩ := i1; exact nd
      refine wpAny_dictSet_heap (hsz := by rw [N.length]; omega) (show Y.A.units + 8 < cLine by omega) hk i1 fun h' dd' hs => ?_
      obtain ⟨o2, es, ep, ho2, f1, f2, f3, _, f5⟩ := dd'
      obtain ⟨vs', N'⟩ := N.put nd g1 rk hn rz rx
      exact k (upd H A (pinO A o2)) _ (I.write (x := A) (e := A) (by rw [h1]; trivial) (.inl rfl) (fun b q hb z => (hs.2 b hb).trans z) ⟨_, ho2⟩ (pinO_ok ho2)) (q _ ⟨hm, o2, vs', upd_same, hlen, .inr ⟨_, ⟨f1, ⟨es, ep, f2, f3⟩, f5⟩, N'.ks, N'.vl, N'.tu⟩, N'.rp⟩)
  | _ => cases h
section
variable {P : Program} {w : World} {K : PySem.W.Frag} {O : List Nat} {is vs : List Nat} {g : D → Env → Option Env} {t : FTx} {ek ev : FX} {wf : FL}
theorem stepD {F : Hp} {Pn : List (Nat × Addr)} {A : Addr} {σ : St} (hi : ∀ i ∈ is, i ∈ vs) (hv : ∀ v ∈ vs, v ∉ O) (G H : Hp) (d : D) (v : V) (a : D) (ρ : Env) (a' : D) (ρ' : Env) (S : AtC P w K (Cell P w K) F Pn O A G a ρ (wipe σ vs) H) (r : Rep P w K G d v)
    (h : goD vs g t ek ev d a ρ = some (a', ρ')) (Nx : Hp → Prop) (k : ∀ G' H', AtC P w K (Cell P w K) F Pn O A G' a' ρ' (wipe σ vs) H' → Same G G' → Nx H') :
    tDg P w K O is g v (wipe σ vs) H fun σ2 H2 => wipe σ2 vs = wipe σ vs ∧ tDt P w K O t σ2 H2 fun b H3 => if b = true then tD P w K O ek σ2 H3 fun y H4 => tD P w K O ev σ2 H4 fun z H5 => PwD P w K A y z H5 Nx else Nx H3 := by
  obtain ⟨o, S, Cc⟩ := S
  have hA := (S.frm A o upd_same).1
  obtain ⟨ρ1, e1, h⟩ := bindE h
  obtain ⟨⟨b, ρ2⟩, e2, h⟩ := bindE h
  refine ⟨_, Pn, G, ρ, d, ρ1, S, r, e1, fun σ2 G2 H2 S2 s2 o2 => ⟨off_wipe o2 hi, _, Pn, G2, ρ1, b, ρ2, S2, e2, fun G3 H3 S3 s3 => ?_⟩⟩
  have hw := off_wipe o2 hi
  have hA3 := (S3.frm A o upd_same).1
  cases b with
  | true =>
    show (if true = true then _ else _)
    rw [if_pos rfl]
    obtain ⟨⟨y, ρ3⟩, e3, h⟩ := bindE (show (ek ρ2).bind (fun y => (ev y.2).bind fun z => (D.putD a y.1 z.1).map fun a' => (a', wp z.2 vs)) = some (a', ρ') from h)
    obtain ⟨⟨z, ρ4⟩, e4, h⟩ := bindE h
    obtain ⟨a1, e5, h⟩ := mapE h
    cases h
    refine ⟨_, Pn, G3, ρ2, y, ρ3, S3, e3, fun u G4 H4 S4 s4 r4 => ⟨_, Pn, G4, ρ3, z, ρ4, S4, e4, fun u5 G5 H5 S5 s5 r5 => ?_⟩⟩
    obtain ⟨hA5, nA5⟩ := S5.frm A o upd_same
    have sAll := s2.trans (s3.trans (s4.trans s5))
    refine ⟨G5, a, y, z, _, S5.sub, nA5, Cc.mono sAll (hA5.trans hA.symm), Rep.mono s5 _ _ r4, r5, e5, fun o' c' => ?_⟩
    exact k G5 _ ⟨o', by rw [← hw]; exact S5.chgF.wipe hv, c'⟩ sAll
  | false =>
    show (if false = true then _ else _)
    rw [if_neg Bool.false_ne_true]
    cases h
    refine k G3 H3 ⟨o, by rw [← hw]; exact S3.wipe hv, Cc.mono (s2.trans s3) (hA3.trans hA.symm)⟩ (s2.trans s3)
end
theorem empty_di (P : Program) (w : World) : ({ cls := .type "dict", data := .dict #[] } : Obj).IsDictOf (leafK0 P w) [] := by
  have := Heap.DictOf.new (knd := leafK0 P w) (default : Heap)
  obtain ⟨o, ho, i⟩ := Heap.dictOf_iff.mp this
  rw [Heap.get?_push_size _ rfl] at ho; cases ho
  exact i
section
variable {X : Cx} {O : List Nat} {kx vx tg iter : Expr} {ifs : List Expr} {scope : Scope} {pos : Pos} {wf : FL} {g : D → Env → Option Env} {t : FTx} {ek ev : FX} {is : List Nat}
theorem f_dc (own : List (Str × Nat)) (hu : X.A.units + 64 < cLine) (hc : X.calm = true) (hN : X.N.Nodup) (hi : DI X O tg iter wf) (ok : BlkOk X.N X.env.scope scope own)
    (hg : ∀ (s : Shared) (H : Hp) (C : Addr) (cl : List (Str × Addr)) (fp : List Addr), DG (X.blk s H scope (compEnvC scope cl C X.env) fp) O is tg g) (ht : ∀ (s : Shared) (H : Hp) (C : Addr) (cl : List (Str × Addr)) (fp : List Addr), DTs (X.blk s H scope (compEnvC scope cl C X.env) fp) O ifs t)
    (hk : ∀ (s : Shared) (H : Hp) (C : Addr) (cl : List (Str × Addr)) (fp : List Addr), DX (X.blk s H scope (compEnvC scope cl C X.env) fp) O kx ek) (hv : ∀ (s : Shared) (H : Hp) (C : Addr) (cl : List (Str × Addr)) (fp : List Addr), DX (X.blk s H scope (compEnvC scope cl C X.env) fp) O vx ev)
    (h1 : ∀ i ∈ is, i ∈ own.map (·.2) := by decide) (h2 : ∀ v ∈ own.map (·.2), v ∉ O := by decide) (hs : ∀ x, foldedSetIterable iter X.env x = pure x := by intro _; rfl) :
    DF X O (.DictComp kx vx [⟨tg, iter, ifs, 0⟩] scope pos) (xDc (own.map (·.2)) wf g t ek ev) := by
  refine PE.imp (DcP.pe_dcP (Pw := PwD X.prog X.w X.K) (g := tDg X.prog X.w X.K O is g) (tt := tDt X.prog X.w X.K O t) (tk := tD X.prog X.w X.K O ek) (tv := tD X.prog X.w X.K O ev) hc hN hi ok hg ht hk hv (fun Y e1 e2 e3 e4 pins σ H s D y z u r Nx Q E I ry rz pw k => dictSet_ok hu e1 e2 e3 e4 I ry rz pw k) hs) fun σ H Q ⟨F, Pn, G, ρ, d, ρ', S, e, k⟩ => ?_
  obtain ⟨⟨ds, ρ1⟩, e1, h⟩ := bindE e
  obtain ⟨⟨a, ρ2⟩, e2, h⟩ := mapE h
  cases h
  refine ⟨F, Pn, G, ρ, ds, ρ1, S, e1, fun J G1 H1 S1 s1 W A hA hm => ?_⟩
  obtain ⟨_, n, nf, _⟩ := S1.lay (o := .lst []) hA
  have S2 : AtC X.prog X.w X.K (Cell X.prog X.w X.K) F Pn O A G1 (.dct []) (wp ρ1 (own.map (·.2))) (wipe σ (own.map (·.2))) (upd H1 A (pinO A { cls := .type "dict", data := .dict #[] })) := ⟨_, (S1.wipe h2).addF hA, Lf.nil.cell hm upd_same (Nat.zero_le _) (empty_di _ _)⟩
  exact loopC (Cell X.prog X.w X.K) (cell_mono _ _ _) (Qd := fun H => Q (.ref A) H) _ (fun G H d v a ρ a' ρ' => stepD h1 h2 G H d v a ρ a' ρ') S2 W e2 fun G3 H3 ⟨o, S3, C3⟩ s3 => by
      obtain ⟨S4, n4, hA4, hj4⟩ := S3.delF nf
      have S5 := S1.unwipe s3 S4 h2
      refine k A G3 H3 S5 (s1.trans s3) n4 nf C3 fun j hj d' ej => ?_
      rcases rst_lk ej with ⟨z1, z2⟩ | ⟨z1, z2⟩
      · exact absurd hj (h2 j z1)
      · have := hj4 j hj d' z2
        rw [wipe_ne z1] at this
        exact this
end
end RF
set_option Elab.async false
set_option linter.all false
set_option maxRecDepth 100000
set_option maxHeartbeats 2000000
namespace RF
open PySem PySem.Spec L2
open PyProof.Rows hiding St
def mkIns (c : Str) (fs : List Str) (ds : List D) : Option D := if ds.length = fs.length then some (.ins c (fs.zip ds)) else none
def spIni (C : Addr) (fs : List Str) : Sp := fun vs H Q _ => ∃ x dx us, vs = .ref x :: us ∧ us.length = fs.length ∧ H x = some (.ins C dx []) ∧ Q .non (upd H x (.ins C dx (fs.zip us)))
section
variable {P : Program} {w : World} {K : PySem.W.Frag} {G : Hp}
theorem repF_zip : ∀ {fs : List Str} {ds : List D} {vs : List V}, Reps P w K G ds vs → RepF P w K G (fs.zip ds) (fs.zip vs)
  | [], ds, vs, _ => by simp [RepF]
  | f :: fs, [], vs, h => by cases h; simp [RepF]
  | f :: fs, d :: ds, vs, h => by
    obtain ⟨v, r, e, h1, h2⟩ := h
    subst e
    exact ⟨v, fs.zip r, rfl, h1, repF_zip h2⟩
end
section
variable {X : Cx} {O : List Nat} {e : Expr} {es : List Expr} {fl : FL} {k j : Nat} {c : Str} {fs : List Str} {p pos : Pos}
structure MkOk (P : Program) (w : World) (K : PySem.W.Frag) (mg : Str → Option Value) (base : Heap) (c : Str) (fs : List Str) (k : Nat) : Prop where
  ex : ∃ (f : Addr) (fd : FuncData) (ps : List Str), Mk K (He.ga K c) f ∧ FnOk P w K mg base CX0 k f fd ps (spIni (He.ga K c) fs) ∧ Binds K fd ps [] ∧ mg c = some (.ref (He.ga K c))
theorem x_make (h : MkOk X.prog X.w X.K X.mg X.base c fs k) (hr : Room j X.A) (hkj : k + 1 ≤ j) (hg : Gl X c) (ha : DA X O (e :: es) fl)
    (hdb : (c == ("__debug__" : Str)) = false := by decide) (he : starEach (e :: es) X.env = (false, eval e X.env) :: starEach es X.env := by rfl) (hpl : (backTo pos (starEach es X.env)).any (·.1) = false := by rfl) :
    DX X O (.Call (.Name c p) (e :: es) [] pos) (xCall (mkIns c fs) fl) := by
  obtain ⟨f, fd, ps, M, F, hb, hm⟩ := h.ex
  refine PE.imp (pe_make M F (hr.mono hkj) hg hm hb .nil pass0 (E := E0) ha hdb he hpl) fun σ H Q ⟨F, Pn, G, ρ, d, ρ', S, e, k⟩ => ?_
  obtain ⟨⟨ds, ρ1⟩, e1, e⟩ := bindE e
  obtain ⟨z, e2, e⟩ := mapE e
  cases e
  obtain ⟨hl, e2⟩ := ifN (show (if ds.length = fs.length then some (D.ins c (fs.zip ds)) else none) = some _ from e2)
  cases e2
  refine ⟨F, Pn, G, ρ, ds, ρ1, S, e1, fun vs G1 H1 S1 s1 r1 x dx hx hdx hne => ?_⟩
  refine ⟨x, dx, vs, by rw [List.append_nil], r1.length.trans hl, upd_same, rfl, ?_⟩
  have g1 : Grow G1 H1 (upd G1 dx (.own x)) (upd H1 dx (.own x)) := Grow.alloc S1.sub hdx
  have hx2 : (upd H1 dx (.own x)) x = none := by rw [upd_ne hne.symm]; exact hx
  have g2 : Grow (upd G1 dx (.own x)) (upd H1 dx (.own x)) (upd (upd G1 dx (.own x)) x (.ins (He.ga X.K c) dx (fs.zip vs))) (upd (upd H1 dx (.own x)) x (.ins (He.ga X.K c) dx (fs.zip vs))) := Grow.alloc g1.sub hx2
  have g := g1.trans g2
  have eH : upd (upd (upd H1 dx (.own x)) x (.ins (He.ga X.K c) dx [])) x (.ins (He.ga X.K c) dx (fs.zip vs)) = upd (upd H1 dx (.own x)) x (.ins (He.ga X.K c) dx (fs.zip vs)) := by
    funext b
    by_cases hb : b = x
    · subst hb; rw [upd_same, upd_same]
    · rw [upd_ne hb, upd_ne hb, upd_ne hb]
  show Q (.ref x) (upd (upd (upd H1 dx (.own x)) x (.ins (He.ga X.K c) dx [])) x (.ins (He.ga X.K c) dx (fs.zip vs)))
  rw [eH]
  refine k _ _ _ (S1.grow g) (s1.trans g.g) ⟨x, dx, _, rfl, upd_same, ?_, RepF.mono g.g _ _ (repF_zip r1)⟩
  rw [upd_ne hne, upd_same]
end
def D.fldC (cs : List Str) (f : Str) : D → Option D
  | .ins c fs => if c ∈ cs then fs.lookup f else none
  | _ => none
def FldOk (K : PySem.W.Frag) (cs : List Str) (f : Str) : Prop := ∀ c ∈ cs, Cls K (He.ga K c) ∧ NoAttr K (He.ga K c) f
theorem repF_look {P : Program} {w : World} {K : PySem.W.Frag} {G : Hp} {f : Str} {d : D} : ∀ {fs : List (Str × D)} {vs : List (Str × V)}, RepF P w K G fs vs → fs.lookup f = some d → ∃ v, vs.lookup f = some v ∧ Rep P w K G d v
  | [], vs, h, e => by cases e
  | (g, x) :: fs, vs, h, e => by
    obtain ⟨v, r, ev, h1, h2⟩ := h
    subst ev
    rw [List.lookup_cons] at e ⊢
    cases q : (f == g) with
    | true => rw [q] at e; cases e; exact ⟨v, rfl, h1⟩
    | false => rw [q] at e; exact repF_look h2 e
section
variable {X : Cx} {O : List Nat} {e : Expr} {fa : FX} {f : Str} {cs : List Str} {pos : Pos}
theorem x_fld (h : FldOk X.K cs f) (he : DX X O e fa) (hb : attributeBase e f X.env (eval e X.env) = eval e X.env := by rfl) : DX X O (.Attribute e f pos) (o1 (D.fldC cs f) fa) := by
  refine PE.imp (pe_fld he hb) fun σ H Q ⟨F, Pn, G, ρ, d, ρ', S, e, k⟩ => ?_
  obtain ⟨⟨x, ρ1⟩, e1, e⟩ := bindE e
  obtain ⟨z, e2, e⟩ := mapE e
  cases e
  refine ⟨F, Pn, G, ρ, x, ρ1, S, e1, fun v G1 H1 S1 s1 r1 => ?_⟩
  cases x with
  | ins c fs =>
    obtain ⟨hc, e3⟩ := ifN (show (if c ∈ cs then fs.lookup f else none) = some _ from e2)
    obtain ⟨a, dx, vs, ev, q1, q2, q3⟩ := r1
    obtain ⟨u, q4, q5⟩ := repF_look q3 e3
    exact ⟨a, _, dx, vs, u, ev, S1.sub _ _ q1, (h c hc).1, (h c hc).2, q4, k u G1 H1 S1 s1 q5⟩
  | _ => cases e2
theorem e_fld {ea : FE} (h : FldOk X.K cs f) (he : DE X O e ea) (hb : attributeBase e f X.env (eval e X.env) = eval e X.env := by rfl) : DE X O (.Attribute e f pos) (e1 (D.fldC cs f) ea) := (x_fld h he hb).congr (o1_up _ ea)
end
def xApp (a b : FL) : FL := fun ρ => (a ρ).bind fun p => (b p.2).map fun q => (p.1 ++ q.1, q.2)
def OkN (P : Program) (w : World) (K : PySem.W.Frag) (mg : Str → Option Value) (base : Heap) (x : Str) (k np : Nat) (ks : List Str) (m : Nat) (is : List Nat) (dd : List D) (Fn : List D → Option D) : Prop := ∃ (f : Addr) (fd : FuncData) (ps : List Str) (n : Nat) (dv : List Value) (dw : List V),
  FnOk P w K mg base CX0 k f fd ps (sp0 P w K false n Fn) ∧ mg x = some (.ref f) ∧ PySem.W.keepIn K (.ref f) = true ∧ KBn K fd ps np ks (fun us ws => selI is m (us ++ ws ++ dv)) (fun vs zs => selI is m (vs ++ zs ++ dw)) ∧ (∀ G, Reps P w K G dd dw) ∧
  ∀ (ds : List D) z, Fn (selI is m (ds ++ dd)) = some z → (selI is m (ds ++ dd)).length = n ∧ ds.length = np + ks.length
section
variable {X : Cx} {O : List Nat} {e : Expr} {es : List Expr} {kws : List Keyword} {fl fk : FL} {k j m np : Nat} {ks : List Str} {is : List Nat} {dd : List D} {Fn : List D → Option D} {x : Str} {p pos : Pos}
theorem x_callN (h : OkN X.prog X.w X.K X.mg X.base x k np ks m is dd Fn) (hr : Room j X.A) (hkj : k ≤ j) (hg : Gl X x) (ha : DA X O (e :: es) fl) (hkw : DK X O kws fk)
    (hall : (backToKw pos (keywordEach kws X.env)).all (·.1.isSome) = true := by rfl) (hks : (backToKw pos (keywordEach kws X.env)).filterMap (·.1) = ks := by rfl) (hdb : (x == ("__debug__" : Str)) = false := by decide)
    (he : starEach (e :: es) X.env = (false, eval e X.env) :: starEach es X.env := by rfl) (hlen : ∀ ρ ds ρ', fl ρ = some (ds, ρ') → ds.length = np)
    (hpl : ((backTo pos (starEach (e :: es) X.env)).any (·.1) || (backToKw pos (keywordEach kws X.env)).any (·.1.isNone)) = false := by rfl) :
    DX X O (.Call (.Name x p) (e :: es) kws pos) (xCall (fun ds => Fn (selI is m (ds ++ dd))) (xApp fl fk)) := by
  obtain ⟨f, fd, ps, n, dv, dw, FO, hm, hk, hb, hdd, hl⟩ := h
  refine PE.imp (pe_callN FO (hr.mono hkj) hg hm hk hb pass0 (E := E0) ha hkw hall hks hdb he hpl) fun σ H Q ⟨F, Pn, G, ρ, d, ρ', S, e, k⟩ => ?_
  obtain ⟨⟨ys, ρ1⟩, e1, e⟩ := bindE e
  obtain ⟨z, e2, e⟩ := mapE e
  cases e
  obtain ⟨⟨as, ρ2⟩, e3, e4⟩ := bindE e1
  obtain ⟨⟨bs, ρ3⟩, e5, e6⟩ := mapE e4
  cases e6
  obtain ⟨hl1, hl2⟩ := hl _ _ e2
  have ha1 := hlen _ _ _ e3
  refine ⟨F, Pn, G, ρ, as, ρ2, S, e3, fun vs G1 H1 S1 s1 r1 => ⟨F, Pn, G1, ρ2, bs, _, S1, e5, fun zs G2 H2 S2 s2 r2 => ?_⟩⟩
  refine ⟨r1.length.trans ha1, ?_, ?_⟩
  · rw [r2.length]; simp only [List.length_append] at hl2; omega
  · have rr : Reps X.prog X.w X.K G2 (as ++ bs ++ dd) (vs ++ zs ++ dw) := ((Reps.mono s2 _ _ r1).append r2).append (hdd G2)
    have r := selI_reps (is := is) (n := m) rr
    exact call_x S2 r e2 (r.length.trans hl1) fun v G3 H3 S3 s3 r3 => k v G3 H3 S3 (s1.trans (s2.trans s3)) r3
theorem x_callN0 (h : OkN X.prog X.w X.K X.mg X.base x k 0 ks m is dd Fn) (hr : Room j X.A) (hkj : k ≤ j) (hg : Gl X x) (hkw : DK X O kws fk)
    (hall : (backToKw pos (keywordEach kws X.env)).all (·.1.isSome) = true := by rfl) (hks : (backToKw pos (keywordEach kws X.env)).filterMap (·.1) = ks := by rfl) (hdb : (x == ("__debug__" : Str)) = false := by decide)
    (hpl : ((backTo pos (starEach [] X.env)).any (·.1) || (backToKw pos (keywordEach kws X.env)).any (·.1.isNone)) = false := by rfl) :
    DX X O (.Call (.Name x p) [] kws pos) (xCall (fun ds => Fn (selI is m (ds ++ dd))) fk) := by
  obtain ⟨f, fd, ps, n, dv, dw, FO, hm, hk, hb, hdd, hl⟩ := h
  refine ⟨fun pins s σ H Q I ⟨F, Pn, G, ρ, d, ρ', S0, e, kk⟩ => ?_⟩
  obtain ⟨⟨ys, ρ1⟩, e1, e⟩ := bindE e
  obtain ⟨z, e2, e⟩ := mapE e
  cases e
  refine wpAny_Call_Name_kw (ld_glob I hg hm ?_ hdb)
  refine PySem.W.callWith_KW0 (h₀ := X.base) I.ok.mod.kin hk hall ?_ hpl
  refine thn (hkw.run pos pins s σ H (fun vs H1 => ∃ G1, SR X.prog X.w X.K F Pn O G1 ρ1 σ H1 ∧ Same G G1 ∧ Reps X.prog X.w X.K G1 ys vs) I ⟨F, Pn, G, ρ, ys, ρ1, S0, e1, fun v G1 H1 S1 s1 r1 => ⟨G1, S1, s1, r1⟩⟩) fun ws s2 ⟨zs, H2, I2, rz, G1, S1, g1, r1⟩ => ⟨I2.kIn, ?_⟩
  rw [hks]
  obtain ⟨hn1, hn2⟩ := hl _ _ e2
  refine run_fnN (us := []) (vs := []) (FO.mono hkj) hr hb (show Passes CX0 X E0 from pass0) I2 .nil rz rfl (r1.length.trans (hn2.trans (Nat.zero_add _))) ?_
  have rr : Reps X.prog X.w X.K G1 (ys ++ dd) (zs ++ dw) := r1.append (hdd G1)
  have r := selI_reps (is := is) (n := m) rr
  exact call_x S1 r e2 (r.length.trans hn1) fun v G2 H2 S2 s2 r2 => kk v G2 H2 S2 (g1.trans s2) r2
end
theorem selI_len2 {is : List Nat} {n m q : Nat} {dd : List D} {Fn : List D → Option D} (hl : ∀ ds d, Fn ds = some d → ds.length = m) (hm : 0 < m) (hq : q + dd.length = n) (ds : List D) (z : D) (h : Fn (selI is n (ds ++ dd)) = some z) : (selI is n (ds ++ dd)).length = m ∧ ds.length = q := by
  obtain ⟨a, b⟩ := selI_len hl hm _ z h
  rw [List.length_append] at b
  exact ⟨a, by omega⟩
section
variable {K : PySem.W.Frag} {x qual : Str} {params : Arguments} {body : List Stmt} {scope : Scope} {f : Addr} {fd : FuncData} {ps ks : List Str} {kws : List (Str × V)}
theorem kbD (is : List Nat) (m np : Nat) (F : FunD K x qual params body scope [.non] kws f fd)
    (h : ∀ (T : Addr) (kV doc pm : Value) (an : Option Addr) (cdv ct : Value) (us ws : List Value), us.length = np → ws.length = ks.length →
      ∃ k, bindArgs (PySem.W.fnOf x qual params body scope (.ref T) kV doc pm an cdv ct) ⟨us, ks.zip ws⟩ = seqItems? (.ref T) >>= k ∧ k (some #[.none]) = pure (ps.zip (selI is m (us ++ ws ++ [.none])))) :
    KBn K fd ps np ks (fun us ws => selI is m (us ++ ws ++ [.none])) (fun vs zs => selI is m (vs ++ zs ++ [.non])) := by
  obtain ⟨oc, od, dV, kV, doc, pm, an, cdv, ct, osl, rfl, lk, hcd, hD, hK⟩ := F.ex
  rcases hD with ⟨e, _⟩ | ⟨_, T, o, its, mm, rfl, lT, oT, rT⟩
  · cases e
  · cases rT with
    | cons r1 r2 =>
      cases r2
      cases r1
      refine ⟨fun s us ws X l1 l2 => ?_, fun r1 r2 => selI_vals ((r1.append r2).append (.cons rfl .nil))⟩
      obtain ⟨k, e1, e2⟩ := h T kV doc pm an cdv ct us ws l1 l2
      refine BindsTo.of_looks fun M => ?_
      rw [e1]
      exact looks_items X lT oT (.of_pure e2)
theorem kbF (is : List Nat) (m np : Nat) (F : FunD K x qual params body scope [.non] kws f fd)
    (h : ∀ (T : Addr) (kV doc pm : Value) (an : Option Addr) (cdv ct : Value) (us ws : List Value), us.length = np → ws.length = ks.length →
      ∃ k, bindArgs (PySem.W.fnOf x qual params body scope (.ref T) kV doc pm an cdv ct) ⟨us, ks.zip ws⟩ = seqItems? (.ref T) >>= k ∧ k (some #[.none]) = pure (ps.zip (selI is m (us ++ ws ++ [])))) :
    KBn K fd ps np ks (fun us ws => selI is m (us ++ ws ++ [])) (fun vs zs => selI is m (vs ++ zs ++ [])) := by
  obtain ⟨oc, od, dV, kV, doc, pm, an, cdv, ct, osl, rfl, lk, hcd, hD, hK⟩ := F.ex
  rcases hD with ⟨e, _⟩ | ⟨_, T, o, its, mm, rfl, lT, oT, rT⟩
  · cases e
  · cases rT with
    | cons r1 r2 =>
      cases r2
      cases r1
      refine ⟨fun s us ws X l1 l2 => ?_, fun r1 r2 => selI_vals ((r1.append r2).append .nil)⟩
      obtain ⟨k, e1, e2⟩ := h T kV doc pm an cdv ct us ws l1 l2
      refine BindsTo.of_looks fun M => ?_
      rw [e1]
      exact looks_items X lT oT (.of_pure e2)
end
theorem xNil_len {ρ ρ' : Env} {ds : List D} (h : xNil ρ = some (ds, ρ')) : ds.length = 0 := by cases h; rfl
theorem xCons_len {a : FX} {r : FL} {n : Nat} (hr : ∀ ρ ds ρ', r ρ = some (ds, ρ') → ds.length = n) (ρ : Env) (ds : List D) (ρ' : Env) (h : xCons a r ρ = some (ds, ρ')) : ds.length = n + 1 := by
  obtain ⟨p, e1, h⟩ := bindE h
  obtain ⟨q, e2, h⟩ := mapE h
  cases h
  simp [hr _ _ _ e2]
end RF
set_option Elab.async false
set_option linter.all false
set_option maxRecDepth 100000
set_option maxHeartbeats 2000000
namespace RF
open PySem PySem.Spec L2
open PyProof.Rows hiding St
open SrtO (Swo Srtd Stb lt2 swo2)
def insB {α : Type} (lt : α → α → Bool) (x : α) : List α → List α
  | [] => [x]
  | y :: r => if lt x y then x :: y :: r else y :: insB lt x r
def isort {α : Type} (lt : α → α → Bool) (l : List α) : List α := l.foldl (fun acc x => insB lt x acc) []
section
variable {α β : Type} {lt : α → α → Bool}
theorem insB_mem (x : α) : ∀ (l : List α) (z : α), z ∈ insB lt x l ↔ z = x ∨ z ∈ l
  | [], z => by simp [insB]
  | y :: r, z => by
    unfold insB
    split
    · simp
    · rw [List.mem_cons, insB_mem x r z, List.mem_cons]
      constructor <;> (intro q; rcases q with q | q | q <;> simp [q])
theorem insB_ok (O : Swo lt) (x : α) : ∀ (l : List α), Srtd lt l → Srtd lt (insB lt x l) ∧ Stb lt (insB lt x l) (l ++ [x])
  | [], _ => ⟨List.pairwise_singleton _ _, Stb.refl _⟩
  | y :: r, h => by
    obtain ⟨h1, h2⟩ := List.pairwise_cons.mp h
    have h1 : ∀ z ∈ r, lt z y = false := h1
    unfold insB
    split
    · rename_i q
      have all : ∀ z ∈ y :: r, lt x z = true := fun z hz => by
        rcases List.mem_cons.mp hz with e | e
        · rw [e]; exact q
        · cases hz2 : lt x z with
          | true => rfl
          | false =>
            have := O.tr y z x (h1 z e) hz2
            rw [this] at q; cases q
      refine ⟨List.pairwise_cons.mpr ⟨fun z hz => O.asym _ _ (all z hz), h⟩, Stb.over O all (Stb.refl _)⟩
    · rename_i q
      obtain ⟨i1, i2⟩ := insB_ok O x r h2
      refine ⟨List.pairwise_cons.mpr ⟨fun z hz => ?_, i1⟩, (Stb.refl [y]).app i2⟩
      rcases (insB_mem x r z).mp hz with e | e
      · rw [e]; simpa using q
      · exact h1 z e
theorem isort_ok (O : Swo lt) (l : List α) : Srtd lt (isort lt l) ∧ Stb lt (isort lt l) l := by
  have : ∀ (l acc : List α), Srtd lt acc → Srtd lt (l.foldl (fun acc x => insB lt x acc) acc) ∧ Stb lt (l.foldl (fun acc x => insB lt x acc) acc) (acc ++ l) := by
    intro l
    induction l with
    | nil => intro acc h; exact ⟨h, by rw [List.append_nil]; exact Stb.refl _⟩
    | cons x l ih =>
      intro acc h
      obtain ⟨i1, i2⟩ := insB_ok O x acc h
      obtain ⟨j1, j2⟩ := ih _ i1
      refine ⟨j1, j2.trans ?_⟩
      have := i2.app (Stb.refl (lt := lt) l)
      rw [List.append_assoc] at this
      exact this
  exact this l [] List.Pairwise.nil
theorem isort_uniq (O : Swo lt) {l m : List α} (h1 : Srtd lt l) (h2 : Stb lt l m) : l = isort lt m := by
  obtain ⟨i1, i2⟩ := isort_ok O m
  exact SrtO.stb_uniq O h1 i1 (h2.trans ⟨i2.perm.symm, fun x => (i2.cls x).symm⟩)
theorem insB_map (f : β → α) (x : β) : ∀ l : List β, insB lt (f x) (l.map f) = (insB (fun x y => lt (f x) (f y)) x l).map f
  | [] => rfl
  | y :: r => by
    show (if lt (f x) (f y) then _ else _) = (if lt (f x) (f y) then _ else _ : List β).map f
    split
    · rfl
    · rw [List.map_cons, insB_map f x r]
theorem isort_map (f : β → α) (l : List β) : isort lt (l.map f) = (isort (fun x y => lt (f x) (f y)) l).map f := by
  have : ∀ (l acc : List β), (l.map f).foldl (fun acc x => insB lt x acc) (acc.map f) = (l.foldl (fun acc x => insB (fun x y => lt (f x) (f y)) x acc) acc).map f := by
    intro l
    induction l with
    | nil => intro acc; rfl
    | cons x l ih => intro acc; simp only [List.map_cons, List.foldl_cons]; rw [insB_map, ih]
  exact this l []
theorem insB_congr {lt' : α → α → Bool} (x : α) : ∀ l : List α, (∀ y ∈ l, lt x y = lt' x y) → insB lt x l = insB lt' x l
  | [], _ => rfl
  | y :: r, h => by
    unfold insB
    rw [h y (by simp), insB_congr x r fun z hz => h z (by simp [hz])]
theorem isort_congr {lt' : α → α → Bool} (l : List α) (h : ∀ x ∈ l, ∀ y ∈ l, lt x y = lt' x y) : isort lt l = isort lt' l := by
  have : ∀ (l acc : List α), (∀ x ∈ l ++ acc, ∀ y ∈ l ++ acc, lt x y = lt' x y) → l.foldl (fun acc x => insB lt x acc) acc = l.foldl (fun acc x => insB lt' x acc) acc := by
    intro l
    induction l with
    | nil => intro acc _; rfl
    | cons x l ih =>
      intro acc h
      simp only [List.foldl_cons]
      rw [insB_congr x acc fun y hy => h x (by simp) y (by simp [hy])]
      refine ih _ fun u hu v hv => h u ?_ v ?_
      · rcases List.mem_append.mp hu with q | q
        · simp [q]
        · rcases (insB_mem x acc u).mp q with e | e <;> simp [e]
      · rcases List.mem_append.mp hv with q | q
        · simp [q]
        · rcases (insB_mem x acc v).mp q with e | e <;> simp [e]
  exact this l [] (by simpa using h)
end
abbrev K3 : Type := List (Int ⊕ List Nat)
def asK3 : D → Option K3
  | .tup [.str a, .str b, .int i] => some [.inr a.cps.toList, .inr b.cps.toList, .inl i]
  | _ => none
def k3Lt (x y : K3) : Bool := lexLt itemOrd x y
theorem k3_asym (x y : K3) (h : k3Lt x y = true) : k3Lt y x = false := by
  cases q : k3Lt y x with
  | false => rfl
  | true =>
    have t : lexLt itemOrd x x = true := lex_trans (O := itemOrd) x y x h q
    rw [lex_irrefl] at t
    cases t
theorem k3_tr (x y z : K3) (h1 : k3Lt y x = false) (h2 : k3Lt z y = false) : k3Lt z x = false := by
  cases q : k3Lt z x with
  | false => rfl
  | true =>
    rcases lex_negTrans (O := itemOrd) z y x q with r | r
    · have r : k3Lt z y = true := r
      rw [r] at h2; cases h2
    · have r : k3Lt y x = true := r
      rw [r] at h1; cases h1
theorem k3_swo : Swo k3Lt := ⟨k3_asym, k3_tr⟩
def sortK3 (l : List (K3 × D)) : List (K3 × D) := isort (fun x y => k3Lt x.1 y.1) l
def keysOf (Fn : List D → Option D) : List D → Option (List (K3 × D))
  | [] => some []
  | d :: r => (Fn [d]).bind fun k => (asK3 k).bind fun z => (keysOf Fn r).map fun q => (z, d) :: q
def sortBy (Fn : List D → Option D) : D → Option D
  | .lst l => (keysOf Fn l).map fun q => .lst ((sortK3 q).map (·.2))
  | _ => none
theorem keysOf_at {Fn : List D → Option D} : ∀ {ds : List D} {q : List (K3 × D)}, keysOf Fn ds = some q → ∃ kds : List D, kds.length = ds.length ∧ q.length = ds.length ∧ ∀ (i : Nat) d, ds[i]? = some d → ∃ kd z, kds[i]? = some kd ∧ Fn [d] = some kd ∧ asK3 kd = some z ∧ q[i]? = some (z, d)
  | [], q, h => by cases h; exact ⟨[], rfl, rfl, fun i d e => by simp at e⟩
  | d :: r, q, h => by
    obtain ⟨kd, e1, h⟩ := bindE (show (Fn [d]).bind _ = some q from h)
    obtain ⟨z, e2, h⟩ := bindE h
    obtain ⟨q', e3, h⟩ := mapE h
    subst h
    obtain ⟨kds, l1, l2, p⟩ := keysOf_at e3
    refine ⟨kd :: kds, by simp [l1], by simp [l2], fun i d' e => ?_⟩
    cases i with
    | zero => cases e; exact ⟨kd, z, rfl, e1, e2, rfl⟩
    | succ i => exact p i d' (by simpa using e)
def shp (i : Nat) : Bool := decide (i < 2)
section
variable {X : Cx} {pins : List (Addr × Obj)} {σ : St} {H G : Hp} {s : Shared}
theorem key_at (I : L2.Inv X pins σ H s) (sub : Same G H) {d : D} {z : K3} {v : V} {u : Value} (h : asK3 d = some z) (r : Rep X.prog X.w X.K G d v) (ru : RelV v u) : PyProof.Rows.tupKey s.heap shp u = some z ∧ ∃ f, TupOf s.heap shp u f := by
  unfold asK3 at h
  split at h
  · rename_i d0 a b i
    cases h
    obtain ⟨t, vs, ev, g, q⟩ := r
    subst ev
    obtain rfl : u = Value.ref t := ru
    obtain ⟨v1, r1, e1, q1, q2⟩ := q
    obtain ⟨v2, r2, e2, q3, q4⟩ := q2
    obtain ⟨v3, r3, e3, q5, q6⟩ := q4
    have q1 : v1 = .str a := q1
    have q3 : v2 = .str b := q3
    have q5 : v3 = .int i := q5
    have q6 : r3 = [] := q6
    subst e1 e2 e3 q1 q3 q5 q6
    obtain ⟨its, rv, ⟨o, ho, hc, n, hd⟩, _⟩ := I.tuple (SqT.of (sub _ _ g))
    cases rv with
    | cons x1 rv =>
      cases rv with
      | cons x2 rv =>
        cases rv with
        | cons x3 rv =>
          cases rv
          obtain ⟨t1, rfl⟩ := x1
          obtain ⟨t2, rfl⟩ := x2
          obtain ⟨t3, rfl⟩ := x3
          refine ⟨?_, .str a t1, t, o, _, n, rfl, ho, hc, hd, rfl, fun h => (by cases h), fun _ => ⟨a, t1, rfl⟩⟩
          simp only [PyProof.Rows.tupKey, ho, hd]
          rfl
  · cases h
end
theorem tupsOf {h : Heap} : ∀ {vs : List Value}, (∀ v ∈ vs, ∃ f, TupOf h shp v f) → ∃ fs, TupsOf h shp vs fs ∧ fs.length = vs.length
  | [], _ => ⟨[], .nil, rfl⟩
  | v :: vs, k => by
    obtain ⟨f, hf⟩ := k v (by simp)
    obtain ⟨fs, h1, h2⟩ := tupsOf fun u hu => k u (List.mem_cons_of_mem _ hu)
    exact ⟨f :: fs, .cons hf h1, by simp [h2]⟩
def ltv (h : Heap) (u v : Value) : Bool := k3Lt ((PyProof.Rows.tupKey h shp u).getD []) ((PyProof.Rows.tupKey h shp v).getD [])
theorem ltv_swo (h : Heap) : Swo (ltv h) := ⟨fun x y q => k3_swo.asym _ _ q, fun x y z a b => k3_swo.tr _ _ _ a b⟩
theorem key_cmp {prog : Program} {w : World} {A : Around} {s : Shared} {ks : List Value} (hk : ∀ u ∈ ks, ∃ z, PyProof.Rows.tupKey s.heap shp u = some z) : SrtO.Cmp prog w A s (tuples' true) (fun p => p.1 ∈ ks) (lt2 (ltv s.heap)) := by
  intro p q hm hm'
  obtain ⟨z, h1⟩ := hk _ hm
  obtain ⟨z', h2⟩ := hk _ hm'
  show wpAny (model prog w) A (keyLt' (tuples' true) p.1 q.1) (fun r s' => s' = s ∧ r = ltv s.heap p.1 q.1) (fun _ _ => False) s
  refine tup_ltAt true A _ p.1 q.1 z z' h1 h2 ⟨rfl, ?_⟩
  unfold ltv
  rw [h1, h2]
  rfl
end RF
set_option Elab.async false
set_option linter.all false
set_option maxRecDepth 100000
set_option maxHeartbeats 4000000
namespace RF
open PySem PySem.Spec L2
open PyProof.Rows hiding St
open SrtO (Swo Srtd Stb lt2 swo2)
def rSortBy (X : Cx) (O : List Nat) (Fn : List D → Option D) (f : Addr) : List V → List V → Hp → VK → Prop := fun vs zs H Q => ∃ l σ' F Pn G ρ ds q, vs = [.ref l] ∧ zs = [.ref f] ∧ SR X.prog X.w X.K F Pn O G ρ σ' H ∧ Rep X.prog X.w X.K G (.lst ds) (.ref l) ∧ keysOf Fn ds = some q ∧
  ∀ a G' H', SR X.prog X.w X.K F Pn O G' ρ σ' H' → Same G G' → G' a = none → F a = none → Cell X.prog X.w X.K G' H' a (.lst ((sortK3 q).map (·.2))) → (∀ j ∈ O, ∀ d, lk ρ j = some d → σ'[j]? ≠ some (some (.ref a))) → Q (.ref a) H'
theorem sorted_reps {P : Program} {w : World} {K : PySem.W.Frag} {G : Hp} {h : Heap} {ds kds : List D} {q : List (K3 × D)} {vs kv : List V} {its kits : List Value} {arr : List Keyed} (hq : ∀ (i : Nat) d, ds[i]? = some d → ∃ kd z, kds[i]? = some kd ∧ asK3 kd = some z ∧ q[i]? = some (z, d)) (hql : q.length = ds.length) (hkl : kds.length = ds.length)
    (rv : Reps P w K G ds vs) (rk : Reps P w K G kds kv) (vv : Vals vs its) (vk : Vals kv kits) (hk : ∀ (i : Nat) kd z u, kds[i]? = some kd → asK3 kd = some z → kits[i]? = some u → PyProof.Rows.tupKey h shp u = some z)
    (h1 : Srtd (lt2 (ltv h)) arr) (h2 : Stb (lt2 (ltv h)) arr (kits.zip its)) : ∃ ws, Reps P w K G ((sortK3 q).map (·.2)) ws ∧ Vals ws (arr.map (·.2)) := by
  let L : List (Keyed × (V × (K3 × D))) := (kits.zip its).zip (vs.zip q)
  have l1 := rv.length
  have l2 := rk.length
  have l3 := vv.length
  have l4 := vk.length
  have hL1 : L.map (·.1) = kits.zip its := List.map_fst_zip (by simp only [List.length_zip]; omega)
  have hL2 : L.map (·.2) = vs.zip q := List.map_snd_zip (by simp only [List.length_zip]; omega)
  have hL3 : L.map (fun p => p.2.2) = q := by
    have : L.map (fun p => p.2.2) = (L.map (·.2)).map (·.2) := by rw [List.map_map]; rfl
    rw [this, hL2]
    exact List.map_snd_zip (by omega)
  have mem : ∀ p ∈ L, PyProof.Rows.tupKey h shp p.1.1 = some p.2.2.1 ∧ RelV p.2.1 p.1.2 ∧ Rep P w K G p.2.2.2 p.2.1 := by
    intro p hp
    obtain ⟨i, hi⟩ := List.mem_iff_getElem?.mp hp
    obtain ⟨⟨ku, u⟩, ⟨v, z, d⟩⟩ := p
    have hz := List.getElem?_zip_eq_some.mp hi
    obtain ⟨e1, e2⟩ := List.getElem?_zip_eq_some.mp hz.1
    obtain ⟨e3, e4⟩ := List.getElem?_zip_eq_some.mp hz.2
    have hid : i < ds.length := by
      have := (List.getElem?_eq_some_iff.mp e4).1
      omega
    obtain ⟨kd, z', k1, k2, k3⟩ := hq i _ (List.getElem?_eq_getElem hid)
    have k3 : q[i]? = some (z', ds[i]) := k3
    rw [show q[i]? = some (z, d) from e4] at k3
    cases k3
    refine ⟨hk i kd z ku k1 k2 e1, ?_, ?_⟩
    · obtain ⟨u', q1, q2⟩ := vv.get e3
      have q1 : its[i]? = some u' := q1
      rw [show its[i]? = some u from e2] at q1
      cases q1
      exact q2
    · obtain ⟨d', q1, q2⟩ := rv.getV e3
      rw [List.getElem?_eq_getElem hid] at q1
      cases q1
      exact q2
  have ea : arr = (isort (fun x y => lt2 (ltv h) x.1 y.1) L).map (·.1) := by
    rw [isort_uniq (swo2 (ltv_swo h)) h1 h2, ← hL1]
    exact isort_map (·.1) L
  have eq2 : sortK3 q = (isort (fun x y => lt2 (ltv h) x.1 y.1) L).map (fun p => p.2.2) := by
    unfold sortK3
    rw [← hL3, isort_map (fun p : Keyed × (V × (K3 × D)) => p.2.2) L]
    congr 1
    refine isort_congr L fun x hx y hy => ?_
    show k3Lt x.2.2.1 y.2.2.1 = ltv h x.1.1 y.1.1
    unfold ltv
    rw [(mem x hx).1, (mem y hy).1]
    rfl
  rw [ea, eq2, List.map_map, List.map_map]
  have mem2 : ∀ p ∈ isort (fun x y => lt2 (ltv h) x.1 y.1) L, RelV p.2.1 p.1.2 ∧ Rep P w K G p.2.2.2 p.2.1 := by
    intro p hp
    have O : Swo (fun x y : Keyed × (V × (K3 × D)) => lt2 (ltv h) x.1 y.1) := ⟨fun x y => (swo2 (ltv_swo h)).asym _ _, fun x y z => (swo2 (ltv_swo h)).tr _ _ _⟩
    exact (mem p ((isort_ok O L).2.perm.mem_iff.mp hp)).2
  generalize isort (fun x y => lt2 (ltv h) x.1 y.1) L = M at mem2
  refine ⟨M.map fun p => p.2.1, ?_, ?_⟩
  · induction M with
    | nil => rfl
    | cons p M ih => exact ⟨_, _, rfl, (mem2 p (by simp)).2, ih fun r hr => mem2 r (by simp [hr])⟩
  · induction M with
    | nil => exact .nil
    | cons p M ih => exact .cons (mem2 p (by simp)).1 (ih fun r hr => mem2 r (by simp [hr]))
section
variable {X : Cx} {O : List Nat} {Fn : List D → Option D} {f : Addr} {fd : FuncData} {ps : List Str} {k j : Nat}
theorem SR.cellF {P : Program} {w : World} {K : PySem.W.Frag} {F G H : Hp} {Pn : List (Nat × Addr)} {ρ : Env} {σ : St} {A : Addr} {o : HO} (S : SR P w K (upd F A o) Pn O G ρ σ H) : H A = some o ∧ G A = none := S.frm A o upd_same
theorem sort_tail {s : Shared} {E : Value → Shared → Prop} {A : Around} {a kS : Addr} {e1 : Nat} {kits out : List Value} {st : SortSt} {P : PySem.Fin → Shared → Prop} {pr : Program} {w : World} {n : Nat}
    (hk : s.heap.get? kS = some (seqObj "list" kits.toArray n)) (ha : s.heap.get? a = some (seqObj "list" #[] e1)) (hka : kS ≠ a) (hz : kits.length ≤ sizeLine) (hz2 : out.length ≤ sizeLine) (hf : failedOf st = none) (ho : ((arrOf st).map (·.2)).toList = out)
    (h : ∀ h' c, Heap.SameBut a (s.heap.update kS (Obj.mapSeq fun _ => (#[] : Array Value))) h' → h'.get? a = some (seqObj "list" out.toArray c) → P (.done (.ret .none)) { s with heap := h' }) :
    wpAny (model pr w) A (ksk_tail a false e1 (.ref kS) st) P E s := by
  have na1 : (s.heap.update kS (Obj.mapSeq fun _ => (#[] : Array Value))).get? a = some (seqObj "list" #[] e1) := ((Heap.SameBut.update s.heap kS (Obj.mapSeq fun _ => (#[] : Array Value))).2 a hka.symm).trans ha
  have ho2 : (arrOf st).map (·.2) = out.toArray := by rw [← ho, Array.toArray_toList]
  obtain ⟨c2, hc2⟩ : ∃ c2, ((s.heap.update kS (Obj.mapSeq fun _ => (#[] : Array Value))).update a (Obj.mapSeq fun _ => (arrOf st).map (·.2))).get? a = some (seqObj "list" ((arrOf st).map (·.2)) c2) := ⟨_, get?_update_seq na1 fun _ => (arrOf st).map (·.2)⟩
  unfold ksk_tail
  dsimp only
  refine wpAny_bind (listUpdate_at hk rfl ?_ (by rw [List.size_toArray]; exact hz) (Nat.zero_le _))
  refine wpAny_bind (wpAny_letGo ?_)
  refine wpAny_bind (seqEpoch_at na1 rfl ?_)
  refine wpAny_bind (listUpdate_at na1 rfl ?_ (Nat.zero_le _) (by rw [if_neg Bool.false_ne_true, ho2, List.size_toArray]; omega))
  rw [hf]
  simp only [bne_self_eq_false, Bool.false_eq_true, if_false]
  exact wpAny_pure (h _ c2 (Heap.SameBut.update _ a _) (by rw [← ho2]; exact hc2))
theorem cr_sortBy (FO : FnOk X.prog X.w X.K X.mg X.base CX0 k f fd ps (sp0 X.prog X.w X.K false 1 Fn)) (hb : Binds X.K fd ps []) (hr : Room j X.A) (hkj : k + 2 ≤ j) : CallRK X (.builtin "sorted") [Str.ofString "key"] (rSortBy X O Fn f) := by
  intro pins s σ H xs zs us ws Q I r rz h
  obtain ⟨l, σ', F, Pn, G, ρ, ds, q, rfl, rfl, S, ⟨l', vs, el, gl, rvs⟩, hq, kk⟩ := h
  cases el
  obtain ⟨kds, hkl, hql, hat⟩ := keysOf_at hq
  cases r with
  | cons c1 c2 =>
  cases c2
  cases c1
  cases rz with
  | cons d1 d2 =>
  cases d2
  cases d1
  obtain ⟨its, rv, pl, hz⟩ := I.list (.inl (Rd.of (S.sub _ _ gl)))
  have hil : its.length = ds.length := rv.length.symm.trans rvs.length
  have hiz : its.length ≤ sizeLine := by rw [← rv.length]; exact hz
  show wpAny (model X.prog X.w) X.A (call (.builtin "sorted") [.ref l] [(Str.ofString "key", .ref f)]) (EP X pins σ Q) X.xe s
  refine call_function_entry_kw kind_sorted plain_sorted entry_sorted (ksk_s1 _ _) ?_
  unfold Builtin.«sorted»
  refine wpAny_bind (m := checkCount "sorted" 1 1 _) (wpAny_pure ?_)
  refine wpAny_bind (collect_list pl.isList ?_ hiz)
  refine wpAny_bind (wpAny_newList ?_ hiz)
  have hsz : ((s.heap.push (seqObj "list" #[] 0)).update s.heap.objs.size (Obj.mapSeq (· ++ its.toArray))).objs.size = s.heap.objs.size + 1 := by
    rw [Heap.size_update, size_push']
  have hoL : (((s.heap.push (seqObj "list" #[] 0)).update s.heap.objs.size (Obj.mapSeq (· ++ its.toArray))).push (seqObj "list" its.toArray 0)).get? (s.heap.objs.size + 1) = some (seqObj "list" its.toArray 0) := by
    rw [← hsz]; exact Heap.get?_push_size _ rfl
  have keep : ∀ b o, s.heap.get? b = some o → (((s.heap.push (seqObj "list" #[] 0)).update s.heap.objs.size (Obj.mapSeq (· ++ its.toArray))).push (seqObj "list" its.toArray 0)).get? b = some o := fun b o q => by
    have hlt : b < s.heap.objs.size := Heap.lt_size q
    refine Heap.get?_push_of_some _ ?_
    rw [Heap.get?_update_ne _ _ _ _ (Nat.ne_of_lt hlt)]
    exact Heap.get?_push_of_some _ q
  show wpAny _ _ _ _ _ { s with heap := ((s.heap.push (seqObj "list" #[] 0)).update s.heap.objs.size (Obj.mapSeq (· ++ its.toArray))).push (seqObj "list" its.toArray 0) }
  rw [hsz]
  generalize hh1 : ((s.heap.push (seqObj "list" #[] 0)).update s.heap.objs.size (Obj.mapSeq (· ++ its.toArray))).push (seqObj "list" its.toArray 0) = h1 at hoL keep ⊢
  have sz1 : h1.objs.size = s.heap.objs.size + 2 := by rw [← hh1, size_push', hsz]
  generalize haa : s.heap.objs.size + 1 = a at hoL ⊢
  refine wpAny_bind (wpAny_holding (wpAny_call_entry_kw slot_list_sort ⟨_, hoL, rfl⟩ entry_list_sort ?body (ksk_l1 _ _)))
  case body =>
  show wpAny (model X.prog X.w) X.A.in1.in1 (Builtin.«list.sort» ⟨[.ref a], [(Str.ofString "key", .ref f)]⟩) _ _ _
  rw [ksk_t1]
  unfold ksk_tree
  refine wpAny_bind (listItems_at hoL rfl ?_)
  refine wpAny_bind (listUpdate_at hoL rfl ?_ (by rw [List.size_toArray]; exact hiz) (Nat.zero_le _))
  obtain ⟨e1, ho1⟩ : ∃ e1, (h1.update a (Obj.mapSeq fun _ => #[])).get? a = some (seqObj "list" #[] e1) := ⟨_, get?_update_seq hoL fun _ => #[]⟩
  refine wpAny_bind (seqEpoch_at ho1 rfl ?_)
  refine wpAny_bind (wpAny_newTuple ?_ (by show its.length ≤ _; exact hiz))
  refine wpAny_bind (wpAny_newList ?_ (Nat.zero_le _))
  refine wpAny_holding ?_
  -- the state ahead of the calls
  have k2 : ∀ b o, s.heap.get? b = some o → (h1.update a (Obj.mapSeq fun _ => #[])).get? b = some o := fun b o e => by
    have hlt : b < s.heap.objs.size := Heap.lt_size e
    rw [Heap.get?_update_ne _ _ _ _ (show b ≠ a from Nat.ne_of_lt (by rw [← haa]; exact Nat.lt_succ_of_lt hlt))]
    exact keep b o e
  have hHa : H a = none := I.hok.fresh (show s.heap.objs.size ≤ a by omega)
  have I1 := I.laid (a := a) (o := pinO a (seqObj "list" #[] e1)) (h' := h1.update a (Obj.mapSeq fun _ => #[])) (t' := s.toks) k2 (by omega) (pinO_ok ho1)
  have S1 := S.addF (o := pinO a (seqObj "list" #[] e1)) hHa
  have I2 := I1.kept (h' := (h1.update a (Obj.mapSeq fun _ => #[])).push (seqObj "tuple" its.toArray 0)) (t' := s.toks) fun b o e => Heap.get?_push_of_some _ e
  have sz3 : ((h1.update a (Obj.mapSeq fun _ => #[])).push (seqObj "tuple" its.toArray 0)).objs.size = s.heap.objs.size + 3 := by rw [size_push', Heap.size_update, sz1]
  generalize hkS : ((h1.update a (Obj.mapSeq fun _ => #[])).push (seqObj "tuple" its.toArray 0)).objs.size = kS at *
  have hHk : (upd H a (pinO a (seqObj "list" #[] e1))) kS = none := I2.hok.fresh (Nat.le_of_eq hkS)
  have hka : kS ≠ a := by omega
  have I3 := I2.laid (a := kS) (o := .lst []) (h' := ((h1.update a (Obj.mapSeq fun _ => #[])).push (seqObj "tuple" its.toArray 0)).push (seqObj "list" #[] 0)) (t' := s.toks) (fun b o e => Heap.get?_push_of_some _ e) (Nat.le_of_eq hkS) ⟨Nat.zero_le _, [], 0, .nil, by rw [← hkS]; exact Heap.get?_push_size _ rfl⟩
  have S2 := S1.addF (o := .lst []) hHk
  show wpAny (model X.prog X.w) X.A.in1.in1 (ksk_rest a (.ref f) false its.toArray e1 (.ref kS)) _ _ { s with heap := ((h1.update a (Obj.mapSeq fun _ => #[])).push (seqObj "tuple" its.toArray 0)).push (seqObj "list" #[] 0) }
  generalize hs3 : ({ s with heap := ((h1.update a (Obj.mapSeq fun _ => #[])).push (seqObj "tuple" its.toArray 0)).push (seqObj "list" #[] 0) } : Shared) = s3
  have I3 : L2.Inv X pins σ (upd (upd H a (pinO a (seqObj "list" #[] e1))) kS (.lst [])) s3 := by rw [← hs3]; exact I3
  unfold ksk_rest
  refine wpAny_bind (wpAny_rule ?_)
  first
    | rw [List.forIn_toArray]
    | (rw [← Array.forIn_toList]; simp only [List.toList_toArray])
    | rw [← Array.forIn_toList]
  refine wpAny_bind (ksk_fold (fun i s' => ∃ (H' G' : Hp) (kv : List V), L2.Inv X pins σ H' s' ∧ SR X.prog X.w X.K (upd (upd F a (pinO a (seqObj "list" #[] e1))) kS (.lst kv)) Pn O G' ρ σ' H' ∧ Same G G' ∧ Reps X.prog X.w X.K G' (kds.take i) kv) its 0 s3
    ⟨_, G, [], I3, S2, Same.refl _, by rw [List.take_zero]; rfl⟩ ?step ?done)
  case step =>
    rintro i x s' hx ⟨H', G', kv, I', S', s1', rk⟩
    simp only [Nat.zero_add] at rk ⊢
    have hi : i < its.length := (List.getElem?_eq_some_iff.mp hx).1
    have hid : i < ds.length := by omega
    obtain ⟨kd, z, g1, g2, g3, g4⟩ := hat i _ (List.getElem?_eq_getElem hid)
    obtain ⟨v, ev, rdv⟩ := rvs.get (List.getElem?_eq_getElem hid)
    obtain ⟨x', ex, rx⟩ := rv.get ev
    rw [hx] at ex
    cases ex
    have rd1 : Reps X.prog X.w X.K G' [ds[i]] [v] := Reps.one (Rep.mono s1' _ _ rdv)
    have kvl : kv.length = i := by rw [rk.length, List.length_take]; omega
    refine wpAny_bind (wpAny_attempt ?_)
    refine wpAny_call (codeAny_mono (FO.run X.A.in1.in1 X.stack s' H' ⟨[x], []⟩ ([x] ++ []) ([v] ++ []) (fun v' H2 => ∃ G2, SR X.prog X.w X.K (upd (upd F a (pinO a (seqObj "list" #[] e1))) kS (.lst kv)) Pn O G2 ρ σ' H2 ∧ Same G' G2 ∧ Rep X.prog X.w X.K G2 kd v') E0 ((hr.mono hkj).in1.in1) I'.env0.in1.in1 (hb s' [x] I'.kIn ?_) (.cons rx .nil) ?_) fun r s'' hq => ?_)
    · have := FO.len [v] H' (fun _ _ => True) E0 (call_x (Fn := Fn) (n := 1) S' rd1 g2 rfl fun _ _ _ _ _ _ => trivial)
      exact this
    · exact call_x S' rd1 g2 rfl fun v' G2 H2 S2 s2 r2 => ⟨G2, S2, s2, r2⟩
    cases r with
    | error e => exact False.elim hq
    | ok fl =>
      cases fl with
      | next => exact False.elim hq
      | brk => exact False.elim hq
      | cont => exact False.elim hq
      | ret u =>
        obtain ⟨v', H2, I2', ru, G2, S2', s2', r2⟩ := I'.after hq
        have hk2 := S2'.cellF.1
        obtain ⟨hz', kits, n, ri, ek⟩ := I2'.hok kS _ hk2
        have kil := ri.length
        dsimp only
        refine wpAny_bind (listUpdate_at ek rfl ?_ (by rw [List.size_toArray]; omega) (by rw [Array.size_push, List.size_toArray]; omega))
        obtain ⟨c2, hc2⟩ : ∃ c2, (s''.heap.update kS (Obj.mapSeq (·.push u))).get? kS = some (seqObj "list" (kits.toArray.push u) c2) := ⟨_, get?_update_seq ek (·.push u)⟩
        refine wpAny_pure ⟨rfl, upd H2 kS (.lst (kv ++ [v'])), G2, kv ++ [v'], I2'.write (x := kS) (e := kS) (t' := s''.toks) (by rw [hk2]; trivial) (.inl rfl) (fun b o hb' e => ((Heap.SameBut.update s''.heap kS (Obj.mapSeq (·.push u))).2 b hb').trans e) ⟨_, hc2⟩ ⟨by rw [List.length_append]; simp; omega, kits ++ [u], c2, ri.append (.cons ru .nil), by rw [hc2]; simp⟩, S2'.chgF, s1'.trans s2', ?_⟩
        have : kds.take (i + 1) = kds.take i ++ [kd] := by rw [List.take_add_one, g1]; rfl
        rw [this]
        exact (Reps.mono s2' _ _ rk).append (Reps.one r2)
  case done =>
    rintro s4 ⟨H4, G4, kv, I4, S4, s4', rk⟩
    rw [Nat.zero_add, List.take_of_length_le (by omega)] at rk
    obtain ⟨hk4, gk4⟩ := S4.cellF
    obtain ⟨hz', kits, n, ri, ek⟩ := I4.hok kS _ hk4
    have hFa : (upd (upd F a (pinO a (seqObj "list" #[] e1))) kS (.lst kv)) a = some (pinO a (seqObj "list" #[] e1)) := by rw [upd_ne hka.symm, upd_same]
    obtain ⟨ha4, ga4⟩ := S4.frm a _ hFa
    have ea4 : s4.heap.get? a = some (seqObj "list" #[] e1) := rdp I4 ha4
    have kil : kits.length = its.length := by rw [← ri.length, rk.length, hkl, hil]
    refine wpAny_bind (listItems_at ek rfl ?_)
    unfold ksk_end
    dsimp only
    rw [if_neg Bool.false_ne_true]
    have keyk : ∀ (i : Nat) kd z u, kds[i]? = some kd → asK3 kd = some z → kits[i]? = some u → PyProof.Rows.tupKey s4.heap shp u = some z ∧ ∃ f, TupOf s4.heap shp u f := fun i kd z u a1 a2 a3 => by
      obtain ⟨v, b1, b2⟩ := rk.get a1
      obtain ⟨u', b3, b4⟩ := ri.get b1
      rw [a3] at b3
      cases b3
      exact key_at I4 S4.sub a2 b2 b4
    have rvs4 := Reps.mono s4' _ _ rvs
    have fin : ∀ (Pf : PySem.Fin → Shared → Prop) (Ef : Value → Shared → Prop), (∀ h' : Heap, EP X pins σ Q (.ref a) { s4 with heap := h' } → Pf (.done (.ret .none)) { s4 with heap := h' }) → ∀ st' : SortSt, failedOf st' = none → Srtd (lt2 (ltv s4.heap)) (arrOf st').toList → Stb (lt2 (ltv s4.heap)) (arrOf st').toList (kits.zip its) → wpAny (model X.prog X.w) X.A.in1.in1 (ksk_tail a false e1 (.ref kS) st') Pf Ef s4 := by
      intro Pf Ef pf st' f1 f2 f3
      obtain ⟨ws, w1, w2⟩ := sorted_reps (fun i d e => let ⟨kd, z, a1, _, a2, a3⟩ := hat i d e; ⟨kd, z, a1, a2, a3⟩) hql hkl rvs4 rk rv ri (fun i kd z u a1 a2 a3 => (keyk i kd z u a1 a2 a3).1) f2 f3
      have wl : (((arrOf st').toList).map (·.2)).length = its.length := by rw [List.length_map, f3.len, List.length_zip]; omega
      refine sort_tail ek ea4 hka (by omega) (by rw [wl]; exact hiz) f1 (out := (arrOf st').toList.map (·.2)) (by rw [Array.toList_map]) fun h' c sb hc => ?_
      refine pf h' ?_
      obtain ⟨c0, hc0⟩ : ∃ c0, (s4.heap.update kS (Obj.mapSeq fun _ => (#[] : Array Value))).get? kS = some (seqObj "list" #[] c0) := ⟨_, get?_update_seq ek fun _ => #[]⟩
      have I5 := I4.write (x := kS) (e := kS) (o := .lst []) (t' := s4.toks) (by rw [hk4]; trivial) (.inl rfl) (fun b o hb' e => ((Heap.SameBut.update s4.heap kS (Obj.mapSeq fun _ => (#[] : Array Value))).2 b hb').trans e) ⟨_, hc0⟩ ⟨Nat.zero_le _, [], c0, .nil, hc0⟩
      have I6 := I5.write (x := a) (e := a) (o := .lst ws) (h' := h') (t' := s4.toks) (by rw [upd_ne hka.symm, ha4]; trivial) (.inl rfl) (fun b o hb' e => (sb.2 b hb').trans e) ⟨_, hc⟩ ⟨by rw [w2.length, wl]; exact hiz, _, c, w2, hc⟩
      have nFk : F kS = none := by
        cases e : F kS with
        | none => rfl
        | some u =>
          have := (S1.frm kS u (by rw [upd_ne hka]; exact e)).1
          rw [hHk] at this; cases this
      have nFa : F a = none := by
        cases e : F a with
        | none => rfl
        | some u =>
          have := (S.frm a u e).1
          rw [hHa] at this; cases this
      have S5 := (S4.chgF (o' := .lst [])).delF (by rw [upd_ne hka]; exact nFk)
      obtain ⟨S7, g7, _, hj⟩ := (S5.1.chgF (o' := .lst ws)).delF nFa
      exact ⟨.ref a, _, I6, rfl, kk a G4 _ S7 s4' g7 nFa ⟨ws, upd_same, w1⟩ hj⟩
    have hsz2 : its.toArray.size = its.length := List.size_toArray
    have hks2 : kits.toArray.zip its.toArray = (kits.zip its).toArray := by simp
    by_cases h2 : its.toArray.size < 2
    · rw [if_pos h2, if_pos h2]
      refine wpAny_bind (wpAny_pure ?_)
      rw [StateT.run_pure]
      refine wpAny_bind (wpAny_pure ?_)
      dsimp only
      refine fin _ _ (fun h' e => ⟨_, rfl, wpAny_pure ⟨_, rfl, e⟩⟩) (SortSt.mk' general' (if false = true then (kits.toArray.zip its.toArray).reverse else kits.toArray.zip its.toArray) #[] 7 none) rfl ?_ ?_
      · show Srtd _ (if false = true then (kits.toArray.zip its.toArray).reverse else kits.toArray.zip its.toArray).toList
        rw [if_neg Bool.false_ne_true, hks2]
        match hm : kits.zip its, (by rw [List.length_zip]; omega : (kits.zip its).length < 2) with
        | [], _ => exact List.Pairwise.nil
        | [v], _ => exact List.pairwise_singleton _ _
        | _ :: _ :: l, h => exact absurd h (by simp)
      · show Stb _ (if false = true then (kits.toArray.zip its.toArray).reverse else kits.toArray.zip its.toArray).toList _
        rw [if_neg Bool.false_ne_true, hks2]
        exact Stb.refl _
    · rw [if_neg h2, if_neg h2]
      have all : ∀ u ∈ kits, (∃ z, PyProof.Rows.tupKey s4.heap shp u = some z) ∧ ∃ f, TupOf s4.heap shp u f := fun u hu => by
        obtain ⟨i, hi⟩ := List.mem_iff_getElem?.mp hu
        have hid : i < ds.length := by
          have := (List.getElem?_eq_some_iff.mp hi).1
          omega
        obtain ⟨kd, z, a1, _, a2, _⟩ := hat i _ (List.getElem?_eq_getElem hid)
        obtain ⟨b1, b2⟩ := keyk i kd z u a1 a2 hi
        exact ⟨⟨z, b1⟩, b2⟩
      obtain ⟨fs, t1, t2⟩ := tupsOf fun u hu => (all u hu).2
      refine wpAny_bind (tup_kind (by omega) t1 ?_)
      refine wpAny_bind (wpAny_mono (SrtO.wpS_sortO (st0 := SortSt.mk' (tuples' true) (if false = true then (kits.toArray.zip its.toArray).reverse else kits.toArray.zip its.toArray) #[] 7 none)
        (Q := fun _ st' => Srtd (lt2 (ltv s4.heap)) (arrOf st').toList ∧ Stb (lt2 (ltv s4.heap)) (arrOf st').toList (kits.zip its) ∧ failedOf st' = none) (swo2 (ltv_swo s4.heap)) (key_cmp fun u hu => (all u hu).1) rfl (fun p hp => ?_) rfl rfl fun st' a1 a2 a3 => ⟨a1, ?_, a3⟩) ?_ fun _ _ e => e)
      · have hp : p ∈ (if false = true then (kits.toArray.zip its.toArray).reverse else kits.toArray.zip its.toArray).toList := hp
        rw [if_neg Bool.false_ne_true, hks2] at hp
        exact (List.of_mem_zip (show (p.1, p.2) ∈ kits.zip its from hp)).1
      · have a2 : Stb (lt2 (ltv s4.heap)) (arrOf st').toList (if false = true then (kits.toArray.zip its.toArray).reverse else kits.toArray.zip its.toArray).toList := a2
        rw [if_neg Bool.false_ne_true, hks2] at a2
        exact a2
      · rintro ⟨⟨⟩, st'⟩ s' ⟨rfl, f1, f2, f3⟩
        dsimp only
        exact fin _ _ (fun h' e => ⟨_, rfl, wpAny_pure ⟨_, rfl, e⟩⟩) st' f3 f1 f2
end
end RF
set_option Elab.async false
set_option linter.all false
set_option maxRecDepth 100000
set_option maxHeartbeats 2000000
namespace RF
open PySem PySem.Spec L2
open PyProof.Rows hiding St
section
variable {X : Cx} {O : List Nat} {a b e : Expr} {es : List Expr} {fa fb : FX} {fl : FL} {p pos kp kpos apos : Pos}
theorem f_sortBy {x : Str} {k j : Nat} {Fn : List D → Option D} (h : Ok0 X.prog X.w X.K X.mg X.base false x k 1 Fn) (hr : Room j X.A) (hkj : k + 2 ≤ j) (hx : Gl X x) (hg : Gl X "sorted") (hm : X.mg "sorted" = none) (ha : DX X O a fa) (hd : (x == ("__debug__" : Str)) = false := by decide)
    (na : starEach [a] X.env = (false, eval a X.env) :: starEach [] X.env := by rfl)
    (he : backTo pos (starEach [a] X.env) = (false, eval a X.env) :: backTo pos (starEach [] X.env) := by rfl) (hpl : (backTo pos (starEach [a] X.env)).any (·.1) = false := by rfl)
    (hall : (backToKw pos (keywordEach [⟨some "key", .Name x kp, kpos⟩] X.env)).all (·.1.isSome) = true := by rfl) (hnone : (backToKw pos (keywordEach [⟨some "key", .Name x kp, kpos⟩] X.env)).any (·.1.isNone) = false := by rfl) (hks : (backToKw pos (keywordEach [⟨some "key", .Name x kp, kpos⟩] X.env)).filterMap (·.1) = [Str.ofString "key"] := by rfl) :
    DF X O (.Call (.Name "sorted" p) [a] [⟨some "key", .Name x kp, kpos⟩] pos) (o1 (sortBy Fn) fa) := by
  obtain ⟨f, fd, ps, FO, hf, hk, hb, hl⟩ := h
  refine PE.imp (pe_callBK (cr_sortBy (O := O) FO hb hr hkj) hg hm boot_sorted (pa_cons ha pa_nil na) (pk_cons (pe_glob (v := .ref f) hx hf rfl hd) pk_nil) (by decide) (by decide) he hpl hall hnone hks) fun σ H Q ⟨F, Pn, G, ρ, d, ρ', S, e, k⟩ => ?_
  obtain ⟨⟨x, ρ1⟩, e1, e⟩ := bindE e
  obtain ⟨z, e2, e⟩ := mapE e
  cases e
  refine ⟨F, Pn, G, ρ, x, ρ1, S, e1, fun v G1 H1 S1 s1 r1 => ?_⟩
  cases x with
  | lst ds =>
    obtain ⟨q, e3, e4⟩ := mapE (show (keysOf Fn ds).map _ = some _ from e2)
    subst e4
    have r1' := r1
    obtain ⟨l, vs, ev, _⟩ := r1
    subst ev
    exact ⟨l, σ, F, Pn, G1, _, ds, q, rfl, rfl, S1, r1', e3, fun a G' H' S2 s2 n nf cc hj => k a G' H' S2 (s1.trans s2) n nf cc hj⟩
  | _ => cases e2
def D.dictOf : List D → Option D
  | [.dct l] => if leafKs l then some (.dct l) else none
  | _ => none
def rDictOf (X : Cx) : List V → Hp → VK → Prop := fun vs H Q => ∃ G l v, vs = [v] ∧ Same G H ∧ Rep X.prog X.w X.K G (.dct l) v ∧ leafKs l = true ∧ ∀ p o, H p = none → Cell X.prog X.w X.K G (upd H p o) p (.dct l) → Q (.ref p) (upd H p o)
theorem call_dictOf : CallR X (.type "dict") (rDictOf X) := by
  intro pins s σ H xs us Q I r ⟨G, l, v, ex, sub, rd, hl, q⟩
  subst ex
  obtain ⟨a, o, vs, ev, hm, g, hz, hd, hp⟩ := rd
  subst ev
  cases r with
  | cons r1 r2 =>
  cases r2
  cases r1
  obtain ⟨us, i0, i1, w1, v1⟩ := leafDict I sub g hd hl
  have hlen : us.length = l.length := by have := congrArg List.length w1; simpa using this.symm
  refine kt_call_dict hm i0 (by rw [hlen]; exact hz) fun h' d' hs => ?_
  have hn : H s.heap.objs.size = none := I.hok.fresh (Nat.le_refl _)
  obtain ⟨o2, ho2, hi2⟩ := Heap.dictOf_iff.mp d'
  have hmm : (s.heap.objs.size == sysModules) = false := beq_eq_false_iff_ne.mpr (Nat.ne_of_gt I.big)
  exact ⟨.ref s.heap.objs.size, upd H s.heap.objs.size (pinO s.heap.objs.size o2), I.laid (t' := s.toks) (fun b u e => (hs.2 b (Nat.ne_of_lt (Heap.lt_size e))).trans (Heap.get?_push_of_some _ e)) (Nat.le_refl _) (pinO_ok ho2), rfl,
    q _ _ hn ⟨hmm, o2, vs, upd_same, hz, .inl ⟨us, hi2, w1, v1⟩, hp⟩⟩
theorem f_dictOf (hg : Gl X "dict") (hm : X.mg "dict" = none) (ha : DA X O (e :: es) fl) (he : starEach (e :: es) X.env = (false, eval e X.env) :: starEach es X.env := by rfl) (hpl : (backTo pos (starEach es X.env)).any (·.1) = false := by rfl) :
    DF X O (.Call (.Name "dict" p) (e :: es) [] pos) (xCall D.dictOf fl) := by
  refine PE.imp (pe_callTy call_dictOf hg hm (by decide +kernel) ha (by decide) (by decide) he hpl) fun σ H Q ⟨F, Pn, G, ρ, d, ρ', S, e, k⟩ => ?_
  obtain ⟨⟨ys, ρ1⟩, e1, e⟩ := bindE e
  obtain ⟨z, e2, e⟩ := mapE e
  cases e
  refine ⟨F, Pn, G, ρ, ys, _, S, e1, fun vs G1 H1 S1 s1 r1 => ?_⟩
  unfold D.dictOf at e2
  split at e2
  · rename_i l hq
    replace hq : ys = _ := hq
    subst hq
    obtain ⟨hl, rfl⟩ := ifE e2
    obtain ⟨v, vr, e3, q1, e5⟩ := r1
    have e5 : vr = [] := e5
    subst e3 e5
    refine ⟨G1, l, v, rfl, S1.sub, q1, hl, fun p o hp cc => ?_⟩
    obtain ⟨S2, n, nf, hj⟩ := S1.lay (o := o) hp
    exact k p G1 _ S2 s1 n nf cc hj
  · cases e2
def gPut (i : Nat) (fk : FX) : D → Env → Option Env := fun v ρ => (lk ρ i).bind fun _ => (fk ρ).bind fun q => (lk q.2 i).bind fun d => (D.put d q.1 v).map fun d' => q.2.set i (some d')
theorem dg_sub {i : Nat} {y : Str} {ke : Expr} {fk : FX} {py sp : Pos} (hu : X.A.units + 64 < cLine) (hN : X.N[i]? = some y) (hv : Vis X.env.scope y) (hi : i ∈ O) (hk : DX X O ke fk) (hd : (y == ("__debug__" : Str)) = false := by decide) (hcd : (y == ("__classdict__" : Str)) = false := by decide)
    (ha : ∀ v, assign (.Subscript (.Name y py) ke sp) X.env v = (do
      let ov ← holding [v] (eval (.Name y py) X.env)
      let iv ← holding [v, ov] (eval ke X.env)
      standAt sp
      holding [v, ov, iv] (setItem ov iv v)
      release [v, ov, iv] []) := by intro _; rfl) : DG X O [] (.Subscript (.Name y py) ke sp) (gPut i fk) := by
  refine PG.imp (pg_sub (pe_var hN hv hd hcd) hk (pset_D hu) ha) fun v σ H Q ⟨F, Pn, G, ρ, x, ρ', S, r, e, k⟩ => ?_
  obtain ⟨d0, e0, e⟩ := bindE e
  obtain ⟨⟨z, ρ2⟩, e2, e⟩ := bindE e
  obtain ⟨d, e3, e⟩ := bindE e
  obtain ⟨d', e4, e⟩ := mapE e
  cases e
  obtain ⟨a0, h0, _⟩ := S.own i hi d0 e0
  refine ⟨.ref a0, h0, F, Pn, G, ρ, z, ρ2, S, e2, fun kv G2 H2 S2 s2 r2 => ?_⟩
  obtain ⟨a, h1, h2, h3, h4, h5⟩ := S2.own i hi d e3
  rw [h0] at h1; cases h1
  exact ⟨G2, a0, d, z, x, d', rfl, S2.sub, h2, h4, r2, Rep.mono s2 _ _ r, e4, fun o' c' => k _ G2 _ (S2.chg hi e3 h0 c') s2 (Off.refl _ _)⟩
def zipT : List D → Option (List D)
  | [.lst a, .lst b] => some (List.zipWith (fun x y => .tup [x, y]) a b)
  | [.tup a, .tup b] => some (List.zipWith (fun x y => .tup [x, y]) a b)
  | _ => none
theorem wk_zipT {P : Program} {w : World} {K : PySem.W.Frag} {G : Hp} {a b : Addr} {vs us : List V} {ds es : List D} (h : G a = some (.tup vs)) (r : Reps P w K G ds vs) (h' : G b = some (.tup us)) (r' : Reps P w K G es us) :
    Wk P w K G (RZ.ItzT K a b) (List.zipWith (fun x y => .tup [x, y]) ds es) := fun G1 H s1 s2 => by
  have q : SqT K H a vs := SqT.of (s2 _ _ (s1 _ _ h))
  have q' : SqT K H b us := SqT.of (s2 _ _ (s1 _ _ h'))
  have r1 := Reps.mono s1 _ _ r
  have r1' := Reps.mono s1 _ _ r'
  refine ⟨⟨vs, us, q, q', ?_⟩, fun i x e => ?_⟩
  · rw [List.length_zipWith, ← r.length, ← r'.length]
    omega
  · rw [List.getElem?_zipWith] at e
    cases e0 : ds[i]? with
    | none => rw [e0] at e; cases e
    | some d =>
      cases e0' : es[i]? with
      | none => rw [e0, e0'] at e; cases e
      | some d' =>
        rw [e0, e0'] at e
        cases e
        obtain ⟨y, e1, r2⟩ := r1.get e0
        obtain ⟨y', e1', r2'⟩ := r1'.get e0'
        refine ⟨⟨vs, us, y, y', q, q', e1, e1'⟩, fun v H' hy => ?_⟩
        obtain ⟨T, x, x', ev, hT, z, k, k'⟩ := hy
        subst z ev
        have h1 := k vs q
        have h2 := k' us q'
        rw [e1] at h1; cases h1
        rw [e1'] at h2; cases h2
        have g := Grow.alloc (o := .tup [y, y']) s2 hT
        exact ⟨_, g, T, _, rfl, upd_same, y, [y'], rfl, Rep.mono g.g _ _ r2, y', [], rfl, Rep.mono g.g _ _ r2', rfl⟩
theorem di_zipT {tpos : Pos} {elts : List Expr} {kk : Nat} (hg : Gl X "zip") (hm : X.mg "zip" = none) (ha : DA X O [a, b] fl)
    (hs : starEach [a, b] X.env = (false, eval a X.env) :: starEach [b] X.env := by rfl) (hpl : (backTo pos (starEach [b] X.env)).any (·.1) = false := by rfl) :
    DI X O (.Tuple elts kk tpos) (.Call (.Name "zip" p) [a, b] [] pos) (xLs zipT fl) := by
  refine PI.imp (RZ.pi_zipA hg hm ha hs hpl) fun σ H Q ⟨F, Pn, G, ρ, d, ρ', S, e, k⟩ => ?_
  obtain ⟨⟨ys, ρ1⟩, e1, e⟩ := bindE e
  obtain ⟨l, e2, e⟩ := mapE e
  cases e
  refine ⟨F, Pn, G, ρ, _, _, S, e1, fun vs G1 H1 S1 s1 r1 => ?_⟩
  unfold zipT at e2
  split at e2
  · rename_i hq
    replace hq : ys = _ := hq
    subst hq
    cases e2
    obtain ⟨v, r, ev, ⟨a, us, rv, q1, q2⟩, v2, r2, er, ⟨b, us2, rv2, q3, q4⟩, er2⟩ := r1
    subst ev er rv er2 rv2
    exact ⟨a, b, us, us2, rfl, .inl ⟨.inl (Rd.of (S1.sub _ _ q1)), .inl (Rd.of (S1.sub _ _ q3)), k _ G1 H1 S1 s1 (wk_zip q1 q2 q3 q4)⟩⟩
  · rename_i hq
    replace hq : ys = _ := hq
    subst hq
    cases e2
    obtain ⟨v, r, ev, ⟨a, us, rv, q1, q2⟩, v2, r2, er, ⟨b, us2, rv2, q3, q4⟩, er2⟩ := r1
    subst ev er rv er2 rv2
    exact ⟨a, b, us, us2, rfl, .inr ⟨SqT.of (S1.sub _ _ q1), SqT.of (S1.sub _ _ q3), k _ G1 H1 S1 s1 (wk_zipT q1 q2 q3 q4)⟩⟩
  · cases e2
end
section
variable {X : Cx} {O : List Nat} {elt tg iter tg1 iter1 : Expr} {ifs ifs1 : List Expr} {scope : Scope} {pos spos py : Pos} {wf wf1 : FL} {g g1 : D → Env → Option Env} {t t1 : FTx} {e : FX} {is is1 : List Nat}
theorem s_lc2 {i : Nat} {y : Str} (own : List (Str × Nat)) (vs1 : List Nat) (hc : X.calm = true) (hN : X.N.Nodup) (hy : X.N[i]? = some y) (hyl : X.env.scope.names.lookup y = some .local) (hsw : swapsWith (.ListComp elt [⟨tg, iter, ifs, 0⟩, ⟨tg1, iter1, ifs1, 0⟩] scope pos) (some (.Name y py)) spos.line X.env = pure true) (hi : DI X O tg iter wf) (ok : BlkOk X.N X.env.scope scope own)
    (hg : ∀ (s : Shared) (H : Hp) (C : Addr) (cl : List (Str × Addr)) (fp : List Addr), DG (X.blk s H scope (compEnvC scope cl C X.env) fp) O is tg g) (ht : ∀ (s : Shared) (H : Hp) (C : Addr) (cl : List (Str × Addr)) (fp : List Addr), DTs (X.blk s H scope (compEnvC scope cl C X.env) fp) O ifs t)
    (hi1 : ∀ (s : Shared) (H : Hp) (C : Addr) (cl : List (Str × Addr)) (fp : List Addr), DI (X.blk s H scope (compEnvC scope cl C X.env) fp) O tg1 iter1 wf1)
    (hg1 : ∀ (s : Shared) (H : Hp) (C : Addr) (cl : List (Str × Addr)) (fp : List Addr), DG (X.blk s H scope (compEnvC scope cl C X.env) fp) O is1 tg1 g1) (ht1 : ∀ (s : Shared) (H : Hp) (C : Addr) (cl : List (Str × Addr)) (fp : List Addr), DTs (X.blk s H scope (compEnvC scope cl C X.env) fp) O ifs1 t1)
    (he : ∀ (s : Shared) (H : Hp) (C : Addr) (cl : List (Str × Addr)) (fp : List Addr), DX (X.blk s H scope (compEnvC scope cl C X.env) fp) O elt e) (h1 : ∀ i ∈ is, i ∈ own.map (·.2) := by decide) (h2 : ∀ v ∈ own.map (·.2), v ∉ O := by decide) (h3 : ∀ i ∈ is1, i ∈ vs1 := by decide) (h4 : ∀ v ∈ vs1, v ∈ own.map (·.2) := by decide)
    (hs : ∀ x, foldedSetIterable iter X.env x = pure x := by intro _; rfl) (hs1 : ∀ env x, foldedSetIterable iter1 env x = pure x := by intro _ _; rfl) :
    PS X (.Assign [.Name y py] (.ListComp elt [⟨tg, iter, ifs, 0⟩, ⟨tg1, iter1, ifs1, 0⟩] scope pos) spos) (tAsg (tDf X.prog X.w X.K O (xLc2 (own.map (·.2)) vs1 wf g t wf1 g1 t1 e)) (gName i)) := PS.imp (ps_setLc2 hc hN hy hyl hsw hi ok h4 hg ht hi1 hg1 ht1 he hs hs1) fun _ _ _ q => tLc2_of h1 h2 h3 h4 q
end
def D.strOf : List D → Option D
  | [.int i] => if i.natAbs.log2 < 1920 then some (.str (Str.ofString (toString i))) else none
  | _ => none
section
variable {X : Cx} {O : List Nat} {e : Expr} {es : List Expr} {fl : FL} {p pos : Pos}
end
theorem nl : ∀ (ρ : Env) (ds : List D) (ρ' : Env), xNil ρ = some (ds, ρ') → ds.length = 0 := fun _ _ _ h => xNil_len h
theorem cl {a : FX} {r : FL} {n : Nat} (hr : ∀ ρ ds ρ', r ρ = some (ds, ρ') → ds.length = n) : ∀ (ρ : Env) (ds : List D) (ρ' : Env), xCons a r ρ = some (ds, ρ') → ds.length = n + 1 := xCons_len hr
end RF
set_option Elab.async false
set_option linter.all false
set_option maxRecDepth 100000
namespace RF
open PySem PySem.Spec L2
open PyProof.Rows hiding St
section
variable {hs : List (Nat × Option D)}
end
section
variable {ρ ρ1 ρ2 ρ3 : Env} {x y z : D} {l : List D} {ps : List (D × D)}
theorem o1_of {op : D → Option D} {a : FX} (h : a ρ = some (x, ρ1)) (h2 : op x = some z) : RF.o1 op a ρ = some (z, ρ1) := by unfold RF.o1; rw [h, Option.bind_some, h2]; rfl
def finF (kd : Bool) : Fl → Option D
  | .rt d _ => some d
  | .nx _ => if kd then none else some .non
  | _ => none
theorem run0_eq {kd : Bool} {N n : Nat} {b : FS} {ds : List D} (h : ds.length = n) : run0 kd N n b ds = (b (ds.map some ++ List.replicate (N - n) none)).bind (finF kd) := by
  unfold run0; rw [if_pos h]; congr 1
theorem fSeq_eq {f g : FS} (h : f ρ = some (.nx ρ1)) : fSeq f g ρ = g ρ1 := by unfold fSeq; rw [h]; rfl
theorem op_no {op : D → D → Option D} {a b : FX} (ha : a ρ = some (x, ρ)) (hb : b ρ = some (y, ρ)) (h : op x y = some (.bl false)) : xB (RF.o2 op a b) ρ = some (false, ρ) := by
  unfold xB; rw [o2_of ha hb h]; rfl
theorem fIf_no {t : FTx} {a b : FS} {o : Option Fl} (h : t ρ = some (false, ρ)) (h2 : b ρ = o) : fIf t a b ρ = o := by unfold fIf; rw [h]; exact h2
end
end RF
set_option Elab.async false
set_option linter.all false
set_option maxRecDepth 100000
set_option maxHeartbeats 2000000
namespace RF
open PySem PySem.Spec L2
open PyProof.Rows hiding St
open Classical in
noncomputable def FwL (F : Hp) (as : List Addr) (H : Hp) : Hp := fun b => if b ∈ as then H b else F b
structure Cells (P : Program) (w : World) (K : PySem.W.Frag) (F G H : Hp) (as : List Addr) (ds : List D) : Prop where
  nd : as.Nodup
  len : as.length = ds.length
  cel : ∀ (i : Nat) (a : Addr) (d : D), as[i]? = some a → ds[i]? = some d → Cell P w K G H a d
  nG : ∀ a ∈ as, G a = none
  nF : ∀ a ∈ as, F a = none
section
variable {P : Program} {w : World} {K : PySem.W.Frag} {F F' G G' H H' : Hp} {Pn : List (Nat × Addr)} {O : List Nat} {ρ : Env} {σ : St} {as : List Addr} {ds : List D}
theorem FwL_in {b : Addr} (h : b ∈ as) : FwL F as H b = H b := by unfold FwL; rw [if_pos h]
theorem FwL_out {b : Addr} (h : b ∉ as) : FwL F as H b = F b := by unfold FwL; rw [if_neg h]
theorem Cells.some (C : Cells P w K F G H as ds) {a : Addr} (h : a ∈ as) : ∃ o, H a = some o := by
  obtain ⟨i, e⟩ := List.getElem?_of_mem h
  have hi : i < as.length := (List.getElem?_eq_some_iff.mp e).1
  exact (C.cel i a _ e (List.getElem?_eq_getElem (C.len ▸ hi))).some
theorem SR.less (S : SR P w K F Pn O G ρ σ H) (h : ∀ b o, F' b = some o → F b = some o) : SR P w K F' Pn O G ρ σ H where
  sub := S.sub
  frm := fun b o e => S.frm b o (h b o e)
  len := S.len
  val := S.val
  own := fun i hi d e => by
    obtain ⟨a, h1, h2, h3, h4, h5⟩ := S.own i hi d e
    refine ⟨a, h1, h2, ?_, h4, h5⟩
    cases e : F' a with
    | none => rfl
    | some o => rw [h a o e] at h3; cases h3
  pin := S.pin
theorem SR.more (S : SR P w K F Pn O G ρ σ H) (nG : ∀ a ∈ as, G a = none) (hj : ∀ a ∈ as, ∀ j ∈ O, ∀ d, lk ρ j = some d → σ[j]? ≠ some (some (.ref a))) : SR P w K (FwL F as H) Pn O G ρ σ H where
  sub := S.sub
  frm := fun b o e => by
    by_cases hb : b ∈ as
    · rw [FwL_in hb] at e; exact ⟨e, nG b hb⟩
    · rw [FwL_out hb] at e; exact S.frm b o e
  len := S.len
  val := S.val
  own := fun i hi d e => by
    obtain ⟨a, h1, h2, h3, h4, h5⟩ := S.own i hi d e
    refine ⟨a, h1, h2, ?_, h4, h5⟩
    rw [FwL_out fun z => hj a z i hi d e h1]; exact h3
  pin := S.pin
end
def tDw (P : Program) (w : World) (K : PySem.W.Frag) (O : List Nat) (f : FL) : TE := fun σ H Q => ∃ F Pn G ρ ds ρ', SR P w K F Pn O G ρ σ H ∧ f ρ = some (ds, ρ') ∧
  ∀ l as G' H', SR P w K F Pn O G' ρ' σ H' → Same G G' → G' l = some (.lst (as.map .ref)) → Cells P w K F G' H' as ds → (∀ a ∈ as, ∀ j ∈ O, ∀ d, lk ρ' j = some d → σ[j]? ≠ some (some (.ref a))) → Q (.ref l) H'
def goW (vs : List Nat) (g : D → Env → Option Env) (e : FX) (d : D) (acc : List D) (ρ : Env) : Option (List D × Env) :=
  (g d ρ).bind fun ρ1 => (e ρ1).bind fun y => if lineOk (acc.length + 1) then some (acc ++ [y.1], wp y.2 vs) else none
def runW (go : D → List D → Env → Option (List D × Env)) : List D → List D → Env → Option (List D × Env)
  | [], a, ρ => some (a, ρ)
  | d :: ds, a, ρ => (go d a ρ).bind fun p => runW go ds p.1 p.2
def xLcW (vs : List Nat) (w : FL) (g : D → Env → Option Env) (e : FX) : FL := fun ρ => (w ρ).bind fun p => (runW (goW vs g e) p.1 [] (wp p.2 vs)).map fun r => (r.1, rst p.2 r.2 vs)
section
variable {P : Program} {w : World} {K : PySem.W.Frag} {O : List Nat} {is vs : List Nat} {g : D → Env → Option Env} {e : FX} {wf : FL}
structure AtW (P : Program) (w : World) (K : PySem.W.Frag) (F : Hp) (Pn : List (Nat × Addr)) (O : List Nat) (A : Addr) (G : Hp) (as : List Addr) (ds : List D) (ρ : Env) (τ : St) (H : Hp) : Prop where
  sr : SR P w K (FwL F (A :: as) H) Pn O G ρ τ H
  lst : H A = some (.lst (as.map .ref))
  cel : Cells P w K F G H as ds
  nA : A ∉ as
  fA : F A = none
theorem AtW.grow {F G H G' H' : Hp} {Pn : List (Nat × Addr)} {A : Addr} {as : List Addr} {ds : List D} {ρ : Env} {τ : St} (S : AtW P w K F Pn O A G as ds ρ τ H) (gr : Grow G H G' H') : AtW P w K F Pn O A G' as ds ρ τ H' where
  sr := (S.sr.grow gr).less fun b o e => by
    by_cases hb : b ∈ A :: as
    · rw [FwL_in hb] at e ⊢
      have : ∃ u, H b = some u := by
        rcases List.mem_cons.mp hb with z | z
        · subst z; exact ⟨_, S.lst⟩
        · exact S.cel.some z
      obtain ⟨u, hu⟩ := this
      rw [gr.h _ _ hu] at e; cases e; exact hu
    · rw [FwL_out hb] at e ⊢; exact e
  lst := gr.h _ _ S.lst
  cel := ⟨S.cel.nd, S.cel.len, fun i a d e1 e2 => by
    obtain ⟨u, hu⟩ := S.cel.some (List.mem_of_getElem? e1)
    exact (S.cel.cel i a d e1 e2).mono gr.g ((gr.h _ _ hu).trans hu.symm), fun a ha => by
    obtain ⟨u, hu⟩ := S.cel.some ha
    exact gr.new _ _ hu (S.cel.nG a ha), S.cel.nF⟩
  nA := S.nA
  fA := S.fA
theorem AtW.next {F G H G' H' : Hp} {Pn : List (Nat × Addr)} {A : Addr} {as : List Addr} {ds : List D} {ρ ρ' : Env} {τ τ' : St} (S : AtW P w K F Pn O A G as ds ρ τ H) (S' : SR P w K (FwL F (A :: as) H) Pn O G' ρ' τ' H') (s : Same G G') : AtW P w K F Pn O A G' as ds ρ' τ' H' := by
  have key : ∀ b ∈ A :: as, H' b = H b ∧ G' b = none := fun b hb => by
    have : ∃ u, H b = some u := by
      rcases List.mem_cons.mp hb with z | z
      · subst z; exact ⟨_, S.lst⟩
      · exact S.cel.some z
    obtain ⟨u, hu⟩ := this
    obtain ⟨q1, q2⟩ := S'.frm b u (by rw [FwL_in hb]; exact hu)
    exact ⟨q1.trans hu.symm, q2⟩
  refine ⟨S'.less fun b o e => ?_, ((key A (List.mem_cons_self ..)).1).trans S.lst, ⟨S.cel.nd, S.cel.len, fun i a d e1 e2 => ?_, fun a ha => (key a (List.mem_cons_of_mem _ ha)).2, S.cel.nF⟩, S.nA, S.fA⟩
  · by_cases hb : b ∈ A :: as
    · rw [FwL_in hb] at e ⊢; rw [← (key b hb).1]; exact e
    · rw [FwL_out hb] at e ⊢; exact e
  · exact (S.cel.cel i a d e1 e2).mono s (key a (List.mem_cons_of_mem _ (List.mem_of_getElem? e1))).1
theorem tLcW_of {σ : St} {H : Hp} {Q : VK} (hi : ∀ i ∈ is, i ∈ vs) (hv : ∀ v ∈ vs, v ∉ O) (h : tDw P w K O (xLcW vs wf g e) σ H Q) : tLc (tDi P w K O wf) (tDg P w K O is g) (tDt P w K O (up yesT)) (tDf P w K O e) vs σ H Q := by
  obtain ⟨F, Pn, G, ρ, d, ρ', S, h, k⟩ := h
  obtain ⟨⟨ds, ρ1⟩, e1, h⟩ := bindE h
  obtain ⟨⟨out, ρ2⟩, e2, h⟩ := mapE h
  cases h
  refine ⟨F, Pn, G, ρ, ds, ρ1, S, e1, fun J G1 H1 S1 s1 W A hA => ?_⟩
  obtain ⟨SL, n, nf, hjA⟩ := S1.lay (o := .lst []) hA
  have S2 : AtW P w K F Pn O A G1 [] [] (wp ρ1 vs) (wipe σ vs) (upd H1 A (.lst [])) := by
    refine ⟨?_, upd_same, ⟨List.nodup_nil, rfl, fun i a d e => by simp at e, fun a h => (by cases h), fun a h => (by cases h)⟩, by simp, nf⟩
    refine (SL.wipe hv).more (fun a ha => ?_) fun a ha j hj d e => ?_
    · have := List.mem_singleton.mp ha; subst this; exact n
    · have := List.mem_singleton.mp ha; subst this
      obtain ⟨w1, w2⟩ := wp_lk e
      rw [wipe_ne w2]; exact hjA j hj d w1
  refine ⟨fun i m H => m = ds.length - i ∧ i ≤ ds.length ∧ ∃ G2 as es ρ3, AtW P w K F Pn O A G2 as es ρ3 (wipe σ vs) H ∧ Same G1 G2 ∧ runW (goW vs g e) (ds.drop i) es ρ3 = some (out, ρ2), ⟨ds.length, by simp, Nat.zero_le _, G1, [], [], _, S2, Same.refl _, e2⟩, ?_⟩
  rintro i m H2 ⟨rfl, hil, G2, as, es, ρ3, S3, s3, e3⟩
  obtain ⟨w1, w2⟩ := W G2 H2 s3 S3.sr.sub
  by_cases hlt : i < ds.length
  · have hx : ds[i]? = some ds[i] := List.getElem?_eq_getElem hlt
    obtain ⟨g1, g2⟩ := w2 i _ hx
    rw [List.drop_eq_getElem_cons hlt] at e3
    obtain ⟨⟨es', ρ4⟩, e4, e5⟩ := bindE (show (goW vs g e ds[i] es ρ3).bind (fun p => runW (goW vs g e) (ds.drop (i + 1)) p.1 p.2) = some (out, ρ2) from e3)
    obtain ⟨ρ5, e6, e4⟩ := bindE e4
    obtain ⟨⟨y, ρ6⟩, e7, e4⟩ := bindE e4
    obtain ⟨hline, e4⟩ := ifN (show (if lineOk (es.length + 1) = true then some (es ++ [y], wp ρ6 vs) else none) = some (es', ρ4) from e4)
    cases e4
    refine .inr ⟨g1, fun H' => ∃ G3 as', AtW P w K F Pn O A G3 as' (es ++ [y]) (wp ρ6 vs) (wipe σ vs) H' ∧ Same G1 G3, fun H' ⟨G3, as', q1, q2⟩ => ⟨ds.length - (i + 1), by omega, rfl, hlt, G3, as', _, _, q1, q2, e5⟩, fun v H' yy => ?_⟩
    obtain ⟨G3, gr, r⟩ := g2 v H' yy
    have S4 := S3.grow gr
    refine ⟨_, Pn, G3, ρ3, _, ρ5, S4.sr, r, e6, fun σ5 G5 H5 S5 s5 o5 => ?_⟩
    have hw := off_wipe o5 hi
    refine ⟨hw, ?_⟩
    have S5' := S4.next S5 s5
    refine ⟨_, Pn, G5, ρ5, true, ρ5, S5'.sr, rfl, fun G6 H6 S6 s6 => ?_⟩
    show (if true = true then _ else _)
    rw [if_pos rfl]
    have S6' := S5'.next S6 s6
    refine ⟨_, Pn, G6, ρ5, y, ρ6, S6'.sr, e7, fun a G7 H7 S7 s7 na nfa ca hja => ?_⟩
    have S7' := S6'.next S7 s7
    have hz := lineOk_iff.mp hline
    have haA : a ∉ A :: as := fun z => by
      have := nfa
      rw [FwL_in z] at this
      rcases List.mem_cons.mp z with z | z
      · subst z; rw [S6'.lst] at this; cases this
      · obtain ⟨u, hu⟩ := S6'.cel.some z; rw [hu] at this; cases this
    have hFa : F a = none := by rw [FwL_out haA] at nfa; exact nfa
    refine ⟨as.map .ref, S7'.lst, by rw [List.length_map, S7'.cel.len]; omega, G7, as ++ [a], ?_, (((s3.trans gr.g).trans s5).trans s6).trans s7⟩
    have hA7 : G7 A = none := (S7'.sr.frm A _ (by rw [FwL_in (List.mem_cons_self ..)]; exact S7'.lst)).2
    have hne : ∀ b, b ≠ A → upd H7 A (.lst (as.map .ref ++ [.ref a])) b = H7 b := fun b hb => upd_ne hb
    have haneA : a ≠ A := fun z => haA (z ▸ List.mem_cons_self ..)
    -- the state with the longer list
    have SX : SR P w K (FwL F (A :: (as ++ [a])) (upd H7 A (.lst (as.map .ref ++ [.ref a])))) Pn O G7 ρ6 σ5 (upd H7 A (.lst (as.map .ref ++ [.ref a]))) := by
      refine ⟨fun b u e => ?_, fun b u e => ?_, S7'.sr.len, S7'.sr.val, fun j hj d ej => ?_, S7'.sr.pin⟩
      · rw [hne b fun z => by subst z; rw [hA7] at e; cases e]; exact S7'.sr.sub _ _ e
      · by_cases hb : b ∈ A :: (as ++ [a])
        · rw [FwL_in hb] at e
          refine ⟨e, ?_⟩
          rcases List.mem_cons.mp hb with z | z
          · subst z; exact hA7
          · rcases List.mem_append.mp z with z | z
            · exact S7'.cel.nG b z
            · have := List.mem_singleton.mp z; subst this; exact na
        · rw [FwL_out hb] at e
          have hb' : b ∉ A :: as := fun z => hb (by simp only [List.mem_cons, List.mem_append, List.mem_singleton] at z ⊢; rcases z with z | z; exact .inl z; exact .inr (.inl z))
          rw [hne b fun z => hb (z ▸ List.mem_cons_self ..)]
          exact S7'.sr.frm b u (by rw [FwL_out hb']; exact e)
      · obtain ⟨b, h1, h2, h3, h4, h5⟩ := S7'.sr.own j hj d ej
        obtain ⟨u, hu⟩ := h4.some
        have hbA : b ∉ A :: as := fun z => by rw [FwL_in z] at h3; rw [hu] at h3; cases h3
        have hba : b ≠ a := fun z => by subst z; exact hja j hj d ej h1
        have hb' : b ∉ A :: (as ++ [a]) := fun z => by
          simp only [List.mem_cons, List.mem_append, List.mem_singleton] at z hbA
          rcases z with z | z | z | z
          · exact hbA (.inl z)
          · exact hbA (.inr z)
          · exact hba z
          · cases z
        refine ⟨b, h1, h2, ?_, ?_, h5⟩
        · rw [FwL_out hb']; rw [FwL_out hbA] at h3; exact h3
        · exact h4.mono (Same.refl _) (hne b fun z => hbA (z ▸ List.mem_cons_self ..))
    refine ⟨?_, by rw [upd_same, List.map_append]; rfl, ⟨?_, by simp [S7'.cel.len], fun j b d e1 e2 => ?_, fun b hb => ?_, fun b hb => ?_⟩, fun z => ?_, S7'.fA⟩
    · rw [← hw]; exact SX.wipe hv
    · rw [List.nodup_append]
      refine ⟨S7'.cel.nd, by simp, fun x hx y hy z => ?_⟩
      have := List.mem_singleton.mp hy; subst this; subst z
      exact haA (List.mem_cons_of_mem _ hx)
    · have hbn : b ≠ A := fun z => by
        subst z
        rcases List.mem_append.mp (List.mem_of_getElem? e1) with z | z
        · exact S7'.nA z
        · exact haneA (List.mem_singleton.mp z).symm
      have hl := S7'.cel.len
      by_cases hj : j < as.length
      · rw [List.getElem?_append_left hj] at e1
        rw [List.getElem?_append_left (by omega)] at e2
        exact (S7'.cel.cel j b d e1 e2).mono (Same.refl _) (hne b hbn)
      · rw [List.getElem?_append_right (by omega)] at e1
        rw [List.getElem?_append_right (by omega)] at e2
        have hj0 : j - as.length = 0 := by
          by_cases z : j - as.length = 0
          · exact z
          · rw [List.getElem?_eq_none (by simp; omega)] at e1; cases e1
        rw [hj0] at e1
        rw [show j - es.length = 0 by omega] at e2
        cases e1; cases e2
        exact ca.mono (Same.refl _) (hne a haneA)
    · rcases List.mem_append.mp hb with z | z
      · exact S7'.cel.nG b z
      · have := List.mem_singleton.mp z; subst this; exact na
    · rcases List.mem_append.mp hb with z | z
      · exact S7'.cel.nF b z
      · have := List.mem_singleton.mp z; subst this; exact hFa
    · rcases List.mem_append.mp z with z | z
      · exact S7'.nA z
      · exact haneA (List.mem_singleton.mp z).symm
  · have : i = ds.length := by omega
    subst this
    rw [List.drop_length] at e3
    cases e3
    refine .inl ⟨w1, ?_⟩
    -- the list is frozen
    have hAin : A ∈ A :: as := List.mem_cons_self ..
    have hA3 : G2 A = none := (S3.sr.frm A _ (by rw [FwL_in hAin]; exact S3.lst)).2
    have hown : ∀ b ∈ A :: as, ∀ j ∈ O, ∀ d, lk ρ2 j = some d → (wipe σ vs)[j]? ≠ some (some (.ref b)) := fun b hb j hj d ej z => by
      obtain ⟨b', h1, h2, h3, h4, h5⟩ := S3.sr.own j hj d ej
      rw [z] at h1; cases h1
      obtain ⟨u, hu⟩ := h4.some
      rw [FwL_in hb, hu] at h3; cases h3
    have S4 : SR P w K F Pn O G2 ρ2 (wipe σ vs) H2 := S3.sr.less fun b o e => by
      have hb : b ∉ A :: as := fun z => by
        rcases List.mem_cons.mp z with z | z
        · subst z; rw [S3.fA] at e; cases e
        · rw [S3.cel.nF b z] at e; cases e
      rw [FwL_out hb]; exact e
    have S5 := S4.frzO S3.lst hA3 S3.fA fun j hj d ej => hown A hAin j hj d ej
    have ss : Same G2 (upd G2 A (.lst (as.map .ref))) := fun b u e => by rw [upd_ne (ne_of_none e hA3)]; exact e
    have S6 := S1.unwipe (s3.trans ss) S5 hv
    refine k A as _ H2 S6 (s1.trans (s3.trans ss)) upd_same ⟨S3.cel.nd, S3.cel.len, fun i a d e1 e2 => (S3.cel.cel i a d e1 e2).mono ss rfl, fun a ha => ?_, S3.cel.nF⟩ fun a ha j hj d ej z => ?_
    · rw [upd_ne (fun z : a = A => S3.nA (z ▸ ha))]; exact S3.cel.nG a ha
    · rcases rst_lk ej with ⟨z1, z2⟩ | ⟨z1, z2⟩
      · exact absurd hj (hv j z1)
      · refine hown a (List.mem_cons_of_mem _ ha) j hj d z2 ?_
        rw [wipe_ne z1]; exact z
end
section
variable {X : Cx} {O : List Nat} {elt tg iter : Expr} {scope : Scope} {pos : Pos} {wf : FL} {g : D → Env → Option Env} {e : FX} {is : List Nat}
theorem w_lc (own : List (Str × Nat)) (hc : X.calm = true) (hN : X.N.Nodup) (hi : DI X O tg iter wf) (ok : BlkOk X.N X.env.scope scope own)
    (hg : ∀ (s : Shared) (H : Hp) (C : Addr) (cl : List (Str × Addr)) (fp : List Addr), DG (X.blk s H scope (compEnvC scope cl C X.env) fp) O is tg g)
    (he : ∀ (s : Shared) (H : Hp) (C : Addr) (cl : List (Str × Addr)) (fp : List Addr), DF (X.blk s H scope (compEnvC scope cl C X.env) fp) O elt e) (h1 : ∀ i ∈ is, i ∈ own.map (·.2) := by decide) (h2 : ∀ v ∈ own.map (·.2), v ∉ O := by decide) (hs : ∀ x, foldedSetIterable iter X.env x = pure x := by intro _; rfl) :
    PE X (.ListComp elt [⟨tg, iter, [], 0⟩] scope pos) (tDw X.prog X.w X.K O (xLcW (own.map (·.2)) wf g e)) := PE.imp (pe_lc hc hN hi ok hg (fun _ _ _ _ _ => dts_nil) he hs) fun _ _ _ q => tLcW_of h1 h2 q
end
def runWl (N n : Nat) (f : FL) (ds : List D) : Option (List D) := if ds.length = n then (f (ds.map some ++ List.replicate (N - n) none)).map (·.1) else none
def spW (P : Program) (w : World) (K : PySem.W.Frag) (n : Nat) (Fn : List D → Option (List D)) : Sp := fun vs H Q _ => vs.length = n ∧ ∃ F G ds es, Same G H ∧ Frm F G H ∧ Reps P w K G ds vs ∧ Fn ds = some es ∧
  ∀ G' H' l as, Same G G' → Same G' H' → Frm F G' H' → G' l = some (.lst (as.map .ref)) → Cells P w K F G' H' as es → Q (.ref l) H'
def OkW (P : Program) (w : World) (K : PySem.W.Frag) (mg : Str → Option Value) (base : Heap) (x : Str) (k n : Nat) (Fn : List D → Option (List D)) : Prop := ∃ (f : Addr) (fd : FuncData) (ps : List Str),
  FnOk P w K mg base CX0 k f fd ps (spW P w K n Fn) ∧ mg x = some (.ref f) ∧ PySem.W.keepIn K (.ref f) = true ∧ Binds K fd ps [] ∧ ∀ ds es, Fn ds = some es → ds.length = n
theorem runWl_len {N n : Nat} {f : FL} (ds es : List D) (h : runWl N n f ds = some es) : ds.length = n := (ifN h).1
section
variable {P : Program} {w : World} {K : PySem.W.Frag} {mg : Str → Option Value} {base : Heap} {x qual : Str} {params : Arguments} {scope : Scope} {dvs : List V} {kws : List (Str × V)} {f : Addr} {fd : FuncData} {N ps : List Str} {k : Nat} {fl : FL} {e : Expr} {pos : Pos}
theorem okW (F : FunD K x qual params [.Return (some e) pos] scope dvs kws f fd) (S : FnScope N ps scope)
    (hb : ∀ (cdv : Value) (A : Around) (outer : List PySem.Env) (s : Shared) (H : Hp) (E : XK), Room k (A.deeper (envOfC qual scope s.heap.objs.size f cdv)) → PE (cxOf CX0 P w K mg base N qual scope f cdv A outer s H E).nox e (tDw P w K [] fl)) :
    FnOk P w K mg base CX0 (k + 1) f fd ps (spW P w K ps.length (runWl N.length ps.length fl)) := by
  refine F.ok S (fun vs H Q E h => h.1) fun cdv A outer s H vs Q E hr hs => ⟨_, (pss_one (ps_ret (hb cdv A outer s H E hr))).nox, ?_⟩
  obtain ⟨hl, F, G, ds, es, sub, frm, r, e, k⟩ := hs
  obtain ⟨hd, e⟩ := ifN e
  obtain ⟨⟨es', ρ'⟩, e1, e⟩ := mapE e
  cases e
  rw [← hd] at e1
  exact ⟨F, [], G, _, _, ρ', SR.start0 sub frm r, e1, fun l as G' H' S' s' hl' C hj => k G' H' l as s' S'.sub S'.frm hl' C⟩
end
section
variable {X : Cx} {c : Ct} {O O' : List Nat} {body : List Stmt} {k j n : Nat} {Fn : List D → Option (List D)} {fb : FS} {x : Str} {p pos npos : Pos} {e : Expr} {es : List Expr} {fl : FL}
theorem w_call (h : OkW X.prog X.w X.K X.mg X.base x k n Fn) (hr : Room j X.A) (hkj : k ≤ j) (hg : Gl X x)
    (ha : DA X O (e :: es) fl) (hdb : (x == ("__debug__" : Str)) = false := by decide) (he : starEach (e :: es) X.env = (false, eval e X.env) :: starEach es X.env := by rfl) (hpl : (backTo pos (starEach es X.env)).any (·.1) = false := by rfl) :
    PE X (.Call (.Name x p) (e :: es) [] pos) (tDw X.prog X.w X.K O (xLs Fn fl)) := by
  obtain ⟨f, fd, ps, F, hm, hk, hb, hl⟩ := h
  refine PE.imp (pe_call F (hr.mono hkj) hg hm hk hb .nil pass0 (E := E0) ha hdb he hpl) fun σ H Q ⟨F, Pn, G, ρ, d, ρ', S, e, k⟩ => ?_
  obtain ⟨⟨ys, ρ1⟩, e1, e⟩ := bindE e
  obtain ⟨zs, e2, e⟩ := mapE e
  cases e
  refine ⟨F, Pn, G, ρ, ys, _, S, e1, fun vs G1 H1 S1 s1 r1 => ?_⟩
  show spW _ _ _ _ _ (vs ++ []) _ _ _
  rw [List.append_nil]
  refine ⟨r1.length.trans (hl _ _ e2), keepF F O [] _ σ H1, G1, ys, _, S1.sub, S1.keep [], r1, e2, fun G2 H2 l as s2 sub2 f2 hl2 C => ?_⟩
  obtain ⟨S3, z⟩ := S1.called s2 sub2 f2
  have z' : ∀ a ∈ as, F a = none ∧ ∀ j ∈ O, ∀ d, lk ρ1 j = some d → σ[j]? ≠ some (some (.ref a)) := fun a ha => z a (C.nF a ha) (C.nG a ha)
  exact k l as G2 H2 S3 (s1.trans s2) hl2 ⟨C.nd, C.len, C.cel, C.nG, fun a ha => (z' a ha).1⟩ fun a ha => (z' a ha).2
theorem ds_forW {iter : Expr} {i : Nat} {y : Str} {wf : FL} (hp : PassesOwn (model X.prog X.w) X.A X.env X.xe) (hc : X.calm = true) (hi : PE X iter (tDw X.prog X.w X.K O wf)) (hN : X.N.Nodup) (hy : X.N[i]? = some y) (hx : Loc X.env.scope y) (hO : i ∉ O) (hio : i ∉ c.io) (hcio : ∀ j ∈ c.io, j ∈ O)
    (hb : DSs X { c with ob := i :: O } (i :: O) (i :: O) body fb) (hf : X.fn y = true ∨ X.env.scope.names.lookup y = some .local := by first | exact .inl rfl | exact .inr rfl | assumption)
    (hs : ∀ x, foldedSetIterable iter X.env x = pure x := by intro _; rfl) : DS X c O O (.For (.Name y npos) iter body [] pos) (fFor wf (gNm i) fb) := by
  refine PS.imp (ps_for hp hc (pi_list hi) (pg_name hN hy hx hf) hb hs) fun D σ H ⟨F, Pn, G, ρ, fl, hpn, S, e, k⟩ => ?_
  obtain ⟨⟨ds, ρ1⟩, e1, e⟩ := bindE e
  refine ⟨F, Pn, G, ρ, ds, ρ1, S, e1, fun l as G1 H1 S1 s1 hl C hj => ⟨l, rfl, ⟨_, .inl (Rd.of (S1.sub _ _ hl))⟩, ?_⟩⟩
  have hpi : ∀ p ∈ Pn, p.1 ≠ i := fun p hp' z => hio (z ▸ hpn p hp')
  have hlen := C.len
  refine ⟨fun q m σ H => m = ds.length - q ∧ q ≤ ds.length ∧ ∃ G2 ρ2, SR X.prog X.w X.K (FwL F (as.drop q) H) Pn O G2 ρ2 σ H ∧ Cells X.prog X.w X.K F G2 H (as.drop q) (ds.drop q) ∧ Same G1 G2 ∧ forGo (gNm i) fb (ds.drop q) ρ2 = some fl, ⟨ds.length, by simp, Nat.zero_le _, G1, ρ1, S1.more C.nG hj, C, Same.refl _, e⟩, ?_⟩
  rintro q m σ2 H2 ⟨rfl, hq, G2, ρ2, S2, C2, s2, e2⟩
  have hl2 : H2 l = some (.lst (as.map .ref)) := S2.sub _ _ (s2 _ _ hl)
  have sq : SqL X.K H2 l (as.map .ref) := .inl (Rd.of hl2)
  by_cases hlt : q < ds.length
  · have hqa : q < as.length := by omega
    rw [List.drop_eq_getElem_cons hlt] at e2
    obtain ⟨ρ3, e3, e4⟩ := bindE e2
    obtain ⟨f5, e5, e6⟩ := bindE e4
    cases e3
    have hga : (as.map V.ref)[q]? = some (.ref as[q]) := by rw [List.getElem?_map, List.getElem?_eq_getElem hqa]; rfl
    refine .inr ⟨⟨_, _, sq, hga⟩, fun σ' H' => ∃ G' ρ', SR X.prog X.w X.K (FwL F (as.drop (q + 1)) H') Pn O G' ρ' σ' H' ∧ Cells X.prog X.w X.K F G' H' (as.drop (q + 1)) (ds.drop (q + 1)) ∧ Same G1 G' ∧ forGo (gNm i) fb (ds.drop (q + 1)) ρ' = some fl, fun σ' H' ⟨G', ρ', q1, q2, q3, q4⟩ => ⟨ds.length - (q + 1), by omega, rfl, hlt, G', ρ', q1, q2, q3, q4⟩, fun v H' yy => ?_⟩
    obtain ⟨z, kk⟩ := yy
    subst z
    have := kk _ sq
    rw [hga] at this
    cases this
    have hda : as.drop q = as[q] :: as.drop (q + 1) := List.drop_eq_getElem_cons hqa
    have hdd : ds.drop q = ds[q] :: ds.drop (q + 1) := List.drop_eq_getElem_cons hlt
    rw [hda] at S2
    rw [hda, hdd] at C2
    have ca := C2.cel 0 _ _ rfl rfl
    have hain : as[q] ∈ as[q] :: as.drop (q + 1) := List.mem_cons_self ..
    have hnd := List.nodup_cons.mp C2.nd
    obtain ⟨ua, hua⟩ := C2.some hain
    -- the slot is taken
    have S3 := (S2.drop hpi)
    have hOi : ∀ j, j ∈ O.filter (· != i) ↔ j ∈ O := fun j => by
      rw [List.mem_filter]
      exact ⟨fun h => h.1, fun h => ⟨h, by simpa using fun z : j = i => hO (z ▸ h)⟩⟩
    have S4 : SR X.prog X.w X.K (FwL F (as.drop (q + 1)) H') Pn (O.filter (· != i)) G2 (ρ2.set i none) σ2 H' := S3.less fun b o e => by
      by_cases hb : b ∈ as.drop (q + 1)
      · rw [FwL_in hb] at e; rw [FwL_in (List.mem_cons_of_mem _ hb)]; exact e
      · rw [FwL_out hb] at e
        have : b ∉ as[q] :: as.drop (q + 1) := fun z => by rw [C2.nF b z] at e; cases e
        rw [FwL_out this]; exact e
    have nfa : FwL F (as.drop (q + 1)) H' as[q] = none := by rw [FwL_out hnd.1]; exact C2.nF _ hain
    have hdis : ∀ j ∈ O.filter (· != i), ∀ d, lk (ρ2.set i none) j = some d → σ2[j]? ≠ some (some (.ref as[q])) := fun j hj' d ej z => by
      obtain ⟨b, h1, h2, h3, h4, h5⟩ := S3.own j hj' d ej
      rw [z] at h1; cases h1
      rw [FwL_in hain, hua] at h3; cases h3
    have S5 := S4.setF (i := i) (by simp) (C2.nG _ hain) nfa ca hdis
    rw [List.set_set] at S5
    have S6 := S5.perm (O2 := i :: O) fun j => by rw [List.mem_cons, List.mem_cons, hOi]
    have C3 : Cells X.prog X.w X.K F G2 H' (as.drop (q + 1)) (ds.drop (q + 1)) := ⟨hnd.2, by rw [List.length_drop, List.length_drop]; omega, fun j a d x1 x2 => C2.cel (j + 1) a d x1 x2, fun a ha => C2.nG a (List.mem_cons_of_mem _ ha), fun a ha => C2.nF a (List.mem_cons_of_mem _ ha)⟩
    -- what a turn leaves
    have left : ∀ {O2 : List Nat} {G5 : Hp} {ρ5 : Env} {σ5 : St} {H5 : Hp}, SR X.prog X.w X.K (FwL F (as.drop (q + 1)) H') Pn (i :: O) G5 ρ5 σ5 H5 → Same G2 G5 →
        ∃ G6, SR X.prog X.w X.K (FwL F (as.drop (q + 1)) H5) Pn O G6 ρ5 σ5 H5 ∧ Cells X.prog X.w X.K F G6 H5 (as.drop (q + 1)) (ds.drop (q + 1)) ∧ Same G5 G6 := by
      intro O2 G5 ρ5 σ5 H5 S7 s7
      obtain ⟨G6, S8, s8⟩ := S7.to (O2 := O) (fun j hj => List.mem_cons_of_mem _ hj) fun p hp' => hcio _ (hpn p hp')
      have key : ∀ b ∈ as.drop (q + 1), H5 b = H' b ∧ G6 b = none := fun b hb => by
        obtain ⟨u, hu⟩ := C3.some hb
        obtain ⟨q1, q2⟩ := S8.frm b u (by rw [FwL_in hb]; exact hu)
        exact ⟨q1.trans hu.symm, q2⟩
      refine ⟨G6, S8.less fun b o e => ?_, ⟨C3.nd, C3.len, fun j a d x1 x2 => (C3.cel j a d x1 x2).mono (s7.trans s8) (key a (List.mem_of_getElem? x1)).1, fun a ha => (key a ha).2, C3.nF⟩, s8⟩
      by_cases hb : b ∈ as.drop (q + 1)
      · rw [FwL_in hb] at e ⊢; rw [← (key b hb).1]; exact e
      · rw [FwL_out hb] at e ⊢; exact e
    have cut : ∀ {G6 : Hp} {ρ6 : Env} {σ6 : St} {H6 : Hp}, SR X.prog X.w X.K (FwL F (as.drop (q + 1)) H6) Pn O G6 ρ6 σ6 H6 → SR X.prog X.w X.K F Pn O G6 ρ6 σ6 H6 := fun S => S.less fun b o e => by
      have hb : b ∉ as.drop (q + 1) := fun z => by rw [C3.nF b z] at e; cases e
      rw [FwL_out hb]; exact e
    refine ⟨_, Pn, G2, _, f5, hpn, S6, e5, ?_⟩
    cases f5 with
    | nx ρ5 =>
      intro G5 σ5 H5 S7 s7
      obtain ⟨G6, q1, q2, q3⟩ := left (O2 := []) S7 s7
      exact ⟨G6, ρ5, q1, q2, s2.trans (s7.trans q3), e6⟩
    | ct ρ5 =>
      intro G5 σ5 H5 S7 s7
      obtain ⟨G6, q1, q2, q3⟩ := left (O2 := []) S7 s7
      exact ⟨G6, ρ5, q1, q2, s2.trans (s7.trans q3), e6⟩
    | bk ρ5 =>
      cases e6
      intro G5 σ5 H5 S7 s7
      obtain ⟨G6, q1, q2, q3⟩ := left (O2 := []) S7 s7
      exact k G6 σ5 H5 (cut q1) (s1.trans (s2.trans (s7.trans q3)))
    | rt d ρ5 =>
      cases e6
      intro G5 H5 v R s7 o
      have hfr : ∀ b o, F b = some o → FwL F (as.drop (q + 1)) H' b = some o := fun b o e => by
        have hb : b ∉ as.drop (q + 1) := fun z => by rw [C3.nF b z] at e; cases e
        rw [FwL_out hb]; exact e
      have none_of : ∀ b, FwL F (as.drop (q + 1)) H' b = none → F b = none := fun b e => by
        cases hF : F b with
        | none => rfl
        | some u => rw [hfr b u hF] at e; cases e
      refine k G5 H5 v ⟨R.sub, fun b o e => R.frm b o (hfr b o e), fun p hp' d e => ?_⟩ (s1.trans (s2.trans s7)) ?_
      · obtain ⟨c1, c2, c3⟩ := R.cel p hp' d e
        exact ⟨c1, none_of _ c2, c3⟩
      · unfold Out at o ⊢
        cases hk : c.kd with
        | true => rw [hk] at o; obtain ⟨a, h1, h2, h3, h4, h5⟩ := o; exact ⟨a, h1, h2, none_of _ h3, h4, h5⟩
        | false => rw [hk] at o; exact o
  · have : q = ds.length := by omega
    subst this
    rw [List.drop_length] at e2
    cases e2
    refine .inl ⟨⟨_, sq, by rw [List.length_map]; omega⟩, k G2 σ2 H2 (S2.less fun b o e => ?_) (s1.trans s2)⟩
    have hb : b ∉ as.drop ds.length := fun z => by rw [C2.nF b z] at e; cases e
    rw [FwL_out hb]; exact e
end
end RF
set_option Elab.async false
set_option linter.all false
set_option maxRecDepth 100000
set_option maxHeartbeats 4000000
namespace RF
open PySem PySem.Spec L2
open PyProof.Rows hiding St
def purseA : FS := (fSeq (fSet 2 (up (eCall D.sum (eCons (eSlice (vr 0) (ePart (vr 1)) (ePart (RF.e2 D.add (vr 1) (cn (.int 1))))) eNil))))
  (fRt (xCall mkLst (up (eCons (RF.e2 D.mod (eCall D.max2 (eCons (RF.e2 D.sub (vr 2) (RF.e2 D.pow (cn (.int 10)) (cn (.int 18)))) (eCons (cn (.int 0)) eNil))) (RF.e2 D.pow (RF.e2 D.pow (cn (.int 10)) (cn (.int 60))) (cn (.int 8)))) (eCons (RF.e2 D.mod (vr 2) (cn (.int 2147483629))) (eCons (cn (.int 0)) (eCons (vr 1) eNil))))))))
def mixA : FS := (fSeq (fSet 3 (up (RF.e2 D.add (RF.e2 D.mul (vr 0) (cn (.int 69069))) (RF.e2 D.mul (RF.e2 D.mul (cn (.int 104729)) (vr 1)) (vr 1)))))
  (fSeq (fSet 3 (up (RF.e2 D.mod (RF.e2 D.add (RF.e2 D.add (vr 3) (RF.e2 D.mul (cn (.int 7919)) (vr 2))) (vr 1)) (cn (.int 2147483647)))))
  (fSeq (fSet 3 (up (RF.e2 D.mod (RF.e2 D.add (RF.e2 D.mul (vr 3) (vr 3)) (cn (.int 40503))) (cn (.int 2147483629)))))
  (fRt (up (RF.e2 D.mod (RF.e2 D.mul (vr 3) (cn (.int 48271))) (cn (.int 2147483587))))))))
def turnA (Fm : List D → Option D) : FS := (fSeq (fPut 0 (up (cn (.int 2))) (up (RF.e2 D.add (ePk (RF.e2 D.item (vr 0) (cn (.int 2)))) (cn (.int 1)))))
  (fSeq (fSet 2 (up (RF.e2 D.add (RF.e2 D.mul (vr 2) (cn (.int 2147483587))) (eCall Fm (eCons (ePk (RF.e2 D.item (vr 0) (cn (.int 1)))) (eCons (ePk (RF.e2 D.item (vr 0) (cn (.int 2)))) (eCons (ePk (RF.e2 D.item (vr 0) (cn (.int 3)))) eNil)))))))
  fNx))
def drawA (Fm : List D → Option D) : FS := (fSeq (fIf (up (eB (RF.e2 D.gt (ePk (RF.e2 D.item (vr 0) (cn (.int 0)))) (cn (.int 0))))) (fSeq (fSet 4 (up (RF.e2 D.mod (ePk (RF.e2 D.item (vr 0) (cn (.int 0)))) (vr 1))))
  (fSeq (fPut 0 (up (cn (.int 0))) (up (RF.e2 D.fdiv (ePk (RF.e2 D.item (vr 0) (cn (.int 0)))) (vr 1))))
  (fRt (up (vr 4)))))
  fNx)
  (fSeq (fSet 2 (up (cn (.int 0))))
  (fSeq (fFor (up (eLs rng1 (eCons (RF.e2 D.add (cn (.int 1)) (RF.e2 D.fdiv (RF.e1 D.bits (vr 1)) (cn (.int 28)))) eNil))) (gNm 3) (turnA Fm))
  (fRt (up (RF.e2 D.mod (vr 2) (vr 1)))))))
theorem mixA_run (a b c : Int) (h1 : 0 ≤ b) (h2 : b < 1000000000000) (h3 : 0 ≤ c) (h4 : c < 1000000) : ∃ r, run0 false 4 3 mixA [.int a, .int b, .int c] = some (.int r) := by
  have e1 : D.mul (.int a) (.int 69069) = some (.int (a * 69069)) := mulOk (.inr (by decide))
  have e2 : D.mul (.int 104729) (.int b) = some (.int (104729 * b)) := mulOk (.inl (by decide))
  have e3 : D.mul (.int (104729 * b)) (.int b) = some (.int (104729 * b * b)) := mulOk (.inr (small_of h1 (by omega)))
  have e3' : D.mul (.int 7919) (.int c) = some (.int (7919 * c)) := mulOk (.inl (by decide))
  have e4 : D.mod (.int (a * 69069 + 104729 * b * b + 7919 * c + b)) (.int 2147483647) = some (.int ((a * 69069 + 104729 * b * b + 7919 * c + b) % 2147483647)) := modOk (by decide)
  generalize hx : (a * 69069 + 104729 * b * b + 7919 * c + b) % 2147483647 = x at e4
  have hx1 : 0 ≤ x := by rw [← hx]; exact Int.emod_nonneg _ (by decide)
  have hx2 : x < 2147483647 := by rw [← hx]; exact Int.emod_lt_of_pos _ (by decide)
  have e5 : D.mul (.int x) (.int x) = some (.int (x * x)) := mulOk (.inl (small_of hx1 (by omega)))
  have e6 : D.mod (.int (x * x + 40503)) (.int 2147483629) = some (.int ((x * x + 40503) % 2147483629)) := modOk (by decide)
  have e7 : D.mul (.int ((x * x + 40503) % 2147483629)) (.int 48271) = some (.int ((x * x + 40503) % 2147483629 * 48271)) := mulOk (.inr (by decide))
  refine ⟨(x * x + 40503) % 2147483629 * 48271 % 2147483587, ?_⟩
  show ((mixA [some (.int a), some (.int b), some (.int c), none]).bind _) = some (D.int _)
  simp only [mixA, fSeq, fSet, fRt, up, RF.e2, vr, lk, cn, Option.bind_some, Option.map_some, List.getElem?_cons_zero, List.getElem?_cons_succ, Option.join_some, e1, e2, e3, e3', D.add, e4, List.set_cons_succ, List.set_cons_zero, e5, e6, e7, modOk (show (0:Int) < 2147483587 by decide)]
theorem it40 (a b c d : D) : D.item (D.lst [a, b, c, d]) (D.int 0) = some a := rfl
theorem it41 (a b c d : D) : D.item (.lst [a, b, c, d]) (.int 1) = some b := rfl
theorem it42 (a b c d : D) : D.item (.lst [a, b, c, d]) (.int 2) = some c := rfl
theorem it43 (a b c d : D) : D.item (.lst [a, b, c, d]) (.int 3) = some d := rfl
theorem pu40 (a b c d v : D) : D.put (.lst [a, b, c, d]) (.int 0) v = some (.lst [v, b, c, d]) := rfl
theorem pu42 (a b c d v : D) : D.put (.lst [a, b, c, d]) (.int 2) v = some (.lst [a, b, v, d]) := rfl
theorem loopA {Fm : List D → Option D} {p1 p3 : Int} (hF : ∀ b : Int, 0 ≤ b → b < 1000000000000 → ∃ r, Fm [.int p1, .int b, .int p3] = some (.int r)) (p0 : D) (m x4 : Option D) : ∀ (l : List D) (p2 f : Int) (x3 : Option D), 0 ≤ p2 → p2 + l.length < 1000000000000 →
    ∃ (f' : Int) (x3' : Option D), forGo (gNm 3) (turnA Fm) l [some (.lst [p0, .int p1, .int p2, .int p3]), m, some (.int f), x3, x4] = some (Fl.nx [some (D.lst [p0, D.int p1, .int (p2 + l.length), .int p3]), m, some (.int f'), x3', x4])
  | [], p2, f, x3, _, _ => ⟨f, x3, by simp [forGo]⟩
  | d :: l, p2, f, x3, h1, h2 => by
    have hl : ((d :: l).length : Int) = l.length + 1 := by simp
    rw [hl] at h2 ⊢
    obtain ⟨r, hr⟩ := hF (p2 + 1) (by omega) (by omega)
    obtain ⟨f', x3', ih⟩ := loopA hF p0 m x4 l (p2 + 1) (f * 2147483587 + r) (some d) (by omega) (by omega)
    refine ⟨f', x3', ?_⟩
    have e1 : D.mul (.int f) (.int 2147483587) = some (.int (f * 2147483587)) := mulOk (.inr (by decide))
    have hb : turnA Fm [some (.lst [p0, .int p1, .int p2, .int p3]), m, some (.int f), some d, x4] = some (Fl.nx [some (D.lst [p0, D.int p1, .int (p2 + 1), .int p3]), m, some (.int (f * 2147483587 + r)), some d, x4]) := by
      simp only [turnA, fSeq, fSet, fPut, fNx, up, RF.e2, ePk, eCall, eCons, eNil, vr, lk, cn, Option.bind_some, Option.map_some, List.getElem?_cons_zero, List.getElem?_cons_succ, Option.join_some, it41, it42, it43, flI, if_true, D.add, pu42, List.set_cons_succ, List.set_cons_zero, e1, hr]
    show ((gNm 3 d _).bind _) = _
    simp only [gNm, List.set_cons_succ, List.set_cons_zero, Option.bind_some, hb]
    rw [ih, show p2 + 1 + (l.length : Int) = p2 + (l.length + 1) by omega]
theorem drawA_mix {Fm : List D → Option D} {p0 p1 p2 p2' p3 m f' k : Int} {x3' : Option D} {l : List D} (q1 : D.gt (.int p0) (.int 0) = some (.bl false)) (q2 : D.fdiv (.int (Builtin.Int.intBits m : Nat)) (.int 28) = some (.int k)) (q3 : rng1 [.int (1 + k)] = some l)
    (hl : forGo (gNm 3) (turnA Fm) l [some (.lst [.int p0, .int p1, .int p2, .int p3]), some (.int m), some (.int 0), none, none] = some (.nx [some (.lst [.int p0, .int p1, .int p2', .int p3]), some (.int m), some (.int f'), x3', none])) (q4 : D.mod (.int f') (.int m) = some (.int (f' % m))) :
    run1 false 5 2 (drawA Fm) (.lst [.int p0, .int p1, .int p2, .int p3]) [.int m] = some (.int (f' % m), .lst [.int p0, .int p1, .int p2', .int p3]) := by
    show ((drawA Fm [some (.lst [.int p0, .int p1, .int p2, .int p3]), some (.int m), none, none, none]).bind _) = _
    have hd : drawA Fm = (fSeq (fIf (up (eB (RF.e2 D.gt (ePk (RF.e2 D.item (vr 0) (cn (.int 0)))) (cn (.int 0))))) (fSeq (fSet 4 (up (RF.e2 D.mod (ePk (RF.e2 D.item (vr 0) (cn (.int 0)))) (vr 1))))
      (fSeq (fPut 0 (up (cn (.int 0))) (up (RF.e2 D.fdiv (ePk (RF.e2 D.item (vr 0) (cn (.int 0)))) (vr 1)))) (fRt (up (vr 4))))) fNx)
      (fSeq (fSet 2 (up (cn (.int 0)))) (fSeq (fFor (up (eLs rng1 (eCons (RF.e2 D.add (cn (.int 1)) (RF.e2 D.fdiv (RF.e1 D.bits (vr 1)) (cn (.int 28)))) eNil))) (gNm 3) (turnA Fm)) (fRt (up (RF.e2 D.mod (vr 2) (vr 1))))))) := rfl
    rw [hd]
    have f1 : (fIf (up (eB (RF.e2 D.gt (ePk (RF.e2 D.item (vr 0) (cn (.int 0)))) (cn (.int 0))))) (fSeq (fSet 4 (up (RF.e2 D.mod (ePk (RF.e2 D.item (vr 0) (cn (.int 0)))) (vr 1))))
      (fSeq (fPut 0 (up (cn (.int 0))) (up (RF.e2 D.fdiv (ePk (RF.e2 D.item (vr 0) (cn (.int 0)))) (vr 1)))) (fRt (up (vr 4))))) fNx) [some (.lst [.int p0, .int p1, .int p2, .int p3]), some (.int m), none, none, none] = some (.nx [some (.lst [.int p0, .int p1, .int p2, .int p3]), some (.int m), none, none, none]) := by
      simp only [fIf, fNx, up, eB, asB, RF.e2, ePk, vr, lk, cn, Option.bind_some, Option.map_some, List.getElem?_cons_zero, Option.join_some, it40, flI, if_true, q1, Bool.false_eq_true, if_false]
    have f2 : (up (eLs rng1 (eCons (RF.e2 D.add (cn (.int 1)) (RF.e2 D.fdiv (RF.e1 D.bits (vr 1)) (cn (.int 28)))) eNil))) [some (.lst [.int p0, .int p1, .int p2, .int p3]), some (.int m), some (.int 0), none, none] = some (l, [some (.lst [.int p0, .int p1, .int p2, .int p3]), some (.int m), some (.int 0), none, none]) := by
      exact drawB_f2 q2 q3
    have f3 : fRt (up (RF.e2 D.mod (vr 2) (vr 1))) [some (.lst [.int p0, .int p1, .int p2', .int p3]), some (.int m), some (.int f'), x3', none] = some (.rt (.int (f' % m)) [some (.lst [.int p0, .int p1, .int p2', .int p3]), some (.int m), some (.int f'), x3', none]) := fRt_of (up_of (e2_of rfl rfl q4))
    have f0 : fSet 2 (up (cn (.int 0))) [some (.lst [.int p0, .int p1, .int p2, .int p3]), some (.int m), none, none, none] = some (.nx [some (.lst [.int p0, .int p1, .int p2, .int p3]), some (.int m), some (.int 0), none, none]) := rfl
    have f4 := fFor_of f2 hl
    have f5 := fSeq_nx f4 f3
    have f6 := fSeq_nx f0 f5
    have f7 := fSeq_nx f1 f6
    rw [f7]
    rfl
theorem drawA_run {Fm : List D → Option D} {p1 p3 : Int} (hF : ∀ b : Int, 0 ≤ b → b < 1000000000000 → ∃ r, Fm [.int p1, .int b, .int p3] = some (.int r)) {p0 p2 m : Int} (h2 : 0 ≤ p2) (h3 : p2 < 500000000000) (hm : 0 < m) (hm2 : m.natAbs.log2 < 9000) (hb : Builtin.Int.intBits m < 100000) :
    ∃ r p0' p2' : Int, run1 false 5 2 (drawA Fm) (.lst [.int p0, .int p1, .int p2, .int p3]) [.int m] = some (.int r, .lst [.int p0', .int p1, .int p2', .int p3]) ∧ 0 ≤ r ∧ r < m ∧ p2 ≤ p2' ∧ p2' ≤ p2 + 1 + (Builtin.Int.intBits m : Int) / 28 := by
  by_cases hp : 0 < p0
  · refine ⟨p0 % m, p0 / m, p2, ?_, Int.emod_nonneg _ (by omega), Int.emod_lt_of_pos _ hm, by omega, by omega⟩
    have q1 := gtT hp
    have q2 : D.mod (.int p0) (.int m) = some (.int (p0 % m)) := modOk hm
    have q3 := fdivOk (a := p0) hm hm2
    show ((drawA Fm [some (.lst [.int p0, .int p1, .int p2, .int p3]), some (.int m), none, none, none]).bind _) = _
    simp only [drawA, fSeq, fIf, fSet, fPut, fRt, up, eB, asB, RF.e2, ePk, vr, lk, cn, Option.bind_some, Option.map_some, List.getElem?_cons_zero, List.getElem?_cons_succ, Option.join_some, it40, flI, if_true, q1, q2, q3, pu40, List.set_cons_succ, List.set_cons_zero]
  · have hk : 0 ≤ (Builtin.Int.intBits m : Int) / 28 := by omega
    have hk2 : (Builtin.Int.intBits m : Int) / 28 < 100000 := by omega
    have q3 := rng1_ok (j := 1 + (Builtin.Int.intBits m : Int) / 28) (by omega) (by omega)
    obtain ⟨f', x3', hl⟩ := loopA hF (.int p0) (some (.int m)) none ((List.range (1 + (Builtin.Int.intBits m : Int) / 28).toNat).map fun (i : Nat) => D.int (0 + i)) p2 0 none h2 (by simp; omega)
    refine ⟨f' % m, p0, _, drawA_mix (gtF hp) (fdivOk (show (0 : Int) < 28 by decide) lg28) q3 hl (modOk hm), Int.emod_nonneg _ (by omega), Int.emod_lt_of_pos _ hm, by omega, ?_⟩
    simp; omega
theorem purseA_run (ns : List Int) (at_ : Int) : ∃ p0 p1 : Int, run0 true 3 2 purseA [.scr ns, .int at_] = some (.lst [.int p0, .int p1, .int 0, .int at_]) := by
  have h1 : fSet 2 (up (eCall D.sum (eCons (eSlice (vr 0) (ePart (vr 1)) (ePart (RF.e2 D.add (vr 1) (cn (.int 1))))) eNil))) [some (.scr ns), some (.int at_), none] = some (.nx [some (.scr ns), some (.int at_), some (.int (cutL ns (some at_) (some (at_ + 1))).sum)]) :=
    fSet_of (up_of (eCall_of (eCons_of (eSlice_of (x := .scr ns) rfl (ePart_of rfl) (ePart_of (e2_of (x := .int at_) rfl (cn_of _ _) (addOk _ _))) (y := .lst ((cutL ns (some at_) (some (at_ + 1))).map D.int)) rfl) (eNil_of _)) (sumOk _)))
  generalize (cutL ns (some at_) (some (at_ + 1))).sum = v at h1
  refine ⟨(if (0 : Int) > v - 1000000000000000000 then 0 else v - 1000000000000000000) % 1000000000000000000000000000000000000000000000000000000000000 ^ 8, v % 2147483629, ?_⟩
  have h2 : fRt (xCall mkLst (up (eCons (RF.e2 D.mod (eCall D.max2 (eCons (RF.e2 D.sub (vr 2) (RF.e2 D.pow (cn (.int 10)) (cn (.int 18)))) (eCons (cn (.int 0)) eNil))) (RF.e2 D.pow (RF.e2 D.pow (cn (.int 10)) (cn (.int 60))) (cn (.int 8)))) (eCons (RF.e2 D.mod (vr 2) (cn (.int 2147483629))) (eCons (cn (.int 0)) (eCons (vr 1) eNil))))))
    [some (.scr ns), some (.int at_), some (.int v)] = some (.rt _ _) :=
    fRt_of (xCall_of (up_of (eCons_of (e2_of (eCall_of (eCons_of (e2_of (x := .int v) rfl (e2_of (cn_of _ _) (cn_of _ _) powA) (subOk _ _)) (eCons_of (cn_of _ _) (eNil_of _))) (max2Ok _ _)) (e2_of (e2_of (cn_of _ _) (cn_of _ _) powB) (cn_of _ _) powC) (modOk powPos))
      (eCons_of (e2_of (x := .int v) rfl (cn_of _ _) (modOk (by decide))) (eCons_of (cn_of _ _) (eCons_of (x := .int at_) rfl (eNil_of _)))))) rfl)
  show ((purseA [some (.scr ns), some (.int at_), none]).bind _) = _
  unfold purseA
  rw [fSeq_nx h1 h2]
  rfl
def okP (d : D) : Prop := ∃ p0 p1 p3 : Int, d = .lst [.int p0, .int p1, .int 0, .int p3] ∧ 0 ≤ p3 ∧ p3 < 1000
theorem runW_purses (ns : List Int) (few : Int) : ∀ (l : List Nat) (acc : List D) (x2 : Option D), (∀ i ∈ l, i < 1000) → acc.length + l.length < 1000 → (∀ d ∈ acc, okP d) →
    ∃ out x2', runW (goW [2] (gNm 2) (xCall (run0 true 3 2 purseA) (up (eCons (vr 0) (eCons (vr 2) eNil))))) (l.map fun (i : Nat) => D.int (0 + i)) acc [some (.scr ns), some (.int few), x2] = some (out, [some (.scr ns), some (.int few), x2']) ∧ ∀ d ∈ out, okP d
  | [], acc, x2, _, _, h => ⟨acc, x2, rfl, h⟩
  | i :: l, acc, x2, h1, h2, h => by
    obtain ⟨p0, p1, e0⟩ := purseA_run ns (0 + (i : Nat))
    have hi := h1 i (List.mem_cons_self ..)
    obtain ⟨out, x2', e1, e2⟩ := runW_purses ns few l (acc ++ [.lst [.int p0, .int p1, .int 0, .int (0 + (i : Nat))]]) none (fun j hj => h1 j (List.mem_cons_of_mem _ hj)) (by simp at h2 ⊢; omega) fun d hd => by
      rcases List.mem_append.mp hd with z | z
      · exact h d z
      · have := List.mem_singleton.mp z; subst this; exact ⟨p0, p1, _, rfl, by omega, by omega⟩
    refine ⟨out, x2', ?_, e2⟩
    have e3 : goW [2] (gNm 2) (xCall (run0 true 3 2 purseA) (up (eCons (vr 0) (eCons (vr 2) eNil)))) (D.int (0 + (i : Nat))) acc [some (.scr ns), some (.int few), x2] = some (acc ++ [.lst [.int p0, .int p1, .int 0, .int (0 + (i : Nat))]], [some (.scr ns), some (.int few), none]) := by
      have e4 : xCall (run0 true 3 2 purseA) (up (eCons (vr 0) (eCons (vr 2) eNil))) [some (.scr ns), some (.int few), some (.int (0 + (i : Nat)))] = some (.lst [.int p0, .int p1, .int 0, .int (0 + (i : Nat))], [some (.scr ns), some (.int few), some (.int (0 + (i : Nat)))]) :=
        xCall_of (up_of (eCons_of (x := .scr ns) rfl (eCons_of (x := .int (0 + (i : Nat))) rfl (eNil_of _)))) e0
      unfold goW
      show ((gNm 2 (D.int (0 + (i : Nat))) [some (.scr ns), some (.int few), x2]).bind _) = _
      simp only [gNm, List.set_cons_succ, List.set_cons_zero, Option.bind_some, e4]
      rw [if_pos (lineOk_iff.mpr (by have : sizeLine = sizeLine := rfl; simp at h2; exact Nat.le_trans (by omega : acc.length + 1 ≤ 1000) (by decide +kernel)))]
      rfl
    show (goW _ _ _ _ _ _).bind _ = _
    rw [e3]
    exact e1
theorem min2Ok (a b : Int) : D.min2 [.int a, .int b] = some (.int (if b < a then b else a)) := rfl
def cK (o : Option D) : FE := fun _ => o
section
variable {ρ : Env} {E : FE} {o : Option D} {l : List D}
theorem eCall_eq {F : List D → Option D} {fl : FEL} (h : fl ρ = some l) : eCall F fl ρ = F l := by unfold eCall; rw [h]; rfl
theorem st_for {g : D → Env → Option Env} {b rest : FS} (h : E ρ = o) : fSeq (fFor (up (eWl E)) g b) rest ρ = fSeq (fFor (up (eWl (cK o))) g b) rest ρ := by
  unfold fSeq fFor up eWl cK; rw [h]
theorem st_ret (h : E ρ = o) : fRt (up E) ρ = fRt (up (cK o)) ρ := by unfold fRt up cK; rw [h]
theorem st_rt {F : List D → Option D} (h : E ρ = o) : fRt (up (eCall F (eCons E eNil))) ρ = fRt (up (eCall F (eCons (cK o) eNil))) ρ := by
  unfold fRt up eCall eCons cK; rw [h]
end
theorem lawA {n N ip : Nat} {ns : List Int} {turn : FS} (hn : n < 900) (hip : 0 < ip ∧ ip < N) (h : ∀ (p0 p1 p2 p3 : Int), 0 ≤ p2 → p2 < 500000 → 0 ≤ p3 → p3 < 1000000 → ∀ t : Env, t.length + 1 = N → ∃ ρ', turn ((some (.scr ns) :: t).set ip (some (.lst [.int p0, .int p1, .int p2, .int p3]))) = some (.nx ρ') ∧ ρ'.length = N ∧ lk ρ' 0 = some (.scr ns)) (hns : ns.length ≤ 63) :
    run0 false N 1 (fSeq (fFor (xLs (runWl 3 2 (xLcW [2] (up (eLs rng1 (eCons (eCall D.max2 (eCons (cn (.int 1)) (eCons (eCall D.min2 (eCons (vr 1) (eCons (eCall (one D.len) (eCons (vr 0) eNil)) eNil))) eNil))) eNil))) (gNm 2) (xCall (run0 true 3 2 purseA) (up (eCons (vr 0) (eCons (vr 2) eNil)))))) (up (eCons (vr 0) (eCons (cn (.int n)) eNil)))) (gNm ip) turn) (fRt (up (cn (.bl true))))) [.scr ns] = some (.bl true) := by
  have hm : ∃ k : Int, k = (if (if ((ns.length : Nat) : Int) < n then ((ns.length : Nat) : Int) else n) > 1 then (if ((ns.length : Nat) : Int) < n then ((ns.length : Nat) : Int) else n) else 1) ∧ 0 ≤ k ∧ k < 1000 := ⟨_, rfl, by split <;> split <;> omega, by split <;> split <;> omega⟩
  obtain ⟨k, hk, k1, k2⟩ := hm
  obtain ⟨out, x2', e1, e2⟩ := runW_purses ns n (List.range k.toNat) [] none (fun i hi => by rw [List.mem_range] at hi; omega) (by simp; omega) (fun d hd => by cases hd)
  have hw : runWl 3 2 (xLcW [2] (up (eLs rng1 (eCons (eCall D.max2 (eCons (cn (.int 1)) (eCons (eCall D.min2 (eCons (vr 1) (eCons (eCall (one D.len) (eCons (vr 0) eNil)) eNil))) eNil))) eNil))) (gNm 2) (xCall (run0 true 3 2 purseA) (up (eCons (vr 0) (eCons (vr 2) eNil))))) [.scr ns, .int n] = some out := by
    have s2 : one D.len [.scr ns] = some (.int (ns.length : Nat)) := rfl
    have f1 : (up (eLs rng1 (eCons (eCall D.max2 (eCons (cn (.int 1)) (eCons (eCall D.min2 (eCons (vr 1) (eCons (eCall (one D.len) (eCons (vr 0) eNil)) eNil))) eNil))) eNil))) [some (.scr ns), some (.int n), none] = some ((List.range k.toNat).map fun (i : Nat) => .int (0 + i), [some (.scr ns), some (.int n), none]) :=
      up_of (eLs_of (eCons_of (eCall_of (eCons_of (cn_of _ _) (eCons_of (eCall_of (eCons_of (x := .int n) rfl (eCons_of (eCall_of (eCons_of (x := .scr ns) rfl (eNil_of _)) s2) (eNil_of _))) (min2Ok _ _)) (eNil_of _))) (by rw [hk]; exact max2Ok _ _)) (eNil_of _)) (rng1_ok k1 (by omega)))
    unfold runWl
    rw [if_pos (show ([D.scr ns, D.int n] : List D).length = 2 from rfl)]
    show (xLcW _ _ _ _ [some (.scr ns), some (.int n), none]).map _ = _
    unfold xLcW
    rw [f1, Option.bind_some]
    show ((runW _ _ [] [some (.scr ns), some (.int n), none]).map _).map _ = _
    rw [e1]; rfl
  obtain ⟨ρ0, e0⟩ : ∃ ρ0 : Env, ρ0 = some (.scr ns) :: List.replicate (N - 1) none := ⟨_, rfl⟩
  have l0 : lk ρ0 0 = some (.scr ns) := by rw [e0]; rfl
  have n0 : ρ0.length = N := by rw [e0]; simp; omega
  have f1 : (xLs (runWl 3 2 (xLcW [2] (up (eLs rng1 (eCons (eCall D.max2 (eCons (cn (.int 1)) (eCons (eCall D.min2 (eCons (vr 1) (eCons (eCall (one D.len) (eCons (vr 0) eNil)) eNil))) eNil))) eNil))) (gNm 2) (xCall (run0 true 3 2 purseA) (up (eCons (vr 0) (eCons (vr 2) eNil)))))) (up (eCons (vr 0) (eCons (cn (.int n)) eNil)))) ρ0 = some (out, ρ0) := by
    unfold xLs
    rw [up_of (eCons_of l0 (eCons_of (cn_of _ _) (eNil_of _))), Option.bind_some, hw]; rfl
  obtain ⟨ρ', f2, hp⟩ := for_nx (g := gNm ip) (fb := turn) (fun ρ => ρ.length = N ∧ lk ρ 0 = some (.scr ns)) out ρ0 ⟨n0, l0⟩ fun d hd ρ ⟨p1, p2⟩ => by
    obtain ⟨q0, q1, q3, rfl, q4, q5⟩ := e2 d hd
    match ρ, p1, p2 with
    | x0 :: t, p1, p2 =>
      have e : x0 = some (.scr ns) := p2
      subst e
      obtain ⟨ρ2, r1, r2, r3⟩ := h q0 q1 0 q3 (by omega) (by omega) q4 (by omega) t p1
      exact ⟨_, ρ2, rfl, r1, r2, r3⟩
  rw [run0_eq (show ([D.scr ns] : List D).length = 1 from rfl)]
  have s : (fSeq (fFor (xLs (runWl 3 2 (xLcW [2] (up (eLs rng1 (eCons (eCall D.max2 (eCons (cn (.int 1)) (eCons (eCall D.min2 (eCons (vr 1) (eCons (eCall (one D.len) (eCons (vr 0) eNil)) eNil))) eNil))) eNil))) (gNm 2) (xCall (run0 true 3 2 purseA) (up (eCons (vr 0) (eCons (vr 2) eNil)))))) (up (eCons (vr 0) (eCons (cn (.int n)) eNil)))) (gNm ip) turn) (fRt (up (cn (.bl true))))) ρ0 = some (.rt (.bl true) ρ') := fSeq_nx (fFor_of f1 f2) (fRt_of (up_of (cn_of _ _)))
  rw [e0] at s
  show ((fSeq _ _) (some (.scr ns) :: List.replicate (N - 1) none)).bind _ = _
  rw [s]; rfl
end RF
set_option Elab.async false
set_option linter.all false
set_option maxRecDepth 100000
set_option maxHeartbeats 1000000
namespace RF
open PySem PySem.Spec L2
open PyProof.Rows hiding St
section
variable {X : Cx} {c : Ct} {O : List Nat} {i : Nat} {y : Str} {e a b : Expr} {f : FX} {fl : FL} {py apos pos pos' p1 p2 p3 : Pos}
end
end RF
set_option Elab.async false
set_option linter.all false
set_option maxRecDepth 100000
namespace RF
open PySem PySem.Spec L2
open PyProof.Rows hiding St
def D.eqY : D → D → Option D
  | .dct _, .non => some (.bl false)
  | .non, .dct _ => some (.bl false)
  | a, b => D.eq a b
section
variable {A : Around} {s : Shared} {d : Addr}
theorem dict_eq_none {prog : Program} {w : World} {E : Value → Shared → Prop} {Q : Value → Shared → Prop} (hT : s.TypeIs (.ref d) "dict") (h : Q .notImplemented s) : wpAny (model prog w) A (call (.builtin "dict.__eq__") [.ref d, .none]) Q E s := by
  refine wpAny_call_entry PySem.F.slot_dict_eq hT PySem.F.entry_dict_eq ?_ (PySem.F.args_dict_eq_2 _ _)
  show wpAny _ _ (Builtin.Dict.dictSlotArgs "__eq__" ⟨[.ref d, .none], []⟩ >>= _) _ _ s
  refine wpAny_bind ?_
  unfold Builtin.Dict.dictSlotArgs
  refine wpAny_bind (wpAny_notOrdered_dict hT ?_)
  show wpAny _ _ (pure (Value.ref d, Value.none)) _ _ s
  refine wpAny_pure ?_
  refine wpAny_bind (wpAny_isInstance (T := "NoneType") (rfl : s.TypeIs .none "NoneType") PySem.F.sub_NoneType_dict ?_)
  simp only [Bool.not_false, if_true]
  exact wpAny_bind (wpAny_rule (wpAny_pure ⟨_, rfl, h⟩))
theorem rc_dict_none (hT : s.TypeIs (.ref d) "dict") (hu : A.units < cLine) : SeqAt.RcAt A s (.ref d) .none false := fun prog w E Q h => by
  exact SeqAt.rc_eq_decline_or (k := false) hT rfl (by decide) PySem.F.sub_NoneType_dict PySem.F.slot_dict_eq PySem.F.slot_NoneType_eq_refl
    (fun _ hq => dict_eq_none hT hq)
    (fun _ hq => call_gives PySem.F.slot_NoneType_eq_refl rfl PySem.F.entry_NoneType_eq (PySem.F.args_NoneType_eq_2 _ _) (PySem.SeqAt.NoneType___eq___none_ref_0 d) hq)
    (fun _ hq => wpAny_of_eq (rfl : isSame (.ref d) .none = pure false) hq) (.inr hu) h
theorem rc_none_dict (hT : s.TypeIs (.ref d) "dict") (hu : A.units < cLine) : SeqAt.RcAt A s .none (.ref d) false := fun prog w E Q h => by
  exact SeqAt.rc_eq_decline_or (k := false) rfl hT (by decide) PySem.F.sub_dict_NoneType PySem.F.slot_NoneType_eq PySem.F.slot_dict_eq_refl
    (fun _ hq => call_gives PySem.F.slot_NoneType_eq rfl PySem.F.entry_NoneType_eq (PySem.F.args_NoneType_eq_2 _ _) (PySem.SeqAt.NoneType___eq___none_ref_0 d) hq)
    (fun _ hq => dict_eq_none hT hq)
    (fun _ hq => wpAny_of_eq (rfl : isSame .none (.ref d) = pure false) hq) (.inr hu) h
end
section
variable {X : Cx}
theorem op_eqY (hu : X.A.units + 64 < cLine) : OpR X (compareOp .Eq) (RO X D.eqY) := by
  intro pins s σ H x y v u Q I rx ry ⟨G, d, e, z, sub, hd, he, hz, k⟩
  by_cases hs : D.eq d e = some z
  · exact op_eqX hu pins s σ H x y v u Q I rx ry ⟨G, d, e, z, sub, hd, he, hs, k⟩
  have hu' : X.A.units < cLine := by omega
  have fin : z = .bl false → EP X pins σ Q (.bool false) s := fun h => ⟨.bl false, H, I, rfl, k _ G H (Grow.refl sub) (by rw [h]; rfl)⟩
  cases d with
  | dct l =>
    cases e with
    | non =>
      obtain ⟨a, o, vs, rfl, hm, r1, hl1, d1, q1⟩ := hd
      cases he
      cases rx
      cases ry
      have ex : o.ExactDict := by
        rcases d1 with ⟨us, ⟨es, ep, h1, _⟩, _⟩ | ⟨xs, ⟨h1, _⟩, _⟩
        · exact h1
        · exact h1
      exact rc_dict_none ⟨o, rdp I (sub _ _ r1), ex.1⟩ hu' X.prog X.w X.xe _ (fin (Option.some.inj hz).symm)
    | _ => exact absurd hz hs
  | non =>
    cases e with
    | dct l =>
      obtain ⟨a, o, vs, rfl, hm, r1, hl1, d1, q1⟩ := he
      cases hd
      cases rx
      cases ry
      have ex : o.ExactDict := by
        rcases d1 with ⟨us, ⟨es, ep, h1, _⟩, _⟩ | ⟨xs, ⟨h1, _⟩, _⟩
        · exact h1
        · exact h1
      exact rc_none_dict ⟨o, rdp I (sub _ _ r1), ex.1⟩ hu' X.prog X.w X.xe _ (fin (Option.some.inj hz).symm)
    | _ => exact absurd hz hs
  | _ => exact absurd hz hs
end
end RF
set_option Elab.async false
set_option linter.all false
set_option maxRecDepth 100000
set_option maxHeartbeats 4000000
namespace RF
open PySem PySem.Spec L2
open PyProof.Rows hiding St
open PySem.SeqAt PySem.AutoSeq1 PySem.MeetsSeq PySem.MeetsSeq2 PySem.MeetsSeq3
def lObj (dd : Option Addr) (its : Array Value) (n : Nat) (sl : Array (Option Value)) : Obj := { cls := .type "list", dict := dd, data := .seq its n, slots := sl }
theorem ne_from {prog : Program} {w : World} {l b : Addr} {xs ys : Array Value} {n m : Nat} {dx dy : Option Addr} {sx sy : Array (Option Value)} (hz : xs.size = ys.size) (f : Nat → Bool) : ∀ (k i : Nat), i + k = xs.size →
    MeetsIn prog w (Builtin.«list.__eq__.loop» ⟨[.ref l, .ref b, rawInt i, rawInt 3], []⟩) fun A R s => s.heap.get? l = some (lObj dx xs n sx) ∧ s.heap.get? b = some (lObj dy ys m sy) ∧
      (∀ j (h1 : j < xs.size) (h2 : j < ys.size), SeqAt.EqIn prog w A.in1 s xs[j] ys[j] (f j)) ∧ R (.ok (.ret (.bool (!((List.range' i k).all f))))) s
  | 0, i, hi => by
    intro A R s h
    obtain ⟨hp, g, d, tk, os⟩ := s
    obtain ⟨hl, hb, he, h⟩ := h
    unfold lObj at hl hb
    have q1 : xs[((i : Nat) : Int).toNat]? = none := by simp; omega
    have q2 : ys[((i : Nat) : Int).toNat]? = none := by simp; omega
    wp_walk using wpAny_loadPart' hl, wpAny_loadPart' hb
    rw [q1, q2]
    wp_walk using wpAny_loadPart' hl, wpAny_loadPart' hb
    have q3 : (xs.size != ys.size) = false := by simp [hz]
    show R (.ok (.ret (.bool (xs.size != ys.size)))) _
    rw [q3]
    exact h
  | k + 1, i, hi => by
    intro A R s h
    obtain ⟨hp, g, d, tk, os⟩ := s
    obtain ⟨hl, hb, he, h⟩ := h
    have l1 : i < xs.size := by omega
    have l2 : i < ys.size := by omega
    have q1 : xs[((i : Nat) : Int).toNat]? = some xs[i] := by simp [l1]
    have q2 : ys[((i : Nat) : Int).toNat]? = some ys[i] := by simp [l2]
    have hr : (List.range' i (k + 1)).all f = (f i && (List.range' (i + 1) k).all f) := by rw [List.range'_succ, List.all_cons]
    rw [hr] at h
    have ih := ne_from (prog := prog) (w := w) (l := l) (b := b) (n := n) (m := m) (dx := dx) (dy := dy) (sx := sx) (sy := sy) hz f k (i + 1) (by omega)
    unfold lObj at hl hb ih
    wp_walk using wpAny_loadPart' hl, wpAny_loadPart' hb
    rw [q1, q2]
    refine wpAny_bind (he i l1 l2 _ _ ?_)
    cases hf : f i with
    | false =>
      rw [hf] at h
      wp_walk using wpAny_loadPart' hl, wpAny_loadPart' hb
      rw [q1, q2]
      wp_walk
      exact h
    | true =>
      rw [hf] at h
      wp_walk
      have hc : ((i : Int) + 1) = ((i + 1 : Nat) : Int) := by push_cast; rfl
      rw [hc]
      refine ⟨plainId_quiet plain_eq_loop _, codeAny_builtin entry_eq_loop ?_⟩
      rw [Around.under_plainId plain_eq_loop _]
      exact ih A R _ ⟨hl, hb, he, h⟩
theorem list_neIn {prog : Program} {w : World} {A : Around} {s : Shared} {E : Value → Shared → Prop} {Q : Value → Shared → Prop} {l b : Addr} {xs ys : Array Value} {f : Nat → Bool} (hl : s.heap.IsList l xs) (hb : s.heap.IsList b ys) (hz : xs.size = ys.size) (hu : A.units < cLine)
    (he : ∀ j (h1 : j < xs.size) (h2 : j < ys.size), SeqAt.EqIn prog w A.in1 s xs[j] ys[j] (f j)) (h : Q (.bool (!(List.range xs.size).all f)) s) : wpAny (model prog w) A (richCompare .NotEq (.ref l) (.ref b)) Q E s := by
  obtain ⟨⟨c1, d1, t1, s1⟩, o1, e1, n1, g1⟩ := id hl
  obtain ⟨⟨c2, d2, t2, s2⟩, o2, e2, n2, g2⟩ := id hb
  simp only at e1 g1 e2 g2
  subst e1 g1 e2 g2
  have all : MeetsIn prog w (Builtin.«list.__ne__» ⟨[.ref l, .ref b], []⟩) fun A R s => s.heap.get? l = some (lObj d1 xs n1 s1) ∧ s.heap.get? b = some (lObj d2 ys n2 s2) ∧
      (∀ j (h1 : j < xs.size) (h2 : j < ys.size), SeqAt.EqIn prog w A.in1 s xs[j] ys[j] (f j)) ∧ R (.ok (.ret (.bool (!(List.range xs.size).all f)))) s := by
    intro A R s h
    obtain ⟨hp, g, d, tk, os⟩ := s
    obtain ⟨hl, hb, he, h⟩ := h
    have ih := ne_from (prog := prog) (w := w) (l := l) (b := b) (n := n1) (m := n2) (dx := d1) (dy := d2) (sx := s1) (sy := s2) hz f xs.size 0 (by omega)
    unfold lObj at hl hb ih
    have f3 := AutoSeq1.sub_list_list
    have hne : ¬ (xs.size != ys.size) = true := by simp [hz]
    wp_walk using wpAny_loadPart' hl, wpAny_loadPart' hb
    refine ⟨plainId_quiet plain_eq_loop _, codeAny_builtin entry_eq_loop ?_⟩
    rw [Around.under_plainId plain_eq_loop _]
    rw [List.range_eq_range'] at h
    exact ih A R _ ⟨hl, hb, he, h⟩
  exact wpAny_richCompare_same_room (T := "list") (op := .NotEq) ⟨_, o1, rfl⟩ ⟨_, o2, rfl⟩ PySem.F.slot_list_ne (call_meetsIn PySem.F.slot_list_ne ⟨_, o1, rfl⟩ PySem.F.entry_list_ne (PySem.F.args_list_ne_2 _ _) all ⟨o1, o2, he, show _ ∧ _ from ⟨(fun x => nomatch x), h⟩⟩) hu
def D.neY (a b : D) : Option D :=
  match D.ne a b with
  | some z => some z
  | none => match a, b with
    | .lst p, .lst q => if p.length = q.length then (allO (List.zipWith (eqO 59) p q)).map fun c => .bl (!c) else none
    | _, _ => none
section
variable {X : Cx}
theorem op_neY (hu : X.A.units + 64 < cLine) : OpR X (compareOp .NotEq) (RO X D.neY) := by
  intro pins s σ H x y v u Q I rx ry ⟨G, d, e, z, sub, hd, he, hz, k⟩
  by_cases hs : D.ne d e = some z
  · exact op_neX hu pins s σ H x y v u Q I rx ry ⟨G, d, e, z, sub, hd, he, hs, k⟩
  unfold D.neY at hz
  cases hn : D.ne d e with
  | some z' => rw [hn] at hz; exact absurd (hn.trans hz) hs
  | none =>
    rw [hn] at hz
    cases d with
    | lst ds =>
      cases e with
      | lst es =>
        obtain ⟨hl, hz⟩ := ifN (show (if ds.length = es.length then (allO (List.zipWith (eqO 59) ds es)).map (fun c => D.bl (!c)) else none) = some z from hz)
        obtain ⟨b, hb, rfl⟩ := mapE hz
        have fin : EP X pins σ Q (.bool (!b)) s := ⟨.bl (!b), H, I, rfl, k _ G H (Grow.refl sub) rfl⟩
        have el : ∀ (d e : D) (x y : V) (u v : Value) (b : Bool), Rep X.prog X.w X.K G d x → Rep X.prog X.w X.K G e y → RelV x u → RelV y v → eqO 59 d e = some b → SeqAt.EqIn X.prog X.w X.A.in1 s u v b :=
          fun d e x y u v b rd re ru rv hh => (eqTree I sub 59 d e x y u v b rd re ru rv hh).at X.A.in1 (by show X.A.units + 1 + 59 < cLine; omega)
        obtain ⟨a, vs, rfl, r1, q1⟩ := hd
        obtain ⟨a2, vs2, rfl, r2, q2⟩ := he
        cases rx
        cases ry
        obtain ⟨its, v1, h1, m1⟩ := islD I sub r1 q1
        obtain ⟨its2, v2, h2, m2⟩ := islD I sub r2 q2
        refine list_neIn h1 h2 (by simp [m1, m2, hl]) (by omega) (elsN (G := G) (W := fun u v b => SeqAt.EqIn X.prog X.w X.A.in1 s u v b) el q1 q2 v1 v2 hb) ?_
        rw [sumL m1 m2 hl hb]
        exact fin
      | _ => cases hz
    | _ => cases hz
end
end RF
set_option Elab.async false
set_option linter.all false
set_option maxRecDepth 100000
namespace RF
open PySem PySem.Spec L2
open PyProof.Rows hiding St
section
variable {ρ : Env} {a b c : FE} {fa fb fc : FX} {t u : FT} {tx ux : FTx} {l : FEL} {lx : FL} {i : Nat}
@[simp] theorem lk_zero (x : Option D) (r : Env) : lk (x :: r) 0 = x := by unfold lk; simp
@[simp] theorem lk_succ (x : Option D) (r : Env) (n : Nat) : lk (x :: r) (n + 1) = lk r n := by unfold lk; simp
@[simp] theorem lk_nil (n : Nat) : lk [] n = none := by unfold lk; simp
@[simp] theorem ev_vr : vr i ρ = lk ρ i := (rfl)
@[simp] theorem ev_cn (d : D) : cn d ρ = some d := (rfl)
@[simp] theorem ev_up {α : Type} (f : Env → Option α) : up f ρ = (f ρ).map fun d => (d, ρ) := (rfl)
@[simp] theorem ev_e1 (op : D → Option D) : RF.e1 op a ρ = (a ρ).bind op := (rfl)
@[simp] theorem ev_e2 (op : D → D → Option D) : RF.e2 op a b ρ = (a ρ).bind fun x => (b ρ).bind fun y => op x y := (rfl)
@[simp] theorem ev_o1 (op : D → Option D) : o1 op fa ρ = (fa ρ).bind fun p => (op p.1).map fun z => (z, p.2) := (rfl)
@[simp] theorem ev_o2 (op : D → D → Option D) : o2 op fa fb ρ = (fa ρ).bind fun p => (fb p.2).bind fun q => (op p.1 q.1).map fun z => (z, q.2) := (rfl)
@[simp] theorem ev_xTru : xTru fa ρ = (fa ρ).bind fun p => (p.1.truth).map fun b => (b, p.2) := (rfl)
@[simp] theorem ev_eTru : eTru a ρ = (a ρ).bind D.truth := (rfl)
@[simp] theorem ev_xNotT : xNotT tx ρ = (tx ρ).map fun p => (!p.1, p.2) := (rfl)
@[simp] theorem ev_eNotT : eNotT t ρ = (t ρ).map not := (rfl)
@[simp] theorem ev_xAndT : xAndT tx ux ρ = (tx ρ).bind fun p => if p.1 then ux p.2 else some (false, p.2) := (rfl)
@[simp] theorem ev_eAndT : eAndT t u ρ = (t ρ).bind fun p => if p then u ρ else some false := (rfl)
@[simp] theorem ev_xOrT : xOrT tx ux ρ = (tx ρ).bind fun p => if p.1 then some (true, p.2) else ux p.2 := (rfl)
@[simp] theorem ev_eOrT : eOrT t u ρ = (t ρ).bind fun p => if p then some true else u ρ := (rfl)
@[simp] theorem ev_xIf : xIf tx fa fb ρ = (tx ρ).bind fun p => if p.1 then fa p.2 else fb p.2 := (rfl)
@[simp] theorem ev_eIf : eIf t a b ρ = (t ρ).bind fun p => if p then a ρ else b ρ := (rfl)
@[simp] theorem ev_xAnd : xAnd fa fb ρ = (fa ρ).bind fun p => (p.1.truth).bind fun t => if t then fb p.2 else some p := (rfl)
@[simp] theorem ev_eAnd : eAnd a b ρ = (a ρ).bind fun p => (p.truth).bind fun t => if t then b ρ else some p := (rfl)
@[simp] theorem ev_xOr : xOr fa fb ρ = (fa ρ).bind fun p => (p.1.truth).bind fun t => if t then some p else fb p.2 := (rfl)
@[simp] theorem ev_eOr : eOr a b ρ = (a ρ).bind fun p => (p.truth).bind fun t => if t then some p else b ρ := (rfl)
@[simp] theorem ev_xNot : xNot fa ρ = (fa ρ).bind fun p => (p.1.truth).map fun t => (.bl (!t), p.2) := (rfl)
@[simp] theorem ev_eNot : eNot a ρ = (a ρ).bind fun p => (p.truth).map fun t => .bl (!t) := (rfl)
@[simp] theorem ev_xNil : xNil ρ = some ([], ρ) := (rfl)
@[simp] theorem ev_eNil : eNil ρ = some [] := (rfl)
@[simp] theorem ev_xCons : xCons fa lx ρ = (fa ρ).bind fun p => (lx p.2).map fun q => (p.1 :: q.1, q.2) := (rfl)
@[simp] theorem ev_eCons : eCons a l ρ = (a ρ).bind fun x => (l ρ).map fun q => x :: q := (rfl)
@[simp] theorem ev_xApp (p q : FL) : xApp p q ρ = (p ρ).bind fun p => (q p.2).map fun q => (p.1 ++ q.1, q.2) := (rfl)
@[simp] theorem ev_xCall (op : List D → Option D) : xCall op lx ρ = (lx ρ).bind fun p => (op p.1).map fun z => (z, p.2) := (rfl)
@[simp] theorem ev_eCall (op : List D → Option D) : eCall op l ρ = (l ρ).bind op := (rfl)
@[simp] theorem ev_eChain (f g : D → D → Option D) : eChain f g a b c ρ = (a ρ).bind fun p => (b ρ).bind fun q => (f p q).bind fun z => match z with
  | .bl true => (c ρ).bind fun r => g q r
  | .bl false => some (.bl false)
  | _ => none := (rfl)
@[simp] theorem ev_xChain (f g : D → D → Option D) : xChain f g fa fb fc ρ = (fa ρ).bind fun p => (fb p.2).bind fun q => (f p.1 q.1).bind fun z => match z with
  | .bl true => (fc q.2).bind fun r => (g q.1 r.1).map fun y => (y, r.2)
  | .bl false => some (.bl false, q.2)
  | _ => none := (rfl)
@[simp] theorem ev_xNoPart : xNoPart ρ = some (none, ρ) := (rfl)
@[simp] theorem ev_eNoPart : eNoPart ρ = some none := (rfl)
@[simp] theorem ev_xPart : xPart fa ρ = (fa ρ).bind fun p => (asInt p.1).map fun i => (some i, p.2) := (rfl)
@[simp] theorem ev_ePart : ePart a ρ = (a ρ).bind fun p => (asInt p).map some := (rfl)
@[simp] theorem ev_xSlice (p q : FO) : xSlice fa p q ρ = (fa ρ).bind fun x => (p x.2).bind fun y => (q y.2).bind fun r => (D.slice y.1 r.1 x.1).map fun z => (z, r.2) := (rfl)
@[simp] theorem ev_eSlice (p q : FEO) : eSlice a p q ρ = (a ρ).bind fun x => (p ρ).bind fun y => (q ρ).bind fun r => D.slice y r x := (rfl)
@[simp] theorem ev_xWl : xWl fa ρ = (fa ρ).bind fun p => p.1.walk.map fun l => (l, p.2) := (rfl)
@[simp] theorem ev_eWl : eWl a ρ = (a ρ).bind D.walk := (rfl)
@[simp] theorem ev_xLs (op : List D → Option (List D)) : xLs op lx ρ = (lx ρ).bind fun p => (op p.1).map fun l => (l, p.2) := (rfl)
@[simp] theorem ev_eLs (op : List D → Option (List D)) : eLs op l ρ = (l ρ).bind op := (rfl)
@[simp] theorem ev_xM (op : D → List D → Option D) : xM op fa lx ρ = (fa ρ).bind fun p => (lx p.2).bind fun q => (op p.1 q.1).map fun z => (z, q.2) := (rfl)
@[simp] theorem ev_eM (op : D → List D → Option D) : eM op a l ρ = (a ρ).bind fun p => (l ρ).bind fun q => op p q := (rfl)
@[simp] theorem ev_xB : xB fa ρ = (fa ρ).bind fun p => (asB p.1).map fun b => (b, p.2) := (rfl)
@[simp] theorem ev_eB : eB a ρ = (a ρ).bind asB := (rfl)
@[simp] theorem ev_xPk : xPk fa ρ = (fa ρ).bind fun p => if p.1.flat then some (p.1, ρ) else none := (rfl)
@[simp] theorem ev_ePk : ePk a ρ = (a ρ).bind fun d => if d.flat then some d else none := (rfl)
@[simp] theorem ev_tPk : tPk tx ρ = (tx ρ).map fun p => (p.1, ρ) := (rfl)
@[simp] theorem ev_xDct (f : FP) : xDct f ρ = (f ρ).bind fun p => (mkDct p.1).map fun z => (z, p.2) := (rfl)
@[simp] theorem ev_pNil : pNil ρ = some ([], ρ) := (rfl)
@[simp] theorem ev_pCons (r : FP) : pCons fa fb r ρ = (fa ρ).bind fun p => (fb p.2).bind fun q => (r q.2).map fun t => ((p.1, q.1) :: t.1, t.2) := (rfl)
@[simp] theorem ev_yesT : yesT ρ = some true := (rfl)
@[simp] theorem ev_bNil : bNil ρ = some ([], ρ) := (rfl)
@[simp] theorem ev_bCons (k : Bool) (r : FB) : bCons k fa r ρ = (fa ρ).bind fun p => (r p.2).map fun q => ((k, p.1) :: q.1, q.2) := (rfl)
def thn (g : FS) : Fl → Option Fl
  | .nx ρ => g ρ
  | o => some o
@[simp] theorem thn_nx (g : FS) : thn g (.nx ρ) = g ρ := (rfl)
@[simp] theorem thn_bk (g : FS) : thn g (.bk ρ) = some (.bk ρ) := (rfl)
@[simp] theorem thn_ct (g : FS) : thn g (.ct ρ) = some (.ct ρ) := (rfl)
@[simp] theorem thn_rt (g : FS) (d : D) : thn g (.rt d ρ) = some (.rt d ρ) := (rfl)
@[simp] theorem ev_fSeq (f g : FS) : fSeq f g ρ = (f ρ).bind (thn g) := by
  unfold fSeq
  cases f ρ with
  | none => rfl
  | some fl => cases fl <;> rfl
@[simp] theorem ev_fNx : fNx ρ = some (.nx ρ) := (rfl)
@[simp] theorem ev_fBk : fBk ρ = some (.bk ρ) := (rfl)
@[simp] theorem ev_fCt : fCt ρ = some (.ct ρ) := (rfl)
@[simp] theorem ev_fSet : fSet i fa ρ = (fa ρ).map fun p => .nx (p.2.set i (some p.1)) := (rfl)
@[simp] theorem ev_fDo : fDo fa ρ = (fa ρ).map fun p => .nx p.2 := (rfl)
@[simp] theorem ev_fRt : fRt fa ρ = (fa ρ).map fun p => .rt p.1 p.2 := (rfl)
@[simp] theorem ev_fRtN : fRtN ρ = some (.rt .non ρ) := (rfl)
@[simp] theorem ev_fIf (f g : FS) : fIf tx f g ρ = (tx ρ).bind fun p => if p.1 then f p.2 else g p.2 := (rfl)
@[simp] theorem ev_fAsg (g : D → Env → Option Env) : fAsg fa g ρ = (fa ρ).bind fun p => (g p.1 p.2).map .nx := (rfl)
@[simp] theorem ev_fFor (wf : FL) (g : D → Env → Option Env) (fb : FS) : fFor wf g fb ρ = (wf ρ).bind fun p => forGo g fb p.1 p.2 := (rfl)
@[simp] theorem ev_fPush : fPush i fa ρ = ((lk ρ i).bind asL).bind fun _ => (fa ρ).bind fun p => (lk p.2 i).bind fun l => (push p.1 l).map fun l' => .nx (p.2.set i (some l')) := (rfl)
@[simp] theorem ev_fPut (fk fv : FX) : fPut i fk fv ρ = (fv ρ).bind fun p => (lk p.2 i).bind fun _ => (fk p.2).bind fun q => (lk q.2 i).bind fun d => (D.put d q.1 p.1).map fun d' => .nx (q.2.set i (some d')) := (rfl)
@[simp] theorem ev_fBag (is : List Nat) (f : FB) : fBag is f ρ = (f ρ).map fun p => .nx (setD p.2 is p.1) := (rfl)
@[simp] theorem ev_setD_cons (i : Nat) (is : List Nat) (k : Bool) (d : D) (r : List (Bool × D)) : setD ρ (i :: is) ((k, d) :: r) = setD (ρ.set i (some d)) is r := (rfl)
@[simp] theorem ev_setD_nil (r : List (Bool × D)) : setD ρ [] r = ρ := (rfl)
@[simp] theorem ev_gNm (d : D) : gNm i d ρ = some (ρ.set i (some d)) := (rfl)
@[simp] theorem ev_gNl : gNl [] ρ = some ρ := (rfl)
@[simp] theorem ev_gCn (f : D → Env → Option Env) (g : List D → Env → Option Env) (d : D) (ds : List D) : gCn f g (d :: ds) ρ = (f d ρ).bind (g ds) := (rfl)
@[simp] theorem ev_gTp (n : Nat) (g : List D → Env → Option Env) (ds : List D) : gTp n g (.tup ds) ρ = if ds.length = n then g ds ρ else none := (rfl)
@[simp] theorem ev_gPut (fk : FX) (v : D) : gPut i fk v ρ = (lk ρ i).bind fun _ => (fk ρ).bind fun q => (lk q.2 i).bind fun d => (D.put d q.1 v).map fun d' => q.2.set i (some d') := (rfl)
@[simp] theorem ev_xCall1 (Fn : D → List D → Option (D × D)) : xCall1 i Fn lx ρ = (lk ρ i).bind fun _ => (lx ρ).bind fun p => (lk p.2 i).bind fun d0 => (Fn d0 p.1).map fun r => (r.1, p.2.set i (some r.2)) := (rfl)
@[simp] theorem ev_asB (b : Bool) : asB (.bl b) = some b := (rfl)
@[simp] theorem ev_asInt (j : Int) : asInt (.int j) = some j := (rfl)
@[simp] theorem ev_asL (l : List D) : asL (.lst l) = some l := (rfl)
@[simp] theorem ev_one (f : D → Option D) (d : D) : one f [d] = f d := (rfl)
@[simp] theorem ev_wp_nil : wp ρ [] = ρ := (rfl)
@[simp] theorem ev_wp_cons (v : Nat) (vs : List Nat) : wp ρ (v :: vs) = (wp ρ vs).set v none := (rfl)
@[simp] theorem ev_rst_nil (ρ0 : Env) : rst ρ0 ρ [] = ρ := (rfl)
@[simp] theorem ev_rst_cons (ρ0 : Env) (v : Nat) (vs : List Nat) : rst ρ0 ρ (v :: vs) = (rst ρ0 ρ vs).set v (lk ρ0 v) := (rfl)
end
def ans (kd : Bool) : Fl → Option D
  | .rt d _ => some d
  | .nx _ => if kd then none else some .non
  | _ => none
@[simp] theorem ans_rt (kd : Bool) (d : D) (ρ : Env) : ans kd (.rt d ρ) = some d := (rfl)
@[simp] theorem ans_nx (ρ : Env) : ans false (.nx ρ) = some .non := (rfl)
theorem run0_ans (kd : Bool) (N n : Nat) (body : FS) (ds : List D) (h : ds.length = n) : run0 kd N n body ds = (body (ds.map some ++ List.replicate (N - n) none)).bind (ans kd) := by
  unfold run0
  rw [if_pos h]
  cases body (ds.map some ++ List.replicate (N - n) none) with
  | none => rfl
  | some fl => cases fl <;> rfl
theorem run0_of {kd : Bool} {N n : Nat} {body : FS} {ds : List D} {d : Option D} (h : ds.length = n) (e : (body (ds.map some ++ List.replicate (N - n) none)).bind (ans kd) = d) : run0 kd N n body ds = d := (run0_ans _ _ _ _ _ h).trans e
theorem run0_rt {kd : Bool} {N n : Nat} {body : FS} {ds : List D} {d : D} {ρ : Env} (h : ds.length = n) (e : body (ds.map some ++ List.replicate (N - n) none) = some (.rt d ρ)) : run0 kd N n body ds = some d := by
  rw [run0_ans _ _ _ _ _ h, e]; rfl
@[simp] theorem ev_add (i j : Int) : D.add (.int i) (.int j) = some (.int (i + j)) := (rfl)
@[simp] theorem ev_sub (i j : Int) : D.sub (.int i) (.int j) = some (.int (i - j)) := (rfl)
@[simp] theorem ev_neg (i : Int) : D.neg (.int i) = some (.int (-i)) := (rfl)
@[simp] theorem ev_lt (i j : Int) : D.lt (.int i) (.int j) = some (.bl (decide (i < j))) := (rfl)
@[simp] theorem ev_le (i j : Int) : D.le (.int i) (.int j) = some (.bl (decide (i ≤ j))) := (rfl)
@[simp] theorem ev_gt (i j : Int) : D.gt (.int i) (.int j) = some (.bl (decide (j < i))) := (rfl)
@[simp] theorem ev_ge (i j : Int) : D.ge (.int i) (.int j) = some (.bl (decide (j ≤ i))) := (rfl)
@[simp] theorem op_trB (b : Bool) : D.truth (.bl b) = some b := rfl
@[simp] theorem op_isNone_non : D.isNone .non = true := rfl
@[simp] theorem op_isNone_int (i : Int) : D.isNone (.int i) = false := rfl
@[simp] theorem op_isNone_str (s : Str) : D.isNone (.str s) = false := rfl
@[simp] theorem op_isNone_lst (l : List D) : D.isNone (.lst l) = false := rfl
@[simp] theorem op_isNone_tup (l : List D) : D.isNone (.tup l) = false := rfl
@[simp] theorem op_isNone_dct (l : List (D × D)) : D.isNone (.dct l) = false := rfl
@[simp] theorem op_isNone_ins (c : Str) (l : List (Str × D)) : D.isNone (.ins c l) = false := rfl
@[simp] theorem ev_is2 (a : D) : D.is2 a .non = some (.bl a.isNone) := (rfl)
@[simp] theorem ev_isnt2 (a : D) : D.isnt2 a .non = some (.bl (!a.isNone)) := (rfl)
theorem lineOk_le {n : Nat} (h : n ≤ 16000000) : lineOk n = true := by
  unfold lineOk
  exact decide_eq_true (Nat.le_trans h (by decide +kernel))
theorem addL_ok {a b : List D} (h : a.length + b.length ≤ 16000000) : D.add (.lst a) (.lst b) = some (.lst (a ++ b)) := by
  show (if lineOk (a.length + b.length) then some (D.lst (a ++ b)) else none) = _
  rw [if_pos (lineOk_le h)]
theorem mkLst_ok {a : List D} (h : a.length ≤ 16000000) : mkLst a = some (.lst a) := by
  unfold mkLst; rw [if_pos (lineOk_le h)]
theorem mkTup_ok {a : List D} (h : a.length ≤ 16000000) : mkTup a = some (.tup a) := by
  unfold mkTup; rw [if_pos (lineOk_le h)]
@[simp] theorem mkLst_nil : mkLst [] = some (.lst []) := mkLst_ok (by simp)
@[simp] theorem mkLst_1 (a : D) : mkLst [a] = some (.lst [a]) := mkLst_ok (by simp)
@[simp] theorem mkLst_2 (a b : D) : mkLst [a, b] = some (.lst [a, b]) := mkLst_ok (by simp)
@[simp] theorem mkLst_3 (a b c : D) : mkLst [a, b, c] = some (.lst [a, b, c]) := mkLst_ok (by simp)
@[simp] theorem mkTup_nil : mkTup [] = some (.tup []) := mkTup_ok (by simp)
@[simp] theorem mkTup_1 (a : D) : mkTup [a] = some (.tup [a]) := mkTup_ok (by simp)
@[simp] theorem mkTup_2 (a b : D) : mkTup [a, b] = some (.tup [a, b]) := mkTup_ok (by simp)
@[simp] theorem mkTup_3 (a b c : D) : mkTup [a, b, c] = some (.tup [a, b, c]) := mkTup_ok (by simp)
theorem atI_nat {α : Type} (l : List α) (n : Nat) : L2.atI l (n : Int) = l[n]? := by
  unfold L2.atI L2.ixN
  rw [if_pos (Int.natCast_nonneg n)]
  by_cases h : n < l.length
  · rw [if_pos (by omega)]; simp
  · rw [if_neg (by omega)]; simp; omega
theorem item_nat (l : List D) (n : Nat) : D.item (.lst l) (.int (n : Int)) = l[n]? := atI_nat l n
@[simp] theorem it_t0 (a : D) (r : List D) : D.item (.tup (a :: r)) (.int 0) = some a := by
  have := atI_nat (a :: r) 0; simpa [D.item] using this
@[simp] theorem it_t1 (a b : D) (r : List D) : D.item (.tup (a :: b :: r)) (.int 1) = some b := by
  have := atI_nat (a :: b :: r) 1; simpa [D.item] using this
@[simp] theorem it_t2 (a b c : D) (r : List D) : D.item (.tup (a :: b :: c :: r)) (.int 2) = some c := by
  have := atI_nat (a :: b :: c :: r) 2; simpa [D.item] using this
@[simp] theorem it_l0 (a : D) (r : List D) : D.item (.lst (a :: r)) (.int 0) = some a := by
  have := atI_nat (a :: r) 0; simpa [D.item] using this
@[simp] theorem it_l1 (a b : D) (r : List D) : D.item (.lst (a :: b :: r)) (.int 1) = some b := by
  have := atI_nat (a :: b :: r) 1; simpa [D.item] using this
@[simp] theorem walk_lst (l : List D) : D.walk (.lst l) = some l := (rfl)
@[simp] theorem walk_tup (l : List D) : D.walk (.tup l) = some l := (rfl)
theorem cut_take {α : Type} (l : List α) (n : Nat) : cutL l none (some (n : Int)) = l.take n := by
  unfold cutL
  rw [HT.sIx_none, HT.sIx_nat, List.drop_zero, Nat.sub_zero, List.take_eq_take_iff]
  omega
theorem cut_drop {α : Type} (l : List α) (n : Nat) : cutL l (some (n : Int)) none = l.drop n := by
  unfold cutL
  rw [HT.sIx_none, HT.sIx_nat]
  by_cases h : n ≤ l.length
  · rw [Nat.min_eq_left h, List.take_of_length_le (by simp)]
  · rw [Nat.min_eq_right (by omega), List.drop_of_length_le (Nat.le_refl _), List.drop_of_length_le (by omega), List.take_nil]
@[simp] theorem sl_take (l : List D) (n : Nat) : D.slice none (some (n : Int)) (.lst l) = some (.lst (l.take n)) := by
  show some (D.lst (cutL l none (some (n : Int)))) = _
  rw [cut_take]
@[simp] theorem sl_drop (l : List D) (n : Nat) : D.slice (some (n : Int)) none (.lst l) = some (.lst (l.drop n)) := by
  show some (D.lst (cutL l (some (n : Int)) none)) = _
  rw [cut_drop]
@[simp] theorem sl_t2 (a b c : D) : D.slice none (some 2) (.tup [a, b, c]) = some (.tup [a, b]) := rfl
def Wp (o : Option Fl) (Q : Fl → Prop) : Prop := ∃ fl, o = some fl ∧ Q fl
theorem run0_wp {kd : Bool} {N n : Nat} {body : FS} {ds : List D} {d : D} (h : ds.length = n) (e : Wp (body (ds.map some ++ List.replicate (N - n) none)) fun fl => ans kd fl = some d) : run0 kd N n body ds = some d := by
  obtain ⟨fl, e1, e2⟩ := e
  exact run0_of h (by rw [e1]; exact e2)
theorem run0_ex {kd : Bool} {N n : Nat} {body : FS} {ds : List D} {P : D → Prop} (h : ds.length = n) (e : Wp (body (ds.map some ++ List.replicate (N - n) none)) fun fl => ∃ d, ans kd fl = some d ∧ P d) : ∃ d, run0 kd N n body ds = some d ∧ P d := by
  obtain ⟨fl, e1, d, e2, e3⟩ := e
  exact ⟨d, run0_of h (by rw [e1]; exact e2), e3⟩
theorem Wp.imp {o : Option Fl} {Q R : Fl → Prop} (h : Wp o Q) (k : ∀ fl, Q fl → R fl) : Wp o R := by
  obtain ⟨fl, e1, e2⟩ := h
  exact ⟨fl, e1, k fl e2⟩
section
variable {f g rest : FS} {Q : Fl → Prop} {ρ ρ1 : Env} {d : D}
theorem wp_nx (h : f ρ = some (.nx ρ1)) (k : Wp (g ρ1) Q) : Wp (fSeq f g ρ) Q := by
  obtain ⟨fl, e1, e2⟩ := k
  exact ⟨fl, by rw [ev_fSeq, h]; exact e1, e2⟩
theorem wp_rt (h : f ρ = some (.rt d ρ1)) (k : Q (.rt d ρ1)) : Wp (fSeq f g ρ) Q := ⟨_, by rw [ev_fSeq, h]; rfl, k⟩
theorem wp_of {fl : Fl} (h : f ρ = some fl) (k : Q fl) : Wp (f ρ) Q := ⟨fl, h, k⟩
def Then (g : FS) (Q : Fl → Prop) : Fl → Prop
  | .nx ρ => Wp (g ρ) Q
  | fl => Q fl
theorem wp_seq (h : Wp (f ρ) (Then g Q)) : Wp (fSeq f g ρ) Q := by
  obtain ⟨fl, e1, e2⟩ := h
  cases fl with
  | nx ρ1 => exact wp_nx e1 e2
  | bk ρ1 => exact ⟨_, by rw [ev_fSeq, e1]; rfl, e2⟩
  | ct ρ1 => exact ⟨_, by rw [ev_fSeq, e1]; rfl, e2⟩
  | rt d ρ1 => exact ⟨_, by rw [ev_fSeq, e1]; rfl, e2⟩
theorem wp_if {t : FTx} {b : Bool} (h : t ρ = some (b, ρ1)) (k : Wp (if b then f ρ1 else g ρ1) Q) : Wp (fIf t f g ρ) Q := by
  obtain ⟨fl, e1, e2⟩ := k
  exact ⟨fl, by rw [ev_fIf, h]; exact e1, e2⟩
def Turn (P B : Env → Prop) (Q : Fl → Prop) : Fl → Prop
  | .nx ρ => P ρ
  | .ct ρ => P ρ
  | .bk ρ => B ρ
  | .rt d ρ => Q (.rt d ρ)
end
section
variable {β : Type} {enc : β → D} {g : D → Env → Option Env} {fb rest : FS} {wf : FL} {Q : Fl → Prop} {ρ ρ0 : Env}
theorem forGo_wp (I : List β → Env → Prop) (xs : List β) (h : ∀ dn x r ρ, xs = dn ++ x :: r → I dn ρ → ∃ ρ1, g (enc x) ρ = some ρ1 ∧ Wp (fb ρ1) (Turn (I (dn ++ [x])) (fun ρ => Q (.nx ρ)) Q)) (hr : ∀ ρ, I xs ρ → Q (.nx ρ)) :
    ∀ (r dn : List β) (ρ : Env), xs = dn ++ r → I dn ρ → Wp (forGo g fb (r.map enc) ρ) Q
  | [], dn, ρ, e, i => ⟨.nx ρ, rfl, hr ρ (by rw [e, List.append_nil]; exact i)⟩
  | x :: r, dn, ρ, e, i => by
    obtain ⟨ρ1, e1, fl, e2, i2⟩ := h dn x r ρ e i
    cases fl with
    | nx ρ2 =>
      have key : forGo g fb ((x :: r).map enc) ρ = forGo g fb (r.map enc) ρ2 := by
        show (g (enc x) ρ).bind _ = _
        rw [e1]
        show (fb ρ1).bind _ = _
        rw [e2]; rfl
      rw [key]
      exact forGo_wp I xs h hr r (dn ++ [x]) ρ2 (by rw [e]; simp) i2
    | ct ρ2 =>
      have key : forGo g fb ((x :: r).map enc) ρ = forGo g fb (r.map enc) ρ2 := by
        show (g (enc x) ρ).bind _ = _
        rw [e1]
        show (fb ρ1).bind _ = _
        rw [e2]; rfl
      rw [key]
      exact forGo_wp I xs h hr r (dn ++ [x]) ρ2 (by rw [e]; simp) i2
    | bk ρ2 =>
      have key : forGo g fb ((x :: r).map enc) ρ = some (.nx ρ2) := by
        show (g (enc x) ρ).bind _ = _
        rw [e1]
        show (fb ρ1).bind _ = _
        rw [e2]; rfl
      exact ⟨_, key, i2⟩
    | rt d ρ2 =>
      have key : forGo g fb ((x :: r).map enc) ρ = some (.rt d ρ2) := by
        show (g (enc x) ρ).bind _ = _
        rw [e1]
        show (fb ρ1).bind _ = _
        rw [e2]; rfl
      exact ⟨_, key, i2⟩
theorem wp_for (xs : List β) (I : List β → Env → Prop) (hw : wf ρ = some (xs.map enc, ρ)) (h0 : I [] ρ)
    (h : ∀ dn x r ρ, xs = dn ++ x :: r → I dn ρ → ∃ ρ1, g (enc x) ρ = some ρ1 ∧ Wp (fb ρ1) (Turn (I (dn ++ [x])) (fun ρ => Wp (rest ρ) Q) Q)) (hr : ∀ ρ, I xs ρ → Wp (rest ρ) Q) : Wp (fSeq (fFor wf g fb) rest ρ) Q := by
  refine wp_seq ?_
  rw [ev_fFor, hw, Option.bind_some]
  exact forGo_wp (Q := Then rest Q) I xs (fun dn x r ρ e i => by
    obtain ⟨ρ1, e1, fl, e2, i2⟩ := h dn x r ρ e i
    refine ⟨ρ1, e1, fl, e2, ?_⟩
    cases fl <;> exact i2) hr xs [] ρ rfl h0
theorem wp_for' (xs : List β) (I : List β → Env → Prop) (hw : wf ρ = some (xs.map enc, ρ)) (h0 : I [] ρ)
    (h : ∀ dn x r ρ, xs = dn ++ x :: r → I dn ρ → ∃ ρ1 ρ2, g (enc x) ρ = some ρ1 ∧ fb ρ1 = some (.nx ρ2) ∧ I (dn ++ [x]) ρ2) (hr : ∀ ρ, I xs ρ → Wp (rest ρ) Q) : Wp (fSeq (fFor wf g fb) rest ρ) Q :=
  wp_for xs I hw h0 (fun dn x r ρ e i => by
    obtain ⟨ρ1, ρ2, e1, e2, i2⟩ := h dn x r ρ e i
    exact ⟨ρ1, e1, .nx ρ2, e2, i2⟩) hr
end
@[simp] theorem filter_tt {β : Type} (l : List β) : (l.filter fun _ => true) = l := List.filter_eq_self.mpr fun _ _ => rfl
@[simp] theorem filter_ff {β : Type} (l : List β) : (l.filter fun _ => false) = [] := List.filter_eq_nil_iff.mpr fun _ _ h => nomatch h
section
variable {g : D → Env → Option Env} {fb : FS} {ρ : Env}
end
section
variable {β : Type} {enc : β → D} {vs : List Nat} {g : D → Env → Option Env} {t : FTx} {e : FX} {w : FL} {ρ : Env}
theorem runGo_lc (xs : List β) (gd : β → Env) (c : β → Bool) (f : β → D) (ρ0 : Env) (hg : ∀ x ∈ xs, g (enc x) ρ0 = some (gd x)) (ht : ∀ x ∈ xs, t (gd x) = some (c x, gd x))
    (he : ∀ x ∈ xs, c x = true → e (gd x) = some (f x, gd x)) (hw : ∀ x ∈ xs, wp (gd x) vs = ρ0) : ∀ acc : List D, acc.length + xs.length ≤ 16000000 →
    runGo (go1 vs g t e) (xs.map enc) (.lst acc) ρ0 = some (.lst (acc ++ (xs.filter c).map f), ρ0) := by
  induction xs with
  | nil => intro acc _; simp [runGo]
  | cons x r ih =>
    intro acc hl
    have ih := ih (fun y h => hg y (List.mem_cons_of_mem _ h)) (fun y h => ht y (List.mem_cons_of_mem _ h)) (fun y h => he y (List.mem_cons_of_mem _ h)) (fun y h => hw y (List.mem_cons_of_mem _ h))
    have hx := List.mem_cons_self (a := x) (l := r)
    rw [List.map_cons]
    simp only [List.length_cons] at hl
    cases hc : c x with
    | true =>
      have hp : push (f x) (.lst acc) = some (.lst (acc ++ [f x])) := by
        show (if lineOk (acc.length + 1) then some (D.lst (acc ++ [f x])) else none) = _
        rw [if_pos (lineOk_le (by omega))]
      have hs : go1 vs g t e (enc x) (.lst acc) ρ0 = some (.lst (acc ++ [f x]), ρ0) := by
        unfold go1
        rw [hg x hx, Option.bind_some, ht x hx, Option.bind_some]
        simp only [hc, if_true]
        rw [he x hx hc, Option.bind_some]
        simp only [hp, Option.map_some, hw x hx]
      show (go1 vs g t e (enc x) (.lst acc) ρ0).bind _ = _
      rw [hs, Option.bind_some, ih (acc ++ [f x]) (by simp; omega)]
      simp [hc]
    | false =>
      have hs : go1 vs g t e (enc x) (.lst acc) ρ0 = some (.lst acc, ρ0) := by
        unfold go1
        rw [hg x hx, Option.bind_some, ht x hx, Option.bind_some]
        simp only [hc, Bool.false_eq_true, if_false, hw x hx]
      show (go1 vs g t e (enc x) (.lst acc) ρ0).bind _ = _
      rw [hs, Option.bind_some, ih acc (by omega)]
      simp [hc]
theorem xLc_of (xs : List β) (gd : β → Env) (c : β → Bool) (f : β → D) (hw : w ρ = some (xs.map enc, ρ)) (hg : ∀ x ∈ xs, g (enc x) (wp ρ vs) = some (gd x)) (ht : ∀ x ∈ xs, t (gd x) = some (c x, gd x))
    (he : ∀ x ∈ xs, c x = true → e (gd x) = some (f x, gd x)) (hwp : ∀ x ∈ xs, wp (gd x) vs = wp ρ vs) (hl : xs.length ≤ 16000000) (hr : rst ρ (wp ρ vs) vs = ρ) :
    xLc vs w g t e ρ = some (.lst ((xs.filter c).map f), ρ) := by
  unfold xLc
  rw [hw, Option.bind_some]
  have := runGo_lc (enc := enc) (g := g) (t := t) (e := e) xs gd c f (wp ρ vs) hg ht he hwp [] (by simpa using hl)
  simp only
  rw [this]
  simp [hr]
end
section
variable {β γ : Type} {enc : β → D} {enc1 : γ → D} {vs vs1 : List Nat} {g g1 : D → Env → Option Env} {t t1 : FTx} {e : FX} {w w1 : FL} {ρ : Env}
theorem xLc2_of (xs : List β) (ys : β → List γ) (gd : β → Env) (gd1 : β → γ → Env) (c : β → Bool) (c1 : β → γ → Bool) (f : β → γ → D) (hw : w ρ = some (xs.map enc, ρ)) (hg : ∀ x ∈ xs, g (enc x) (wp ρ vs) = some (gd x)) (ht : ∀ x ∈ xs, t (gd x) = some (c x, gd x))
    (hw1 : ∀ x ∈ xs, c x = true → w1 (gd x) = some ((ys x).map enc1, gd x)) (hg1 : ∀ x ∈ xs, ∀ y ∈ ys x, g1 (enc1 y) (wp (gd x) vs1) = some (gd1 x y)) (ht1 : ∀ x ∈ xs, ∀ y ∈ ys x, t1 (gd1 x y) = some (c1 x y, gd1 x y))
    (he : ∀ x ∈ xs, ∀ y ∈ ys x, c1 x y = true → e (gd1 x y) = some (f x y, gd1 x y)) (hwp1 : ∀ x ∈ xs, ∀ y ∈ ys x, wp (gd1 x y) vs1 = wp (gd x) vs1) (hwp : ∀ x ∈ xs, wp (gd x) vs = wp ρ vs) (hwp2 : ∀ x ∈ xs, wp (wp (gd x) vs1) vs = wp ρ vs)
    (hl : ((xs.filter c).flatMap ys).length ≤ 16000000) (hr : rst ρ (wp ρ vs) vs = ρ) :
    xLc2 vs vs1 w g t w1 g1 t1 e ρ = some (.lst ((xs.filter c).flatMap fun x => ((ys x).filter (c1 x)).map (f x)), ρ) := by
  unfold xLc2
  rw [hw, Option.bind_some]
  have key : ∀ (l : List β), (∀ x ∈ l, x ∈ xs) → ∀ acc : List D, acc.length + ((l.filter c).flatMap ys).length ≤ 16000000 →
      runGo (go2 vs vs1 g t w1 g1 t1 e) (l.map enc) (.lst acc) (wp ρ vs) = some (.lst (acc ++ (l.filter c).flatMap fun x => ((ys x).filter (c1 x)).map (f x)), wp ρ vs) := by
    intro l
    induction l with
    | nil => intro _ acc _; simp [runGo]
    | cons x r ih =>
      intro hm acc hl
      have hx := hm x List.mem_cons_self
      have ih := ih fun y h => hm y (List.mem_cons_of_mem _ h)
      rw [List.map_cons]
      cases hc : c x with
      | true =>
        have hlen : acc.length + (ys x).length + ((r.filter c).flatMap ys).length ≤ 16000000 := by
          simp only [List.filter_cons, hc, if_true, List.flatMap_cons, List.length_append] at hl ⊢; omega
        have h1 := runGo_lc (enc := enc1) (g := g1) (t := t1) (e := e) (vs := vs1) (ys x) (gd1 x) (c1 x) (f x) (wp (gd x) vs1) (hg1 x hx) (ht1 x hx) (he x hx) (hwp1 x hx) acc (by omega)
        have hs : go2 vs vs1 g t w1 g1 t1 e (enc x) (.lst acc) (wp ρ vs) = some (.lst (acc ++ ((ys x).filter (c1 x)).map (f x)), wp ρ vs) := by
          unfold go2
          rw [hg x hx, Option.bind_some, ht x hx, Option.bind_some]
          simp only [hc, if_true]
          rw [hw1 x hx hc, Option.bind_some]
          simp only
          rw [h1]
          simp only [Option.map_some]
          rw [hwp2 x hx]
        show (go2 vs vs1 g t w1 g1 t1 e (enc x) (.lst acc) (wp ρ vs)).bind _ = _
        rw [hs, Option.bind_some, ih _ (by
          have : (((ys x).filter (c1 x)).map (f x)).length ≤ (ys x).length := by simp; exact List.length_filter_le _ _
          simp only [List.length_append]; omega)]
        simp [List.filter_cons, hc]
      | false =>
        have hs : go2 vs vs1 g t w1 g1 t1 e (enc x) (.lst acc) (wp ρ vs) = some (.lst acc, wp ρ vs) := by
          unfold go2
          rw [hg x hx, Option.bind_some, ht x hx, Option.bind_some]
          simp only [hc, Bool.false_eq_true, if_false, hwp x hx]
        show (go2 vs vs1 g t w1 g1 t1 e (enc x) (.lst acc) (wp ρ vs)).bind _ = _
        rw [hs, Option.bind_some, ih acc (by simpa [List.filter_cons, hc] using hl)]
        simp [List.filter_cons, hc]
  have := key xs (fun x h => h) [] (by simpa using hl)
  simp only
  rw [this]
  simp [hr]
end
section
variable {β : Type} (ev : β → D)
theorem getK_str (a : Str) : ∀ l : List (Str × β), getK (l.map fun p => (.str p.1, ev p.2)) (.str a) = (l.lookup a).map ev
  | [] => rfl
  | (b, v) :: r => by
    simp only [List.map_cons, getK, List.lookup_cons, D.str.injEq]
    by_cases h : b = a
    · subst h; simp
    · have : (a == b) = false := by simpa using fun e => h e.symm
      simp only [if_neg h, this]
      exact getK_str a r
theorem leafKs_str : ∀ l : List (Str × β), leafKs (l.map fun p => (.str p.1, ev p.2)) = true := fun l => by
  unfold leafKs
  rw [List.all_map]
  exact List.all_eq_true.mpr fun _ _ => rfl
theorem item_str (l : List (Str × β)) (a : Str) : D.item (.dct (l.map fun p => (.str p.1, ev p.2))) (.str a) = (l.lookup a).map ev := by
  show (if (leafKey (.str a) && leafKs _) || _ then _ else _) = _
  rw [leafKs_str, show leafKey (.str a) = true from rfl]
  simp [getK_str]
end
section
variable {γ : Type} [DecidableEq γ] {e : γ → D}
theorem getK_map (he : ∀ a b, e a = e b → a = b) (g : γ → D) (v : γ) : ∀ ks : List γ, getK (ks.map fun w => (e w, g w)) (e v) = if v ∈ ks then some (g v) else none
  | [] => rfl
  | k :: ks => by
    rw [List.map_cons]
    show (if e k = e v then some (g k) else getK _ _) = _
    by_cases h : k = v
    · subst h; simp
    · have h1 : ¬ e k = e v := fun z => h (he _ _ z)
      have h2 : ¬ v = k := fun z => h z.symm
      rw [if_neg h1, getK_map he g v ks]
      simp [h2]
theorem putK_map (he : ∀ a b, e a = e b → a = b) (g : γ → D) (v : γ) (x : D) : ∀ ks : List γ, ks.Nodup → putK (ks.map fun w => (e w, g w)) (e v) x = (if v ∈ ks then ks else ks ++ [v]).map fun w => (e w, if w = v then x else g w)
  | [], _ => by simp [putK]
  | k :: ks, hn => by
    obtain ⟨hn1, hn2⟩ := List.nodup_cons.mp hn
    rw [List.map_cons]
    show (if e k = e v then (e k, x) :: _ else (e k, g k) :: putK _ _ _) = _
    by_cases h : k = v
    · subst h
      rw [if_pos rfl, if_pos List.mem_cons_self, List.map_cons, if_pos rfl]
      congr 1
      refine List.map_congr_left fun w hw => ?_
      have hne : ¬ w = k := fun z => hn1 (by rw [← z]; exact hw)
      rw [if_neg hne]
    · have h1 : ¬ e k = e v := fun z => h (he _ _ z)
      have h2 : ¬ v = k := fun z => h z.symm
      rw [if_neg h1, putK_map he g v x ks hn2]
      by_cases hm : v ∈ ks
      · simp [hm, h]
      · simp [hm, h, h2]
theorem leafKs_map (he : ∀ a, leafKey (e a) = true) (g : γ → D) (ks : List γ) : leafKs (ks.map fun w => (e w, g w)) = true := by
  unfold leafKs
  rw [List.all_map]
  exact List.all_eq_true.mpr fun a _ => he a
theorem item_map (he : ∀ a b, e a = e b → a = b) (hl : ∀ a, leafKey (e a) = true) (g : γ → D) (v : γ) (ks : List γ) : D.item (.dct (ks.map fun w => (e w, g w))) (e v) = if v ∈ ks then some (g v) else none := by
  show (if (leafKey (e v) && leafKs _) || _ then getK _ _ else none) = _
  rw [hl, leafKs_map hl, getK_map he]
  simp
theorem get2_map (he : ∀ a b, e a = e b → a = b) (hl : ∀ a, leafKey (e a) = true) (g : γ → D) (v : γ) (x : D) (ks : List γ) : D.get2 (.dct (ks.map fun w => (e w, g w))) [e v, x] = some (if v ∈ ks then g v else x) := by
  show (if (leafKey (e v) && leafKs _) || _ then some ((getK _ _).getD x) else none) = _
  rw [hl, leafKs_map hl, getK_map he]
  by_cases h : v ∈ ks <;> simp [h]
theorem put_map (he : ∀ a b, e a = e b → a = b) (hl : ∀ a, leafKey (e a) = true) (g : γ → D) (v : γ) (x : D) (ks : List γ) (hn : ks.Nodup) (hs : ks.length ≤ 1000000) :
    D.put (.dct (ks.map fun w => (e w, g w))) (e v) x = some (.dct ((if v ∈ ks then ks else ks ++ [v]).map fun w => (e w, if w = v then x else g w))) := by
  show (if ((leafKey (e v) && leafKs _) || _) && lineOk _ then some (D.dct (putK _ _ _)) else none) = _
  rw [hl, leafKs_map hl, putK_map he g v x ks hn, lineOk_le (by simp; omega)]
  simp
theorem putD_map (he : ∀ a b, e a = e b → a = b) (hl : ∀ a, leafKey (e a) = true) (g : γ → D) (v : γ) (x : D) (ks : List γ) (hn : ks.Nodup) (hs : ks.length ≤ 1000000) :
    D.putD (.dct (ks.map fun w => (e w, g w))) (e v) x = some (.dct ((if v ∈ ks then ks else ks ++ [v]).map fun w => (e w, if w = v then x else g w))) := by
  show (if ((leafKey (e v) && leafKs _) || _) && lineOk _ then some (D.dct (putK _ _ _)) else none) = _
  rw [hl, leafKs_map hl, putK_map he g v x ks hn, lineOk_le (by simp; omega)]
  simp
theorem xDc_of {β : Type} {enc : β → D} {vs : List Nat} {g : D → Env → Option Env} {ek ev : FX} {w : FL} {ρ : Env} (he : ∀ a b, e a = e b → a = b) (hl : ∀ a, leafKey (e a) = true) (xs : List β) (gd : β → Env) (key : β → γ) (f : γ → D)
    (hw : w ρ = some (xs.map enc, ρ)) (hg : ∀ x ∈ xs, g (enc x) (wp ρ vs) = some (gd x)) (hk : ∀ x ∈ xs, ek (gd x) = some (e (key x), gd x)) (hv : ∀ x ∈ xs, ev (gd x) = some (f (key x), gd x))
    (hwp : ∀ x ∈ xs, wp (gd x) vs = wp ρ vs) (hn : (xs.map key).Nodup) (hs : xs.length ≤ 1000000) (hr : rst ρ (wp ρ vs) vs = ρ) :
    xDc vs w g (up yesT) ek ev ρ = some (.dct ((xs.map key).map fun k => (e k, f k)), ρ) := by
  unfold xDc
  rw [hw, Option.bind_some]
  have go : ∀ (l : List β) (dn : List γ), (∀ x ∈ l, x ∈ xs) → (dn ++ l.map key).Nodup → dn.length + l.length ≤ 1000000 →
      runGo (goD vs g (up yesT) ek ev) (l.map enc) (.dct (dn.map fun k => (e k, f k))) (wp ρ vs) = some (.dct ((dn ++ l.map key).map fun k => (e k, f k)), wp ρ vs) := by
    intro l
    induction l with
    | nil => intro dn _ _ _; simp [runGo]
    | cons x r ih =>
      intro dn hm hd hlen
      have hx := hm x List.mem_cons_self
      rw [List.map_cons] at hd
      simp only [List.length_cons] at hlen
      have hni : key x ∉ dn := fun h => (List.nodup_append.mp hd).2.2 _ h _ List.mem_cons_self rfl
      have hdn : dn.Nodup := (List.nodup_append.mp hd).1
      have hs : goD vs g (up yesT) ek ev (enc x) (.dct (dn.map fun k => (e k, f k))) (wp ρ vs) = some (.dct ((dn ++ [key x]).map fun k => (e k, f k)), wp ρ vs) := by
        unfold goD
        rw [hg x hx, Option.bind_some]
        simp only [ev_up, ev_yesT, Option.map_some, Option.bind_some, if_true]
        rw [hk x hx, Option.bind_some]
        simp only
        rw [hv x hx, Option.bind_some]
        simp only
        rw [putD_map he hl f (key x) (f (key x)) dn hdn (by omega), if_neg hni]
        simp only [Option.map_some, hwp x hx]
        congr 4
        funext k
        by_cases h : k = key x
        · simp [h]
        · simp [h]
      rw [List.map_cons]
      show (goD vs g (up yesT) ek ev (enc x) _ (wp ρ vs)).bind _ = _
      rw [hs, Option.bind_some, ih (dn ++ [key x]) (fun y h => hm y (List.mem_cons_of_mem _ h)) (by simpa using hd) (by simp; omega)]
      simp
  have := go xs [] (fun x h => h) (by simpa using hn) (by simpa using hs)
  simp only [List.map_nil, List.nil_append] at this
  simp only
  rw [this]
  simp [hr]
end
theorem zip_at {β : Type} {l : List β} {dn r : List (β × Nat)} {p : β × Nat} (e : l.zipIdx = dn ++ p :: r) : p.2 = dn.length ∧ l[dn.length]? = some p.1 ∧ l.drop dn.length = p.1 :: l.drop (dn.length + 1) ∧ dn.length < l.length := by
  have h1 : l.zipIdx[dn.length]? = some p := by rw [e]; simp
  rw [List.getElem?_zipIdx] at h1
  obtain ⟨x, hx, hp⟩ := Option.map_eq_some_iff.mp h1
  have hp2 : p = (x, dn.length) := by rw [← hp]; simp
  subst hp2
  have hlt : dn.length < l.length := (List.getElem?_eq_some_iff.mp hx).1
  refine ⟨rfl, hx, ?_, hlt⟩
  rw [List.drop_eq_getElem_cons hlt]
  rw [List.getElem?_eq_getElem hlt] at hx
  cases hx; rfl
theorem enum_map {β : Type} (enc : β → D) (l : List β) : enumL [.lst (l.map enc)] = some (l.zipIdx.map fun p => .tup [.int (p.2 : Nat), enc p.1]) := by
  show some ((l.map enc).mapIdx fun i x => D.tup [.int (i : Nat), x]) = _
  congr 1
  rw [List.mapIdx_eq_zipIdx_map, List.zipIdx_map, List.map_map]
  rfl
theorem rng_nat (n : Nat) (h : n ≤ 1000000000) : rng1 [.int (n : Int)] = some ((List.range n).map fun (i : Nat) => .int (i : Int)) := by
  have h1 : decide (-(2 ^ 62) ≤ (n : Int)) = true := decide_eq_true (by omega)
  have h2 : decide ((n : Int) < 2 ^ 62) = true := decide_eq_true (by omega)
  unfold rng1
  simp only [h1, h2, Bool.and_self, if_true, Int.toNat_natCast, Int.zero_add]
end RF
set_option Elab.async false
set_option linter.all false
set_option maxRecDepth 100000
set_option maxHeartbeats 2000000
namespace RF
open PySem PySem.Spec L2
open PyProof.Rows hiding St
structure FnG (P : Program) (w : World) (K : PySem.W.Frag) (mg : Str → Option Value) (base : Heap) (k : Nat) (f : Addr) (fd : FuncData) (ps : List Str) (sp : Sp) : Prop where
  cnt : ∀ xs H Q E, sp xs H Q E → xs.length = ps.length
  go : ∀ (A : Around) (up : List PySem.Env) (s : Shared) (H : Hp) (args : Args) (ws : List Value) (xs : List V) (Q : VK) (E : XK), A.guards = some [] → Room k A → Env0 P w K mg base A up s H →
    BindsTo s fd args (ps.zip ws) → Vals xs ws → sp xs H Q E → codeAny (model P w) A (.call (.ref f) args) (CR CX0 up P w H s Q E) s
section
variable {P : Program} {w : World} {K : PySem.W.Frag} {mg : Str → Option Value} {base : Heap} {x qual : Str} {params : Arguments} {body : List Stmt} {scope : Scope} {dvs : List V} {kws : List (Str × V)} {f : Addr} {fd : FuncData} {N ps : List Str} {k : Nat} {sp : Sp}
end
section
variable {X : Cx} {k : Nat} {f : Addr} {fd : FuncData} {ps : List Str} {sp : Sp} {E : XK} {x : Str} {p pos : Pos} {e : Expr} {es : List Expr} {t : TA}
end
end RF
set_option Elab.async false
set_option linter.all false
set_option maxRecDepth 100000
set_option maxHeartbeats 1000000
namespace RF
open PySem PySem.Spec L2
open PyProof.Rows hiding St
def leafPD : D → Option PyData
  | .non => some .none
  | .int i => some (.int i)
  | .str x => some (.str x)
  | _ => none
def keyPD : D → Option PyData
  | .non => some .none
  | .int i => some (.int i)
  | .str x => some (.str x)
  | .tup l => (l.mapM leafPD).map .tuple
  | _ => none
mutual
def toPD : D → Option PyData
  | .non => some .none
  | .bl b => some (.bool b)
  | .int i => some (.int i)
  | .str x => some (.str x)
  | .lst l => (toPDs l).map .list
  | .tup l => (toPDs l).map .tuple
  | .dct l => (toPDp l).map .dict
  | .ins _ _ => none
  | .scr _ => none
  | .mk _ _ _ => none
def toPDs : List D → Option (List PyData)
  | [] => some []
  | d :: r => (toPD d).bind fun x => (toPDs r).map fun y => x :: y
def toPDp : List (D × D) → Option (List (PyData × PyData))
  | [] => some []
  | (k, d) :: r => (keyPD k).bind fun z => (toPD d).bind fun x => (toPDp r).map fun y => (z, x) :: y
end
section
variable {X : Cx} {pins : List (Addr × Obj)} {σ : St} {H G : Hp} {s : Shared}
theorem key_reads {k : D} {z : PyData} {l : Leaf} {v : Value} (hk : keyPD k = some z) (hl : leafOf k = some l) (hv : isK0 l v = true) : Reads s.heap v z [] := by
  have hb : notB v = true := (Bool.and_eq_true_iff.mp hv).2
  replace hv := isK0_of hv
  cases k <;> first | (cases hk; done) | (cases hl; done) | skip
  · cases hk; cases hl
    cases v <;> first | exact .none | (exact absurd hv Bool.false_ne_true)
  · cases hk; cases hl
    rename_i i
    cases v <;> first | (cases hb; done) | (simp [Leaf.isOf] at hv; done) | skip
    rename_i j t
    have : j = i := by simpa [Leaf.isOf] using hv
    subst this
    exact .int _ _
  · cases hk; cases hl
    rename_i x
    cases v with
    | str y t =>
      have : y = x := by
        have h : Value.isStrOf x (.str y t) = true := hv
        simpa [Value.isStrOf] using h
      subst this
      exact .str _ _
    | _ => exact absurd hv (by simp [Leaf.isOf, Value.isStrOf])
theorem leaf_reads {h : Heap} : ∀ {ds : List D} {kv : List V} {us : List Value} {ps : List PyData}, kv.map flatD = ds.map some → Vals kv us → ds.mapM leafPD = some ps → ReadsAll h us ps []
  | [], kv, us, ps, e, r, m => by
    cases kv with
    | nil =>
      cases r
      simp at m
      subst m
      exact .nil
    | cons _ _ => cases e
  | d :: ds, kv, us, ps, e, r, m => by
    cases kv with
    | nil => cases e
    | cons x kv =>
      simp only [List.map_cons, List.cons.injEq] at e
      obtain ⟨e0, e9⟩ := e
      rw [List.mapM_cons] at m
      obtain ⟨p, m1, m⟩ := bindE (show (leafPD d).bind (fun p => (ds.mapM leafPD).bind fun q => some (p :: q)) = some ps from m)
      obtain ⟨q, m2, m3⟩ := bindE m
      cases m3
      cases r with
      | cons r1 r2 =>
        rename_i u us
        have one : Reads h u p [] := by
          cases x <;> first | (cases e0; done) | skip
          · cases e0; cases m1; cases r1; exact .none
          · cases e0; cases m1; obtain ⟨t, rfl⟩ := r1; exact .int _ _
          · cases e0; cases m1; obtain ⟨t, rfl⟩ := r1; exact .str _ _
        exact .cons (as := []) (bs := []) one (leaf_reads e9 r2 m2)
mutual
theorem reads_of (I : Inv X pins σ H s) (sub : Same G H) : ∀ (d : D) (v : V) (u : Value) (p : PyData), Rep X.prog X.w X.K G d v → RelV v u → toPD d = some p → ∃ as, Reads s.heap u p as ∧ ∀ a ∈ as, H a ≠ none
  | .non, v, u, p, r, rv, e => by
    have r : v = .non := r
    subst r; cases e
    have rv : u = .none := rv
    subst rv
    exact ⟨[], .none, fun a h => by cases h⟩
  | .bl b, v, u, p, r, rv, e => by
    have r : v = .bl b := r
    subst r; cases e
    have rv : u = .bool b := rv
    subst rv
    exact ⟨[], .bool b, fun a h => by cases h⟩
  | .int i, v, u, p, r, rv, e => by
    have r : v = .int i := r
    subst r; cases e
    obtain ⟨t, rfl⟩ := rv
    exact ⟨[], .int i t, fun a h => by cases h⟩
  | .str x, v, u, p, r, rv, e => by
    have r : v = .str x := r
    subst r; cases e
    obtain ⟨t, rfl⟩ := rv
    exact ⟨[], .str x t, fun a h => by cases h⟩
  | .lst ds, v, u, p, r, rv, e => by
    obtain ⟨ps, e1, rfl⟩ := mapE (show (toPDs ds).map PyData.list = some p from e)
    obtain ⟨a, vs, rfl, h1, h2⟩ := r
    have rv : u = .ref a := rv
    subst rv
    have hH := sub _ _ h1
    obtain ⟨its, r1, ⟨o, n, g1, g2, _, g4⟩, _⟩ := I.list (.inl (Rd.of hH))
    obtain ⟨as, k1, k2⟩ := readss_of I sub ds vs its ps h2 r1 e1
    refine ⟨a :: as, .list g1 g2 g4 (by simpa using k1), fun b hb => ?_⟩
    rcases List.mem_cons.mp hb with rfl | hb
    · rw [hH]; simp
    · exact k2 b hb
  | .tup ds, v, u, p, r, rv, e => by
    obtain ⟨ps, e1, rfl⟩ := mapE (show (toPDs ds).map PyData.tuple = some p from e)
    obtain ⟨a, vs, rfl, h1, h2⟩ := r
    have rv : u = .ref a := rv
    subst rv
    have hH := sub _ _ h1
    obtain ⟨its, r1, ⟨o, g1, g2, n, g4⟩, _⟩ := I.tuple (SqT.of hH)
    obtain ⟨as, k1, k2⟩ := readss_of I sub ds vs its ps h2 r1 e1
    exact ⟨as, .tuple g1 g2 g4 (by simpa using k1), k2⟩
  | .dct l, v, u, p, r, rv, e => by
    obtain ⟨ps, e1, rfl⟩ := mapE (show (toPDp l).map PyData.dict = some p from e)
    obtain ⟨a, o, vs, rfl, hm, h1, _, hd, h2⟩ := r
    have rv : u = .ref a := rv
    subst rv
    have hH := sub _ _ h1
    have ho : s.heap.get? a = some o := rdp I hH
    rcases hd with ⟨us, ⟨es, ep, q1, q2, _, q4, _⟩, q6, q7⟩ | ⟨xs, q0, q4, hvs, hx⟩
    · obtain ⟨as, k1, k2, k3⟩ := readsp_of I sub l vs us es.toList ps h2 q4 q6 q7 e1
      have key : ∀ as0, ReadsAll s.heap (es.toList.map (·.key)) (ps.map (·.1)) as0 → ReadsAll s.heap (es.toList.map (·.key)) (ps.map (·.1)) as0 := fun _ h => h
      refine ⟨a :: [] ++ as, .dict ho q1.1 q2 k1 k2, fun b hb => ?_⟩
      rcases List.mem_cons.mp hb with rfl | hb
      · rw [hH]; simp
      · exact k3 b (by simpa using hb)
    · obtain ⟨q1, ⟨es, ep, q2, q3⟩, _⟩ := q0
      obtain ⟨as, k1, k2, k3⟩ := readst_of I sub l vs xs ps h2 (fun i k x a b => hx i k x (by simpa using a) b) q4 hvs e1
      have e4 : es.toList.map (·.key) = xs.map (fun x => Value.ref x.2.1) := by rw [q3, List.map_map]; rfl
      have e5 : es.toList.map (·.val) = xs.map (fun x => x.2.2) := by rw [q3, List.map_map]; rfl
      refine ⟨a :: [] ++ as, .dict ho q1.1 q2 (by rw [e4]; exact k1) (by rw [e5]; exact k2), fun b hb => ?_⟩
      rcases List.mem_cons.mp hb with rfl | hb
      · rw [hH]; simp
      · exact k3 b (by simpa using hb)
  | .ins c fs, v, u, p, r, rv, e => nomatch e
  | .scr ns, v, u, p, r, rv, e => nomatch e
  | .mk _ _ _, v, u, p, r, rv, e => nomatch e
theorem readss_of (I : Inv X pins σ H s) (sub : Same G H) : ∀ (ds : List D) (vs : List V) (us : List Value) (ps : List PyData), Reps X.prog X.w X.K G ds vs → Vals vs us → toPDs ds = some ps → ∃ as, ReadsAll s.heap us ps as ∧ ∀ a ∈ as, H a ≠ none
  | [], vs, us, ps, r, rv, e => by
    cases r; cases rv; cases e
    exact ⟨[], .nil, fun a h => by cases h⟩
  | d :: ds, vs, us, ps, r, rv, e => by
    obtain ⟨v, vr, rfl, r1, r2⟩ := r
    cases rv with
    | cons a1 b1 =>
      obtain ⟨x, e1, e⟩ := bindE (show (toPD d).bind _ = some ps from e)
      obtain ⟨y, e2, rfl⟩ := mapE e
      obtain ⟨as, k1, k2⟩ := reads_of I sub d v _ x r1 a1 e1
      obtain ⟨bs, l1, l2⟩ := readss_of I sub ds vr _ y r2 b1 e2
      exact ⟨as ++ bs, .cons k1 l1, fun c hc => (List.mem_append.mp hc).elim (k2 c) (l2 c)⟩
theorem readsp_of (I : Inv X pins σ H s) (sub : Same G H) : ∀ (l : List (D × D)) (vs : List V) (us : List (Leaf × Value)) (es : List DictEntry) (ps : List (PyData × PyData)), RepP X.prog X.w X.K G l vs → Pairs (leafK0 X.prog X.w) es us → (l.map (·.1)).map leafOf = us.map (fun u => some u.1) → Vals vs (us.map (·.2)) → toPDp l = some ps →
    ∃ as, ReadsAll s.heap (es.map (·.key)) (ps.map (·.1)) [] ∧ ReadsAll s.heap (es.map (·.val)) (ps.map (·.2)) as ∧ ∀ a ∈ as, H a ≠ none
  | [], vs, us, es, ps, r, rp, hk, rv, e => by
    cases r; cases e
    cases us with
    | nil => cases rp; exact ⟨[], .nil, .nil, fun a h => by cases h⟩
    | cons u us => simp at hk
  | (k, d) :: l, vs, us, es, ps, r, rp, hk, rv, e => by
    obtain ⟨v, vr, rfl, r1, r2⟩ := r
    cases us with
    | nil => simp at hk
    | cons u us =>
      cases rp with
      | cons p1 p2 p3 =>
        simp only [List.map_cons, List.cons.injEq] at hk
        cases rv with
        | cons a1 b1 =>
          obtain ⟨z, e0, e⟩ := bindE (show (keyPD k).bind _ = some ps from e)
          obtain ⟨x, e1, e⟩ := bindE e
          obtain ⟨y, e2, rfl⟩ := mapE e
          have a1 : RelV v u.2 := a1
          rw [← p2] at a1
          obtain ⟨as, k1, k2⟩ := reads_of I sub d v _ x r1 a1 e1
          obtain ⟨bs, l0, l1, l2⟩ := readsp_of I sub l vr us _ y r2 p3 hk.2 b1 e2
          exact ⟨as ++ bs, .cons (as := []) (bs := []) (key_reads e0 hk.1 p1) l0, .cons k1 l1, fun c hc => (List.mem_append.mp hc).elim (k2 c) (l2 c)⟩
theorem readst_of (I : Inv X pins σ H s) (sub : Same G H) : ∀ (l : List (D × D)) (vs : List V) (xs : List (NestedKey × Addr × Value)) (ps : List (PyData × PyData)), RepP X.prog X.w X.K G l vs →
    (∀ (i : Nat) (k : D) (x : NestedKey × Addr × Value), (l.map (·.1))[i]? = some k → xs[i]? = some x → ∃ (ds : List D) (kv : List V), k = D.tup ds ∧ G x.2.1 = some (.tup kv) ∧ kv.map flatD = ds.map some) →
    (l.map (·.1)).map nestOf = xs.map (fun x => some x.1) → Vals vs (xs.map (·.2.2)) → toPDp l = some ps →
    ∃ as, ReadsAll s.heap (xs.map fun x => Value.ref x.2.1) (ps.map (·.1)) [] ∧ ReadsAll s.heap (xs.map (·.2.2)) (ps.map (·.2)) as ∧ ∀ a ∈ as, H a ≠ none
  | [], vs, xs, ps, r, g, hk, rv, e => by
    cases r; cases e
    cases xs with
    | nil => exact ⟨[], .nil, .nil, fun a h => by cases h⟩
    | cons u us => simp at hk
  | (k, d) :: l, vs, xs, ps, r, g, hk, rv, e => by
    obtain ⟨v, vr, rfl, r1, r2⟩ := r
    cases xs with
    | nil => simp at hk
    | cons x xs =>
      simp only [List.map_cons, List.cons.injEq] at hk
      cases rv with
      | cons a1 b1 =>
        obtain ⟨z, e0, e⟩ := bindE (show (keyPD k).bind _ = some ps from e)
        obtain ⟨y, e1, e⟩ := bindE e
        obtain ⟨q, e2, rfl⟩ := mapE e
        obtain ⟨ds, kv, rfl, g1, g2⟩ := g 0 k x rfl rfl
        obtain ⟨zs, m1, rfl⟩ := mapE (show (ds.mapM leafPD).map PyData.tuple = some z from e0)
        obtain ⟨its, rr, ⟨o, o1, o2, n, o4⟩, _⟩ := I.tuple (SqT.of (sub _ _ g1))
        have key : Reads s.heap (.ref x.2.1) (.tuple zs) [] := .tuple o1 o2 o4 (by simpa using leaf_reads g2 rr m1)
        obtain ⟨as, k1, k2⟩ := reads_of I sub d v _ y r1 a1 e1
        obtain ⟨bs, l0, l1, l2⟩ := readst_of I sub l vr xs q r2 (fun i k x a b => g (i + 1) k x (by simpa using a) (by simpa using b)) hk.2 b1 e2
        exact ⟨as ++ bs, .cons (as := []) (bs := []) key l0, .cons k1 l1, fun c hc => (List.mem_append.mp hc).elim (k2 c) (l2 c)⟩
end
end
end RF
set_option Elab.async false
set_option linter.all false
set_option maxRecDepth 100000
set_option maxHeartbeats 2000000
namespace RF
open PySem PySem.Spec L2
open PyProof.Rows hiding St
section
variable {P : Program} {w : World} {K : PySem.W.Frag} {mg : Str → Option Value} {base : Heap} {x qual : Str} {params : Arguments} {body : List Stmt} {scope : Scope} {dvs : List V} {kws : List (Str × V)} {f : Addr} {fd : FuncData} {N ps : List Str} {k j : Nat} {O' : List Nat} {fb : FS} {sp : Sp}
theorem FnG.up (F : FnG P w K mg base k f fd ps sp) (h : k ≤ j) : FnG P w K mg base j f fd ps sp := ⟨F.cnt, fun A up s H args ws xs Q E hg hr => F.go A up s H args ws xs Q E hg (hr.mono h)⟩
end
section
variable {X : Cx} {O : List Nat} {k j : Nat} {n : Nat} {Fn : List D → Option D} {Fn1 : D → List D → Option (D × D)} {x : Str} {p pos : Pos} {e : Expr} {es : List Expr} {fl : FL}
end
end RF
set_option Elab.async false
set_option linter.all false
namespace RF
open PySem PySem.Spec L2
open PyProof.Rows hiding St
section
variable {X : Cx} {c : Ct} {O O' : List Nat} {sts : List Stmt} {f g : FS}
end
end RF
set_option Elab.async false
set_option linter.all false
set_option maxRecDepth 100000
set_option maxHeartbeats 1000000
namespace RF
open PySem PySem.Spec L2
open PyProof.Rows hiding St
def flatL : D → Bool
  | .lst l => l.all D.flat
  | _ => false
def leafD : D → Bool
  | .str _ => true | .non => true | .int _ => true | _ => false
def thin : D → Bool
  | .dct l => l.all fun p => leafD p.1 && p.2.flat
  | d => d.flat
def isL : Option D → Bool
  | some (.lst _) => true
  | none => true
  | _ => false
section
variable {P : Program} {w : World} {K : PySem.W.Frag} {F G G' G2 H H' H2 : Hp} {Pn : List (Nat × Addr)} {O : List Nat} {ρ : Env} {σ : St}
theorem reps_flat : ∀ {ds : List D} {vs : List V}, ds.all D.flat = true → Reps P w K G ds vs → Reps P w K G' ds vs
  | [], _, _, r => r
  | d :: ds, vs, f, ⟨v, r, e, r1, r2⟩ => by
    rw [List.all_cons, Bool.and_eq_true] at f
    exact ⟨v, r, e, rep_flat f.1 r1, reps_flat f.2 r2⟩
theorem repP_flat : ∀ {l : List (D × D)} {vs : List V}, l.all (fun p => leafD p.1 && p.2.flat) = true → RepP P w K G l vs → RepP P w K G' l vs
  | [], _, _, r => r
  | (k, d) :: ds, vs, f, ⟨v, r, e, r1, r2⟩ => by
    rw [List.all_cons, Bool.and_eq_true, Bool.and_eq_true] at f
    exact ⟨v, r, e, rep_flat f.1.2 r1, repP_flat f.2 r2⟩
theorem cell_flat {a : Addr} {d : D} (f : flatL d = true) (c : Cell P w K G H a d) : Cell P w K G' H a d := by
  cases d with
  | lst l => obtain ⟨vs, h1, h2⟩ := c; exact ⟨vs, h1, reps_flat f h2⟩
  | _ => cases f
theorem rep_thin {d : D} {v : V} (f : thin d = true) (h : Rep P w K G d v) (hk : ∀ a o, G a = some (pinO a o) → G' a = some (pinO a o)) : Rep P w K G' d v := by
  cases d with
  | dct l =>
    obtain ⟨a, o, vs, e, hm, g, hl, hd, hr⟩ := h
    refine ⟨a, o, vs, e, hm, hk a o g, hl, ?_, repP_flat f hr⟩
    rcases hd with hd | ⟨xs, h1, h2, h3, h4⟩
    · exact .inl hd
    · refine .inr ⟨xs, h1, h2, h3, fun j k x e1 e2 => ?_⟩
      obtain ⟨ds, kv, ek, _⟩ := h4 j k x e1 e2
      have hmem : k ∈ l.map (·.1) := List.mem_of_getElem? e1
      obtain ⟨p, hp, ep⟩ := List.mem_map.mp hmem
      have := List.all_eq_true.mp f p hp
      rw [ep, ek] at this
      exact absurd this (by simp [leafD])
  | _ => exact rep_flat f h
open Classical in
noncomputable def lessO (O : List Nat) (ρ : Env) (σ : St) (G : Hp) : Hp := fun b => if ∃ k, k ∈ O ∧ (∃ d, lk ρ k = some d) ∧ σ[k]? = some (some (.ref b)) then none else G b
theorem SR.back {i : Nat} {a : Addr} {d d0 d1 : D} {v : V} (e0 : lk ρ i = some d0) (S : SR P w K F Pn O G ρ σ H) (S' : SR P w K F [] [i] G' ρ σ H) (hi : i ∈ O) (s : Same G G') (s2 : Same G' G2) (sub : Same G2 H2) (fr : ∀ b o, F b = some o → H2 b = some o ∧ G2 b = none) (ha : σ[i]? = some (some (.ref a)))
    (na : G2 a = none) (cc : Cell P w K G2 H2 a d1) (f1 : flatL d1 = true) (f : thin d = true) (al : O.all (fun k => isL (lk ρ k)) = true) (r : Rep P w K G2 d v) :
    ∃ G3, SR P w K F Pn O G3 (ρ.set i (some d1)) σ H2 ∧ Same G G3 ∧ Rep P w K G3 d v := by
  have g3 : Same G (lessO O ρ σ G2) := fun b o e => by
    unfold lessO
    rw [if_neg]
    · exact s2 _ _ (s _ _ e)
    · rintro ⟨k, hk, ⟨d, ed⟩, ek⟩
      obtain ⟨b', h1, h2, _⟩ := S.own k hk d ed
      rw [ek] at h1; cases h1
      rw [h2] at e; cases e
  have le : ∀ b, lessO O ρ σ G2 b = none ∨ lessO O ρ σ G2 b = G2 b := fun b => by
    unfold lessO
    split
    · exact .inl rfl
    · exact .inr rfl
  refine ⟨lessO O ρ σ G2, ⟨fun b o e => ?_, fun b o e => ⟨(fr b o e).1, ?_⟩, by rw [List.length_set]; exact S.len, fun j x e hj => ?_, fun j hj x e => ?_, S.pin⟩, g3, rep_thin f r fun b o e => ?_⟩
  · rcases le b with z | z
    · rw [z] at e; cases e
    · rw [z] at e; exact sub _ _ e
  · rcases le b with z | z
    · exact z
    · rw [z]; exact (fr b o e).2
  · have hji : j ≠ i := fun z => hj (z ▸ hi)
    rw [lk_set_ne hji] at e
    obtain ⟨v, h1, h2⟩ := S.val j x e hj
    exact ⟨v, h1, Rep.mono g3 _ _ h2⟩
  · by_cases hji : j = i
    · subst hji
      obtain ⟨e1, _⟩ := lk_set_self e
      cases e1
      have ey := e0
      obtain ⟨b, h1, h2, h3, h4, h5⟩ := S.own j hj _ ey
      rw [ha] at h1; cases h1
      refine ⟨a, ha, ?_, h3, cell_flat f1 cc, fun m hm hmj z ez => ?_⟩
      · unfold lessO; rw [if_pos ⟨j, hj, ⟨_, ey⟩, ha⟩]
      · rw [lk_set_ne hmj] at ez
        exact h5 m hm hmj z ez
    · rw [lk_set_ne hji] at e
      obtain ⟨b, h1, h2, h3, h4, h5⟩ := S.own j hj x e
      obtain ⟨o, ho⟩ := h4.some
      obtain ⟨v, k1, k2⟩ := S'.val j x e (by simp [hji])
      rw [h1] at k1; cases k1
      have ga : H2 b = some o := by
        cases x with
        | lst ds =>
          obtain ⟨a', vs, z, g, _⟩ := k2
          cases z
          have := S'.sub _ _ g
          rw [ho] at this; cases this
          exact sub _ _ (s2 _ _ g)
        | dct ds =>
          obtain ⟨a', o', vs, z, _, g, _⟩ := k2
          cases z
          have := S'.sub _ _ g
          rw [ho] at this; cases this
          exact sub _ _ (s2 _ _ g)
        | _ => exact h4.elim
      refine ⟨b, h1, ?_, h3, h4.mono g3 (ga.trans ho.symm), fun m hm hmj z ez => ?_⟩
      · unfold lessO; rw [if_pos ⟨j, hj, ⟨_, e⟩, h1⟩]
      · by_cases hmi : m = i
        · subst hmi
          exact h5 m hm hmj _ e0
        · rw [lk_set_ne hmi] at ez
          exact h5 m hm hmj z ez
  · unfold lessO
    rw [if_neg]
    · exact e
    · rintro ⟨k, hk, ⟨x, ex⟩, ek⟩
      by_cases hki : k = i
      · subst hki
        rw [ha] at ek; cases ek
        rw [na] at e; cases e
      · obtain ⟨v, k1, k2⟩ := S'.val k x ex (by simp [hki])
        rw [ek] at k1; cases k1
        have := List.all_eq_true.mp al k hk
        rw [ex] at this
        cases x with
        | lst l =>
          obtain ⟨a', vs, z, g, _⟩ := k2
          cases z
          have := s2 _ _ g
          rw [e] at this
          exact absurd this (by simp [pinO])
        | _ => cases this
end
section
variable {X : Cx} {O : List Nat} {k j n i : Nat} {Fn1 : D → List D → Option (D × D)} {x y : Str} {p pos py : Pos} {es : List Expr} {el : FEL}
end
end RF
set_option Elab.async false
set_option linter.all false
set_option maxRecDepth 100000
set_option maxHeartbeats 1000000
namespace RF
open PySem PySem.Spec L2
open PyProof.Rows hiding St
def CMulB (i j : Int) : Prop := Builtin.Int.intBits i ≤ 4000 ∧ Builtin.Int.intBits j ≤ 4000
theorem CMulB.ok {i j : Int} (h : CMulB i j) : IntMulOk i j := by
  unfold IntMulOk
  have : Builtin.Int.intTooBig (Builtin.Int.intBits i + Builtin.Int.intBits j) = false := by
    unfold Builtin.Int.intTooBig
    obtain ⟨h1, h2⟩ := h
    have hb : (8000 : Int) ≤ bitsLine := by decide +kernel
    rw [decide_eq_false_iff_not]
    omega
  rw [this]; simp
section
variable {X : Cx}
end
end RF
set_option Elab.async false
set_option linter.all false
set_option maxRecDepth 100000
set_option maxHeartbeats 3200000
namespace RF
open PySem PySem.Spec L2
open PyProof.Rows hiding St
structure SKey {prog : Program} {w : World} {K : Type} [DecidableEq K] (knd : HeapKind prog w K) : Prop where
  st : knd.Stays
  ofc : ∀ {A : Around} {E : Value → Shared → Prop} {s : Shared} {k : K} {a : Addr} {Q : Bool → Shared → Prop}, knd.is s.heap k a → Q false s → wpAny (model prog w) A (ofAClassStatement 8 (.ref a)) Q E s
  hbv : ∀ {A : Around} {E : Value → Shared → Prop} {s : Shared} {k : K} {a : Addr} {Q : Bool → Shared → Prop}, knd.is s.heap k a → (∀ b, Q b s) → wpAny (model prog w) A (hashByValue 8 (.ref a)) Q E s
section
variable {prog : Program} {w : World} {K : Type} [DecidableEq K] {knd : HeapKind prog w K} {A : Around} {E : Value → Shared → Prop} {s : Shared}
abbrev Ent (K : Type) := Addr × K
def cellsT (knd : HeapKind prog w K) (L : List (Ent K)) : List (Int × Value) := L.map fun p => (knd.hash p.2, Value.ref p.1)
structure TSet (knd : HeapKind prog w K) (h : Heap) (a : Addr) (L : List (Ent K)) (es : Array (Int × Value)) (ep : Nat) (t : SetTable) : Prop where
  obj : ∃ o, h.get? a = some o ∧ o.ExactSet ∧ o.data = .set es ep t
  cel : es.toList = cellsT knd L
  tab : TabOk t (L.map fun p => knd.hash p.2)
  one : (L.map (·.2)).Nodup
  key : ∀ p ∈ L, knd.is h p.2 p.1
  ord : w.params.followText "set-order" = true ∨ t.led = true
  gap : L.length * 5 < t.mask * 3
  few : L.length < 64
variable {a : Addr} {L : List (Ent K)} {es : Array (Int × Value)} {ep : Nat} {t : SetTable}
theorem cells_len {L : List (Ent K)} {es : Array (Int × Value)} (h : es.toList = cellsT knd L) : es.size = L.length := by
  rw [← Array.length_toList, h]; simp [cellsT]
theorem TSet.sz (R : TSet knd s.heap a L es ep t) : es.size = L.length := cells_len R.cel
theorem TSet.at (R : TSet knd s.heap a L es ep t) {i : Nat} {p : Ent K} (h : L[i]? = some p) : es[i]? = some (knd.hash p.2, Value.ref p.1) := by
  rw [← Array.getElem?_toList, R.cel]
  unfold cellsT
  rw [List.getElem?_map, h]; rfl
theorem TSet.hat (R : TSet knd s.heap a L es ep t) {i : Nat} {p : Ent K} (h : L[i]? = some p) : (es[i]?.map (·.1)).getD 0 = knd.hash p.2 := by rw [R.at h]; rfl
end
end RF
set_option Elab.async false
set_option linter.all false
set_option maxRecDepth 100000
set_option maxHeartbeats 3200000
namespace RF
open PySem PySem.Spec L2
open PyProof.Rows hiding St
section
variable {prog : Program} {w : World} {K : Type} [DecidableEq K] {knd : HeapKind prog w K} {A : Around} {E : Value → Shared → Prop} {s : Shared}
variable {a : Addr} {L : List (Ent K)} {es : Array (Int × Value)} {ep : Nat} {t : SetTable}
end
end RF
set_option Elab.async false
set_option linter.all false
set_option maxRecDepth 100000
set_option maxHeartbeats 3200000
namespace RF
open PySem PySem.Spec L2
open PyProof.Rows hiding St
section
variable {prog : Program} {w : World}
theorem leafless (k : NestedKey) (h : ∀ ks, k ≠ .tup ks) (n : Nat) {hp : Heap} {v : Value} (x : NestedIs hp k v) : ofAClassStatement n v = pure false ∧ ∃ b, hashByValue n v = pure b := by
  cases x <;> first | exact absurd rfl (h _) | (cases n <;> exact ⟨rfl, _, rfl⟩)
mutual
theorem ofc_key : ∀ (k : NestedKey) (v : Value) (n : Nat) (s : Shared), NestedIs s.heap k v → k.depth ≤ n → ∀ (A : Around) (E : Value → Shared → Prop) (Q : Bool → Shared → Prop), Q false s → wpAny (model prog w) A (ofAClassStatement n v) Q E s
  | .none, v, n, s, x, _, A, E, Q, q => by rw [(leafless .none (fun _ z => by cases z) n x).1]; exact wpAny_pure q
  | .num i, v, n, s, x, _, A, E, Q, q => by rw [(leafless (.num i) (fun _ z => by cases z) n x).1]; exact wpAny_pure q
  | .text i, v, n, s, x, _, A, E, Q, q => by rw [(leafless (.text i) (fun _ z => by cases z) n x).1]; exact wpAny_pure q
  | .tup ks, v, n, s, x, hn, A, E, Q, q => by
    cases x with
    | tup ho hc hd hk =>
      rename_i a o vs m
      simp only [NestedKey.depth] at hn
      cases n with
      | zero => omega
      | succ n =>
        have hT : s.TypeIs (.ref a) "tuple" := ⟨o, ho, hc⟩
        unfold ofAClassStatement
        refine wpAny_bind (wpAny_typeOf hT ?_)
        dsimp only
        have e : (("tuple" : String) == "tuple") = true := by decide
        simp only [e, if_true, Bool.not_true, Bool.false_eq_true, if_false]
        try refine wpAny_bind (wpAny_pure ?_)
        try simp only [Bool.not_true, Bool.false_eq_true, if_false]
        show wpAny _ _ (seqItems? (.ref a) >>= _) _ _ s
        refine wpAny_bind (wpAny_seqItems ho hd ?_)
        dsimp only
        refine wpAny_bind ?_
        show wpAny _ _ (forIn vs _ _) _ _ s
        rw [← Array.forIn_toList]
        have hall := ofc_keys ks vs.toList n s hk (by omega)
        refine wpAny_forIn_list _ (fun rest r s' => r.1 = none ∧ s' = s ∧ ∀ v ∈ rest, v ∈ vs.toList) _ ?_ ?_ _ _ ⟨rfl, rfl, fun v hv => hv⟩
        · rintro v rest r s' ⟨hr, rfl, hin⟩
          refine wpAny_bind (hall v (hin v List.mem_cons_self) A E _ ?_)
          simp only [Bool.false_eq_true, if_false]
          exact wpAny_pure ⟨rfl, rfl, fun u hu => hin u (List.mem_cons_of_mem _ hu)⟩
        · rintro ⟨r1, r2⟩ s' ⟨hr, rfl, _⟩
          simp only at hr
          subst hr
          exact wpAny_pure q
theorem ofc_keys : ∀ (ks : List NestedKey) (vs : List Value) (n : Nat) (s : Shared), NestedAll s.heap ks vs → NestedKey.depthAll ks ≤ n → ∀ v ∈ vs, ∀ (A : Around) (E : Value → Shared → Prop) (Q : Bool → Shared → Prop), Q false s → wpAny (model prog w) A (ofAClassStatement n v) Q E s
  | [], _, n, s, x, _, v, hv => by cases x; cases hv
  | k :: ks, _, n, s, x, hn, v, hv => by
    cases x with
    | cons x1 x2 =>
      simp only [NestedKey.depthAll] at hn
      rcases List.mem_cons.mp hv with e | hv
      · rw [e]; exact ofc_key k _ n s x1 (by omega)
      · exact ofc_keys ks _ n s x2 (by omega) v hv
end
mutual
theorem hbv_key : ∀ (k : NestedKey) (v : Value) (n : Nat) (s : Shared), NestedIs s.heap k v → k.depth ≤ n → ∀ (A : Around) (E : Value → Shared → Prop) (Q : Bool → Shared → Prop), (∀ b, Q b s) → wpAny (model prog w) A (hashByValue n v) Q E s
  | .none, v, n, s, x, _, A, E, Q, q => by obtain ⟨b, e⟩ := (leafless .none (fun _ z => by cases z) n x).2; rw [e]; exact wpAny_pure (q b)
  | .num i, v, n, s, x, _, A, E, Q, q => by obtain ⟨b, e⟩ := (leafless (.num i) (fun _ z => by cases z) n x).2; rw [e]; exact wpAny_pure (q b)
  | .text i, v, n, s, x, _, A, E, Q, q => by obtain ⟨b, e⟩ := (leafless (.text i) (fun _ z => by cases z) n x).2; rw [e]; exact wpAny_pure (q b)
  | .tup ks, v, n, s, x, hn, A, E, Q, q => by
    cases x with
    | tup ho hc hd hk =>
      rename_i a o vs m
      simp only [NestedKey.depth] at hn
      cases n with
      | zero => omega
      | succ n =>
        have hT : s.TypeIs (.ref a) "tuple" := ⟨o, ho, hc⟩
        unfold hashByValue
        refine wpAny_bind (wpAny_specialOf hT PySem.F.slot_tuple_hash.lookup ?_)
        show wpAny _ _ (seqItems? (.ref a) >>= _) _ _ s
        refine wpAny_bind (wpAny_seqItems ho hd ?_)
        refine wpAny_bind ?_
        show wpAny _ _ (forIn vs _ _) _ _ s
        rw [← Array.forIn_toList]
        have hall := hbv_keys ks vs.toList n s hk (by omega)
        refine wpAny_forIn_list _ (fun rest r s' => r.1 = none ∧ s' = s ∧ ∀ v ∈ rest, v ∈ vs.toList) _ ?_ ?_ _ _ ⟨rfl, rfl, fun v hv => hv⟩
        · rintro v rest r s' ⟨hr, rfl, hin⟩
          refine wpAny_bind (hall v (hin v List.mem_cons_self) A E _ fun b => ?_)
          cases b with
          | true =>
            simp only [Bool.not_true, Bool.false_eq_true, if_false]
            exact wpAny_pure ⟨rfl, rfl, fun u hu => hin u (List.mem_cons_of_mem _ hu)⟩
          | false =>
            simp only [Bool.not_false, if_true]
            exact wpAny_pure (wpAny_pure (q false))
        · rintro ⟨r1, r2⟩ s' ⟨hr, rfl, _⟩
          simp only at hr
          subst hr
          exact wpAny_pure (q true)
theorem hbv_keys : ∀ (ks : List NestedKey) (vs : List Value) (n : Nat) (s : Shared), NestedAll s.heap ks vs → NestedKey.depthAll ks ≤ n → ∀ v ∈ vs, ∀ (A : Around) (E : Value → Shared → Prop) (Q : Bool → Shared → Prop), (∀ b, Q b s) → wpAny (model prog w) A (hashByValue n v) Q E s
  | [], _, n, s, x, _, v, hv => by cases x; cases hv
  | k :: ks, _, n, s, x, hn, v, hv => by
    cases x with
    | cons x1 x2 =>
      simp only [NestedKey.depthAll] at hn
      rcases List.mem_cons.mp hv with e | hv
      · rw [e]; exact hbv_key k _ n s x1 (by omega)
      · exact hbv_keys ks _ n s x2 (by omega) v hv
end
end
structure Take {K : Type} (ks : List (Ent K)) (i : Nat) (L : List (Ent K)) : Prop where
  sub : ∀ p ∈ L, p ∈ ks.take i
  all : ∀ p ∈ ks.take i, p.2 ∈ L.map (·.2)
  len : L.length ≤ i
theorem take_nx {α : Type} {l : List α} {i : Nat} {x : α} (h : l[i]? = some x) : l.take (i + 1) = l.take i ++ [x] := by rw [List.take_succ, h]; rfl
theorem Take.none {K : Type} (ks : List (Ent K)) : Take ks 0 [] := ⟨fun p h => (by cases h), fun p h => (by simp at h), Nat.le_refl _⟩
theorem Take.new {K : Type} {ks L L' : List (Ent K)} {i : Nat} {x : Ent K} (g : Take ks i L) (h : ks[i]? = some x) (pm : L'.Perm (x :: L)) : Take ks (i + 1) L' := by
  have e := take_nx h
  refine ⟨fun p hp => ?_, fun p hp => ?_, by rw [pm.length_eq]; exact Nat.succ_le_succ g.len⟩
  · rw [e]
    rcases List.mem_cons.mp (pm.mem_iff.mp hp) with z | z
    · rw [z]; exact List.mem_append_right _ (List.mem_singleton.mpr rfl)
    · exact List.mem_append_left _ (g.sub p z)
  · rw [(pm.map (·.2)).mem_iff, List.map_cons]
    rw [e] at hp
    rcases List.mem_append.mp hp with z | z
    · exact List.mem_cons_of_mem _ (g.all p z)
    · rw [List.mem_singleton.mp z]; exact List.mem_cons_self
section
variable {prog : Program} {w : World} {K : Type} [DecidableEq K] {knd : HeapKind prog w K} {A : Around} {E : Value → Shared → Prop} {s : Shared}
theorem TSet.fresh {h : Heap} {a : Addr} (ho : h.get? a = some { cls := .type "set", dict := none, data := .set #[] 0 (.fresh 0 0 (!w.params.followText "set-order")) }) : TSet knd h a [] #[] 0 (.fresh 0 0 (!w.params.followText "set-order")) where
  obj := ⟨_, ho, ⟨rfl, rfl, rfl⟩, rfl⟩
  cel := rfl
  tab := ⟨List.Pairwise.nil, rfl, rfl, .inl rfl, fun x hx => (by cases hx), fun i h j hi => (by simp at hi)⟩
  one := List.nodup_nil
  key := fun p hp => by cases hp
  ord := by
    show _ ∨ (!w.params.followText "set-order") = true
    cases w.params.followText "set-order"
    · exact .inr rfl
    · exact .inl rfl
  gap := by show 0 * 5 < 7 * 3; decide
  few := by show 0 < 64; decide
end
end RF
set_option Elab.async false
set_option linter.all false
set_option maxRecDepth 100000
set_option maxHeartbeats 1000000
namespace RF
open PySem PySem.Spec L2
open PyProof.Rows hiding St
mutual
def tupD : D → Bool
  | .tup l => tupDs l
  | .non => true
  | .bl _ => true
  | .int _ => true
  | .str _ => true
  | _ => false
def tupDs : List D → Bool
  | [] => true
  | d :: r => tupD d && tupDs r
end
section
variable {P : Program} {w : World} {K : PySem.W.Frag} {F G G' G2 H H' : Hp} {Pn : List (Nat × Addr)} {O : List Nat} {ρ : Env} {σ : St}
def withT (G G2 : Hp) : Hp := fun b => match G b with
  | some o => some o
  | none => match G2 b with
    | some (.tup vs) => some (.tup vs)
    | _ => none
theorem withT_tup (s : Same G G2) {b : Addr} {vs : List V} (h : G2 b = some (.tup vs)) : withT G G2 b = some (.tup vs) := by
  unfold withT
  cases hg : G b with
  | some u => have := s _ _ hg; rw [h] at this; cases this; rfl
  | none => rw [h]
mutual
theorem rep_tupD (s : Same G G2) : ∀ (d : D) (v : V), tupD d = true → Rep P w K G2 d v → Rep P w K (withT G G2) d v
  | .tup l, v, h, r => by
    obtain ⟨a, vs, e, g, q⟩ := r
    exact ⟨a, vs, e, withT_tup s g, reps_tupD s l vs h q⟩
  | .non, v, _, r => r
  | .bl _, v, _, r => r
  | .int _, v, _, r => r
  | .str _, v, _, r => r
  | .lst _, _, h, _ => by cases h
  | .dct _, _, h, _ => by cases h
  | .ins _ _, _, h, _ => by cases h
  | .scr _, _, h, _ => by cases h
  | .mk _ _ _, _, h, _ => by cases h
theorem reps_tupD (s : Same G G2) : ∀ (l : List D) (vs : List V), tupDs l = true → Reps P w K G2 l vs → Reps P w K (withT G G2) l vs
  | [], vs, _, r => r
  | d :: l, vs, h, r => by
    obtain ⟨v, vr, e, r1, r2⟩ := r
    obtain ⟨h1, h2⟩ := Bool.and_eq_true_iff.mp (show (tupD d && tupDs l) = true from h)
    exact ⟨v, vr, e, rep_tupD s d v h1 r1, reps_tupD s l vr h2 r2⟩
end
end
section
variable {X : Cx} {O : List Nat} {e : Expr} {f : FX}
end
section
variable {X : Cx} {O is : List Nat} {c : Ct} {fb : FS} {body : List Stmt} {pos vpos : Pos}
theorem SR.pinned {P : Program} {w : World} {K : PySem.W.Frag} {F G H : Hp} {Pn : List (Nat × Addr)} {ρ : Env} {σ : St} (S : SR P w K F Pn O G ρ σ H) {i : Nat} {a : Addr} (hi : i ∈ O) (h : σ[i]? = some (some (.ref a))) : SR P w K F ((i, a) :: Pn) O G ρ σ H :=
  ⟨S.sub, S.frm, S.len, S.val, S.own, fun p hp => by
    rcases List.mem_cons.mp hp with e | hp
    · rw [e]; exact ⟨hi, h⟩
    · exact S.pin p hp⟩
end
section
variable {X : Cx} {O : List Nat} {e : Expr} {es : List Expr} {kws : List Keyword} {fl fk : FL} {k j m np : Nat} {ks : List Str} {is : List Nat} {dd : List D} {Fn : List D → Option D} {x : Str} {p pos : Pos}
end
end RF
set_option Elab.async false
set_option linter.all false
set_option maxRecDepth 100000
namespace R43
open PySem PySem.Spec L2 RF
open PyProof.Rows hiding St
def b__law_purse : FS := (fSeq (fSet 2 (up (eCall D.sum (eCons (eSlice (vr 0) (ePart (vr 1)) (ePart (e2 D.add (vr 1) (cn (.int 1))))) eNil))))
  (fRt (xCall mkLst (up (eCons (e2 D.mod (eCall D.max2 (eCons (e2 D.sub (vr 2) (e2 D.pow (cn (.int 10)) (cn (.int 18)))) (eCons (cn (.int 0)) eNil))) (e2 D.pow (e2 D.pow (cn (.int 10)) (cn (.int 60))) (cn (.int 8)))) (eCons (e2 D.mod (vr 2) (cn (.int 2147483629))) (eCons (cn (.int 0)) (eCons (vr 1) eNil))))))))
def F__law_purse : List D → Option D := run0 true 3 2 b__law_purse
def F__law_purses : List D → Option (List D) := runWl 3 2 (xLcW [2] (up (eLs rng1 (eCons (eCall D.max2 (eCons (cn (.int 1)) (eCons (eCall D.min2 (eCons (vr 1) (eCons (eCall (one D.len) (eCons (vr 0) eNil)) eNil))) eNil))) eNil))) (gNm 2) (xCall F__law_purse (up (eCons (vr 0) (eCons (vr 2) eNil)))))
def b_is_name : FS := (fSeq (fIf (up (eOrT (eNotT (eTru (e1 (D.isInst "str") (vr 0)))) (eNotT (eB (eChain D.le D.le (cn (.int 1)) (eCall (one D.len) (eCons (vr 0) eNil)) (cn (.int 10))))))) (fRt (up (cn (.bl false))))
  fNx)
  (fRt (o2 D.eqY (xLc [1] (up (eWl (vr 0))) (gNm 1) (up (eB (e2 D.notIn (vr 1) (cn (.str "abcdefghijklmnopqrstuvwxyz"))))) (up (vr 1))) (up (eCall mkLst eNil)))))
def F_is_name : List D → Option D := run0 false 2 1 b_is_name
def b_check_columns : FS := (fSeq (fIf (xOrT (up (eNotT (eTru (e1 (D.isInst "list") (vr 0))))) (xOrT (up (eB (e2 D.eqY (vr 0) (eCall mkLst eNil)))) (xB (o2 D.neY (xLc [1] (up (eWl (vr 0))) (gNm 1) (up (eNotT (eTru (eCall F_is_name (eCons (vr 1) eNil))))) (up (vr 1))) (up (eCall mkLst eNil)))))) fNo
  fNx)
  (fSeq (fIf (up (eB (e2 D.neY (e1 lenSet (vr 0)) (eCall (one D.len) (eCons (vr 0) eNil))))) fNo
  fNx)
  fNx))
def F_check_columns : List D → Option D := run0 false 2 1 b_check_columns
def b_is_whole : FS := (fRt (up (eAnd (e1 (D.isInst "int") (vr 0)) (eNot (e1 (D.isInst "bool") (vr 0))))))
def F_is_whole : List D → Option D := run0 false 1 1 b_is_whole
def b_are_settings : FS := (fSeq (fIf (xOrT (up (eNotT (eTru (e1 (D.isInst "dict") (vr 0))))) (xB (o2 D.eqY (up (vr 0)) (up (cn (.dct [])))))) (fRt (up (cn (.bl false))))
  fNx)
  (fSeq (fFor (up (eWl (vr 0))) (gNm 2) (fSeq (fIf (up (eOrT (eNotT (eTru (eCall F_is_name (eCons (vr 2) eNil)))) (eB (e2 D.notIn (vr 2) (vr 1))))) (fRt (up (cn (.bl false))))
  fNx)
  (fSeq (fSet 3 (up (e2 D.item (vr 0) (vr 2))))
  (fSeq (fIf (up (eOrT (eNotT (eTru (e1 (D.isInst "tuple") (vr 3)))) (eOrT (eB (e2 D.neY (eCall (one D.len) (eCons (vr 3) eNil)) (cn (.int 2)))) (eNotT (eTru (eCall F_is_whole (eCons (e2 D.item (vr 3) (cn (.int 1))) eNil))))))) (fRt (up (cn (.bl false))))
  fNx)
  (fSeq (fIf (up (eAndT (eB (e2 D.isnt2 (e2 D.item (vr 3) (cn (.int 0))) (cn .non))) (eOrT (eNotT (eTru (eCall F_is_name (eCons (e2 D.item (vr 3) (cn (.int 0))) eNil)))) (eB (e2 D.notIn (e2 D.item (vr 3) (cn (.int 0))) (vr 1)))))) (fRt (up (cn (.bl false))))
  fNx)
  fNx)))))
  (fRt (up (cn (.bl true))))))
def F_are_settings : List D → Option D := run0 false 4 2 b_are_settings
def b_is_digits : FS := (fSeq (fIf (xOrT (up (eB (e2 D.eqY (vr 0) (cn (.str ""))))) (xB (o2 D.neY (xLc [1] (up (eWl (vr 0))) (gNm 1) (up (eB (e2 D.notIn (vr 1) (cn (.str "0123456789"))))) (up (vr 1))) (up (eCall mkLst eNil))))) (fRt (up (cn (.bl false))))
  fNx)
  (fRt (up (eOr (e2 D.eqY (vr 0) (cn (.str "0"))) (e2 D.neY (e2 D.item (vr 0) (cn (.int 0))) (cn (.str "0")))))))
def F_is_digits : List D → Option D := run0 false 2 1 b_is_digits
def b_is_word : FS := (fSeq (fIf (up (eNotT (eTru (e1 (D.isInst "str") (vr 0))))) (fRt (up (cn (.bl false))))
  fNx)
  (fSeq (fSet 1 (xM D.split (up (vr 0)) (up (eCons (cn (.str ".")) eNil))))
  (fSeq (fIf (up (eB (e2 D.eqY (eCall (one D.len) (eCons (vr 1) eNil)) (cn (.int 1))))) (fRt (up (eCall F_is_name (eCons (vr 0) eNil))))
  fNx)
  (fRt (up (eAnd (e2 D.eqY (eCall (one D.len) (eCons (vr 1) eNil)) (cn (.int 2))) (eAnd (eCall F_is_name (eCons (e2 D.item (vr 1) (cn (.int 1))) eNil)) (eCall F_is_digits (eCons (e2 D.item (vr 1) (cn (.int 0))) eNil)))))))))
def F_is_word : List D → Option D := run0 false 2 1 b_is_word
def b_is_test : FS := (fSeq (fIf (up (eOrT (eNotT (eTru (e1 (D.isInst "tuple") (vr 0)))) (eOrT (eB (e2 D.neY (eCall (one D.len) (eCons (vr 0) eNil)) (cn (.int 3)))) (eNotT (eTru (eCall F_is_whole (eCons (e2 D.item (vr 0) (cn (.int 2))) eNil))))))) (fRt (up (cn (.bl false))))
  fNx)
  (fRt (o2 D.eqY (xLc [1] (up (eWl (eSlice (vr 0) eNoPart (ePart (cn (.int 2)))))) (gNm 1) (up (eAndT (eB (e2 D.isnt2 (vr 1) (cn .non))) (eNotT (eTru (eCall F_is_word (eCons (vr 1) eNil)))))) (up (vr 1))) (up (eCall mkLst eNil)))))
def F_is_test : List D → Option D := run0 false 2 1 b_is_test
def b_are_tests : FS := (fRt (xAnd (up (e1 (D.isInst "list") (vr 0))) (o2 D.eqY (xLc [1] (up (eWl (vr 0))) (gNm 1) (up (eNotT (eTru (eCall F_is_test (eCons (vr 1) eNil))))) (up (vr 1))) (up (eCall mkLst eNil)))))
def F_are_tests : List D → Option D := run0 false 2 1 b_are_tests
def b_are_tests_over : FS := (fSeq (fIf (up (eNotT (eTru (eCall F_are_tests (eCons (vr 0) eNil))))) (fRt (up (cn (.bl false))))
  fNx)
  (fRt (o2 D.eqY (xLc2 [2, 3] [3] (up (eWl (vr 0))) (gNm 2) (up yesT) (up (eWl (eSlice (vr 2) eNoPart (ePart (cn (.int 2)))))) (gNm 3) (up (eAndT (eB (e2 D.isnt2 (vr 3) (cn .non))) (eB (e2 D.notIn (vr 3) (vr 1))))) (up (vr 3))) (up (eCall mkLst eNil)))))
def F_are_tests_over : List D → Option D := run0 false 4 2 b_are_tests_over
def b_is_statement : FS := (fSeq (fIf (up (eOrT (eNotT (eTru (e1 (D.isInst "tuple") (vr 1)))) (eOrT (eB (e2 D.lt (eCall (one D.len) (eCons (vr 1) eNil)) (cn (.int 2)))) (eNotT (eTru (e1 (D.isInst "str") (e2 D.item (vr 1) (cn (.int 0))))))))) (fRt (up (cn (.bl false))))
  fNx)
  (fSeq (fIf (xOrT (xB (o2 D.neY (up (eCall (one D.len) (eCons (vr 1) eNil))) (xM D.get2 (xDct (pCons (up (cn (.str "strike"))) (up (cn (.int 2))) (pCons (up (cn (.str "change"))) (up (cn (.int 3))) pNil))) (up (eCons (e2 D.item (vr 1) (cn (.int 0))) (eCons (cn (.int 0)) eNil)))))) (up (eNotT (eTru (eCall F_are_tests_over (eCons (e2 D.item (vr 1) (cn (.int 1))) (eCons (vr 0) eNil))))))) (fRt (up (cn (.bl false))))
  fNx)
  (fRt (up (eOr (e2 D.eqY (eCall (one D.len) (eCons (vr 1) eNil)) (cn (.int 2))) (eCall F_are_settings (eCons (e2 D.item (vr 1) (cn (.int 2))) (eCons (vr 0) eNil))))))))
def F_is_statement : List D → Option D := run0 false 2 2 b_is_statement
def b_check_steps : FS := (fSeq (fIf (xOrT (up (eNotT (eTru (e1 (D.isInst "list") (vr 1))))) (xB (o2 D.neY (xLc [2] (up (eWl (vr 1))) (gNm 2) (up (eNotT (eTru (eCall F_is_statement (eCons (vr 0) (eCons (vr 2) eNil)))))) (up (vr 2))) (up (eCall mkLst eNil))))) fNo
  fNx)
  fNx)
def F_check_steps : List D → Option D := run0 false 3 2 b_check_steps
def b_check_rule : FS := (fSeq (fIf (up (eNotT (eTru (eCall F_are_tests_over (eCons (vr 1) (eCons (vr 0) eNil)))))) fNo
  fNx)
  fNx)
def F_check_rule : List D → Option D := run0 false 2 2 b_check_rule
def b_rule_of : FS := (fSeq (fIf (up (eB (e2 D.is2 (vr 1) (cn .non)))) (fRt (up (eCall mkLst eNil)))
  fNx)
  (fSeq (fDo (up (eCall F_check_rule (eCons (vr 0) (eCons (vr 1) eNil)))))
  (fRt (up (vr 1)))))
def F_rule_of : List D → Option D := run0 false 2 2 b_rule_of
def b_check_scripts : FS := (fSeq (fDo (up (eCall F_check_columns (eCons (vr 0) eNil))))
  (fSeq (fDo (up (eCall F_check_steps (eCons (vr 0) (eCons (vr 1) eNil)))))
  (fSeq (fDo (up (eCall F_check_steps (eCons (vr 0) (eCons (vr 2) eNil)))))
  (fRt (up (eCall F_rule_of (eCons (vr 0) (eCons (vr 3) eNil))))))))
def F_check_scripts : List D → Option D := run0 false 4 4 b_check_scripts
def b_words_of : FS := (fRt (o1 sortS (xSc2 [1, 2] [2] (up (eWl (vr 0))) (gNm 1) (up yesT) (up (eWl (eSlice (vr 1) eNoPart (ePart (cn (.int 2)))))) (gNm 2) (up (eB (e2 D.isnt2 (vr 2) (cn .non)))) (up (vr 2)))))
def F_words_of : List D → Option D := run0 false 3 1 b_words_of
def b_relaxed : FS := (fSeq (fSet 1 (up (e2 D.add (eCall F_words_of (eCons (vr 0) eNil)) (eCall mkLst (eCons (cn .non) eNil)))))
  (fSeq (fBag [3, 4, 5] (bCons true (xDc [7] (up (eWl (vr 1))) (gNm 7) (up yesT) (up (vr 7)) (up (cn (.int 0)))) (bCons true (up (cn (.dct []))) (bCons false (up (eCall mkLst eNil)) bNil))))
  (fSeq (fFor (up (eLs rng1 (eCons (e2 D.add (eCall (one D.len) (eCons (vr 1) eNil)) (cn (.int 1))) eNil))) (gNm 2) (fSeq (fSet 5 (up (eCall mkLst eNil)))
  (fSeq (fFor (up (eLs enumL (eCons (vr 0) eNil))) (gTp 2 (gCn (gNm 6) (gCn (gTp 3 (gCn (gNm 8) (gCn (gNm 9) (gCn (gNm 10) gNl)))) gNl))) (fSeq (fIf (up (eB (e2 D.lt (e2 D.add (ePk (e2 D.item (vr 3) (vr 9))) (vr 10)) (ePk (e2 D.item (vr 3) (vr 8)))))) (fSeq (fAsg (up (eCall mkTup (eCons (e2 D.add (ePk (e2 D.item (vr 3) (vr 9))) (vr 10)) (eCons (vr 6) (eCons (eCall mkLst (eCons (vr 8) eNil)) eNil))))) (gTp 3 (gCn (gPut 3 (up (vr 8))) (gCn (gPut 4 (up (vr 8))) (gCn (gNm 5) gNl)))))
  fNx)
  fNx)
  fNx))
  (fSeq (fIf (up (eB (e2 D.eqY (vr 5) (eCall mkLst eNil)))) fBk
  fNx)
  fNx))))
  (fRt (up (eCall mkTup (eCons (vr 3) (eCons (vr 4) (eCons (vr 5) eNil)))))))))
def F_relaxed : List D → Option D := run0 false 11 1 b_relaxed
def b_solution_of : FS := (fSeq (fAsg (up (eCall F_relaxed (eCons (vr 0) eNil))) (gTp 3 (gCn (gNm 1) (gCn (gNm 2) (gCn (gNm 3) gNl)))))
  (fSeq (fIf (up (eB (e2 D.neY (vr 3) (eCall mkLst eNil)))) (fRt (up (cn .non)))
  fNx)
  (fRt (xDc [4] (up (eWl (eCall F_words_of (eCons (vr 0) eNil)))) (gNm 4) (up yesT) (up (vr 4)) (up (e2 D.sub (e2 D.item (vr 1) (vr 4)) (e2 D.item (vr 1) (cn .non))))))))
def F_solution_of : List D → Option D := run0 false 5 1 b_solution_of
def b_is_open : FS := (fRt (up (e2 D.isnt2 (eCall F_solution_of (eCons (e1 (D.fldC ["Way"] "tests") (vr 0)) eNil)) (cn .non))))
def F_is_open : List D → Option D := run0 false 1 1 b_is_open
def b_settled : FS := (fSeq (fSet 2 (xCall D.dictOf (up (eCons (vr 0) eNil))))
  (fSeq (fFor (up (eWl (vr 1))) (gNm 3) (fSeq (fAsg (up (e2 D.item (vr 1) (vr 3))) (gTp 2 (gCn (gNm 4) (gCn (gNm 5) gNl))))
  (fSeq (fAsg (up (eIf (eB (e2 D.is2 (vr 4) (cn .non))) (eCall mkTup (eCons (cn .non) (eCons (cn (.int 0)) eNil))) (e2 D.item (vr 0) (vr 4)))) (gTp 2 (gCn (gNm 6) (gCn (gNm 7) gNl))))
  (fSeq (fPut 2 (up (vr 3)) (up (eCall mkTup (eCons (vr 6) (eCons (e2 D.add (vr 7) (vr 5)) eNil)))))
  fNx))))
  (fRt (up (vr 2)))))
def F_settled : List D → Option D := run0 false 8 2 b_settled
def b_seen_by : FS := (fSeq (fBag [2, 3] (bCons true (xCall mkLst (up eNil)) (bCons false (up (e2 D.item (vr 1) (cn (.int 2)))) bNil)))
  (fSeq (fFor (xLs zipT (up (eCons (eCall mkTup (eCons (e1 D.neg (cn (.int 1))) (eCons (cn (.int 1)) eNil))) (eCons (eSlice (vr 1) eNoPart (ePart (cn (.int 2)))) eNil)))) (gTp 2 (gCn (gNm 4) (gCn (gNm 5) gNl))) (fSeq (fAsg (up (eIf (eB (e2 D.is2 (vr 5) (cn .non))) (eCall mkTup (eCons (cn .non) (eCons (cn (.int 0)) eNil))) (e2 D.item (vr 0) (vr 5)))) (gTp 2 (gCn (gNm 6) (gCn (gNm 7) gNl))))
  (fSeq (fPush 2 (up (vr 6)))
  (fSeq (fSet 3 (up (e2 D.add (vr 3) (e2 D.mul (vr 4) (vr 7)))))
  fNx))))
  (fRt (up (eCall mkTup (eCons (e2 D.item (vr 2) (cn (.int 0))) (eCons (e2 D.item (vr 2) (cn (.int 1))) (eCons (vr 3) eNil))))))))
def F_seen_by : List D → Option D := run0 false 8 2 b_seen_by
def b_against : FS := (fRt (up (eCall mkTup (eCons (e2 D.item (vr 0) (cn (.int 1))) (eCons (e2 D.item (vr 0) (cn (.int 0))) (eCons (e2 D.sub (e1 D.neg (cn (.int 1))) (e2 D.item (vr 0) (cn (.int 2)))) eNil))))))
def F_against : List D → Option D := run0 false 1 1 b_against
def b_ways_on : FS := (fSeq (fIf (up (eB (e2 D.is2 (e1 (D.fldC ["Way"] "outcome") (vr 0)) (cn .non)))) (fRt (up (eCall mkLst (eCons (vr 0) eNil))))
  fNx)
  (fSeq (fBag [4, 5] (bCons false (xLc [7] (up (eWl (e2 D.item (vr 2) (cn (.int 1))))) (gNm 7) (up yesT) (up (eCall F_seen_by (eCons (e1 (D.fldC ["Way"] "outcome") (vr 0)) (eCons (vr 7) eNil))))) (bCons true (xCall mkLst (up eNil)) bNil)))
  (fSeq (fFor (up (eLs enumL (eCons (vr 4) eNil))) (gTp 2 (gCn (gNm 6) (gCn (gNm 7) gNl))) (fSeq (fPush 5 (xCall (mkIns "Way" ["tests", "outcome", "touched"]) (up (eCons (e2 D.add (e2 D.add (e1 (D.fldC ["Way"] "tests") (vr 0)) (eSlice (vr 4) eNoPart (ePart (vr 6)))) (eCall mkLst (eCons (eCall F_against (eCons (vr 7) eNil)) eNil))) (eCons (e1 (D.fldC ["Way"] "outcome") (vr 0)) (eCons (e1 (D.fldC ["Way"] "touched") (vr 0)) eNil))))))
  fNx))
  (fSeq (fSet 3 (up (eIf (eB (e2 D.eqY (e2 D.item (vr 2) (cn (.int 0))) (cn (.str "strike")))) (cn .non) (eCall F_settled (eCons (e1 (D.fldC ["Way"] "outcome") (vr 0)) (eCons (e2 D.item (vr 2) (cn (.int 2))) eNil))))))
  (fRt (xLc [8] (xWl (o2 D.add (up (vr 5)) (xCall mkLst (xCons (xCall (mkIns "Way" ["tests", "outcome", "touched"]) (up (eCons (e2 D.add (e1 (D.fldC ["Way"] "tests") (vr 0)) (vr 4)) (eCons (vr 3) (eCons (e2 D.add (e1 (D.fldC ["Way"] "touched") (vr 0)) (eCall mkLst (eCons (vr 1) eNil))) eNil))))) xNil)))) (gNm 8) (up (eTru (eCall F_is_open (eCons (vr 8) eNil)))) (up (vr 8))))))))
def F_ways_on : List D → Option D := run0 false 9 3 b_ways_on
def b_ways_of : FS := (fSeq (fSet 3 (xLc [6] (xWl (xCall mkLst (xCons (xCall (mkIns "Way" ["tests", "outcome", "touched"]) (xCons (xCall D.list (up (eCons (vr 2) eNil))) (xCons (xDc [8] (up (eWl (vr 0))) (gNm 8) (up yesT) (up (vr 8)) (up (eCall mkTup (eCons (vr 8) (eCons (cn (.int 0)) eNil))))) (xCons (up (eCall mkLst eNil)) xNil)))) xNil))) (gNm 6) (up (eTru (eCall F_is_open (eCons (vr 6) eNil)))) (up (vr 6))))
  (fSeq (fFor (up (eLs enumL (eCons (vr 1) eNil))) (gTp 2 (gCn (gNm 4) (gCn (gNm 5) gNl))) (fSeq (fSet 3 (xLc2 [6, 7] [7] (up (eWl (vr 3))) (gNm 6) (up yesT) (up (eWl (eCall F_ways_on (eCons (vr 6) (eCons (vr 4) (eCons (vr 5) eNil)))))) (gNm 7) (up yesT) (up (vr 7))))
  fNx))
  (fRt (up (vr 3)))))
def F_ways_of : List D → Option D := run0 false 9 3 b_ways_of
def b_unlike : FS := (fSeq (fIf (up (eOrT (eB (e2 D.is2 (vr 0) (cn .non))) (eB (e2 D.is2 (vr 1) (cn .non))))) (fRt (up (eIf (eB (e2 D.eqY (vr 0) (vr 1))) (eCall mkLst eNil) (eCall mkLst (eCons (eCall mkLst eNil) eNil)))))
  fNx)
  (fSeq (fSet 2 (up (eCall mkLst eNil)))
  (fSeq (fFor (up (eWl (vr 0))) (gNm 3) (fSeq (fAsg (up (e2 D.item (vr 0) (vr 3))) (gTp 2 (gCn (gNm 4) (gCn (gNm 5) gNl))))
  (fSeq (fAsg (up (e2 D.item (vr 1) (vr 3))) (gTp 2 (gCn (gNm 6) (gCn (gNm 7) gNl))))
  (fSeq (fSet 2 (up (e2 D.add (vr 2) (eCall mkLst (eCons (eCall mkLst (eCons (eCall mkTup (eCons (vr 4) (eCons (vr 6) (eCons (e2 D.sub (e2 D.sub (vr 7) (vr 5)) (cn (.int 1))) eNil)))) eNil)) (eCons (eCall mkLst (eCons (eCall mkTup (eCons (vr 6) (eCons (vr 4) (eCons (e2 D.sub (e2 D.sub (vr 5) (vr 7)) (cn (.int 1))) eNil)))) eNil)) eNil))))))
  fNx))))
  (fRt (up (vr 2))))))
def F_unlike : List D → Option D := run0 false 8 2 b_unlike
def b_apart_of : FS := (fSeq (fSet 4 (up (eCall mkLst eNil)))
  (fSeq (fFor (up (eWl (eCall F_ways_of (eCons (vr 0) (eCons (vr 1) (eCons (vr 3) eNil)))))) (gNm 5) (fSeq (fFor (up (eWl (eCall F_ways_of (eCons (vr 0) (eCons (vr 2) (eCons (e1 (D.fldC ["Way"] "tests") (vr 5)) eNil)))))) (gNm 6) (fSeq (fSet 4 (o2 D.add (up (vr 4)) (xLc [7] (up (eWl (eCall F_unlike (eCons (e1 (D.fldC ["Way"] "outcome") (vr 5)) (eCons (e1 (D.fldC ["Way"] "outcome") (vr 6)) eNil))))) (gNm 7) (up yesT) (up (e2 D.add (e1 (D.fldC ["Way"] "tests") (vr 6)) (vr 7))))))
  fNx))
  fNx))
  (fRt (up (vr 4)))))
def F_apart_of : List D → Option D := run0 false 8 4 b_apart_of
def b_row_of : FS := (fSeq (fSet 2 (up (eCall F_solution_of (eCons (vr 1) eNil))))
  (fRt (xIf (up (eB (e2 D.is2 (vr 2) (cn .non)))) (up (cn .non)) (xLc [3] (up (eWl (vr 0))) (gNm 3) (up yesT) (up (eM D.get2 (vr 2) (eCons (vr 3) (eCons (cn (.int 0)) eNil))))))))
def F_row_of : List D → Option D := run0 false 4 2 b_row_of
def b_parting_of : FS := (fSeq (fFor (up (eWl (eCall F_apart_of (eCons (vr 0) (eCons (vr 1) (eCons (vr 2) (eCons (vr 3) eNil))))))) (gNm 4) (fSeq (fSet 5 (up (eCall F_row_of (eCons (vr 0) (eCons (vr 4) eNil)))))
  (fSeq (fIf (up (eB (e2 D.isnt2 (vr 5) (cn .non)))) (fRt (up (vr 5)))
  fNx)
  fNx)))
  (fRt (up (cn .non))))
def F_parting_of : List D → Option D := run0 false 6 4 b_parting_of
def b_parting : FS := (fSeq (fSet 3 (up (eCall F_check_scripts (eCons (vr 0) (eCons (vr 1) (eCons (vr 2) (eCons (vr 3) eNil)))))))
  (fRt (up (eCall F_parting_of (eCons (vr 0) (eCons (vr 1) (eCons (vr 2) (eCons (vr 3) eNil))))))))
def F_parting : List D → Option D := run0 false 4 4 b_parting
def b_ring_of : FS := (fSeq (fAsg (up (eCall F_relaxed (eCons (vr 0) eNil))) (gTp 3 (gCn (gNm 3) (gCn (gNm 4) (gCn (gNm 5) gNl)))))
  (fSeq (fIf (up (eB (e2 D.eqY (vr 5) (eCall mkLst eNil)))) (fRt (up (cn .non)))
  fNx)
  (fSeq (fBag [6, 7] (bCons false (up (e2 D.item (vr 5) (cn (.int 0)))) (bCons true (xCall mkLst (up eNil)) bNil)))
  (fSeq (fFor (up (eWl (vr 3))) (gNm 1) (fSeq (fSet 6 (up (e2 D.item (e2 D.item (vr 0) (e2 D.item (vr 4) (vr 6))) (cn (.int 1)))))
  fNx))
  (fSeq (fSet 2 (up (vr 6)))
  (fSeq (whGo (up (eOrT (eB (e2 D.eqY (vr 7) (eCall mkLst eNil))) (eB (e2 D.neY (vr 6) (vr 2))))) (fSeq (fPush 7 (up (e2 D.item (vr 4) (vr 6))))
  (fSeq (fSet 6 (up (e2 D.item (e2 D.item (vr 0) (e2 D.item (vr 4) (vr 6))) (cn (.int 1)))))
  fNx)) 100)
  (fRt (up (vr 7)))))))))
def F_ring_of : List D → Option D := run0 false 8 1 b_ring_of
def b_best_of : FS := (fSeq (fIf (up (eB (e2 D.isnt2 (eCall F_ring_of (eCons (vr 0) eNil)) (cn .non)))) (fRt (up (cn .non)))
  fNx)
  (fSeq (fBag [2, 3] (bCons false (up (e2 D.add (eCall F_words_of (eCons (vr 0) eNil)) (eCall mkLst (eCons (cn .non) eNil)))) (bCons true (up (cn (.dct []))) bNil)))
  (fSeq (fFor (up (eWl (vr 0))) (gTp 3 (gCn (gNm 4) (gCn (gNm 5) (gCn (gNm 6) gNl)))) (fSeq (fPut 3 (up (eCall mkTup (eCons (vr 4) (eCons (vr 5) eNil)))) (up (eCall D.min2 (eCons (vr 6) (eCons (ePk (eM D.get2 (vr 3) (eCons (eCall mkTup (eCons (vr 4) (eCons (vr 5) eNil))) (eCons (vr 6) eNil)))) eNil)))))
  fNx))
  (fSeq (fFor (up (eWl (vr 2))) (gNm 1) (fSeq (fFor (up (eWl (vr 2))) (gNm 4) (fSeq (fIf (up (eB (e2 D.isIn (eCall mkTup (eCons (vr 4) (eCons (vr 1) eNil))) (vr 3)))) (fSeq (fFor (up (eWl (vr 2))) (gNm 5) (fSeq (fIf (up (eB (e2 D.isIn (eCall mkTup (eCons (vr 1) (eCons (vr 5) eNil))) (vr 3)))) (fSeq (fSet 6 (up (e2 D.add (ePk (e2 D.item (vr 3) (eCall mkTup (eCons (vr 4) (eCons (vr 1) eNil))))) (ePk (e2 D.item (vr 3) (eCall mkTup (eCons (vr 1) (eCons (vr 5) eNil))))))))
  (fSeq (fPut 3 (up (eCall mkTup (eCons (vr 4) (eCons (vr 5) eNil)))) (up (eCall D.min2 (eCons (vr 6) (eCons (ePk (eM D.get2 (vr 3) (eCons (eCall mkTup (eCons (vr 4) (eCons (vr 5) eNil))) (eCons (vr 6) eNil)))) eNil)))))
  fNx))
  fNx)
  fNx))
  fNx)
  fNx)
  fNx))
  fNx))
  (fRt (up (vr 3)))))))
def F_best_of : List D → Option D := run0 false 7 1 b_best_of
def b_by_words : FS := (fRt (up (eCall mkTup (eCons (eOr (e2 D.item (vr 0) (cn (.int 0))) (cn (.str ""))) (eCons (eOr (e2 D.item (vr 0) (cn (.int 1))) (cn (.str ""))) (eCons (e2 D.item (vr 0) (cn (.int 2))) eNil))))))
def F_by_words : List D → Option D := run0 false 1 1 b_by_words
def b_closure_of : FS := (fSeq (fSet 1 (up (eCall F_best_of (eCons (vr 0) eNil))))
  (fSeq (fIf (up (eB (e2 D.is2 (vr 1) (cn .non)))) (fRt (up (cn .non)))
  fNx)
  (fRt (o1 (sortBy F_by_words) (xLc [2, 3] (up (eWl (vr 1))) (gTp 2 (gCn (gNm 2) (gCn (gNm 3) gNl))) (up (eB (e2 D.neY (vr 2) (vr 3)))) (up (eCall mkTup (eCons (vr 2) (eCons (vr 3) (eCons (e2 D.item (vr 1) (eCall mkTup (eCons (vr 2) (eCons (vr 3) eNil)))) eNil))))))))))
def F_closure_of : List D → Option D := run0 false 4 1 b_closure_of
def b_lists_of : FS := (fSeq (fSet 1 (xCall mkLst (up eNil)))
  (fSeq (fFor (up (eWl (vr 0))) (gNm 2) (fSeq (fSet 3 (up (eCall F_closure_of (eCons (vr 2) eNil))))
  (fSeq (fIf (up (eAndT (eB (e2 D.isnt2 (vr 3) (cn .non))) (eB (e2 D.notIn (vr 3) (vr 1))))) (fSeq (fPush 1 (up (vr 3)))
  fNx)
  fNx)
  fNx)))
  (fRt (up (vr 1)))))
def F_lists_of : List D → Option D := run0 false 4 1 b_lists_of
def b_parted : FS := (fSeq (fSet 3 (up (eCall F_check_scripts (eCons (vr 0) (eCons (vr 1) (eCons (vr 2) (eCons (vr 3) eNil)))))))
  (fRt (up (eCall F_lists_of (eCons (eCall F_apart_of (eCons (vr 0) (eCons (vr 1) (eCons (vr 2) (eCons (vr 3) eNil))))) eNil)))))
def F_parted : List D → Option D := run0 false 4 4 b_parted
def b__law_mixed : FS := (fSeq (fSet 3 (up (e2 D.add (e2 D.mul (vr 0) (cn (.int 69069))) (e2 D.mul (e2 D.mul (cn (.int 104729)) (vr 1)) (vr 1)))))
  (fSeq (fSet 3 (up (e2 D.mod (e2 D.add (e2 D.add (vr 3) (e2 D.mul (cn (.int 7919)) (vr 2))) (vr 1)) (cn (.int 2147483647)))))
  (fSeq (fSet 3 (up (e2 D.mod (e2 D.add (e2 D.mul (vr 3) (vr 3)) (cn (.int 40503))) (cn (.int 2147483629)))))
  (fRt (up (e2 D.mod (e2 D.mul (vr 3) (cn (.int 48271))) (cn (.int 2147483587))))))))
def F__law_mixed : List D → Option D := run0 false 4 3 b__law_mixed
def b__law_draw : FS := (fSeq (fIf (up (eB (e2 D.gt (ePk (e2 D.item (vr 0) (cn (.int 0)))) (cn (.int 0))))) (fSeq (fSet 4 (up (e2 D.mod (ePk (e2 D.item (vr 0) (cn (.int 0)))) (vr 1))))
  (fSeq (fPut 0 (up (cn (.int 0))) (up (e2 D.fdiv (ePk (e2 D.item (vr 0) (cn (.int 0)))) (vr 1))))
  (fRt (up (vr 4)))))
  fNx)
  (fSeq (fSet 2 (up (cn (.int 0))))
  (fSeq (fFor (up (eLs rng1 (eCons (e2 D.add (cn (.int 1)) (e2 D.fdiv (e1 D.bits (vr 1)) (cn (.int 28)))) eNil))) (gNm 3) (fSeq (fPut 0 (up (cn (.int 2))) (up (e2 D.add (ePk (e2 D.item (vr 0) (cn (.int 2)))) (cn (.int 1)))))
  (fSeq (fSet 2 (up (e2 D.add (e2 D.mul (vr 2) (cn (.int 2147483587))) (eCall F__law_mixed (eCons (ePk (e2 D.item (vr 0) (cn (.int 1)))) (eCons (ePk (e2 D.item (vr 0) (cn (.int 2)))) (eCons (ePk (e2 D.item (vr 0) (cn (.int 3)))) eNil)))))))
  fNx)))
  (fRt (up (e2 D.mod (vr 2) (vr 1)))))))
def F__law_draw : D → List D → Option (D × D) := run1 false 5 2 b__law_draw
def b_law : FS := (fSeq (fFor (xLs F__law_purses (up (eCons (vr 0) (eCons (cn (.int 12)) eNil)))) (gNm 1) (fSeq (fSet 2 (xCall mkLst (xCons (xCall mkTup (xCons (up (cn (.str "change"))) (xCons (xCall mkLst (xCons (xCall mkTup (xCons (up (cn (.str "x"))) (xCons (up (cn .non)) (xCons (xCall1 1 F__law_draw (up (eCons (cn (.int 9)) eNil))) xNil)))) xNil)) (xCons (xDct (pCons (up (cn (.str "x"))) (up (eCall mkTup (eCons (cn (.str "x")) (eCons (cn (.int 1)) eNil)))) pNil)) xNil)))) xNil)))
  (fSeq (fBag [3, 4] (bCons false (xCall mkLst (xCons (xCall mkTup (xCons (up (cn (.str "strike"))) (xCons (xCall mkLst (xCons (xCall mkTup (xCons (up (cn .non)) (xCons (up (cn (.str "x"))) (xCons (o1 D.neg (xCall1 1 F__law_draw (up (eCons (cn (.int 9)) eNil)))) xNil)))) xNil)) xNil))) xNil)) (bCons false (xCall mkLst (xCons (xCall mkTup (xCons (up (cn (.str "x"))) (xCons (up (cn .non)) (xCons (xCall1 1 F__law_draw (up (eCons (cn (.int 9)) eNil))) xNil)))) xNil)) bNil)))
  (fSeq (fIf (xB (o2 D.neY (xCall (fun ds => F_parting ((selI [3, 2, 1, 0] 4) (ds ++ []))) (xCons (up (vr 4)) (xCons (up (vr 3)) (xCons (up (vr 2)) (xCons (up (eCall mkLst (eCons (cn (.str "x")) eNil))) xNil))))) (xCall (fun ds => F_parting ((selI [0, 1, 2, 3] 4) (ds ++ []))) (xApp (xCons (up (eCall mkLst (eCons (cn (.str "x")) eNil))) (xCons (up (vr 2)) (xCons (up (vr 3)) (xCons (up (vr 4)) xNil)))) xNil)))) (fRt (up (cn (.bl false))))
  fNx)
  (fSeq (fIf (xB (o2 D.neY (xCall (fun ds => F_parted ((selI [3, 2, 1, 0] 4) (ds ++ []))) (xCons (up (vr 4)) (xCons (up (vr 3)) (xCons (up (vr 2)) (xCons (up (eCall mkLst (eCons (cn (.str "x")) eNil))) xNil))))) (xCall (fun ds => F_parted ((selI [0, 1, 2, 3] 4) (ds ++ []))) (xApp (xCons (up (eCall mkLst (eCons (cn (.str "x")) eNil))) (xCons (up (vr 2)) (xCons (up (vr 3)) (xCons (up (vr 4)) xNil)))) xNil)))) (fRt (up (cn (.bl false))))
  fNx)
  (fSeq (fIf (xB (o2 D.neY (xCall (fun ds => F_parting ((selI [2, 1, 0, 3] 4) (ds ++ [.non]))) (xCons (up (vr 3)) (xCons (up (vr 2)) (xCons (up (eCall mkLst (eCons (cn (.str "x")) eNil))) xNil)))) (xCall (fun ds => F_parting ((selI [0, 1, 2, 3] 4) (ds ++ []))) (xApp (xCons (up (eCall mkLst (eCons (cn (.str "x")) eNil))) (xCons (up (vr 2)) (xCons (up (vr 3)) (xCons (up (eCall mkLst eNil)) xNil)))) xNil)))) (fRt (up (cn (.bl false))))
  fNx)
  (fSeq (fIf (xB (o2 D.neY (xCall (fun ds => F_parted ((selI [2, 1, 0, 3] 4) (ds ++ [.non]))) (xCons (up (vr 3)) (xCons (up (vr 2)) (xCons (up (eCall mkLst (eCons (cn (.str "x")) eNil))) xNil)))) (xCall (fun ds => F_parted ((selI [0, 1, 2, 3] 4) (ds ++ []))) (xApp (xCons (up (eCall mkLst (eCons (cn (.str "x")) eNil))) (xCons (up (vr 2)) (xCons (up (vr 3)) (xCons (up (eCall mkLst eNil)) xNil)))) xNil)))) (fRt (up (cn (.bl false))))
  fNx)
  fNx)))))))
  (fRt (up (cn (.bl true)))))
def F_law : List D → Option D := run0 false 5 1 b_law
end R43
set_option linter.all false
namespace Df
section
variable {α : Type} [DecidableEq α]
abbrev Tst (α : Type) := α × α × Int
def upd1 {β : Type} (f : α → β) (a : α) (b : β) : α → β := fun x => if x = a then b else f x
structure BF (α : Type) where
  least : α → Int
  back : α → Option Nat
  mv : Option α
def init : BF α := ⟨fun _ => 0, fun _ => none, none⟩
def rlx (s : BF α) (at_ : Nat) (t : Tst α) : BF α :=
  if s.least t.2.1 + t.2.2 < s.least t.1 then ⟨upd1 s.least t.1 (s.least t.2.1 + t.2.2), upd1 s.back t.1 (some at_), some t.1⟩ else s
def rnd (s : BF α) : List (Tst α) → Nat → BF α
  | [], _ => s
  | t :: r, i => rnd (rlx s i t) r (i + 1)
def go (ts : List (Tst α)) : Nat → BF α → BF α
  | 0, s => s
  | n + 1, s => let s' := rnd { s with mv := none } ts 0; if s'.mv = none then s' else go ts n s'
structure Inv (ts : List (Tst α)) (W : α → Prop) (k : Nat) (s : BF α) (r τ : α → Nat) (T : Nat) : Prop where
  edge : ∀ v i, s.back v = some i → ∃ u m, ts[i]? = some (v, u, m) ∧ ((τ u < τ v ∧ s.least v = s.least u + m) ∨ (τ v ≤ τ u ∧ s.least u + m < s.least v)) ∧ r v ≤ r u + 1
  rb : ∀ v, 0 < r v → (s.back v).isSome
  tb : ∀ v, τ v ≤ T
  rk : ∀ v, r v ≤ k
  inW : ∀ v i, s.back v = some i → W v
structure Mid (ts : List (Tst α)) (W : α → Prop) (k i : Nat) (s : BF α) (r τ : α → Nat) (T : Nat) : Prop extends Inv ts W k s r τ T where
  done : ∀ j t, j < i → ts[j]? = some t → r t.2.1 < k → s.least t.1 ≤ s.least t.2.1 + t.2.2
  left : ∀ j t, i ≤ j → ts[j]? = some t → r t.2.1 + 1 < k → s.least t.1 ≤ s.least t.2.1 + t.2.2
  still : s.mv = none → ∀ v, r v < k
  mvk : ∀ v, s.mv = some v → r v = k
theorem mid_step {ts : List (Tst α)} {W : α → Prop} {k i : Nat} {s : BF α} {r τ : α → Nat} {T : Nat} {t : Tst α} (hk : 0 < k) (hW : ∀ t ∈ ts, W t.1 ∧ W t.2.1) (M : Mid ts W k i s r τ T) (ht : ts[i]? = some t) :
    ∃ r' τ' T', Mid ts W k (i + 1) (rlx s i t) r' τ' T' := by
  obtain ⟨v, u, m⟩ := t
  unfold rlx
  by_cases h : s.least u + m < s.least v
  · rw [if_pos h]
    have hru : ¬ (r u + 1 < k) := fun hr => absurd (M.left i _ (Nat.le_refl _) ht hr) (by simp; omega)
    have hrv : r v ≤ k := M.rk v
    refine ⟨upd1 r v k, upd1 τ v (T + 1), T + 1, ⟨?_, ?_, ?_, ?_, ?_⟩, ?_, ?_, ?_, ?_⟩
    · intro x j hj
      by_cases hx : x = v
      · subst hx
        simp only [upd1, if_pos] at hj
        cases hj
        refine ⟨u, m, ht, ?_, ?_⟩
        · by_cases hu : u = x
          · subst hu
            right
            simp only [upd1, if_pos]
            exact ⟨Nat.le_refl _, by omega⟩
          · left
            simp only [upd1, if_pos, if_neg hu]
            have := M.tb u
            exact ⟨by omega, trivial⟩
        · by_cases hu : u = x
          · subst hu; simp [upd1]
          · simp only [upd1, if_pos, if_neg hu]; omega
      · simp only [upd1, if_neg hx] at hj
        obtain ⟨y, m', e1, e2, e3⟩ := M.edge x j hj
        refine ⟨y, m', e1, ?_, ?_⟩
        · by_cases hy : y = v
          · subst hy
            right
            simp only [upd1, if_pos, if_neg hx]
            have := M.tb x
            refine ⟨by omega, ?_⟩
            rcases e2 with ⟨_, e⟩ | ⟨_, e⟩ <;> omega
          · simp only [upd1, if_neg hx, if_neg hy]
            exact e2
        · by_cases hy : y = v
          · subst hy
            simp only [upd1, if_pos, if_neg hx]; omega
          · simp only [upd1, if_neg hx, if_neg hy]; exact e3
    · intro x hx
      by_cases e : x = v
      · simp [upd1, e]
      · simp only [upd1, if_neg e] at hx ⊢
        exact M.rb x hx
    · intro x
      by_cases e : x = v
      · simp [upd1, e]
      · simp only [upd1, if_neg e]
        have := M.tb x
        omega
    · intro x
      by_cases e : x = v
      · simp [upd1, e]
      · simp only [upd1, if_neg e]; exact M.rk x
    · intro x j hj
      by_cases e : x = v
      · subst e; exact (hW _ (List.mem_of_getElem? ht)).1
      · simp only [upd1, if_neg e] at hj; exact M.inW x j hj
    · intro j t hj hjt hr
      obtain ⟨a, b, c⟩ := t
      simp only at hr ⊢
      have hb : b ≠ v := fun e => by subst e; simp [upd1] at hr
      simp only [upd1, if_neg hb] at hr ⊢
      by_cases hji : j = i
      · subst hji
        rw [ht] at hjt
        cases hjt
        simp
      · have := M.done j _ (by omega) hjt hr
        simp only at this
        by_cases e : a = v
        · subst e; simp only [if_pos]; omega
        · simp only [if_neg e]; exact this
    · intro j t hj hjt hr
      obtain ⟨a, b, c⟩ := t
      simp only at hr ⊢
      have hb : b ≠ v := fun e => by subst e; simp only [upd1, if_pos] at hr; omega
      simp only [upd1, if_neg hb] at hr ⊢
      have := M.left j _ (by omega) hjt hr
      simp only at this
      by_cases e : a = v
      · subst e; simp only [if_pos]; omega
      · simp only [if_neg e]; exact this
    · intro e; cases e
    · intro x e; cases e; simp [upd1]
  · rw [if_neg h]
    refine ⟨r, τ, T, ⟨M.edge, M.rb, M.tb, M.rk, M.inW⟩, ?_, ?_, M.still, M.mvk⟩
    · intro j t hj hjt hr
      by_cases hji : j = i
      · subst hji
        rw [ht] at hjt
        cases hjt
        simpa using h
      · exact M.done j t (by omega) hjt hr
    · intro j t hj hjt hr
      exact M.left j t (by omega) hjt hr
theorem mid_rnd {ts : List (Tst α)} {W : α → Prop} {k : Nat} (hk : 0 < k) (hW : ∀ t ∈ ts, W t.1 ∧ W t.2.1) : ∀ (rest : List (Tst α)) (i : Nat) (s : BF α) (r τ : α → Nat) (T : Nat), rest = ts.drop i → Mid ts W k i s r τ T → ∃ r' τ' T', Mid ts W k ts.length (rnd s rest i) r' τ' T'
  | [], i, s, r, τ, T, e, M => by
    have hi : ts.length ≤ i := by
      have := congrArg List.length e
      simp at this
      omega
    refine ⟨r, τ, T, M.toInv, fun j t hj => M.done j t (by omega), fun j t hj hjt => ?_, M.still, M.mvk⟩
    rw [List.getElem?_eq_none (by omega)] at hjt
    cases hjt
  | t :: rest, i, s, r, τ, T, e, M => by
    have hlt : i < ts.length := by
      have := congrArg List.length e
      simp at this
      omega
    rw [List.drop_eq_getElem_cons hlt] at e
    injection e with e1 e2
    obtain ⟨r', τ', T', M'⟩ := mid_step hk hW M (t := t) (by rw [List.getElem?_eq_getElem hlt, e1])
    exact mid_rnd hk hW rest (i + 1) _ r' τ' T' e2 M'
theorem go_inv {ts : List (Tst α)} {W : α → Prop} (hW : ∀ t ∈ ts, W t.1 ∧ W t.2.1) : ∀ (n k : Nat) (s : BF α) (r τ : α → Nat) (T : Nat), 0 < n → Inv ts W k s r τ T → (∀ (j : Nat) (t : Tst α), ts[j]? = some t → r t.2.1 < k → s.least t.1 ≤ s.least t.2.1 + t.2.2) →
    ∃ k' r' τ' T', Mid ts W k' ts.length (go ts n s) r' τ' T' ∧ ((go ts n s).mv ≠ none → k' = k + n)
  | 0, _, _, _, _, _, h, _, _ => absurd h (by omega)
  | n + 1, k, s, r, τ, T, _, I, hd => by
    have M : Mid ts W (k + 1) 0 { s with mv := none } r τ T := by
      refine ⟨⟨I.edge, I.rb, I.tb, fun v => Nat.le_succ_of_le (I.rk v), I.inW⟩, fun j t hj => absurd hj (by omega), fun j t _ hjt hr => hd j t hjt (by omega), fun _ v => Nat.lt_succ_of_le (I.rk v), fun v e => nomatch e⟩
    obtain ⟨r', τ', T', M'⟩ := mid_rnd (Nat.succ_pos k) hW ts 0 _ r τ T rfl M
    unfold go
    simp only
    by_cases hm : (rnd { s with mv := none } ts 0).mv = none
    · rw [if_pos hm]
      exact ⟨_, r', τ', T', M', fun h => absurd hm h⟩
    · rw [if_neg hm]
      cases n with
      | zero => exact ⟨_, r', τ', T', M', fun _ => rfl⟩
      | succ n =>
        obtain ⟨k', r2, τ2, T2, M2, e⟩ := go_inv hW (n + 1) (k + 1) _ r' τ' T' (by omega) M'.toInv (fun j t hjt hr => by
          have hj : j < ts.length := (List.getElem?_eq_some_iff.mp hjt).1
          exact M'.done j t hj hjt hr)
        exact ⟨k', r2, τ2, T2, M2, fun h => by rw [e h]; omega⟩
theorem go_init (ts : List (Tst α)) (W : α → Prop) (hW : ∀ t ∈ ts, W t.1 ∧ W t.2.1) (n : Nat) (hn : 0 < n) : ∃ k r τ T, Mid ts W k ts.length (go ts n init) r τ T ∧ ((go ts n init).mv ≠ none → k = n) := by
  obtain ⟨k, r, τ, T, M, e⟩ := go_inv hW n 0 init (fun _ => 0) (fun _ => 0) 0 hn ⟨fun v i h => (nomatch h), fun v h => absurd h (by simp), fun _ => Nat.le_refl _, fun _ => Nat.le_refl _, fun v i h => (nomatch h)⟩ (fun j t _ h => absurd h (by omega))
  exact ⟨k, r, τ, T, M, fun h => by rw [e h]; omega⟩
def nx (ts : List (Tst α)) (s : BF α) (v : α) : α := match s.back v with
  | some i => match ts[i]? with
    | some t => t.2.1
    | none => v
  | none => v
def itn (ts : List (Tst α)) (s : BF α) : Nat → α → α
  | 0, v => v
  | n + 1, v => nx ts s (itn ts s n v)
theorem itn_add (ts : List (Tst α)) (s : BF α) (a v) : ∀ b, itn ts s (b + a) v = itn ts s b (itn ts s a v)
  | 0 => by rw [Nat.zero_add]; rfl
  | b + 1 => by rw [Nat.add_right_comm]; show nx ts s _ = nx ts s _; rw [itn_add ts s a v b]
section
variable {ts : List (Tst α)} {W : α → Prop} {k : Nat} {s : BF α} {r τ : α → Nat} {T : Nat}
theorem Inv.nx_of (I : Inv ts W k s r τ T) {v : α} (h : (s.back v).isSome) : ∃ i m, s.back v = some i ∧ ts[i]? = some (v, nx ts s v, m) ∧ ((τ (nx ts s v) < τ v ∧ s.least v = s.least (nx ts s v) + m) ∨ (τ v ≤ τ (nx ts s v) ∧ s.least (nx ts s v) + m < s.least v)) ∧ r v ≤ r (nx ts s v) + 1 := by
  obtain ⟨i, hi⟩ := Option.isSome_iff_exists.mp h
  obtain ⟨u, m, e1, e2, e3⟩ := I.edge v i hi
  have e : nx ts s v = u := by simp [nx, hi, e1]
  rw [e]
  exact ⟨i, m, hi, e1, e2, e3⟩
theorem Inv.it_of (I : Inv ts W k s r τ T) {v : α} {n : Nat} (hv : n ≤ r v) : ∀ j, j ≤ n → n ≤ r (itn ts s j v) + j
  | 0, _ => hv
  | j + 1, hj => by
    have h := I.it_of hv j (by omega)
    obtain ⟨i, m, _, _, _, h'⟩ := I.nx_of (v := itn ts s j v) (I.rb _ (by omega))
    show n ≤ r (nx ts s _) + _
    omega
theorem pig : ∀ {l m : List α}, l.Nodup → (∀ x ∈ l, x ∈ m) → l.length ≤ m.length
  | [], m, _, _ => Nat.zero_le _
  | x :: l, m, h, k => by
    obtain ⟨h1, h2⟩ := List.nodup_cons.mp h
    have e : l.length ≤ (m.erase x).length := pig h2 fun y hy => by
      have : y ≠ x := fun e => h1 (e ▸ hy)
      exact (List.mem_erase_of_ne this).mpr (k y (List.mem_cons_of_mem _ hy))
    rw [List.length_erase_of_mem (k x List.mem_cons_self)] at e
    have : 0 < m.length := List.length_pos_of_mem (k x List.mem_cons_self)
    show l.length + 1 ≤ _
    omega
theorem meet (f : Nat → α) (nodes : List α) (h : ∀ j, j ≤ nodes.length → f j ∈ nodes) : ∃ i j, i < j ∧ j ≤ nodes.length ∧ f i = f j := by
  apply Classical.byContradiction
  intro c
  have nd : ((List.range (nodes.length + 1)).map f).Nodup := by
    rw [List.nodup_iff_pairwise_ne, List.pairwise_map]
    refine List.pairwise_iff_getElem.mpr fun i j hi hj hij => ?_
    simp only [List.getElem_range]
    intro e
    simp at hi hj
    exact c ⟨i, j, hij, by omega, e⟩
  have := pig nd (m := nodes) fun x hx => by
    obtain ⟨j, hj, e⟩ := List.mem_map.mp hx
    rw [← e]
    exact h j (by simp at hj; omega)
  simp at this
  omega
theorem least_of {P : Nat → Prop} {n : Nat} (h : P n) (h0 : 0 < n) : ∃ p, 0 < p ∧ p ≤ n ∧ P p ∧ ∀ j, 0 < j → j < p → ¬ P j := by
  induction n using Nat.strongRecOn with
  | _ n ih =>
    by_cases c : ∃ j, 0 < j ∧ j < n ∧ P j
    · obtain ⟨j, a, b, e⟩ := c
      obtain ⟨p, k1, k2, k3, k4⟩ := ih j b e a
      exact ⟨p, k1, by omega, k3, k4⟩
    · exact ⟨n, h0, Nat.le_refl _, h, fun j a b e => c ⟨j, a, b, e⟩⟩
def sumTo (f : Nat → Int) : Nat → Int
  | 0 => 0
  | n + 1 => sumTo f n + f n
end
theorem go_ring (ts : List (Tst α)) (nodes : List α) (hW : ∀ t ∈ ts, t.1 ∈ nodes ∧ t.2.1 ∈ nodes) (w : α) (hw : (go ts (nodes.length + 1) init).mv = some w) :
    ∃ p, 0 < p ∧ p ≤ nodes.length ∧ let s := go ts (nodes.length + 1) init; let f := fun j => itn ts s j (itn ts s nodes.length w)
      (∀ j, ∃ i m, s.back (itn ts s j w) = some i ∧ ts[i]? = some (itn ts s j w, itn ts s (j + 1) w, m)) ∧ f p = f 0 ∧ (∀ j, 0 < j → j < p → f j ≠ f 0) ∧ (∀ i j, i < j → j < p → f i ≠ f j) ∧
      ∃ (g : Nat → Nat) (m : Nat → Int), (∀ j, s.back (f j) = some (g j) ∧ ts[g j]? = some (f j, f (j + 1), m j)) ∧ sumTo m p < 0 := by
  obtain ⟨k, r, τ, T, M, hk⟩ := go_init ts (· ∈ nodes) hW (nodes.length + 1) (by omega)
  have hk := hk (by rw [hw]; simp)
  subst hk
  generalize go ts (nodes.length + 1) init = s at *
  have hr : r w = nodes.length + 1 := M.mvk w hw
  have hit : ∀ j, j ≤ nodes.length → 0 < r (itn ts s j w) := fun j hj => by
    have := M.toInv.it_of (v := w) (n := nodes.length + 1) (by omega) j (by omega)
    omega
  have hbk : ∀ j, j ≤ nodes.length → (s.back (itn ts s j w)).isSome := fun j hj => M.rb _ (hit j hj)
  have hin : ∀ j, j ≤ nodes.length → itn ts s j w ∈ nodes := fun j hj => by
    obtain ⟨i, hi⟩ := Option.isSome_iff_exists.mp (hbk j hj)
    exact M.inW _ i hi
  obtain ⟨a, b, hab, hb, e⟩ := meet (fun j => itn ts s j w) nodes hin
  have e : itn ts s a w = itn ts s b w := e
  -- from a on the walk comes again each b - a turns
  have per : ∀ c, itn ts s (c + b) w = itn ts s (c + a) w := fun c => by rw [itn_add, itn_add, e]
  have all : ∀ j, ∃ j', j' ≤ nodes.length ∧ itn ts s j w = itn ts s j' w := by
    intro j
    induction j using Nat.strongRecOn with
    | _ j ih =>
      by_cases h : j ≤ nodes.length
      · exact ⟨j, h, rfl⟩
      · obtain ⟨c, rfl⟩ : ∃ c, j = c + b := ⟨j - b, by omega⟩
        rw [per]
        exact ih (c + a) (by omega)
  have hall : ∀ j, (s.back (itn ts s j w)).isSome := fun j => by
    obtain ⟨j', h1, h2⟩ := all j
    rw [h2]; exact hbk j' h1
  have hf : ∀ j, itn ts s j (itn ts s nodes.length w) = itn ts s (j + nodes.length) w := fun j => (itn_add ts s nodes.length w j).symm
  have hp : itn ts s (b - a) (itn ts s nodes.length w) = itn ts s nodes.length w := by
    rw [hf]
    obtain ⟨c, hc⟩ : ∃ c, nodes.length = c + a := ⟨nodes.length - a, by omega⟩
    rw [hc, show b - a + (c + a) = c + b by omega, per]
  obtain ⟨p, p1, p2, p3, p4⟩ := least_of (P := fun p => itn ts s p (itn ts s nodes.length w) = itn ts s nodes.length w) hp (by omega)
  refine ⟨p, p1, by omega, fun j => by obtain ⟨i, m, h1, h2, _⟩ := M.toInv.nx_of (v := itn ts s j w) (hall j); exact ⟨i, m, h1, h2⟩, p3, p4, ?_, ?_⟩
  · intro i j hij hj h
    refine p4 (i + (p - j)) (by omega) (by omega) ?_
    have : itn ts s (p - j) (itn ts s i (itn ts s nodes.length w)) = itn ts s (p - j) (itn ts s j (itn ts s nodes.length w)) := by
      have h : itn ts s i (itn ts s nodes.length w) = itn ts s j (itn ts s nodes.length w) := h
      rw [h]
    rw [← itn_add ts s j, show p - j + j = p by omega, p3, ← itn_add ts s i] at this
    rw [Nat.add_comm]; exact this
  · have hstep : ∀ j, ∃ i m, s.back (itn ts s j (itn ts s nodes.length w)) = some i ∧ ts[i]? = some (itn ts s j (itn ts s nodes.length w), itn ts s (j + 1) (itn ts s nodes.length w), m) ∧
        ((τ (itn ts s (j + 1) (itn ts s nodes.length w)) < τ (itn ts s j (itn ts s nodes.length w)) ∧ s.least (itn ts s j (itn ts s nodes.length w)) = s.least (itn ts s (j + 1) (itn ts s nodes.length w)) + m) ∨
         (s.least (itn ts s (j + 1) (itn ts s nodes.length w)) + m < s.least (itn ts s j (itn ts s nodes.length w)))) := fun j => by
      obtain ⟨i, m, h1, h2, h3, _⟩ := M.toInv.nx_of (v := itn ts s j (itn ts s nodes.length w)) (by rw [hf]; exact hall _)
      exact ⟨i, m, h1, h2, h3.imp id fun h => h.2⟩
    refine ⟨fun j => (hstep j).choose, fun j => (hstep j).choose_spec.choose, fun j => ⟨(hstep j).choose_spec.choose_spec.1, (hstep j).choose_spec.choose_spec.2.1⟩, ?_⟩
    have sums : ∀ q, (sumTo (fun j => (hstep j).choose_spec.choose) q ≤ s.least (itn ts s nodes.length w) - s.least (itn ts s q (itn ts s nodes.length w))) ∧
        (sumTo (fun j => (hstep j).choose_spec.choose) q < s.least (itn ts s nodes.length w) - s.least (itn ts s q (itn ts s nodes.length w)) ∨ q = 0 ∨ τ (itn ts s q (itn ts s nodes.length w)) < τ (itn ts s nodes.length w)) := by
      intro q
      induction q with
      | zero => exact ⟨by simp [sumTo, itn], .inr (.inl rfl)⟩
      | succ q ih =>
        have h3 := (hstep q).choose_spec.choose_spec.2.2
        obtain ⟨i1, i2⟩ := ih
        simp only [sumTo]
        rcases h3 with ⟨t1, t2⟩ | t2
        · refine ⟨by omega, ?_⟩
          rcases i2 with i2 | i2 | i2
          · left; omega
          · right; right; subst i2; exact t1
          · right; right; omega
        · exact ⟨by omega, .inl (by omega)⟩
    obtain ⟨q1, q2⟩ := sums p
    rw [p3] at q1 q2
    rcases q2 with q2 | q2 | q2 <;> omega
end
end Df
set_option linter.all false
namespace Df
abbrev T (α : Type) := Option α × Option α × Int
class Words (α : Type) [DecidableEq α] where
  wo : List (T α) → List α
  nd : ∀ ts, (wo ts).Nodup
  mem : ∀ ts a, a ∈ wo ts ↔ ∃ t ∈ ts, t.1 = some a ∨ t.2.1 = some a
open Words
section
variable {α : Type} [DecidableEq α]
def val (x : α → Int) : Option α → Int
  | none => 0
  | some a => x a
def hold (x : α → Int) (t : T α) : Prop := val x t.1 ≤ val x t.2.1 + t.2.2
instance (x : α → Int) (t : T α) : Decidable (hold x t) := by unfold hold; infer_instance
def holds (x : α → Int) (ts : List (T α)) : Prop := ∀ t ∈ ts, hold x t
instance (x : α → Int) (ts : List (T α)) : Decidable (holds x ts) := by unfold holds; infer_instance
def against (t : T α) : T α := (t.2.1, t.1, -1 - t.2.2)
variable [Words α]
def rlxd (ts : List (T α)) : BF (Option α) := go ts ((wo ts).length + 2) init
def nodes (ts : List (T α)) : List (Option α) := (wo ts).map some ++ [none]
theorem nodes_len (ts : List (T α)) : (nodes ts).length = (wo ts).length + 1 := by simp [nodes]
theorem in_nodes {ts : List (T α)} {t : T α} (h : t ∈ ts) : t.1 ∈ nodes ts ∧ t.2.1 ∈ nodes ts := by
  have key : ∀ w : Option α, (w = t.1 ∨ w = t.2.1) → w ∈ nodes ts := fun w hw => by
    cases w with
    | none => simp [nodes]
    | some a =>
      unfold nodes
      refine List.mem_append_left _ (List.mem_map_of_mem ((mem ts a).mpr ⟨t, h, ?_⟩))
      exact hw.imp Eq.symm Eq.symm
  exact ⟨key _ (.inl rfl), key _ (.inr rfl)⟩
def isOpen (ts : List (T α)) : Bool := (rlxd ts).mv.isNone
def numb (ts : List (T α)) (a : α) : Int := if a ∈ wo ts then (rlxd ts).least (some a) - (rlxd ts).least none else 0
end
section
variable {α : Type} [DecidableEq α]
abbrev Oc (α : Type) := List (α × (Option α × Int))
def look (o : Oc α) (c : α) : Option α × Int := (o.lookup c).getD (some c, 0)
def lookW (o : Oc α) : Option α → Option α × Int
  | none => (none, 0)
  | some c => look o c
def ap (x : α → Int) (o : Oc α) (c : α) : Int := val x (look o c).1 + (look o c).2
def seen (o : Oc α) (t : T α) : T α := ((lookW o t.1).1, (lookW o t.2.1).1, t.2.2 - (lookW o t.1).2 + (lookW o t.2.1).2)
structure Stp (α : Type) where
  tests : List (T α)
  sets : Option (Oc α)
def setF (x : α → Int) (s : Oc α) (c : α) : Int := ap x s c
def setc (o s : Oc α) (c : α) (b : Option α × Int) : Option α × Int := match s.lookup c with
  | some (w, m) => ((lookW o w).1, (lookW o w).2 + m)
  | none => b
def settledL (o s : Oc α) : Oc α := o.map fun p => (p.1, setc o s p.1 p.2)
theorem lookup_map {β γ : Type} (f : α → β → γ) (c : α) : ∀ l : List (α × β), (l.map fun p => (p.1, f p.1 p.2)).lookup c = (l.lookup c).map (f c)
  | [] => rfl
  | (a, b) :: r => by
    simp only [List.map_cons, List.lookup_cons]
    by_cases h : c = a
    · subst h; simp
    · have : (c == a) = false := by simpa using h
      simp only [this, lookup_map f c r]
def colsOf (o : Oc α) : List α := o.map (·.1)
theorem lookup_some {β : Type} {c : α} : ∀ {l : List (α × β)}, c ∈ l.map (·.1) → ∃ b, l.lookup c = some b
  | (a, b) :: r, h => by
    by_cases e : c = a
    · subst e; exact ⟨b, by simp⟩
    · have e' : (c == a) = false := by simpa using e
      simp only [List.lookup_cons, e']
      refine lookup_some ?_
      simpa [e] using h
theorem lookup_none {β : Type} {c : α} : ∀ {l : List (α × β)}, c ∉ l.map (·.1) → l.lookup c = none
  | [], _ => rfl
  | (a, b) :: r, h => by
    have e : c ≠ a := fun e => h (by simp [e])
    have e' : (c == a) = false := by simpa using e
    simp only [List.lookup_cons, e']
    exact lookup_none fun k => h (by simp at k ⊢; exact .inr k)
theorem settledL_cols (o s : Oc α) : colsOf (settledL o s) = colsOf o := by simp [colsOf, settledL]
structure Way (α : Type) where
  tests : List (T α)
  out : Option (Oc α)
  touched : List Nat
variable [Words α]
def waysOn (w : Way α) (at_ : Nat) (st : Stp α) : List (Way α) :=
  match w.out with
  | none => [w]
  | some o =>
    let sn := st.tests.map (seen o)
    ((sn.zipIdx.map fun (p : T α × Nat) => (⟨w.tests ++ sn.take p.2 ++ [against p.1], some o, w.touched⟩ : Way α)) ++ [(⟨w.tests ++ sn, st.sets.map (settledL o), w.touched ++ [at_]⟩ : Way α)]).filter fun y => isOpen y.tests
def waysGo : List (Way α) → Nat → List (Stp α) → List (Way α)
  | ws, _, [] => ws
  | ws, i, st :: r => waysGo (ws.flatMap fun w => waysOn w i st) (i + 1) r
def idOc (cols : List α) : Oc α := cols.map fun c => (c, (some c, 0))
def waysOf (cols : List α) (steps : List (Stp α)) (rule : List (T α)) : List (Way α) :=
  waysGo ([⟨rule, some (idOc cols), []⟩].filter fun y => isOpen y.tests) 0 steps
def at_ (x : α → Int) (ws : List (Way α)) : List (Way α) := ws.filter fun w => decide (holds x w.tests)
end
end Df
set_option linter.all false
namespace Df
section
variable {β : Type} [DecidableEq β]
abbrev BM (β : Type) := β → β → Option Int
def omin : Option Int → Option Int → Option Int
  | none, y => y
  | some a, none => some a
  | some a, some b => some (min a b)
def oadd : Option Int → Option Int → Option Int
  | some a, some b => some (a + b)
  | _, _ => none
theorem omin_some {x y : Option Int} {m : Int} (h : omin x y = some m) : x = some m ∨ y = some m := by
  cases x with
  | none => exact .inr h
  | some a =>
    cases y with
    | none => exact .inl h
    | some b =>
      simp only [omin, Option.some.injEq] at h ⊢
      omega
theorem oadd_some {x y : Option Int} {m : Int} (h : oadd x y = some m) : ∃ a b, x = some a ∧ y = some b ∧ m = a + b := by
  cases x <;> cases y <;> simp [oadd] at h
  exact ⟨_, _, rfl, rfl, h.symm⟩
def put (B : BM β) (a b : β) (m : Int) : BM β := fun x y => if x = a ∧ y = b then some (min m ((B a b).getD m)) else B x y
def initB (ts : List (β × β × Int)) (B : BM β) : BM β := ts.foldl (fun B t => put B t.1 t.2.1 t.2.2) B
def rowGo (c a : β) : List β → BM β → BM β
  | [], B => B
  | b :: r, B => rowGo c a r (match B c b with | some q => put B a b ((B a c).getD 0 + q) | none => B)
def midGo (all : List β) (c : β) : List β → BM β → BM β
  | [], B => B
  | a :: r, B => midGo all c r (if (B a c).isSome then rowGo c a all B else B)
def allGo (all : List β) : List β → BM β → BM β
  | [], B => B
  | c :: r, B => allGo all r (midGo all c all B)
def bestT (all : List β) (ts : List (β × β × Int)) : BM β := allGo all all (initB ts fun _ _ => none)
def tg (B : BM β) (c : β) : BM β := fun a b => omin (B a b) (oadd (B a c) (B c b))
def Calm (B : BM β) (c : β) : Prop := ∀ p, B c c = some p → 0 ≤ p
def mix (B : BM β) (c : β) (dn : β → β → Prop) [∀ a b, Decidable (dn a b)] : BM β := fun a b => if dn a b then tg B c a b else B a b
def Dom (all : List β) (B : BM β) : Prop := ∀ a b m, B a b = some m → a ∈ all ∧ b ∈ all
def Snd (x : β → Int) (B : BM β) : Prop := ∀ a b m, B a b = some m → x a ≤ x b + m
def Closed (B : BM β) (c : β) : Prop := ∀ a b p q, B a c = some p → B c b = some q → ∃ m, B a b = some m ∧ m ≤ p + q
def Feas (x : β → Int) (ts : List (β × β × Int)) : Prop := ∀ t ∈ ts, x t.1 ≤ x t.2.1 + t.2.2
theorem Snd.calm {x : β → Int} {B : BM β} (h : Snd x B) (c : β) : Calm B c := fun p e => by have := h c c p e; omega
theorem Snd.tg {x : β → Int} {B : BM β} (h : Snd x B) (c : β) : Snd x (tg B c) := fun a b m e => by
  rcases omin_some e with e | e
  · exact h a b m e
  · obtain ⟨p, q, e1, e2, rfl⟩ := oadd_some e
    have := h _ _ _ e1
    have := h _ _ _ e2
    omega
theorem Dom.tg {all : List β} {B : BM β} (h : Dom all B) (c : β) : Dom all (tg B c) := fun a b m e => by
  rcases omin_some e with e | e
  · exact h a b m e
  · obtain ⟨p, q, e1, e2, rfl⟩ := oadd_some e
    exact ⟨(h _ _ _ e1).1, (h _ _ _ e2).2⟩
structure Best (all : List β) (ts : List (β × β × Int)) (B : BM β) : Prop where
  dom : Dom all B
  snd : ∀ x, Feas x ts → Snd x B
  told : ∀ t ∈ ts, ∃ m, B t.1 t.2.1 = some m ∧ m ≤ t.2.2
  closed : ∀ c, Closed B c
def rfl0 (B : BM β) : BM β := fun a b => if a = b then some 0 else B a b
theorem Best.nn {all : List β} {ts : List (β × β × Int)} {B : BM β} (h : Best all ts B) {x : β → Int} (hx : Feas x ts) {a b : β} {p q : Int} (e1 : B a b = some p) (e2 : B b a = some q) : 0 ≤ p + q := by
  have := h.snd x hx _ _ _ e1
  have := h.snd x hx _ _ _ e2
  omega
theorem Best.tri {all : List β} {ts : List (β × β × Int)} {B : BM β} (h : Best all ts B) {x : β → Int} (hx : Feas x ts) (a c b : β) (p q : Int) (e1 : rfl0 B a c = some p) (e2 : rfl0 B c b = some q) : ∃ m, rfl0 B a b = some m ∧ m ≤ p + q := by
  unfold rfl0 at *
  by_cases h1 : a = c
  · subst h1
    simp only [if_true] at e1
    cases e1
    exact ⟨q, e2, by omega⟩
  · rw [if_neg h1] at e1
    by_cases h2 : c = b
    · subst h2
      simp only [if_true] at e2
      cases e2
      rw [if_neg h1]
      exact ⟨p, e1, by omega⟩
    · rw [if_neg h2] at e2
      by_cases h3 : a = b
      · subst h3
        simp only [if_true]
        exact ⟨0, rfl, h.nn hx e1 e2⟩
      · rw [if_neg h3]
        exact h.closed c a b p q e1 e2
def lows (M : BM β) (h : β → Int) (all : List β) (v : β) : Int := (all.filterMap fun u => (M v u).map (· + h u)).foldr min (h v)
theorem foldr_min_le : ∀ (l : List Int) (d : Int), l.foldr min d ≤ d ∧ ∀ z ∈ l, l.foldr min d ≤ z
  | [], d => ⟨Int.le_refl _, fun z h => nomatch h⟩
  | a :: l, d => by
    obtain ⟨h1, h2⟩ := foldr_min_le l d
    simp only [List.foldr_cons]
    refine ⟨by omega, fun z hz => ?_⟩
    rcases List.mem_cons.mp hz with rfl | hz
    · omega
    · have := h2 z hz; omega
theorem foldr_min_in : ∀ (l : List Int) (d : Int), l.foldr min d = d ∨ l.foldr min d ∈ l
  | [], d => .inl rfl
  | a :: l, d => by
    simp only [List.foldr_cons]
    rcases foldr_min_in l d with h | h
    · rw [h]
      by_cases k : a ≤ d
      · right; simp [Int.min_eq_left k]
      · left; omega
    · by_cases k : a ≤ l.foldr min d
      · right; simp [Int.min_eq_left k]
      · right
        have : min a (l.foldr min d) = l.foldr min d := by omega
        rw [this]
        exact List.mem_cons_of_mem _ h
theorem ext_sol {M : BM β} {all : List β} (hr : ∀ a, M a a = some 0) (ht : ∀ a c b p q, M a c = some p → M c b = some q → ∃ m, M a b = some m ∧ m ≤ p + q) (hd : ∀ a b m, M a b = some m → a ≠ b → a ∈ all ∧ b ∈ all)
    (S : List β) (y : β → Int) (hy : ∀ s ∈ S, ∀ t ∈ S, ∀ m, M s t = some m → y s ≤ y t + m) : ∃ x : β → Int, (∀ a b m, M a b = some m → x a ≤ x b + m) ∧ ∀ s ∈ S, x s = y s := by
  -- a great number
  obtain ⟨H, hH⟩ : ∃ H : Int, ∀ s ∈ S, ∀ u ∈ all, ∀ m, M s u = some m → y s ≤ H + m := by
    have one : ∀ s : β, ∃ H : Int, ∀ u ∈ all, ∀ m, M s u = some m → y s ≤ H + m := fun s => by
      refine ⟨(all.filterMap fun u => (M s u).map fun m => y s - m).foldr max 0, fun u hu m e => ?_⟩
      have : ∀ (l : List Int) z, z ∈ l → z ≤ l.foldr max 0 := fun l => by
        induction l with
        | nil => intro z h; cases h
        | cons a l ih =>
          intro z hz
          simp only [List.foldr_cons]
          rcases List.mem_cons.mp hz with rfl | hz
          · omega
          · have := ih z hz; omega
      have := this (all.filterMap fun u => (M s u).map fun m => y s - m) (y s - m) (List.mem_filterMap.mpr ⟨u, hu, by rw [e]; rfl⟩)
      omega
    have both : ∀ l : List β, ∃ H : Int, ∀ s ∈ l, ∀ u ∈ all, ∀ m, M s u = some m → y s ≤ H + m := fun l => by
      induction l with
      | nil => exact ⟨0, fun s h => nomatch h⟩
      | cons a l ih =>
        obtain ⟨H1, h1⟩ := one a
        obtain ⟨H2, h2⟩ := ih
        refine ⟨max H1 H2, fun s hs u hu m e => ?_⟩
        rcases List.mem_cons.mp hs with rfl | hs
        · have := h1 u hu m e; omega
        · have := h2 s hs u hu m e; omega
    exact both S
  let h : β → Int := fun u => if u ∈ S then y u else H
  have le : ∀ v u m, u ∈ all → M v u = some m → lows M h all v ≤ m + h u := fun v u m hu e =>
    (foldr_min_le _ _).2 _ (List.mem_filterMap.mpr ⟨u, hu, by rw [e]; rfl⟩)
  have own : ∀ v, lows M h all v ≤ h v := fun v => (foldr_min_le _ _).1
  have at_ : ∀ v, lows M h all v = h v ∨ ∃ u ∈ all, ∃ m, M v u = some m ∧ lows M h all v = m + h u := fun v => by
    rcases foldr_min_in (all.filterMap fun u => (M v u).map (· + h u)) (h v) with e | e
    · exact .inl e
    · right
      obtain ⟨u, hu, e2⟩ := List.mem_filterMap.mp e
      obtain ⟨m, e3, e4⟩ := Option.map_eq_some_iff.mp e2
      exact ⟨u, hu, m, e3, e4.symm⟩
  refine ⟨lows M h all, fun a b m e => ?_, fun s hs => ?_⟩
  · by_cases hab : a = b
    · subst hab
      rw [hr a] at e
      cases e
      omega
    · obtain ⟨ha, hb⟩ := hd a b m e hab
      rcases at_ b with e2 | ⟨u, hu, q, e2, e3⟩
      · have := le a b m hb e
        omega
      · obtain ⟨k, e4, l⟩ := ht a b u m q e e2
        have := le a u k hu e4
        omega
  · have hhs : h s = y s := by simp [h, hs]
    have h1 := own s
    rcases at_ s with e | ⟨u, hu, m, e2, e3⟩
    · rw [e]; exact hhs
    · rw [hhs] at h1
      by_cases hus : u ∈ S
      · have := hy s hs u hus m e2
        have hhu : h u = y u := by simp [h, hus]
        rw [hhu] at e3
        omega
      · have := hH s hs u hu m e2
        have hhu : h u = H := by simp [h, hus]
        rw [hhu] at e3
        omega
theorem Best.ext {all : List β} {ts : List (β × β × Int)} {B : BM β} (h : Best all ts B) {x : β → Int} (hx : Feas x ts) (S : List β) (y : β → Int) (hy : ∀ s ∈ S, ∀ t ∈ S, s ≠ t → ∀ m, B s t = some m → y s ≤ y t + m) :
    ∃ z, Feas z ts ∧ ∀ s ∈ S, z s = y s := by
  obtain ⟨z, h1, h2⟩ := ext_sol (M := rfl0 B) (all := all) (fun a => by simp [rfl0]) (h.tri hx) (fun a b m e hab => by
    simp only [rfl0, if_neg hab] at e; exact h.dom a b m e) S y (fun s hs t ht m e => by
    unfold rfl0 at e
    by_cases hst : s = t
    · subst hst; simp only [if_true] at e; cases e; omega
    · rw [if_neg hst] at e; exact hy s hs t ht hst m e)
  refine ⟨z, fun t ht => ?_, h2⟩
  obtain ⟨m, e, l⟩ := h.told t ht
  by_cases ht' : t.1 = t.2.1
  · have : 0 ≤ t.2.2 := by
      have := hx t ht
      rw [ht'] at this
      omega
    rw [ht']; omega
  · have := h1 t.1 t.2.1 m (by simp only [rfl0, if_neg ht']; exact e)
    omega
end
end Df
set_option Elab.async false
set_option linter.all false
set_option maxRecDepth 100000
set_option maxHeartbeats 1000000
namespace R43
open PySem PySem.Spec L2 RF
open PyProof.Rows hiding St
abbrev Tt := Df.T Str
def eW : Option Str → D
  | none => .non
  | some s => .str s
def eT (t : Tt) : D := .tup [eW t.1, eW t.2.1, .int t.2.2]
def eTs (ts : List Tt) : D := .lst (ts.map eT)
def eC (cols : List Str) : D := .lst (cols.map .str)
def eP (p : Option Str × Int) : D := .tup [eW p.1, .int p.2]
def eS (s : Df.Oc Str) : D := .dct (s.map fun p => (.str p.1, eP p.2))
def eSt (st : Df.Stp Str) : D := match st.sets with
  | none => .tup [.str "strike", eTs st.tests]
  | some s => .tup [.str "change", eTs st.tests, eS s]
def eSts (l : List (Df.Stp Str)) : D := .lst (l.map eSt)
def eO : Option (Df.Oc Str) → D
  | none => .non
  | some o => eS o
@[simp] theorem eW_none : eW none = .non := rfl
@[simp] theorem eW_some (s : Str) : eW (some s) = .str s := rfl
theorem eW_leaf (w : Option Str) : leafKey (eW w) = true := by cases w <;> rfl
theorem eW_inj {a b : Option Str} (h : eW a = eW b) : a = b := by
  cases a <;> cases b <;> simp [eW] at h ⊢
  exact h
@[simp] theorem eW_isNone (w : Option Str) : (eW w).isNone = w.isNone := by cases w <;> rfl
theorem eqY_lst (l : List D) : D.eqY (.lst l) (.lst []) = some (.bl l.isEmpty) := by
  show D.eq (.lst l) (.lst []) = _
  cases l with
  | nil => rfl
  | cons a r => rfl
theorem ne_lst (l : List D) : D.ne (.lst l) (.lst []) = some (.bl (!l.isEmpty)) := by
  cases l with
  | nil => rfl
  | cons a r => rfl
theorem neY_lst (l : List D) : D.neY (.lst l) (.lst []) = some (.bl (!l.isEmpty)) := by
  unfold D.neY
  rw [ne_lst]
theorem eqY_int (i j : Int) : D.eqY (.int i) (.int j) = some (.bl (i == j)) := rfl
theorem neY_int (i j : Int) : D.neY (.int i) (.int j) = some (.bl (!(i == j))) := rfl
theorem eqY_str (i j : Str) : D.eqY (.str i) (.str j) = some (.bl (i == j)) := rfl
@[simp] theorem ii_int_int (i : Int) : D.isInst "int" (.int i) = some (.bl true) := rfl
@[simp] theorem ii_bool_int (i : Int) : D.isInst "bool" (.int i) = some (.bl false) := rfl
@[simp] theorem ii_tup (l : List D) : D.isInst "tuple" (.tup l) = some (.bl true) := rfl
@[simp] theorem ii_lst (l : List D) : D.isInst "list" (.lst l) = some (.bl true) := rfl
@[simp] theorem ii_dct (l : List (D × D)) : D.isInst "dict" (.dct l) = some (.bl true) := rfl
@[simp] theorem ii_str (s : Str) : D.isInst "str" (.str s) = some (.bl true) := rfl
@[simp] theorem len_lst (l : List D) : D.len (.lst l) = some (.int l.length) := rfl
@[simp] theorem len_tup (l : List D) : D.len (.tup l) = some (.int l.length) := rfl
theorem is_whole_int (i : Int) : F_is_whole [.int i] = some (.bl true) := by
  unfold F_is_whole
  refine run0_of (by rfl) ?_
  simp [b_is_whole]
def Nm (s : Str) : Prop := F_is_name [.str s] = some (.bl true)
def Wd (s : Str) : Prop := F_is_word [.str s] = some (.bl true)
def WdO (w : Option Str) : Prop := ∀ s, w = some s → Wd s
theorem bad_word {w : Option Str} (h : WdO w) : w.isSome = true → (F_is_word [eW w]).bind (Option.map not ∘ D.truth) = some false := fun hw => by
  cases w with
  | none => cases hw
  | some s => simp [show F_is_word [.str s] = _ from h s rfl]
theorem is_test_ok (t : Tt) (h1 : WdO t.1) (h2 : WdO t.2.1) : F_is_test [eT t] = some (.bl true) := by
  obtain ⟨a, b, m⟩ := t
  refine run0_of (by rfl) ?_
  have := xLc_of (vs := [1]) (w := up (eWl (eSlice (vr 0) eNoPart (ePart (cn (.int 2)))))) (g := gNm 1) (t := up (eAndT (eB (e2 D.isnt2 (vr 1) (cn .non))) (eNotT (eTru (eCall F_is_word (eCons (vr 1) eNil)))))) (e := up (vr 1)) (ρ := [some (.tup [eW a, eW b, .int m]), none]) (enc := eW)
    [a, b] (fun w => [some (.tup [eW a, eW b, .int m]), some (eW w)]) (fun _ => false) eW (by simp) (by simp) (fun w hw => by
      simp only [List.mem_cons, List.not_mem_nil, or_false] at hw
      rcases hw with rfl | rfl
      · simp; exact bad_word h1
      · simp; exact bad_word h2) (by simp) (by simp) (by simp) (by simp)
  simp [b_is_test, this, eT, neY_int, is_whole_int, eqY_lst]
def OverW (cols : List Str) (w : Option Str) : Prop := ∀ s, w = some s → s ∈ cols
def Over (cols : List Str) (ts : List Tt) : Prop := ∀ t ∈ ts, OverW cols t.1 ∧ OverW cols t.2.1
structure GoodC (cols : List Str) : Prop where
  nm : ∀ c ∈ cols, Nm c
  wd : ∀ c ∈ cols, Wd c
  nd : cols.Nodup
  ne : cols ≠ []
  few : cols.length ≤ 3000
theorem GoodC.wdo {cols : List Str} (h : GoodC cols) {w : Option Str} (hw : OverW cols w) : WdO w := fun s e => h.wd s (hw s e)
theorem are_tests_ok (ts : List Tt) (hl : ts.length ≤ 1000000) (h : ∀ t ∈ ts, WdO t.1 ∧ WdO t.2.1) : F_are_tests [eTs ts] = some (.bl true) := by
  refine run0_of (by rfl) ?_
  have := xLc_of (vs := [1]) (w := up (eWl (vr 0))) (g := gNm 1) (t := up (eNotT (eTru (eCall F_is_test (eCons (vr 1) eNil))))) (e := up (vr 1)) (ρ := [some (.lst (ts.map eT)), none]) (enc := eT)
    ts (fun t => [some (.lst (ts.map eT)), some (eT t)]) (fun _ => false) eT (by simp) (by simp) (fun t ht => by simp [is_test_ok t (h t ht).1 (h t ht).2]) (by simp) (by simp) (by omega) (by simp)
  simp [b_are_tests, this, eTs, eqY_lst]
theorem anyEq_str (x : Str) : ∀ l : List Str, anyEq (.str x) (l.map .str) = some (decide (x ∈ l))
  | [] => rfl
  | a :: r => by
    have ih := anyEq_str x r
    unfold anyEq at ih ⊢
    rw [List.map_cons, List.map_cons]
    show Option.map not (((some (flatEq (.str a) (.str x))).map not).bind fun b => (allO _).map fun c => b && c) = _
    obtain ⟨b, hb, hb2⟩ := Option.map_eq_some_iff.mp ih
    rw [hb]
    simp only [flatEq, Option.map_some, Option.bind_some, Option.some.injEq] at hb2 ⊢
    by_cases h : a = x
    · subst h; simp
    · have h' : ¬ x = a := fun e => h e.symm
      simp [h, h', ← hb2]
theorem notin_cols (x : Str) (cols : List Str) : D.notIn (.str x) (eC cols) = some (.bl (!decide (x ∈ cols))) := by
  show ((anyEq (.str x) (cols.map .str)).map fun c => D.bl (!c)) = _
  rw [anyEq_str]; rfl
theorem are_over_ok (cols : List Str) (hc : GoodC cols) (ts : List Tt) (hl : ts.length ≤ 1000000) (h : Over cols ts) : F_are_tests_over [eTs ts, eC cols] = some (.bl true) := by
  refine run0_of (by rfl) ?_
  have h0 := are_tests_ok ts hl fun t ht => ⟨hc.wdo (h t ht).1, hc.wdo (h t ht).2⟩
  have := xLc2_of (vs := [2, 3]) (vs1 := [3]) (w := up (eWl (vr 0))) (g := gNm 2) (t := up yesT) (w1 := up (eWl (eSlice (vr 2) eNoPart (ePart (cn (.int 2)))))) (g1 := gNm 3) (t1 := up (eAndT (eB (e2 D.isnt2 (vr 3) (cn .non))) (eB (e2 D.notIn (vr 3) (vr 1))))) (e := up (vr 3))
    (ρ := [some (.lst (ts.map eT)), some (eC cols), none, none]) (enc := eT) (enc1 := eW)
    ts (fun t => [t.1, t.2.1]) (fun t => [some (.lst (ts.map eT)), some (eC cols), some (eT t), none]) (fun t w => [some (.lst (ts.map eT)), some (eC cols), some (eT t), some (eW w)]) (fun _ => true) (fun _ _ => false) (fun _ w => eW w)
    (by simp) (by simp) (by simp) (by simp [eT]) (by simp) (fun t ht w hw => by
      have hw : OverW cols w := by
        simp only [List.mem_cons, List.not_mem_nil, or_false] at hw
        rcases hw with rfl | rfl
        · exact (h t ht).1
        · exact (h t ht).2
      cases w with
      | none => simp
      | some s => simp [notin_cols, hw s rfl]) (by simp) (by simp) (by simp) (by simp) (by
        have : ∀ l : List Tt, (l.flatMap fun t => [t.1, t.2.1]).length = 2 * l.length := fun l => by
          induction l with
          | nil => rfl
          | cons a r ih => simp [ih]; omega
        rw [this]; have := List.length_filter_le (fun _ : Tt => true) ts; omega) (by simp)
  simp only [eTs] at h0
  simp [b_are_tests_over, this, eTs, h0, eqY_lst]
theorem check_rule_ok (cols : List Str) (hc : GoodC cols) (ts : List Tt) (hl : ts.length ≤ 1000000) (h : Over cols ts) : F_check_rule [eC cols, eTs ts] = some .non := by
  refine run0_of (by rfl) ?_
  simp [b_check_rule, are_over_ok cols hc ts hl h]
theorem rule_of_ok (cols : List Str) (hc : GoodC cols) (ts : List Tt) (hl : ts.length ≤ 1000000) (h : Over cols ts) : F_rule_of [eC cols, eTs ts] = some (eTs ts) := by
  refine run0_of (by rfl) ?_
  have := check_rule_ok cols hc ts hl h
  simp only [eTs] at this
  simp [b_rule_of, this, eTs]
theorem rule_of_non (cols : List Str) : F_rule_of [eC cols, .non] = some (eTs []) := by
  refine run0_of (by rfl) ?_
  simp [b_rule_of, eTs]
theorem ded_self : ∀ (b a : List Str), (a ++ b).Nodup → b.foldl ded1 a = a ++ b
  | [], a, _ => by simp
  | x :: r, a, h => by
    have hx : x ∉ a := fun hx => by
      have := (List.nodup_append.mp h).2.2 x hx x (by simp)
      exact this rfl
    rw [List.foldl_cons]
    have : ded1 a x = a ++ [x] := by unfold ded1; rw [if_neg hx]
    rw [this, ded_self r (a ++ [x]) (by simpa using h)]
    simp
theorem asStrs_map : ∀ l : List Str, asStrs (l.map .str) = some l
  | [] => rfl
  | a :: r => by show (asStrs (r.map .str)).map (a :: ·) = _; rw [asStrs_map r]; rfl
theorem lenSet_nodup (l : List Str) (h : l.Nodup) (hl : l.length ≤ 3000) : lenSet (.lst (l.map .str)) = some (.int l.length) := by
  show (asStrs (l.map .str)).bind _ = _
  rw [asStrs_map]
  show (if l.length + 1 < 4000 then _ else _) = _
  rw [if_pos (by omega)]
  unfold dedN ded
  have e : (List.range l.length).map (fun i => l.getD i default) = l := by
    apply List.ext_getElem
    · simp
    · intro i h1 h2
      simp only [List.length_map, List.length_range] at h1
      simp [h1]
  rw [e, ded_self l [] (by simpa using h)]
  simp
theorem check_columns_ok (cols : List Str) (hc : GoodC cols) : F_check_columns [eC cols] = some .non := by
  refine run0_of (by rfl) ?_
  have := xLc_of (vs := [1]) (w := up (eWl (vr 0))) (g := gNm 1) (t := up (eNotT (eTru (eCall F_is_name (eCons (vr 1) eNil))))) (e := up (vr 1)) (ρ := [some (.lst (cols.map .str)), none]) (enc := D.str)
    cols (fun t => [some (.lst (cols.map .str)), some (.str t)]) (fun _ => false) D.str (by simp) (by simp) (fun t ht => by simp [show F_is_name [.str t] = _ from hc.nm t ht]) (by simp) (by simp) (by have := hc.few; omega) (by simp)
  have hne := hc.ne
  simp [b_check_columns, eC, eqY_lst, this, neY_lst, hne, lenSet_nodup cols hc.nd hc.few, neY_int]
structure GoodSt (cols : List Str) (s : Df.Oc Str) : Prop where
  over : ∀ p ∈ s, p.1 ∈ cols ∧ OverW cols p.2.1
  ne : s ≠ []
  nd : (s.map (·.1)).Nodup
theorem lookup_of_mem {β : Type} {k : Str} {v : β} : ∀ {l : List (Str × β)}, (l.map (·.1)).Nodup → (k, v) ∈ l → l.lookup k = some v
  | (a, b) :: r, h, hm => by
    rw [List.map_cons, List.nodup_cons] at h
    rcases List.mem_cons.mp hm with e | hm'
    · cases e; simp
    · have : k ≠ a := fun e => h.1 (by
        have := List.mem_map_of_mem (f := fun x : Str × β => x.1) hm'
        rw [← e]; exact this)
      have e' : (k == a) = false := by simpa using this
      rw [List.lookup_cons, e']
      exact lookup_of_mem h.2 hm'
@[simp] theorem leafKs_nil : leafKs [] = true := rfl
theorem eqY_dct (s : Df.Oc Str) (h : s ≠ []) : D.eqY (eS s) (.dct []) = some (.bl false) := by
  cases s with
  | nil => exact absurd rfl h
  | cons p r =>
    show (eqO 60 (eS (p :: r)) (.dct [])).map D.bl = _
    have e : eqO 60 (eS (p :: r)) (.dct []) = some false := by
      have hk : ((p :: r).map fun p => ((.str p.1, eP p.2) : D × D)).all (fun p => leafKey p.1) = true := by
        rw [List.all_map]; exact List.all_eq_true.mpr fun _ _ => rfl
      have ha : ∀ l : List (Str × Option Str × Int), ∃ b, allO (l.map fun _ => some false) = some b := fun l => by
        induction l with
        | nil => exact ⟨true, rfl⟩
        | cons a r ih => obtain ⟨b, hb⟩ := ih; exact ⟨false, by show ((some false).bind fun b => (allO _).map fun c => b && c) = _; rw [hb]; rfl⟩
      obtain ⟨b, hb⟩ := ha (p :: r)
      show (if (List.all _ _ && List.all [] _) = true then (allO _).map (fun c => _ && c) else none) = _
      rw [hk]
      simp only [List.all_nil, Bool.and_self, if_true]
      rw [List.map_map]
      have hc : ∀ o : Option Bool, o = some b → o.map (fun c => (((p :: r).map fun p => ((.str p.1, eP p.2) : D × D)).length == ([] : List (D × D)).length && c)) = some false := fun o ho => by rw [ho]; simp
      exact hc _ hb
    rw [e]; rfl
theorem are_settings_ok (cols : List Str) (hc : GoodC cols) (s : Df.Oc Str) (hs : GoodSt cols s) : F_are_settings [eS s, eC cols] = some (.bl true) := by
  have hw : D.walk (eS s) = some (s.map fun p => .str p.1) := by
    unfold eS
    show (if _ then some _ else none) = _
    rw [if_pos (by rw [List.all_map]; exact List.all_eq_true.mpr fun _ _ => rfl)]
    simp
  have hi : D.isInst "dict" (eS s) = some (.bl true) := rfl
  refine run0_wp (by rfl) ?_
  refine wp_nx (ρ1 := [some (eS s), some (eC cols), none, none]) (by simp [hi, eqY_dct s hs.ne]) ?_
  refine wp_for' (enc := fun p : Str × (Option Str × Int) => .str p.1) s (fun _ ρ => ∃ x y, ρ = [some (eS s), some (eC cols), x, y]) (by simp [hw]) ⟨_, _, rfl⟩ (fun dn p r ρ e ⟨x, y, i⟩ => ?_) (fun ρ ⟨x, y, i⟩ => ?_)
  · subst i
    have hp : p ∈ s := by rw [e]; simp
    obtain ⟨h1, h2⟩ := hs.over p hp
    have hit : D.item (eS s) (.str p.1) = some (eP p.2) := by
      unfold eS
      rw [item_str, lookup_of_mem hs.nd (v := p.2) hp]; rfl
    refine ⟨[some (eS s), some (eC cols), some (.str p.1), y], [some (eS s), some (eC cols), some (.str p.1), some (eP p.2)], by simp, ?_, _, _, rfl⟩
    obtain ⟨k, w, m⟩ := p
    simp only at h1 h2 hit
    have hk := show F_is_name [.str k] = _ from hc.nm k h1
    cases w with
    | none => simp [hk, notin_cols, h1, hit, eP, neY_int, is_whole_int]
    | some c =>
      have hcc := show F_is_name [.str c] = _ from hc.nm c (h2 c rfl)
      simp [hk, notin_cols, h1, hit, eP, neY_int, is_whole_int, hcc, h2 c rfl]
  · subst i
    exact wp_of (by simp; rfl) rfl
structure GoodStp (cols : List Str) (st : Df.Stp Str) : Prop where
  few : st.tests.length ≤ 1000000
  over : Over cols st.tests
  sets : ∀ s, st.sets = some s → GoodSt cols s
theorem is_statement_ok (cols : List Str) (hc : GoodC cols) (st : Df.Stp Str) (hs : GoodStp cols st) : F_is_statement [eC cols, eSt st] = some (.bl true) := by
  have h1 := are_over_ok cols hc st.tests hs.few hs.over
  obtain ⟨ts, so⟩ := st
  have hd : mkDct [(.str "strike", .int 2), (.str "change", .int 3)] = some (.dct [(.str "strike", .int 2), (.str "change", .int 3)]) := by decide +kernel
  have g1 : D.get2 (.dct [(.str "strike", .int 2), (.str "change", .int 3)]) [.str "strike", .int 0] = some (.int 2) := by decide +kernel
  have g2 : D.get2 (.dct [(.str "strike", .int 2), (.str "change", .int 3)]) [.str "change", .int 0] = some (.int 3) := by decide +kernel
  refine run0_of (by rfl) ?_
  cases so with
  | none => simp [b_is_statement, eSt, h1, hd, g1, neY_int, eqY_int]
  | some s =>
    have h2 := are_settings_ok cols hc s (hs.sets s rfl)
    simp [b_is_statement, eSt, h1, hd, g2, neY_int, eqY_int, h2]
theorem check_steps_ok (cols : List Str) (hc : GoodC cols) (l : List (Df.Stp Str)) (hl : l.length ≤ 1000000) (h : ∀ st ∈ l, GoodStp cols st) : F_check_steps [eC cols, eSts l] = some .non := by
  refine run0_of (by rfl) ?_
  have := xLc_of (vs := [2]) (w := up (eWl (vr 1))) (g := gNm 2) (t := up (eNotT (eTru (eCall F_is_statement (eCons (vr 0) (eCons (vr 2) eNil)))))) (e := up (vr 2)) (ρ := [some (eC cols), some (.lst (l.map eSt)), none]) (enc := eSt)
    l (fun st => [some (eC cols), some (.lst (l.map eSt)), some (eSt st)]) (fun _ => false) eSt (by simp) (by simp) (fun st ht => by simp [is_statement_ok cols hc st (h st ht)]) (by simp) (by simp) (by omega) (by simp)
  simp [b_check_steps, eSts, this, neY_lst]
theorem check_scripts_ok (cols : List Str) (hc : GoodC cols) (a b : List (Df.Stp Str)) (ha : a.length ≤ 1000000) (ha' : ∀ st ∈ a, GoodStp cols st) (hb : b.length ≤ 1000000) (hb' : ∀ st ∈ b, GoodStp cols st) (d : D) (ts : List Tt) (hr : F_rule_of [eC cols, d] = some (eTs ts)) :
    F_check_scripts [eC cols, eSts a, eSts b, d] = some (eTs ts) := by
  refine run0_of (by rfl) ?_
  simp [b_check_scripts, check_columns_ok cols hc, check_steps_ok cols hc a ha ha', check_steps_ok cols hc b hb hb', hr]
end R43
set_option Elab.async false
set_option linter.all false
set_option maxRecDepth 100000
set_option maxHeartbeats 1000000
namespace R43
open PySem PySem.Spec L2 RF
open PyProof.Rows hiding St
def wlist (ts : List Tt) : List Str := ts.flatMap fun t => [t.1, t.2.1].filterMap id
def wordsT (ts : List Tt) : List Str := sortU (wlist ts)
theorem mem_wlist (ts : List Tt) (a : Str) : a ∈ wlist ts ↔ ∃ t ∈ ts, t.1 = some a ∨ t.2.1 = some a := by
  unfold wlist
  simp only [List.mem_flatMap, List.mem_filterMap, List.mem_cons, List.not_mem_nil, or_false, id]
  constructor
  · rintro ⟨t, ht, w, hw, e⟩
    subst e
    exact ⟨t, ht, hw.imp Eq.symm Eq.symm⟩
  · rintro ⟨t, ht, h⟩
    exact ⟨t, ht, some a, h.imp Eq.symm Eq.symm, rfl⟩
instance : Df.Words Str where
  wo := wordsT
  nd := fun ts => List.Pairwise.imp (S := fun a b : Str => a ≠ b) (fun {a b} h (e : a = b) => sLt_irr (by subst e; exact h)) (sortU_lt (wlist ts))
  mem := fun ts a => by rw [wordsT, sortU_mem, mem_wlist]
structure Few (ts : List Tt) : Prop where
  ln : ts.length ≤ 1900
  wd : (wordsT ts).length < 64
theorem few_of {ts : List Tt} {L : List Str} (h1 : ts.length ≤ 1900) (h2 : ∀ t ∈ ts, OverW L t.1 ∧ OverW L t.2.1) (h3 : L.length < 64) : Few ts := by
  refine ⟨h1, Nat.lt_of_le_of_lt (Df.pig (Df.Words.nd ts) fun a ha => ?_) h3⟩
  obtain ⟨t, ht, e⟩ := (Df.Words.mem ts a).mp ha
  rcases e with e | e
  · exact (h2 t ht).1 a e
  · exact (h2 t ht).2 a e
theorem ded_nodup : ∀ (l a : List Str), a.Nodup → (l.foldl ded1 a).Nodup ∧ ∀ z, z ∈ l.foldl ded1 a → z ∈ a ∨ z ∈ l
  | [], a, h => ⟨h, fun z hz => .inl hz⟩
  | x :: r, a, h => by
    rw [List.foldl_cons]
    have hd : (ded1 a x).Nodup ∧ ∀ z, z ∈ ded1 a x → z ∈ a ∨ z = x := by
      unfold ded1
      by_cases hx : x ∈ a
      · rw [if_pos hx]; exact ⟨h, fun z hz => .inl hz⟩
      · rw [if_neg hx]
        refine ⟨List.nodup_append.mpr ⟨h, by simp, fun y hy z hz e => ?_⟩, fun z hz => by simpa using hz⟩
        simp at hz; subst hz; subst e; exact hx hy
    obtain ⟨k1, k2⟩ := ded_nodup r (ded1 a x) hd.1
    refine ⟨k1, fun z hz => ?_⟩
    rcases k2 z hz with e | e
    · rcases hd.2 z e with e | e
      · exact .inl e
      · right; simp [e]
    · right; simp [e]
theorem words_of_ok (ts : List Tt) (h : Few ts) : F_words_of [eTs ts] = some (.lst ((wordsT ts).map .str)) := by
  refine run0_of (by rfl) ?_
  have inner : ∀ (ws : List (Option Str)) (ρ0 : RF.Env) (ρ1 : D → RF.Env), (∀ d, gNm 2 d ρ0 = some (ρ1 d)) → (∀ d, lk (ρ1 d) 2 = some d) → (∀ d, wp (ρ1 d) [2] = ρ0) → ∀ acc : List Str, acc.length + ws.length < 4000 →
      runGo (goP pushS [2] (gNm 2) (up (eB (e2 D.isnt2 (vr 2) (cn .non)))) (up (vr 2))) (ws.map eW) (.lst (acc.map .str)) ρ0 = some (.lst ((acc ++ ws.filterMap id).map .str), ρ0) := by
    intro ws ρ0 ρ1 h1 h2 h3
    induction ws with
    | nil => intro acc _; simp [runGo]
    | cons w r ih =>
      intro acc hl
      simp only [List.length_cons] at hl
      rw [List.map_cons]
      have hs : goP pushS [2] (gNm 2) (up (eB (e2 D.isnt2 (vr 2) (cn .non)))) (up (vr 2)) (eW w) (.lst (acc.map .str)) ρ0 = some (.lst ((acc ++ [w].filterMap id).map .str), ρ0) := by
        unfold goP
        rw [h1, Option.bind_some]
        cases w with
        | none => simp only [ev_up, ev_eB, ev_e2, ev_vr, h2, ev_cn, Option.bind_some, ev_isnt2, eW_isNone, ev_asB, Option.map_some, Option.isNone_none, Bool.not_true, Bool.false_eq_true, if_false, h3]; simp
        | some s =>
          simp only [ev_up, ev_eB, ev_e2, ev_vr, h2, ev_cn, Option.bind_some, ev_isnt2, eW_isNone, ev_asB, Option.map_some, Option.isNone_some, Bool.not_false, if_true, h3]
          have : pushS (eW (some s)) (.lst (acc.map .str)) = some (.lst ((acc ++ [s]).map .str)) := by
            show (if (acc.map D.str).length + 1 < 4000 then some (D.lst (acc.map .str ++ [.str s])) else none) = _
            rw [if_pos (by simp; omega)]; simp
          rw [this]; simp
      show (goP pushS [2] _ _ _ (eW w) _ ρ0).bind _ = _
      rw [hs, Option.bind_some, ih (acc ++ [w].filterMap id) (by cases w <;> simp <;> omega)]
      cases w <;> simp
  have hx : xSc2 [1, 2] [2] (up (eWl (vr 0))) (gNm 1) (up yesT) (up (eWl (eSlice (vr 1) eNoPart (ePart (cn (.int 2)))))) (gNm 2) (up (eB (e2 D.isnt2 (vr 2) (cn .non)))) (up (vr 2)) [some (.lst (ts.map eT)), none, none]
      = some (.lst ((wlist ts).map .str), [some (.lst (ts.map eT)), none, none]) := by
    have outer : ∀ (l : List Tt) (acc : List Str), acc.length + 2 * l.length < 4000 → runGo (goP2 pushS [1, 2] [2] (gNm 1) (up yesT) (up (eWl (eSlice (vr 1) eNoPart (ePart (cn (.int 2)))))) (gNm 2) (up (eB (e2 D.isnt2 (vr 2) (cn .non)))) (up (vr 2))) (l.map eT) (.lst (acc.map .str)) [some (.lst (ts.map eT)), none, none]
        = some (.lst ((acc ++ wlist l).map .str), [some (.lst (ts.map eT)), none, none]) := by
      intro l
      induction l with
      | nil => intro acc _; simp [runGo, wlist]
      | cons t r ih =>
        intro acc hl
        simp only [List.length_cons] at hl
        rw [List.map_cons]
        have hin := inner [t.1, t.2.1] [some (.lst (ts.map eT)), some (eT t), none] (fun d => [some (.lst (ts.map eT)), some (eT t), some d]) (by simp) (by simp) (by simp) acc (by simp; omega)
        have hs : goP2 pushS [1, 2] [2] (gNm 1) (up yesT) (up (eWl (eSlice (vr 1) eNoPart (ePart (cn (.int 2)))))) (gNm 2) (up (eB (e2 D.isnt2 (vr 2) (cn .non)))) (up (vr 2)) (eT t) (.lst (acc.map .str)) [some (.lst (ts.map eT)), none, none]
            = some (.lst ((acc ++ [t.1, t.2.1].filterMap id).map .str), [some (.lst (ts.map eT)), none, none]) := by
          unfold goP2
          simp only [List.map_cons, List.map_nil] at hin
          simp [eT, eT] at hin ⊢
          rw [hin]; simp
          exact ⟨_, _, ⟨rfl, rfl⟩, rfl, rfl⟩
        show (goP2 pushS [1, 2] [2] _ _ _ _ _ _ (eT t) _ _).bind _ = _
        rw [hs, Option.bind_some, ih _ (by
          have : ([t.1, t.2.1].filterMap id).length ≤ 2 := List.length_filterMap_le _ _
          simp only [List.length_append]; omega)]
        simp [wlist]
    have := outer ts [] (by have := h.ln; simp; omega)
    simp only [List.map_nil, List.nil_append] at this
    unfold xSc2
    simp [this]
  have hd : (ded (wlist ts)).length < 64 := by
    refine Nat.lt_of_le_of_lt (Df.pig (ded_nodup (wlist ts) [] List.nodup_nil).1 fun z hz => ?_) h.wd
    rcases (ded_nodup (wlist ts) [] List.nodup_nil).2 z hz with e | e
    · cases e
    · exact (sortU_mem _ _).mpr e
  have hso : sortS (.lst ((wlist ts).map .str)) = some (.lst ((wordsT ts).map .str)) := by
    show (asStrs _).bind _ = _
    rw [asStrs_map]
    show (if (ded (wlist ts)).length < 64 then _ else _) = _
    rw [if_pos hd]; rfl
  simp [b_words_of, eTs, hx, hso]
abbrev BFs := Df.BF (Option Str)
def eL (s : BFs) (ns : List (Option Str)) : D := .dct (ns.map fun w => (eW w, .int (s.least w)))
structure BackR (s : BFs) (ns : List (Option Str)) (d : D) : Prop where
  ks : ∃ ks : List (Option Str), ks.Nodup ∧ (∀ w, w ∈ ks ↔ (s.back w).isSome) ∧ (∀ w ∈ ks, w ∈ ns) ∧ d = .dct (ks.map fun w => (eW w, .int ((s.back w).getD 0 : Nat)))
def eMv (m : Option (Option Str)) : D := .lst (m.toList.map eW)
theorem itL (s : BFs) (ns : List (Option Str)) (w : Option Str) (h : w ∈ ns) : D.item (eL s ns) (eW w) = some (.int (s.least w)) := by
  unfold eL
  rw [item_map (fun _ _ => eW_inj) eW_leaf (fun w => .int (s.least w)), if_pos h]
theorem putL (s : BFs) (ns : List (Option Str)) (hn : ns.Nodup) (hl : ns.length ≤ 1000000) (w : Option Str) (h : w ∈ ns) (z : Int) (i : Nat) : D.put (eL s ns) (eW w) (.int z) = some (eL ⟨Df.upd1 s.least w z, Df.upd1 s.back w (some i), some w⟩ ns) := by
  unfold eL
  rw [put_map (fun _ _ => eW_inj) eW_leaf (fun w => .int (s.least w)) w _ ns hn hl, if_pos h]
  congr 4
  funext v
  unfold Df.upd1
  by_cases e : v = w <;> simp [e]
theorem putB {s : BFs} {ns : List (Option Str)} {d : D} (hl : ns.length ≤ 1000000) (hb : BackR s ns d) (w : Option Str) (h : w ∈ ns) (z : Int) (i : Nat) :
    ∃ d', D.put d (eW w) (.int i) = some d' ∧ BackR ⟨Df.upd1 s.least w z, Df.upd1 s.back w (some i), some w⟩ ns d' := by
  obtain ⟨ks, h1, h2, h3, rfl⟩ := hb.ks
  refine ⟨_, put_map (fun _ _ => eW_inj) eW_leaf (fun w => .int ((s.back w).getD 0 : Nat)) w (.int i) ks h1 (Nat.le_trans (Df.pig h1 h3) hl), ⟨if w ∈ ks then ks else ks ++ [w], ?_, ?_, ?_, ?_⟩⟩
  · split
    · exact h1
    · rename_i hw
      refine List.nodup_append.mpr ⟨h1, by simp, fun y hy z hz e => ?_⟩
      simp at hz; subst hz; subst e; exact hw hy
  · intro v
    show _ ↔ (if v = w then some i else s.back v).isSome = true
    by_cases e : v = w
    · subst e
      split <;> rename_i hw <;> simp [hw]
    · rw [if_neg e, ← h2 v]
      split <;> simp [e]
  · intro v hv
    split at hv
    · exact h3 v hv
    · rcases List.mem_append.mp hv with e | e
      · exact h3 v e
      · simp at e; subst e; exact h
  · have hl : ∀ v, ((eW v, if v = w then D.int i else D.int ((s.back v).getD 0 : Nat)) : D × D) = (eW v, .int (((Df.upd1 s.back w (some i)) v).getD 0 : Nat)) := fun v => by
      unfold Df.upd1
      by_cases e : v = w <;> simp [e]
    simp only [hl]
    by_cases hw : w ∈ ks <;> simp [hw]
theorem nodes_nodup (ts : List Tt) : (Df.nodes ts).Nodup := by
  unfold Df.nodes
  refine List.nodup_append.mpr ⟨?_, by simp, fun a ha b hb e => ?_⟩
  · exact List.Pairwise.map some (fun a b h e => h (Option.some.inj e)) (Df.Words.nd ts)
  · simp at hb; subst hb; subst e; simp at ha
theorem nodes_le {ts : List Tt} (h : Few ts) : (Df.nodes ts).length ≤ 64 := by
  rw [Df.nodes_len]
  exact h.wd
theorem relaxed_ok (ts : List Tt) (h : Few ts) : ∃ bd, F_relaxed [eTs ts] = some (.tup [eL (Df.rlxd ts) (Df.nodes ts), bd, eMv (Df.rlxd ts).mv]) ∧ BackR (Df.rlxd ts) (Df.nodes ts) bd := by
  have hw := words_of_ok ts h
  have hN : D.add (.lst ((wordsT ts).map .str)) (.lst [.non]) = some (.lst ((Df.nodes ts).map eW)) := by
    rw [addL_ok (by have := h.wd; simp; omega)]
    simp [Df.nodes, Df.Words.wo, Function.comp_def]
  have hn64 := nodes_le h
  have hnd := nodes_nodup ts
  suffices hh : ∃ d, F_relaxed [eTs ts] = some d ∧ ∃ bd, d = .tup [eL (Df.rlxd ts) (Df.nodes ts), bd, eMv (Df.rlxd ts).mv] ∧ BackR (Df.rlxd ts) (Df.nodes ts) bd by
    obtain ⟨d, e1, bd, e2, e3⟩ := hh
    exact ⟨bd, e2 ▸ e1, e3⟩
  refine run0_ex (by rfl) ?_
  refine wp_nx (ρ1 := [some (eTs ts), some (.lst ((Df.nodes ts).map eW)), none, none, none, none, none, none, none, none, none]) (by simp [hw, hN]) ?_
  have hdc := xDc_of (vs := [7]) (g := gNm 7) (w := up (eWl (vr 1))) (ek := up (vr 7)) (ev := up (cn (.int 0))) (ρ := [some (eTs ts), some (.lst ((Df.nodes ts).map eW)), none, none, none, none, none, none, none, none, none]) (enc := eW) (e := eW) (fun _ _ => eW_inj) eW_leaf
    (Df.nodes ts) (fun w => [some (eTs ts), some (.lst ((Df.nodes ts).map eW)), none, none, none, none, none, some (eW w), none, none, none]) id (fun w => .int 0) (by simp) (by simp) (by simp) (by simp) (by simp) (by simpa using hnd) (by omega) (by simp)
  refine wp_nx (ρ1 := [some (eTs ts), some (.lst ((Df.nodes ts).map eW)), none, some (eL Df.init (Df.nodes ts)), some (.dct []), some (eMv none), none, none, none, none, none]) (by simp [hdc, eMv]; rfl) ?_
  have hrg : rng1 [.int ((Df.nodes ts).length + 1 : Int)] = some ((List.range ((Df.nodes ts).length + 1)).map fun (i : Nat) => .int (i : Int)) := by
    have e : ((Df.nodes ts).length + 1 : Int) = (((Df.nodes ts).length + 1 : Nat) : Int) := by omega
    rw [e, rng_nat ((Df.nodes ts).length + 1) (by omega)]
  have hgo : Df.rlxd ts = Df.go ts ((Df.nodes ts).length + 1) Df.init := by unfold Df.rlxd; rw [Df.nodes_len]
  refine wp_for (enc := fun (i : Nat) => .int (i : Int)) (List.range ((Df.nodes ts).length + 1)) (fun dn ρ => ∃ s x2 bd x6 x7 x8 x9 x10, ρ = [some (eTs ts), some (.lst ((Df.nodes ts).map eW)), x2, some (eL s (Df.nodes ts)), some bd, some (eMv s.mv), x6, x7, x8, x9, x10] ∧ BackR s (Df.nodes ts) bd ∧ Df.rlxd ts = Df.go ts ((Df.nodes ts).length + 1 - dn.length) s)
    (up_of (eLs_of (eCons_of (x := .int ((Df.nodes ts).length + 1 : Int)) (by simp) (eNil_of _)) hrg)) ⟨Df.init, _, _, _, _, _, _, _, rfl, ⟨[], List.nodup_nil, by simp [Df.init], by simp, rfl⟩, hgo⟩ (fun dn' k r ρ e ⟨s, x2, bd, x6, x7, x8, x9, x10, i1, i2, i3⟩ => ?_) (fun ρ ⟨s, x2, bd, x6, x7, x8, x9, x10, i1, i2, i3⟩ => ?_)
  · subst i1
    have hdn : dn'.length < (Df.nodes ts).length + 1 := by
      have := congrArg List.length e
      simp at this; omega
    obtain ⟨m, hm⟩ : ∃ m, (Df.nodes ts).length + 1 - dn'.length = m + 1 := ⟨(Df.nodes ts).length - dn'.length, by omega⟩
    rw [hm] at i3
    refine ⟨[some (eTs ts), some (.lst ((Df.nodes ts).map eW)), some (.int k), some (eL s (Df.nodes ts)), some bd, some (eMv s.mv), x6, x7, x8, x9, x10], by simp, ?_⟩
    refine wp_nx (ρ1 := [some (eTs ts), some (.lst ((Df.nodes ts).map eW)), some (.int k), some (eL { s with mv := none } (Df.nodes ts)), some bd, some (eMv none), x6, x7, x8, x9, x10]) (by simp [eMv]; rfl) ?_
    refine wp_for' (enc := fun p : Tt × Nat => .tup [.int (p.2 : Nat), eT p.1]) ts.zipIdx (fun dn ρ => ∃ s' bd x6 x7 x8 x9 x10, ρ = [some (eTs ts), some (.lst ((Df.nodes ts).map eW)), some (.int k), some (eL s' (Df.nodes ts)), some bd, some (eMv s'.mv), x6, x7, x8, x9, x10] ∧ BackR s' (Df.nodes ts) bd ∧ Df.rnd { s with mv := none } ts 0 = Df.rnd s' (ts.drop dn.length) dn.length)
      (by simp [eTs, enum_map]) ⟨_, _, _, _, _, _, _, rfl, ⟨i2.ks⟩, rfl⟩ (fun dn p r ρ e ⟨s', bd, x6, x7, x8, x9, x10, j1, j2, j3⟩ => ?_) (fun ρ ⟨s', bd, x6, x7, x8, x9, x10, j1, j2, j3⟩ => ?_)
    · subst j1
      obtain ⟨z1, z2, z3, z4⟩ := zip_at e
      obtain ⟨⟨one, other, much⟩, q⟩ := p
      simp only at z1 z2 z3
      subst z1
      have hin := Df.in_nodes (List.mem_of_getElem? z2)
      simp only at hin
      have hi1 := itL s' (Df.nodes ts) one hin.1
      have hi2 := itL s' (Df.nodes ts) other hin.2
      rw [z3] at j3
      have j3 : _ = Df.rnd (Df.rlx s' dn.length (one, other, much)) (ts.drop (dn.length + 1)) (dn.length + 1) := j3
      by_cases hc : s'.least other + much < s'.least one
      · have hp1 := putL s' (Df.nodes ts) hnd (by omega) one hin.1 (s'.least other + much) dn.length
        obtain ⟨bd', hp2, hb2⟩ := putB (by omega : (Df.nodes ts).length ≤ 1000000) j2 one hin.1 (s'.least other + much) dn.length
        have hr : Df.rlx s' dn.length (one, other, much) = ⟨Df.upd1 s'.least one (s'.least other + much), Df.upd1 s'.back one (some dn.length), some one⟩ := by
          unfold Df.rlx; rw [if_pos hc]
        rw [hr] at j3
        refine ⟨[some (eTs ts), some (.lst ((Df.nodes ts).map eW)), some (.int k), some (eL s' (Df.nodes ts)), some bd, some (eMv s'.mv), some (.int dn.length), x7, some (eW one), some (eW other), some (.int much)],
          [some (eTs ts), some (.lst ((Df.nodes ts).map eW)), some (.int k), some (eL ⟨Df.upd1 s'.least one (s'.least other + much), Df.upd1 s'.back one (some dn.length), some one⟩ (Df.nodes ts)), some bd', some (eMv (some one)), some (.int dn.length), x7, some (eW one), some (eW other), some (.int much)], by simp [eT], ?_, _, _, _, _, _, _, _, rfl, hb2, by simpa using j3⟩
        simp [hi1, hi2, D.flat, hc, hp1, hp2, eMv]
      · have hr : Df.rlx s' dn.length (one, other, much) = s' := by unfold Df.rlx; rw [if_neg hc]
        rw [hr] at j3
        refine ⟨[some (eTs ts), some (.lst ((Df.nodes ts).map eW)), some (.int k), some (eL s' (Df.nodes ts)), some bd, some (eMv s'.mv), some (.int dn.length), x7, some (eW one), some (eW other), some (.int much)],
          [some (eTs ts), some (.lst ((Df.nodes ts).map eW)), some (.int k), some (eL s' (Df.nodes ts)), some bd, some (eMv s'.mv), some (.int dn.length), x7, some (eW one), some (eW other), some (.int much)], by simp [eT], ?_, _, _, _, _, _, _, _, rfl, j2, by simpa using j3⟩
        simp [hi1, hi2, D.flat, hc]
    · subst j1
      have j3 : Df.rnd { s with mv := none } ts 0 = s' := by rw [j3]; simp [Df.rnd]
      have hg : Df.rlxd ts = if s'.mv = none then s' else Df.go ts m s' := by
        rw [i3]
        show (let s2 := Df.rnd { s with mv := none } ts 0; if s2.mv = none then s2 else Df.go ts m s2) = _
        rw [j3]
      cases hm' : s'.mv with
      | none =>
        rw [hm', if_pos rfl] at hg
        refine wp_seq (wp_of (fl := .bk _) (by simp [eMv, eqY_lst]; rfl) ?_)
        show Wp _ _
        refine wp_of (by simp; rfl) ⟨_, rfl, bd, ?_, by rw [hg]; exact j2⟩
        rw [hg, hm']; rfl
      | some w =>
        rw [hm', if_neg (by simp)] at hg
        refine wp_nx (ρ1 := [some (eTs ts), some (.lst ((Df.nodes ts).map eW)), some (.int k), some (eL s' (Df.nodes ts)), some bd, some (eMv s'.mv), x6, x7, x8, x9, x10]) (by simp [hm', eMv, eqY_lst]) ?_
        refine wp_of (fl := .nx _) rfl ⟨s', _, _, _, _, _, _, _, rfl, j2, ?_⟩
        have hmm : (Df.nodes ts).length + 1 - (dn' ++ [k]).length = m := by
          rw [List.length_append, List.length_singleton]; omega
        rw [hg, hmm]
  · subst i1
    have i3 : Df.rlxd ts = s := by rw [i3]; simp [Df.go]
    exact wp_of (by simp; rfl) ⟨_, rfl, bd, by rw [i3], by rw [i3]; exact i2⟩
def solD (ts : List Tt) : D := if Df.isOpen ts then .dct ((wordsT ts).map fun a => (.str a, .int (Df.numb ts a))) else .non
theorem str_inj (a b : Str) (h : D.str a = D.str b) : a = b := by injection h
theorem str_leaf (a : Str) : leafKey (D.str a) = true := rfl
theorem solution_of_ok (ts : List Tt) (h : Few ts) : F_solution_of [eTs ts] = some (solD ts) := by
  obtain ⟨bd, hr, hb⟩ := relaxed_ok ts h
  have hw := words_of_ok ts h
  refine run0_wp (by rfl) ?_
  refine wp_nx (ρ1 := [some (eTs ts), some (eL (Df.rlxd ts) (Df.nodes ts)), some bd, some (eMv (Df.rlxd ts).mv), none]) (by simp [hr]) ?_
  cases hm : (Df.rlxd ts).mv with
  | some w =>
    refine wp_rt (d := .non) (by simp [eMv, neY_lst]; rfl) ?_
    show some _ = some _
    simp [solD, Df.isOpen, hm]
  | none =>
    refine wp_nx (ρ1 := [some (eTs ts), some (eL (Df.rlxd ts) (Df.nodes ts)), some bd, some (eMv none), none]) (by simp [eMv, neY_lst]) ?_
    have hdc := xDc_of (vs := [4]) (g := gNm 4) (w := up (eWl (eCall F_words_of (eCons (vr 0) eNil)))) (ek := up (vr 4)) (ev := up (e2 D.sub (e2 D.item (vr 1) (vr 4)) (e2 D.item (vr 1) (cn .non)))) (ρ := [some (eTs ts), some (eL (Df.rlxd ts) (Df.nodes ts)), some bd, some (eMv none), none]) (enc := D.str) (e := D.str) str_inj str_leaf
      (wordsT ts) (fun w => [some (eTs ts), some (eL (Df.rlxd ts) (Df.nodes ts)), some bd, some (eMv none), some (.str w)]) id (fun a => .int ((Df.rlxd ts).least (some a) - (Df.rlxd ts).least none)) (by simp [hw]) (by simp) (by simp) (fun a ha => by
        have h1 : some a ∈ Df.nodes ts := List.mem_append_left _ (List.mem_map_of_mem ha)
        have h2 : none ∈ Df.nodes ts := List.mem_append_right _ (by simp)
        have e1 := itL (Df.rlxd ts) (Df.nodes ts) (some a) h1
        have e2 := itL (Df.rlxd ts) (Df.nodes ts) none h2
        simp only [eW_some, eW_none] at e1 e2
        simp [e1, e2]) (by simp) (by have : (wordsT ts).Nodup := Df.Words.nd ts; simpa using this) (by have := h.wd; omega) (by simp)
    refine wp_of (by rw [ev_fRt, hdc]; rfl) ?_
    show some _ = some _
    have ho : Df.isOpen ts = true := by unfold Df.isOpen; rw [hm]; rfl
    unfold solD
    rw [if_pos ho, List.map_id]
    refine congrArg (fun z => some (D.dct z)) (List.map_congr_left fun a ha => ?_)
    have ha : a ∈ Df.Words.wo ts := ha
    simp only [Df.numb, if_pos ha]
theorem row_of_ok (cols : List Str) (hl : cols.length ≤ 1000000) (ts : List Tt) (h : Few ts) : F_row_of [eC cols, eTs ts] = some (if Df.isOpen ts then .lst (cols.map fun c => .int (Df.numb ts c)) else .non) := by
  have hs := solution_of_ok ts h
  refine run0_of (by rfl) ?_
  cases ho : Df.isOpen ts with
  | false => simp [b_row_of, hs, solD, ho]
  | true =>
    have hlc := xLc_of (vs := [3]) (w := up (eWl (vr 0))) (g := gNm 3) (t := up yesT) (e := up (eM D.get2 (vr 2) (eCons (vr 3) (eCons (cn (.int 0)) eNil)))) (ρ := [some (.lst (cols.map .str)), some (eTs ts), some (.dct ((wordsT ts).map fun a => (.str a, .int (Df.numb ts a)))), none]) (enc := D.str)
      cols (fun c => [some (.lst (cols.map .str)), some (eTs ts), some (.dct ((wordsT ts).map fun a => (.str a, .int (Df.numb ts a)))), some (.str c)]) (fun _ => true) (fun c => .int (Df.numb ts c)) (by simp) (by simp) (by simp) (fun c hc _ => by
        have := get2_map str_inj str_leaf (fun a => .int (Df.numb ts a)) c (.int 0) (wordsT ts)
        simp [this]
        intro hn
        have hn : c ∉ Df.Words.wo ts := hn
        simp [Df.numb, hn]) (by simp) (by omega) (by simp)
    simp [b_row_of, hs, solD, ho, eC, hlc]
end R43
set_option Elab.async false
set_option linter.all false
set_option maxRecDepth 100000
set_option maxHeartbeats 1000000
namespace R43
open PySem PySem.Spec L2 RF
open PyProof.Rows hiding St
abbrev Wy := Df.Way Str
def eTo (l : List Nat) : D := .lst (l.map fun (n : Nat) => .int (n : Int))
def eWay (w : Wy) : D := .ins "Way" [("tests", eTs w.tests), ("outcome", eO w.out), ("touched", eTo w.touched)]
theorem fl_tests (w : Wy) : D.fldC ["Way"] "tests" (eWay w) = some (eTs w.tests) := rfl
theorem fl_out (w : Wy) : D.fldC ["Way"] "outcome" (eWay w) = some (eO w.out) := rfl
theorem fl_touched (w : Wy) : D.fldC ["Way"] "touched" (eWay w) = some (eTo w.touched) := rfl
theorem mk_way (t : List Tt) (o : Option (Df.Oc Str)) (l : List Nat) : mkIns "Way" ["tests", "outcome", "touched"] [eTs t, eO o, eTo l] = some (eWay ⟨t, o, l⟩) := rfl
theorem is_open_ok (w : Wy) (h : Few w.tests) : F_is_open [eWay w] = some (.bl (Df.isOpen w.tests)) := by
  have hs := solution_of_ok w.tests h
  refine run0_of (by rfl) ?_
  cases ho : Df.isOpen w.tests <;> simp [b_is_open, fl_tests, hs, solD, ho]
theorem against_ok (t : Tt) : F_against [eT t] = some (eT (Df.against t)) := by
  obtain ⟨a, b, m⟩ := t
  refine run0_of (by rfl) ?_
  simp [b_against, eT, Df.against]
theorem eS_look (o : Df.Oc Str) (hn : (Df.colsOf o).Nodup) : eS o = .dct ((Df.colsOf o).map fun c => (.str c, eP (Df.look o c))) := by
  unfold eS Df.colsOf
  rw [List.map_map]
  refine congrArg D.dct (List.map_congr_left fun p hp => ?_)
  show _ = (D.str p.1, eP (Df.look o p.1))
  unfold Df.look
  rw [lookup_of_mem hn (v := p.2) hp]; rfl
theorem item_o (o : Df.Oc Str) (c : Str) (h : c ∈ Df.colsOf o) : D.item (eS o) (.str c) = some (eP (Df.look o c)) := by
  unfold eS
  rw [item_str]
  obtain ⟨b, hb⟩ := Df.lookup_some h
  rw [hb]
  unfold Df.look
  rw [hb]; rfl
theorem push_ok (x : D) (l : List D) (hl : l.length ≤ 1000000) : push x (.lst l) = some (.lst (l ++ [x])) := by
  show (if lineOk (l.length + 1) then some (D.lst (l ++ [x])) else none) = _
  rw [if_pos (lineOk_le (by omega))]
theorem seen_by_ok (o : Df.Oc Str) (t : Tt) (h1 : OverW (Df.colsOf o) t.1) (h2 : OverW (Df.colsOf o) t.2.1) : F_seen_by [eS o, eT t] = some (eT (Df.seen o t)) := by
  obtain ⟨a, b, m⟩ := t
  have hz : zipT [.tup [.int (-1), .int 1], .tup [eW a, eW b]] = some ([((-1 : Int), a), (1, b)].map fun p => .tup [.int p.1, eW p.2]) := rfl
  refine run0_wp (by rfl) ?_
  refine wp_nx (ρ1 := [some (eS o), some (.tup [eW a, eW b, .int m]), some (.lst []), some (.int m), none, none, none, none]) (by simp [eT]) ?_
  refine wp_for' (enc := fun p : Int × Option Str => .tup [.int p.1, eW p.2]) [(-1, a), (1, b)] (fun dn ρ => ∃ x4 x5 x6 x7, ρ = [some (eS o), some (.tup [eW a, eW b, .int m]), some (.lst (dn.map fun p => eW (Df.lookW o p.2).1)), some (.int (m + (dn.map fun p => p.1 * (Df.lookW o p.2).2).sum)), x4, x5, x6, x7])
    (by simp [hz]) ⟨none, none, none, none, by simp⟩ (fun dn p r ρ e ⟨x4, x5, x6, x7, i⟩ => ?_) (fun ρ ⟨x4, x5, x6, x7, i⟩ => ?_)
  · subst i
    have hp : (p.1 = -1 ∨ p.1 = 1) ∧ OverW (Df.colsOf o) p.2 := by
      have : p ∈ [((-1 : Int), a), (1, b)] := by rw [e]; simp
      simp only [List.mem_cons, List.not_mem_nil, or_false] at this
      rcases this with rfl | rfl
      · exact ⟨.inl rfl, h1⟩
      · exact ⟨.inr rfl, h2⟩
    have hdn : dn.length ≤ 2 := by
      have := congrArg List.length e
      simp at this; omega
    obtain ⟨q, w⟩ := p
    simp only at hp
    have hm : ∀ z : Int, D.mul (.int q) (.int z) = some (.int (q * z)) := fun z => mulOk (.inl (by rcases hp.1 with h | h <;> rw [h] <;> decide))
    refine ⟨[some (eS o), some (.tup [eW a, eW b, .int m]), some (.lst (dn.map fun p => eW (Df.lookW o p.2).1)), some (.int (m + (dn.map fun p => p.1 * (Df.lookW o p.2).2).sum)), some (.int q), some (eW w), x6, x7],
      [some (eS o), some (.tup [eW a, eW b, .int m]), some (.lst (dn.map (fun p => eW (Df.lookW o p.2).1) ++ [eW (Df.lookW o w).1])), some (.int (m + (dn.map fun p => p.1 * (Df.lookW o p.2).2).sum + q * (Df.lookW o w).2)), some (.int q), some (eW w), some (eW (Df.lookW o w).1), some (.int (Df.lookW o w).2)], by simp, ?_, _, _, _, _, by
        simp [Int.add_assoc]; exact ⟨rfl, rfl, rfl, rfl⟩⟩
    have hpush := push_ok (eW (Df.lookW o w).1) (dn.map fun p => eW (Df.lookW o p.2).1) (by simp; omega)
    cases w with
    | none =>
      simp only [Df.lookW, eW_none] at hpush ⊢
      simp [hm, hpush]
    | some c =>
      have := item_o o c (hp.2 c rfl)
      simp only [Df.lookW] at hpush ⊢
      simp [this, hm, hpush, eP]
  · subst i
    refine wp_of (by simp; rfl) ?_
    show some _ = some _
    simp [eT, Df.seen]
    omega
theorem settled_ok (o s : Df.Oc Str) (hn : (Df.colsOf o).Nodup) (hl : o.length ≤ 1000000) (hs : ∀ p ∈ s, p.1 ∈ Df.colsOf o ∧ OverW (Df.colsOf o) p.2.1) (hsn : (Df.colsOf s).Nodup) : F_settled [eS o, eS s] = some (eS (Df.settledL o s)) := by
  have hd : D.dictOf [eS o] = some (eS o) := by
    unfold eS
    show (if leafKs _ then _ else _) = _
    rw [leafKs_str]; rfl
  have hw : D.walk (eS s) = some (s.map fun p => .str p.1) := by
    unfold eS
    show (if _ then some _ else none) = _
    rw [if_pos (by rw [List.all_map]; exact List.all_eq_true.mpr fun _ _ => rfl)]
    simp
  refine run0_wp (by rfl) ?_
  refine wp_nx (ρ1 := [some (eS o), some (eS s), some (eS o), none, none, none, none, none]) (by simp [hd]) ?_
  refine wp_for' (enc := fun p : Str × (Option Str × Int) => .str p.1) s (fun dn ρ => ∃ x3 x4 x5 x6 x7, ρ = [some (eS o), some (eS s), some (.dct ((Df.colsOf o).map fun c => (.str c, eP (if c ∈ Df.colsOf dn then Df.setc o s c (Df.look o c) else Df.look o c)))), x3, x4, x5, x6, x7])
    (by simp [hw]) ⟨none, none, none, none, none, by rw [eS_look o hn]; rfl⟩ (fun dn p r ρ e ⟨x3, x4, x5, x6, x7, i⟩ => ?_) (fun ρ ⟨x3, x4, x5, x6, x7, i⟩ => ?_)
  · subst i
    have hp : p ∈ s := by rw [e]; simp
    obtain ⟨h1, h2⟩ := hs p hp
    have hit : D.item (eS s) (.str p.1) = some (eP p.2) := by
      unfold eS
      rw [item_str, lookup_of_mem hsn (v := p.2) hp]; rfl
    have hcol : (Df.colsOf o).length ≤ 1000000 := by unfold Df.colsOf; simpa using hl
    obtain ⟨k, w, m⟩ := p
    simp only at h1 h2 hit
    have hput := put_map str_inj str_leaf (fun c => eP (if c ∈ Df.colsOf dn then Df.setc o s c (Df.look o c) else Df.look o c)) k (.tup [eW (Df.lookW o w).1, .int ((Df.lookW o w).2 + m)]) (Df.colsOf o) hn hcol
    rw [if_pos h1] at hput
    have hnew : (fun c => ((.str c, if c = k then .tup [eW (Df.lookW o w).1, .int ((Df.lookW o w).2 + m)] else eP (if c ∈ Df.colsOf dn then Df.setc o s c (Df.look o c) else Df.look o c)) : D × D)) = fun c => (.str c, eP (if c ∈ Df.colsOf (dn ++ [(k, w, m)]) then Df.setc o s c (Df.look o c) else Df.look o c)) := by
      funext c
      by_cases hc : c = k
      · subst hc
        have : Df.setc o s c (Df.look o c) = ((Df.lookW o w).1, (Df.lookW o w).2 + m) := by
          unfold Df.setc
          rw [lookup_of_mem hsn (v := (w, m)) hp]
        have hm : c ∈ Df.colsOf (dn ++ [(c, w, m)]) := by simp [Df.colsOf]
        rw [if_pos rfl, if_pos hm, this]; rfl
      · have hm : c ∈ Df.colsOf (dn ++ [(k, w, m)]) ↔ c ∈ Df.colsOf dn := by simp [Df.colsOf, hc]
        rw [if_neg hc]
        by_cases hd : c ∈ Df.colsOf dn
        · rw [if_pos hd, if_pos (hm.mpr hd)]
        · rw [if_neg hd, if_neg fun z => hd (hm.mp z)]
    rw [hnew] at hput
    refine ⟨[some (eS o), some (eS s), some (.dct ((Df.colsOf o).map fun c => (.str c, eP (if c ∈ Df.colsOf dn then Df.setc o s c (Df.look o c) else Df.look o c)))), some (.str k), x4, x5, x6, x7],
      [some (eS o), some (eS s), some (.dct ((Df.colsOf o).map fun c => (.str c, eP (if c ∈ Df.colsOf (dn ++ [(k, w, m)]) then Df.setc o s c (Df.look o c) else Df.look o c)))), some (.str k), some (eW w), some (.int m), some (eW (Df.lookW o w).1), some (.int (Df.lookW o w).2)], by simp, ?_, _, _, _, _, _, rfl⟩
    cases w with
    | none =>
      have hit' : D.item (eS s) (.str k) = some (.tup [.non, .int m]) := hit
      simp only [Df.lookW, eW_none, Int.zero_add] at hput ⊢
      simp [hit', hput]
    | some c =>
      have hc := item_o o c (h2 c rfl)
      have hit' : D.item (eS s) (.str k) = some (.tup [.str c, .int m]) := hit
      have hc' : D.item (eS o) (.str c) = some (.tup [eW (Df.look o c).1, .int (Df.look o c).2]) := hc
      simp only [Df.lookW] at hput ⊢
      simp [hit', hput, hc']
  · subst i
    refine wp_of (by simp; rfl) ?_
    show some _ = some _
    rw [eS_look (Df.settledL o s) (by rw [Df.settledL_cols]; exact hn), Df.settledL_cols]
    refine congrArg (fun z => some (D.dct z)) (List.map_congr_left fun c hc => ?_)
    have e : (Df.settledL o s).lookup c = (o.lookup c).map (Df.setc o s c) := Df.lookup_map (Df.setc o s) c o
    obtain ⟨b, hb⟩ := Df.lookup_some hc
    have e2 : Df.look (Df.settledL o s) c = Df.setc o s c (Df.look o c) := by
      unfold Df.look
      rw [e, hb]; rfl
    rw [e2]
    by_cases hm : c ∈ Df.colsOf s
    · rw [if_pos hm]
    · rw [if_neg hm]
      have : Df.setc o s c (Df.look o c) = Df.look o c := by
        unfold Df.setc
        rw [Df.lookup_none hm]
      rw [this]
structure WG (cols : List Str) (N : Nat) (w : Wy) : Prop where
  over : Over cols w.tests
  few : w.tests.length ≤ N
  out : ∀ o, w.out = some o → Df.colsOf o = cols ∧ ∀ p ∈ o, OverW cols p.2.1
  tch : w.touched.length ≤ N
theorem over_app {cols : List Str} {a b : List Tt} (ha : Over cols a) (hb : Over cols b) : Over cols (a ++ b) := fun t ht => (List.mem_append.mp ht).elim (ha t) (hb t)
theorem over_take {cols : List Str} {a : List Tt} (ha : Over cols a) (n : Nat) : Over cols (a.take n) := fun t ht => ha t (List.mem_of_mem_take ht)
theorem look_over {cols : List Str} {o : Df.Oc Str} (h : ∀ p ∈ o, OverW cols p.2.1) {c : Str} (hc : c ∈ Df.colsOf o) : OverW cols (Df.look o c).1 := by
  obtain ⟨b, hb⟩ := Df.lookup_some hc
  unfold Df.look
  rw [hb]
  have : (c, b) ∈ o := by
    clear h hc
    induction o with
    | nil => cases hb
    | cons p r ih =>
      obtain ⟨k, v⟩ := p
      rw [List.lookup_cons] at hb
      by_cases e : c = k
      · subst e; simp at hb; subst hb; exact List.mem_cons_self
      · have e' : (c == k) = false := by simpa using e
        rw [e'] at hb
        exact List.mem_cons_of_mem _ (ih hb)
  exact h _ this
theorem lookW_over {cols : List Str} {o : Df.Oc Str} (hc : Df.colsOf o = cols) (h : ∀ p ∈ o, OverW cols p.2.1) {w : Option Str} (hw : OverW cols w) : OverW cols (Df.lookW o w).1 := by
  cases w with
  | none => intro s e; cases e
  | some c => exact look_over h (hc.symm ▸ hw c rfl)
theorem seen_over {cols : List Str} {o : Df.Oc Str} (hc : Df.colsOf o = cols) (h : ∀ p ∈ o, OverW cols p.2.1) {ts : List Tt} (ht : Over cols ts) : Over cols (ts.map (Df.seen o)) := fun t hm => by
  obtain ⟨u, hu, rfl⟩ := List.mem_map.mp hm
  exact ⟨lookW_over hc h (ht u hu).1, lookW_over hc h (ht u hu).2⟩
theorem against_over {cols : List Str} {t : Tt} (h : OverW cols t.1 ∧ OverW cols t.2.1) : Over cols [Df.against t] := fun u hu => by
  simp only [List.mem_cons, List.not_mem_nil, or_false] at hu
  subst hu
  exact ⟨h.2, h.1⟩
theorem settled_over {cols : List Str} {o s : Df.Oc Str} (hc : Df.colsOf o = cols) (h : ∀ p ∈ o, OverW cols p.2.1) (hs : GoodSt cols s) : ∀ p ∈ Df.settledL o s, OverW cols p.2.1 := fun p hp => by
  obtain ⟨q, hq, rfl⟩ := List.mem_map.mp hp
  show OverW cols (Df.setc o s q.1 q.2).1
  unfold Df.setc
  cases e : s.lookup q.1 with
  | none => exact h q hq
  | some b =>
    obtain ⟨w, m⟩ := b
    have : (q.1, (w, m)) ∈ s := by
      clear hs hp h hq
      induction s with
      | nil => cases e
      | cons p r ih =>
        obtain ⟨k, v⟩ := p
        rw [List.lookup_cons] at e
        by_cases h : q.1 = k
        · have h' : (q.1 == k) = true := by simpa using h
          rw [h'] at e; cases e; rw [h]; exact List.mem_cons_self
        · have h' : (q.1 == k) = false := by simpa using h
          rw [h'] at e
          exact List.mem_cons_of_mem _ (ih e)
    exact lookW_over hc h (hs.over _ this).2
theorem ways_on_wg {cols : List Str} {N : Nat} {w : Wy} {i : Nat} {st : Df.Stp Str} (hw : WG cols N w) (hs : GoodStp cols st) : ∀ w' ∈ Df.waysOn w i st, WG cols (N + st.tests.length + 1) w' := fun w' hm => by
  unfold Df.waysOn at hm
  cases ho : w.out with
  | none =>
    rw [ho] at hm
    simp only [List.mem_cons, List.not_mem_nil, or_false] at hm
    subst hm
    exact ⟨hw.over, by have := hw.few; omega, hw.out, by have := hw.tch; omega⟩
  | some o =>
    rw [ho] at hm
    obtain ⟨hc, hov⟩ := hw.out o ho
    have hsn := seen_over hc hov hs.over
    simp only [List.mem_filter, List.mem_append, List.mem_map, List.mem_singleton] at hm
    rcases hm.1 with ⟨p, hp, rfl⟩ | rfl
    · have hp1 : p.1 ∈ st.tests.map (Df.seen o) := by
        obtain ⟨a, b⟩ := p
        have := List.mem_zipIdx hp
        simp at this
        rw [this.2]
        simp only [List.mem_map]
        exact ⟨_, List.getElem_mem _, rfl⟩
      refine ⟨over_app (over_app hw.over (over_take hsn _)) (against_over (hsn _ hp1)), ?_, fun o' e => by cases e; exact ⟨hc, hov⟩, by have := hw.tch; show w.touched.length ≤ _; omega⟩
      have := hw.few
      simp only [List.length_append, List.length_take, List.length_map, List.length_singleton]
      omega
    · refine ⟨over_app hw.over hsn, ?_, fun o' e => ?_, ?_⟩
      · have := hw.few
        simp only [List.length_append, List.length_map]; omega
      · simp only [Option.map_eq_some_iff] at e
        obtain ⟨s, es, rfl⟩ := e
        exact ⟨by rw [Df.settledL_cols]; exact hc, settled_over hc hov (hs.sets s es)⟩
      · have := hw.tch
        simp only [List.length_append, List.length_singleton]; omega
theorem wg_few {cols : List Str} (h64 : cols.length < 64) {N : Nat} (hN : N ≤ 1900) {w : Wy} (hw : WG cols N w) : Few w.tests := few_of (Nat.le_trans hw.few hN) hw.over h64
theorem ways_on_ok (cols : List Str) (hnd : cols.Nodup) (h64 : cols.length < 64) (N : Nat) (w : Wy) (i : Nat) (st : Df.Stp Str) (hw : WG cols N w) (hs : GoodStp cols st) (hN : N + st.tests.length + 1 ≤ 1900) : F_ways_on [eWay w, .int (i : Nat), eSt st] = some (.lst ((Df.waysOn w i st).map eWay)) := by
  refine run0_wp (by rfl) ?_
  cases ho : w.out with
  | none =>
    refine wp_rt (d := .lst [eWay w]) (by simp [fl_out, ho, eO]; rfl) ?_
    show some _ = some _
    unfold Df.waysOn
    rw [ho]; rfl
  | some o =>
    obtain ⟨hc, hov⟩ := hw.out o ho
    have hE : D.fldC ["Way"] "outcome" (eWay w) = some (eS o) := by rw [fl_out, ho]; rfl
    have hst1 : D.item (eSt st) (.int 1) = some (eTs st.tests) := by
      unfold eSt; cases st.sets <;> simp
    let sn := st.tests.map (Df.seen o)
    have hsnl : sn.length = st.tests.length := by simp [sn]
    refine wp_nx (ρ1 := [some (eWay w), some (.int i), some (eSt st), none, none, none, none, none, none]) (by simp [hE]; rfl) ?_
    have hlc := xLc_of (vs := [7]) (w := up (eWl (e2 D.item (vr 2) (cn (.int 1))))) (g := gNm 7) (t := up yesT) (e := up (eCall F_seen_by (eCons (e1 (D.fldC ["Way"] "outcome") (vr 0)) (eCons (vr 7) eNil)))) (ρ := [some (eWay w), some (.int i), some (eSt st), none, none, none, none, none, none]) (enc := eT)
      st.tests (fun t => [some (eWay w), some (.int i), some (eSt st), none, none, none, none, some (eT t), none]) (fun _ => true) (fun t => eT (Df.seen o t)) (by simp [hst1, eTs]) (by simp) (by simp) (fun t ht _ => by
        simp [hE, seen_by_ok o t (hc.symm ▸ (hs.over t ht).1) (hc.symm ▸ (hs.over t ht).2)]) (by simp) (by omega) (by simp)
    rw [filter_tt] at hlc
    have hsn : st.tests.map (fun t => eT (Df.seen o t)) = sn.map eT := by simp [sn]
    rw [hsn] at hlc
    refine wp_nx (ρ1 := [some (eWay w), some (.int i), some (eSt st), none, some (eTs sn), some (.lst []), none, none, none]) (by simp [hlc, eTs]) ?_
    refine wp_for' (enc := fun p : Tt × Nat => .tup [.int (p.2 : Nat), eT p.1]) sn.zipIdx (fun dn ρ => ∃ x6 x7, ρ = [some (eWay w), some (.int i), some (eSt st), none, some (eTs sn), some (.lst (dn.map fun p => eWay ⟨w.tests ++ sn.take p.2 ++ [Df.against p.1], some o, w.touched⟩)), x6, x7, none])
      (by simp [eTs, enum_map]) ⟨_, _, rfl⟩ (fun dn p r ρ e ⟨x6, x7, j⟩ => ?_) (fun ρ ⟨x6, x7, j⟩ => ?_)
    · subst j
      obtain ⟨z1, z2, z3, z4⟩ := zip_at e
      obtain ⟨t, q⟩ := p
      simp only at z1 z2
      subst z1
      have hdl : dn.length ≤ 1000000 := by omega
      have ha : D.add (eTs w.tests) (.lst ((sn.take dn.length).map eT)) = some (eTs (w.tests ++ sn.take dn.length)) := by
        unfold eTs
        rw [addL_ok (by have := hw.few; simp; omega)]; simp
      have hb : D.add (eTs (w.tests ++ sn.take dn.length)) (.lst [eT (Df.against t)]) = some (eTs (w.tests ++ sn.take dn.length ++ [Df.against t])) := by
        unfold eTs
        rw [addL_ok (by have := hw.few; simp; omega)]; simp
      have hsl : D.slice none (some (dn.length : Int)) (eTs sn) = some (.lst ((sn.take dn.length).map eT)) := by
        unfold eTs; rw [sl_take, List.map_take]
      have hmk := mk_way (w.tests ++ sn.take dn.length ++ [Df.against t]) (some o) w.touched
      have hpush := push_ok (eWay ⟨w.tests ++ sn.take dn.length ++ [Df.against t], some o, w.touched⟩) (dn.map fun p => eWay ⟨w.tests ++ sn.take p.2 ++ [Df.against p.1], some o, w.touched⟩) (by simpa using hdl)
      refine ⟨[some (eWay w), some (.int i), some (eSt st), none, some (eTs sn), some (.lst (dn.map fun p => eWay ⟨w.tests ++ sn.take p.2 ++ [Df.against p.1], some o, w.touched⟩)), some (.int dn.length), some (eT t), none],
        [some (eWay w), some (.int i), some (eSt st), none, some (eTs sn), some (.lst (dn.map (fun p => eWay ⟨w.tests ++ sn.take p.2 ++ [Df.against p.1], some o, w.touched⟩) ++ [eWay ⟨w.tests ++ sn.take dn.length ++ [Df.against t], some o, w.touched⟩])), some (.int dn.length), some (eT t), none], by simp, ?_, _, _, by simp; exact ⟨rfl, rfl⟩⟩
      simp only [eO] at hmk
      simp only [ev_fSeq, ev_fPush, lk_succ, lk_zero, ev_asL, Option.bind_some, ev_xCall, ev_up, ev_eCons, ev_eNil, ev_e2, ev_e1, ev_vr, ev_eSlice, ev_eNoPart, ev_ePart, ev_asInt, ev_eCall, Option.map_some, fl_tests, hE, fl_touched, hsl, ha, against_ok, mkLst_1, hb, hmk, hpush, thn_nx, ev_fNx, List.set_cons_succ, List.set_cons_zero]
    · subst j
      let cand : List Wy := (sn.zipIdx.map fun p => (⟨w.tests ++ sn.take p.2 ++ [Df.against p.1], some o, w.touched⟩ : Wy)) ++ [⟨w.tests ++ sn, st.sets.map (Df.settledL o), w.touched ++ [i]⟩]
      have hcd : Df.waysOn w i st = cand.filter fun y => Df.isOpen y.tests := by
        unfold Df.waysOn
        rw [ho]
      let later := st.sets.map (Df.settledL o)
      refine wp_nx (ρ1 := [some (eWay w), some (.int i), some (eSt st), some (eO later), some (eTs sn), some (.lst (sn.zipIdx.map fun p => eWay ⟨w.tests ++ sn.take p.2 ++ [Df.against p.1], some o, w.touched⟩)), x6, x7, none]) ?_ ?_
      · cases hss : st.sets with
        | none =>
          have h0 : D.item (eSt st) (.int 0) = some (.str "strike") := by unfold eSt; rw [hss]; simp
          have : later = none := by simp [later, hss]
          rw [this]
          simp [h0, eqY_str, eO]
        | some s =>
          have h0 : D.item (eSt st) (.int 0) = some (.str "change") := by unfold eSt; rw [hss]; simp
          have h2 : D.item (eSt st) (.int 2) = some (eS s) := by unfold eSt; rw [hss]; simp
          have : later = some (Df.settledL o s) := by simp [later, hss]
          rw [this]
          have hgs := hs.sets s hss
          have hset := settled_ok o s (hc.symm ▸ hnd) (by
            have : (Df.colsOf o).length = o.length := by simp [Df.colsOf]
            rw [hc] at this; omega) (fun p hp => by rw [hc]; exact hgs.over p hp) hgs.nd
          have hne : ¬ (("change" : Str) = "strike") := by decide +kernel
          simp [h0, h2, eqY_str, hE, hset, eO, hne]
      · have hwg : ∀ y ∈ cand, Few y.tests := fun y hy => by
          have hsn' := seen_over hc hov hs.over
          rcases List.mem_append.mp hy with hy | hy
          · obtain ⟨p, hp, rfl⟩ := List.mem_map.mp hy
            have hp1 : p.1 ∈ sn := by
              obtain ⟨a, b⟩ := p
              have := List.mem_zipIdx hp
              simp at this
              rw [this.2]
              exact List.getElem_mem _
            refine few_of ?_ (over_app (over_app hw.over (over_take hsn' _)) (against_over (hsn' _ hp1))) h64
            have := hw.few
            simp only [List.length_append, List.length_take, List.length_singleton]
            omega
          · simp only [List.mem_cons, List.not_mem_nil, or_false] at hy
            subst hy
            refine few_of ?_ (over_app hw.over hsn') h64
            have := hw.few
            simp only [List.length_append]
            omega
        have ha : D.add (eTs w.tests) (eTs sn) = some (eTs (w.tests ++ sn)) := by
          unfold eTs
          rw [addL_ok (by have := hw.few; simp; omega)]; simp
        have hb : D.add (eTo w.touched) (.lst [.int (i : Nat)]) = some (eTo (w.touched ++ [i])) := by
          unfold eTo
          rw [addL_ok (by have := hw.tch; simp; omega)]; simp
        have hmk := mk_way (w.tests ++ sn) later (w.touched ++ [i])
        have hcat : D.add (.lst (sn.zipIdx.map fun p => eWay ⟨w.tests ++ sn.take p.2 ++ [Df.against p.1], some o, w.touched⟩)) (.lst [eWay ⟨w.tests ++ sn, later, w.touched ++ [i]⟩]) = some (.lst (cand.map eWay)) := by
          rw [addL_ok (by simp; omega)]
          simp [cand, later]
        have hlc := xLc_of (vs := [8]) (g := gNm 8) (t := up (eTru (eCall F_is_open (eCons (vr 8) eNil)))) (e := up (vr 8)) (w := (xWl (o2 D.add (up (vr 5)) (xCall mkLst (xCons (xCall (mkIns "Way" ["tests", "outcome", "touched"]) (up (eCons (e2 D.add (e1 (D.fldC ["Way"] "tests") (vr 0)) (vr 4)) (eCons (vr 3) (eCons (e2 D.add (e1 (D.fldC ["Way"] "touched") (vr 0)) (eCall mkLst (eCons (vr 1) eNil))) eNil))))) xNil)))))
          (ρ := [some (eWay w), some (.int i), some (eSt st), some (eO later), some (eTs sn), some (.lst (sn.zipIdx.map fun p => eWay ⟨w.tests ++ sn.take p.2 ++ [Df.against p.1], some o, w.touched⟩)), x6, x7, none]) (enc := eWay)
          cand (fun y => [some (eWay w), some (.int i), some (eSt st), some (eO later), some (eTs sn), some (.lst (sn.zipIdx.map fun p => eWay ⟨w.tests ++ sn.take p.2 ++ [Df.against p.1], some o, w.touched⟩)), x6, x7, some (eWay y)]) (fun y => Df.isOpen y.tests) eWay
          (by simp only [ev_xWl, ev_o2, ev_up, ev_vr, lk_succ, lk_zero, Option.map_some, Option.bind_some, ev_xCall, ev_xCons, ev_xNil, ev_eCons, ev_eNil, ev_e2, ev_e1, fl_tests, ha, fl_touched, ev_eCall, mkLst_1, hb, hmk, hcat, walk_lst])
          (by simp) (fun y hy => by simp [is_open_ok y (hwg y hy)]) (by simp) (by simp) (by simp [cand, sn]; have := hs.few; omega) (by simp)
        refine wp_of (by rw [ev_fRt, hlc]; rfl) ?_
        show some _ = some _
        rw [hcd]
end R43
set_option Elab.async false
set_option linter.all false
set_option maxRecDepth 100000
set_option maxHeartbeats 1000000
namespace R43
open PySem PySem.Spec L2 RF
open PyProof.Rows hiding St
def IsRing (ts : List Tt) (l : List Nat) : Prop := ∃ (p : Nat) (f : Nat → Option Str) (g : Nat → Nat) (m : Nat → Int), 0 < p ∧ p ≤ 64 ∧ l = (List.range p).map g ∧ f p = f 0 ∧ (∀ i j, i < j → j < p → f i ≠ f j) ∧ (∀ j, ts[g j]? = some (f j, f (j + 1), m j)) ∧ Df.sumTo m p < 0
def eRg : Option (List Nat) → D
  | none => .non
  | some l => .lst (l.map fun i => .int (i : Nat))
theorem neY_str (i j : Str) : D.neY (.str i) (.str j) = some (.bl (!(i == j))) := rfl
theorem neY_w (a b : Option Str) : D.neY (eW a) (eW b) = some (.bl (decide (a ≠ b))) := by
  cases a with
  | none => cases b <;> rfl
  | some a =>
    cases b with
    | none => rfl
    | some b =>
      rw [eW_some, eW_some, neY_str]
      by_cases h : a = b
      · subst h; simp
      · have : (some a : Option Str) ≠ some b := fun e => h (Option.some.inj e)
        simp [h]
theorem walk_w (g : Option Str → D) (ns : List (Option Str)) : D.walk (.dct (ns.map fun w => (eW w, g w))) = some (ns.map eW) := by
  show (if _ then _ else _) = _
  rw [if_pos (List.all_eq_true.mpr fun p hp => by
    obtain ⟨w, _, rfl⟩ := List.mem_map.mp hp
    cases w <;> rfl), List.map_map]
  rfl
theorem wh_wp {t : FTx} {fb : FS} {Q : Fl → Prop} (I : Nat → RF.Env → Prop) (p : Nat) (step : ∀ j ρ, j < p → I j ρ → ∃ ρ1, t ρ = some (true, ρ) ∧ fb ρ = some (.nx ρ1) ∧ I (j + 1) ρ1) (stop : ∀ ρ, I p ρ → t ρ = some (false, ρ)) (fin : ∀ ρ, I p ρ → Q (.nx ρ)) :
    ∀ (d j fuel : Nat) (ρ : RF.Env), j + d = p → d < fuel → I j ρ → Wp (whGo t fb fuel ρ) Q
  | 0, j, 0, ρ, h, hf, i => absurd hf (by omega)
  | d + 1, j, 0, ρ, h, hf, i => absurd hf (by omega)
  | 0, j, fuel + 1, ρ, h, hf, i => by
    have e : j = p := by omega
    subst e
    exact ⟨.nx ρ, by rw [whGo, stop ρ i]; rfl, fin ρ i⟩
  | d + 1, j, fuel + 1, ρ, h, hf, i => by
    obtain ⟨ρ1, e1, e2, i1⟩ := step j ρ (by omega) i
    obtain ⟨fl, e3, q⟩ := wh_wp I p step stop fin d (j + 1) fuel ρ1 (by omega) (by omega) i1
    exact ⟨fl, by rw [whGo, e1]; show (fb ρ).bind _ = _; rw [e2]; exact e3, q⟩
theorem ring_of_ok (ts : List Tt) (h : Few ts) : ∃ r : Option (List Nat), F_ring_of [eTs ts] = some (eRg r) ∧ (Df.isOpen ts = true → r = none) ∧ (Df.isOpen ts = false → ∃ l, r = some l ∧ IsRing ts l) := by
  obtain ⟨bd, hr, hb⟩ := relaxed_ok ts h
  suffices hh : ∃ d, F_ring_of [eTs ts] = some d ∧ ∃ r : Option (List Nat), d = eRg r ∧ (Df.isOpen ts = true → r = none) ∧ (Df.isOpen ts = false → ∃ l, r = some l ∧ IsRing ts l) by
    obtain ⟨d, e1, r, e2, e3⟩ := hh
    exact ⟨r, e2 ▸ e1, e3⟩
  have hn64 := nodes_le h
  have hgo : Df.rlxd ts = Df.go ts ((Df.nodes ts).length + 1) Df.init := by unfold Df.rlxd; rw [Df.nodes_len]
  refine run0_ex (by rfl) ?_
  refine wp_nx (ρ1 := [some (eTs ts), none, none, some (eL (Df.rlxd ts) (Df.nodes ts)), some bd, some (eMv (Df.rlxd ts).mv), none, none]) (by simp [hr]) ?_
  cases hm : (Df.rlxd ts).mv with
  | none =>
    refine wp_rt (d := .non) (by simp [eMv, eqY_lst]; rfl) ?_
    exact ⟨_, rfl, none, rfl, fun _ => rfl, fun e => by simp [Df.isOpen, hm] at e⟩
  | some w =>
    have hno : Df.isOpen ts = false := by unfold Df.isOpen; rw [hm]; rfl
    obtain ⟨p, p1, p2, hall, r3, r4, r5, g, m, rg, hs⟩ := Df.go_ring ts (Df.nodes ts) (fun t ht => Df.in_nodes ht) w (by rw [← hgo]; exact hm)
    rw [← hgo] at hall r3 r4 r5 rg
    obtain ⟨ks, k1, k2, k3, rfl⟩ := hb.ks
    have hit : ∀ v i, (Df.rlxd ts).back v = some i → D.item (.dct (ks.map fun w => (eW w, .int (((Df.rlxd ts).back w).getD 0 : Nat)))) (eW v) = some (.int (i : Nat)) := fun v i e => by
      rw [item_map (fun _ _ => eW_inj) eW_leaf (fun w => .int (((Df.rlxd ts).back w).getD 0 : Nat)), if_pos ((k2 v).mpr (by rw [e]; rfl)), e]; rfl
    have hnx : ∀ v, ((Df.rlxd ts).back v).isSome → ∀ i, (Df.rlxd ts).back v = some i → ∀ t, ts[i]? = some t → Df.nx ts (Df.rlxd ts) v = t.2.1 := fun v _ i e t et => by
      simp only [Df.nx, e, et]
    refine wp_nx (ρ1 := [some (eTs ts), none, none, some (eL (Df.rlxd ts) (Df.nodes ts)), some (.dct (ks.map fun w => (eW w, .int (((Df.rlxd ts).back w).getD 0 : Nat)))), some (eMv (some w)), none, none]) (by simp [eMv, eqY_lst]) ?_
    refine wp_nx (ρ1 := [some (eTs ts), none, none, some (eL (Df.rlxd ts) (Df.nodes ts)), some (.dct (ks.map fun w => (eW w, .int (((Df.rlxd ts).back w).getD 0 : Nat)))), some (eMv (some w)), some (eW w), some (.lst [])]) (by simp [eMv]) ?_
    obtain ⟨f, hf⟩ : ∃ f : Nat → Option Str, f = fun j => Df.itn ts (Df.rlxd ts) j (Df.itn ts (Df.rlxd ts) (Df.nodes ts).length w) := ⟨_, rfl⟩
    have p3 : f p = f 0 := by rw [hf]; exact r3
    have p4 : ∀ j, 0 < j → j < p → f j ≠ f 0 := by rw [hf]; exact r4
    have p5 : ∀ i j, i < j → j < p → f i ≠ f j := by rw [hf]; exact r5
    have hg : ∀ j, (Df.rlxd ts).back (f j) = some (g j) ∧ ts[g j]? = some (f j, f (j + 1), m j) := by rw [hf]; exact rg
    have hf0 : f 0 = Df.itn ts (Df.rlxd ts) (Df.nodes ts).length w := by rw [hf]; rfl
    clear hf r3 r4 r5 rg
    generalize hbk : D.dct (ks.map fun w => (eW w, .int (((Df.rlxd ts).back w).getD 0 : Nat))) = bk at *
    generalize Df.rlxd ts = s at *
    -- one step back
    have step : ∀ v i u m', s.back v = some i → ts[i]? = some (v, u, m') → D.item bk (eW v) = some (.int (i : Nat)) ∧ D.item (eTs ts) (.int (i : Nat)) = some (eT (v, u, m')) := fun v i u m' e1 e2 => by
      refine ⟨hit v i e1, ?_⟩
      unfold eTs
      rw [item_nat, List.getElem?_map, e2]; rfl
    refine wp_for' (enc := eW) (Df.nodes ts) (fun dn ρ => ∃ x1, ρ = [some (eTs ts), x1, none, some (eL s (Df.nodes ts)), some bk, some (eMv (some w)), some (eW (Df.itn ts s dn.length w)), some (.lst [])])
      (by simp [eL, walk_w]) ⟨none, rfl⟩ (fun dn k r ρ e ⟨x1, j1⟩ => ?_) (fun ρ ⟨x1, j1⟩ => ?_)
    · subst j1
      obtain ⟨i, m', e1, e2⟩ := hall dn.length
      obtain ⟨h1, h2⟩ := step _ _ _ _ e1 e2
      refine ⟨[some (eTs ts), some (eW k), none, some (eL s (Df.nodes ts)), some bk, some (eMv (some w)), some (eW (Df.itn ts s dn.length w)), some (.lst [])],
        [some (eTs ts), some (eW k), none, some (eL s (Df.nodes ts)), some bk, some (eMv (some w)), some (eW (Df.itn ts s (dn.length + 1) w)), some (.lst [])], by simp, ?_, some (eW k), by rw [List.length_append, List.length_singleton]⟩
      simp [h1, h2, eT]
    · subst j1
      rw [← hf0]
      refine wp_nx (ρ1 := [some (eTs ts), x1, some (eW (f 0)), some (eL s (Df.nodes ts)), some bk, some (eMv (some w)), some (eW (f 0)), some (.lst [])]) (by simp) ?_
      have hlen : ∀ j, (((List.range j).map g).map fun i => D.int (i : Nat)).isEmpty = decide (j = 0) := fun j => by cases j <;> simp
      refine wp_seq (wh_wp (fun j ρ => ρ = [some (eTs ts), x1, some (eW (f 0)), some (eL s (Df.nodes ts)), some bk, some (eMv (some w)), some (eW (f j)), some (.lst (((List.range j).map g).map fun i => .int (i : Nat)))]) p (fun j ρ hj i => ?_) (fun ρ i => ?_) (fun ρ i => ?_) p 0 100 _ (by omega) (by omega) (by simp))
      · subst i
        obtain ⟨e1, e2⟩ := hg j
        obtain ⟨h1, h2⟩ := step _ _ _ _ e1 e2
        refine ⟨_, ?_, ?_, rfl⟩
        · by_cases h0 : j = 0
          · subst h0; simp [eqY_lst, neY_w]
          · have hne : f j ≠ f 0 := p4 j (by omega) hj
            simp [eqY_lst, neY_w, hlen, h0, hne]
        · have hp := push_ok (.int (g j : Nat)) (((List.range j).map g).map fun i => D.int (i : Nat)) (by simp; omega)
          have hrs : ((List.range j).map g).map (fun i => D.int (i : Nat)) ++ [.int (g j : Nat)] = ((List.range (j + 1)).map g).map fun i => D.int (i : Nat) := by rw [List.range_succ]; simp
          rw [hrs] at hp
          simp only [List.map_map] at hp
          simp [h1, h2, eT, hp]
      · subst i
        simp [eqY_lst, neY_w, hlen, p3, show p ≠ 0 by omega]
      · subst i
        refine wp_of (fl := .rt (.lst (((List.range p).map g).map fun i => .int (i : Nat))) _) (by simp; rfl) ⟨_, rfl, some ((List.range p).map g), rfl, (fun e => absurd (hno.symm.trans e) (by simp)), fun _ => ⟨_, rfl, p, f, g, m, p1, by omega, rfl, p3, p5, fun j => (hg j).2, hs⟩⟩
end R43
set_option Elab.async false
set_option linter.all false
set_option maxRecDepth 100000
set_option maxHeartbeats 1000000
namespace R43
open PySem PySem.Spec L2 RF
open PyProof.Rows hiding St
abbrev OW := Option Str
def eP2 (p : OW × OW) : D := .tup [eW p.1, eW p.2]
theorem eP2_inj (p q : OW × OW) (h : eP2 p = eP2 q) : p = q := by
  obtain ⟨a, b⟩ := p
  obtain ⟨c, d⟩ := q
  unfold eP2 at h
  injection h with h
  injection h with h1 h
  injection h with h2 _
  have h1 : a = c := eW_inj h1
  have h2 : b = d := eW_inj h2
  rw [h1, h2]
theorem eP2_flat (p : OW × OW) : flatTup (eP2 p) = true := by
  obtain ⟨a, b⟩ := p
  show ([eW a, eW b].all leafKey) = true
  simp [eW_leaf]
theorem eP2_ks (g : OW × OW → D) (ks : List (OW × OW)) : tupKs (ks.map fun p => (eP2 p, g p)) = true := by
  unfold tupKs
  rw [List.all_map]
  exact List.all_eq_true.mpr fun p _ => eP2_flat p
structure BestR (ns : List OW) (B : Df.BM OW) (d : D) : Prop where
  ks : ∃ ks : List (OW × OW), ks.Nodup ∧ (∀ p, p ∈ ks ↔ (B p.1 p.2).isSome) ∧ (∀ p ∈ ks, p.1 ∈ ns ∧ p.2 ∈ ns) ∧ d = .dct (ks.map fun p => (eP2 p, .int ((B p.1 p.2).getD 0)))
theorem pairs_le {ns : List OW} (hn : ns.length ≤ 64) {ks : List (OW × OW)} (h : ks.Nodup) (hk : ∀ p ∈ ks, p.1 ∈ ns ∧ p.2 ∈ ns) : ks.length ≤ 4096 := by
  have h1 := Df.pig (m := ns.flatMap fun a => ns.map fun b => (a, b)) h (fun p hp => by
    obtain ⟨a, b⟩ := p
    obtain ⟨h1, h2⟩ := hk _ hp
    simp only [List.mem_flatMap, List.mem_map, Prod.mk.injEq]
    exact ⟨a, h1, b, h2, rfl, rfl⟩)
  have h2 : (ns.flatMap fun a => ns.map fun b => (a, b)).length = ns.length * ns.length := by
    rw [List.length_flatMap]
    have : ∀ l : List OW, (l.map fun a => (ns.map fun b => (a, b)).length).sum = l.length * ns.length := by
      intro l
      induction l with
      | nil => simp
      | cons a l ih => rw [List.map_cons, List.sum_cons, ih, List.length_map, List.length_cons, Nat.add_mul, Nat.one_mul, Nat.add_comm]
    exact this ns
  rw [h2] at h1
  have : ns.length * ns.length ≤ 64 * 64 := Nat.mul_le_mul hn hn
  omega
section
variable {ns : List OW} {B : Df.BM OW} {d : D}
theorem BestR.isIn (h : BestR ns B d) (a b : OW) : D.isIn (.tup [eW a, eW b]) d = some (.bl (B a b).isSome) := by
  obtain ⟨ks, h1, h2, h3, rfl⟩ := h.ks
  show ((if _ || (flatTup (eP2 (a, b)) && tupKs _) then some (hasK _ (eP2 (a, b))) else none) : Option Bool).map D.bl = _
  rw [eP2_flat, eP2_ks]
  have : hasK (ks.map fun p => (eP2 p, D.int ((B p.1 p.2).getD 0))) (eP2 (a, b)) = (B a b).isSome := by
    unfold hasK
    rw [getK_map eP2_inj (fun p => D.int ((B p.1 p.2).getD 0))]
    by_cases e : (a, b) ∈ ks
    · rw [if_pos e, (h2 (a, b)).mp e]; rfl
    · rw [if_neg e]
      cases q : (B a b).isSome with
      | false => rfl
      | true => exact absurd ((h2 (a, b)).mpr q) e
  simp [this]
theorem BestR.item (h : BestR ns B d) {a b : OW} {m : Int} (e : B a b = some m) : D.item d (.tup [eW a, eW b]) = some (.int m) := by
  obtain ⟨ks, h1, h2, h3, rfl⟩ := h.ks
  show (if _ || (flatTup (eP2 (a, b)) && tupKs _) then getK _ (eP2 (a, b)) else none) = _
  rw [eP2_flat, eP2_ks, getK_map eP2_inj (fun p => D.int ((B p.1 p.2).getD 0)), if_pos ((h2 (a, b)).mpr (by rw [e]; rfl)), e]
  simp
theorem BestR.get2 (h : BestR ns B d) (a b : OW) (m : Int) : D.get2 d [.tup [eW a, eW b], .int m] = some (.int ((B a b).getD m)) := by
  obtain ⟨ks, h1, h2, h3, rfl⟩ := h.ks
  show (if _ || (flatTup (eP2 (a, b)) && tupKs _) then some ((getK _ (eP2 (a, b))).getD _) else none) = _
  rw [eP2_flat, eP2_ks, getK_map eP2_inj (fun p => D.int ((B p.1 p.2).getD 0)), Bool.and_self, Bool.or_true, if_pos rfl]
  cases e : B a b with
  | none =>
    rw [if_neg fun z => by have := (h2 (a, b)).mp z; rw [e] at this; cases this]
    rfl
  | some q =>
    rw [if_pos ((h2 (a, b)).mpr (by rw [e]; rfl))]
    rfl
theorem min2_ok (m x : Int) : D.min2 [.int m, .int x] = some (.int (min m x)) := by
  show some (D.int (if x < m then x else m)) = _
  congr 2
  split <;> omega
theorem BestR.put (hn : ns.length ≤ 64) (h : BestR ns B d) {a b : OW} (ha : a ∈ ns) (hb : b ∈ ns) (m : Int) : ∃ d', D.put d (.tup [eW a, eW b]) (.int (min m ((B a b).getD m))) = some d' ∧ BestR ns (Df.put B a b m) d' := by
  obtain ⟨ks, h1, h2, h3, rfl⟩ := h.ks
  have hl := pairs_le hn h1 h3
  refine ⟨_, (by
    show (if (_ || (flatTup (eP2 (a, b)) && tupKs _)) && lineOk _ then some (D.dct (putK _ (eP2 (a, b)) _)) else none) = _
    rw [eP2_flat, eP2_ks, putK_map eP2_inj (fun p => D.int ((B p.1 p.2).getD 0)) (a, b) _ ks h1, RF.lineOk_le (by simp; omega)]
    simp only [Bool.and_self, Bool.or_true, if_true]; rfl), ⟨if (a, b) ∈ ks then ks else ks ++ [(a, b)], ?_, ?_, ?_, ?_⟩⟩
  · split
    · exact h1
    · rename_i hw
      refine List.nodup_append.mpr ⟨h1, by simp, fun y hy z hz e => ?_⟩
      simp at hz; subst hz; subst e; exact hw hy
  · rintro ⟨x, y⟩
    show _ ↔ (if x = a ∧ y = b then some (min m ((B a b).getD m)) else B x y).isSome = true
    by_cases e : x = a ∧ y = b
    · obtain ⟨rfl, rfl⟩ := e
      split <;> rename_i hw <;> simp [hw]
    · rw [if_neg e, ← h2 (x, y)]
      have : ¬ (x, y) = (a, b) := fun z => e (by injection z with z1 z2; exact ⟨z1, z2⟩)
      split <;> simp [this]
  · intro p hp
    split at hp
    · exact h3 p hp
    · rcases List.mem_append.mp hp with e | e
      · exact h3 p e
      · simp at e; subst e; exact ⟨ha, hb⟩
  · have hf : (fun w : OW × OW => (eP2 w, if w = (a, b) then D.int (min m ((B a b).getD m)) else D.int ((B w.1 w.2).getD 0))) = fun p => (eP2 p, D.int ((Df.put B a b m p.1 p.2).getD 0)) := by
      funext p
      obtain ⟨x, y⟩ := p
      show (eP2 (x, y), if (x, y) = (a, b) then D.int (min m ((B a b).getD m)) else D.int ((B x y).getD 0)) = (eP2 (x, y), D.int ((if x = a ∧ y = b then some (min m ((B a b).getD m)) else B x y).getD 0))
      by_cases e : x = a ∧ y = b
      · obtain ⟨rfl, rfl⟩ := e; simp
      · rw [if_neg e, if_neg fun z => e (by injection z with z1 z2; exact ⟨z1, z2⟩)]
    rw [hf]
    by_cases e : (a, b) ∈ ks
    · rw [if_pos e, if_pos e]
    · rw [if_neg e, if_neg e]
end
theorem BestR.nil (ns : List OW) : BestR ns (fun _ _ => none) (.dct []) := ⟨[], List.nodup_nil, by simp, by simp, rfl⟩
theorem init_app (dn : List Tt) (t : Tt) (B : Df.BM OW) : Df.initB (dn ++ [t]) B = Df.put (Df.initB dn B) t.1 t.2.1 t.2.2 := by
  unfold Df.initB
  rw [List.foldl_append]; rfl
theorem put_some {B : Df.BM OW} {a b x y : OW} {m : Int} (h : (B x y).isSome) : (Df.put B a b m x y).isSome := by
  unfold Df.put
  split
  · rfl
  · exact h
def bestB (ts : List Tt) : Df.BM OW := Df.bestT (Df.nodes ts) ts
theorem best_of_ok (ts : List Tt) (h : Few ts) : if Df.isOpen ts = true then ∃ d, F_best_of [eTs ts] = some d ∧ BestR (Df.nodes ts) (bestB ts) d else F_best_of [eTs ts] = some .non := by
  obtain ⟨r, hr, h1, h2⟩ := ring_of_ok ts h
  have hw := words_of_ok ts h
  have hn64 := nodes_le h
  have hN : D.add (.lst ((wordsT ts).map .str)) (.lst [.non]) = some (.lst ((Df.nodes ts).map eW)) := by
    rw [addL_ok (by have := h.wd; simp; omega)]
    simp [Df.nodes, Df.Words.wo, Function.comp_def]
  cases ho : Df.isOpen ts with
  | false =>
    rw [if_neg (by simp)]
    obtain ⟨l, e, _⟩ := h2 ho
    subst e
    refine run0_wp (by rfl) ?_
    refine wp_rt (d := .non) (by simp [hr, eRg]; rfl) rfl
  | true =>
    rw [if_pos rfl]
    have e := h1 ho
    subst e
    generalize hns : Df.nodes ts = ns at *
    refine run0_ex (by rfl) ?_
    refine wp_nx (ρ1 := [some (eTs ts), none, none, none, none, none, none]) (by simp [hr, eRg]) ?_
    refine wp_nx (ρ1 := [some (eTs ts), none, some (.lst (ns.map eW)), some (.dct []), none, none, none]) (by simp [hw, hN]) ?_
    refine wp_for' (enc := eT) ts (fun dn ρ => ∃ d x4 x5 x6, ρ = [some (eTs ts), none, some (.lst (ns.map eW)), some d, x4, x5, x6] ∧ BestR ns (Df.initB dn fun _ _ => none) d)
      (by simp [eTs]) ⟨_, _, _, _, rfl, BestR.nil ns⟩ (fun dn t r ρ e ⟨d, x4, x5, x6, j1, j2⟩ => ?_) (fun ρ ⟨d, x4, x5, x6, j1, j2⟩ => ?_)
    · subst j1
      have ht : t ∈ ts := by rw [e]; simp
      obtain ⟨ha, hb⟩ := Df.in_nodes ht
      rw [hns] at ha hb
      obtain ⟨a, b, m⟩ := t
      have hg := j2.get2 a b m
      obtain ⟨d', hp, j3⟩ := j2.put hn64 ha hb m
      refine ⟨[some (eTs ts), none, some (.lst (ns.map eW)), some d, some (eW a), some (eW b), some (.int m)], [some (eTs ts), none, some (.lst (ns.map eW)), some d', some (eW a), some (eW b), some (.int m)], by simp [eT], ?_, d', _, _, _, rfl, by rw [init_app]; exact j3⟩
      simp [hg, D.flat, min2_ok, hp]
    · subst j1
      have hT : bestB ts = Df.allGo ns ns (Df.initB ts fun _ _ => none) := by unfold bestB Df.bestT; rw [hns]
      refine wp_for (enc := eW) ns (fun dn ρ => ∃ B d x1 x4 x5 x6, ρ = [some (eTs ts), x1, some (.lst (ns.map eW)), some d, x4, x5, x6] ∧ BestR ns B d ∧ bestB ts = Df.allGo ns (ns.drop dn.length) B)
        (by simp) ⟨_, d, none, x4, x5, x6, rfl, j2, hT⟩ (fun dn c r ρ e ⟨B, d, x1, x4, x5, x6, j1, j2, j3⟩ => ?_) (fun ρ ⟨B, d, x1, x4, x5, x6, j1, j2, j3⟩ => ?_)
      · subst j1
        have hc : c ∈ ns := by rw [e]; simp
        have hdr : ns.drop dn.length = c :: r := by rw [e]; simp
        have hdr2 : ns.drop (dn ++ [c]).length = r := by rw [e]; simp
        rw [hdr] at j3
        refine ⟨[some (eTs ts), some (eW c), some (.lst (ns.map eW)), some d, x4, x5, x6], by simp, ?_⟩
        refine wp_for (enc := eW) ns (fun dn2 ρ => ∃ B2 d x4 x5 x6, ρ = [some (eTs ts), some (eW c), some (.lst (ns.map eW)), some d, x4, x5, x6] ∧ BestR ns B2 d ∧ Df.midGo ns c ns B = Df.midGo ns c (ns.drop dn2.length) B2)
          (by simp) ⟨_, d, x4, x5, x6, rfl, j2, rfl⟩ (fun dn2 a r2 ρ e2 ⟨B2, d, x4, x5, x6, k1, k2, k3⟩ => ?_) (fun ρ ⟨B2, d, x4, x5, x6, k1, k2, k3⟩ => ?_)
        · subst k1
          have ha : a ∈ ns := by rw [e2]; simp
          have hdr3 : ns.drop dn2.length = a :: r2 := by rw [e2]; simp
          have hdr4 : ns.drop (dn2 ++ [a]).length = r2 := by rw [e2]; simp
          rw [hdr3] at k3
          have k3 : Df.midGo ns c ns B = Df.midGo ns c r2 (if (B2 a c).isSome then Df.rowGo c a ns B2 else B2) := k3
          refine ⟨[some (eTs ts), some (eW c), some (.lst (ns.map eW)), some d, some (eW a), x5, x6], by simp, ?_⟩
          have hin := k2.isIn a c
          cases hq : (B2 a c).isSome with
          | false =>
            rw [hq] at hin k3
            refine wp_nx (ρ1 := [some (eTs ts), some (eW c), some (.lst (ns.map eW)), some d, some (eW a), x5, x6]) (by simp [hin]) ?_
            exact wp_of (fl := .nx _) rfl ⟨B2, d, _, _, _, rfl, k2, by rw [k3, hdr4]; rfl⟩
          | true =>
            rw [hq] at hin k3
            rw [if_pos rfl] at k3
            refine wp_seq (wp_if (b := true) (ρ1 := [some (eTs ts), some (eW c), some (.lst (ns.map eW)), some d, some (eW a), x5, x6]) (by simp [hin]) ?_)
            rw [if_pos rfl]
            refine wp_for' (enc := eW) ns (fun dn3 ρ => ∃ B3 d x5 x6, ρ = [some (eTs ts), some (eW c), some (.lst (ns.map eW)), some d, some (eW a), x5, x6] ∧ BestR ns B3 d ∧ (B3 a c).isSome = true ∧ Df.rowGo c a ns B2 = Df.rowGo c a (ns.drop dn3.length) B3)
              (by simp) ⟨_, d, x5, x6, rfl, k2, hq, rfl⟩ (fun dn3 b r3 ρ e3 ⟨B3, d, x5, x6, l1, l2, l3, l4⟩ => ?_) (fun ρ ⟨B3, d, x5, x6, l1, l2, l3, l4⟩ => ?_)
            · subst l1
              have hb : b ∈ ns := by rw [e3]; simp
              have hdr5 : ns.drop dn3.length = b :: r3 := by rw [e3]; simp
              have hdr6 : ns.drop (dn3 ++ [b]).length = r3 := by rw [e3]; simp
              rw [hdr5] at l4
              have l4 : Df.rowGo c a ns B2 = Df.rowGo c a r3 (match B3 c b with | some q => Df.put B3 a b ((B3 a c).getD 0 + q) | none => B3) := l4
              have hin3 := l2.isIn c b
              obtain ⟨p, hp⟩ := Option.isSome_iff_exists.mp l3
              have hip := l2.item hp
              rw [hp] at l4
              cases hcb : B3 c b with
              | none =>
                rw [hcb] at hin3 l4
                refine ⟨[some (eTs ts), some (eW c), some (.lst (ns.map eW)), some d, some (eW a), some (eW b), x6], [some (eTs ts), some (eW c), some (.lst (ns.map eW)), some d, some (eW a), some (eW b), x6], by simp, by simp [hin3], B3, d, _, _, rfl, l2, l3, by rw [l4, hdr6]⟩
              | some q =>
                rw [hcb] at hin3 l4
                have hiq := l2.item hcb
                have hg := l2.get2 a b (p + q)
                obtain ⟨d', hput, l5⟩ := l2.put hn64 ha hb (p + q)
                refine ⟨[some (eTs ts), some (eW c), some (.lst (ns.map eW)), some d, some (eW a), some (eW b), x6], [some (eTs ts), some (eW c), some (.lst (ns.map eW)), some d', some (eW a), some (eW b), some (.int (p + q))], by simp, ?_, _, d', _, _, rfl, l5, put_some l3, by rw [l4, hdr6]; rfl⟩
                simp [hin3, hip, hiq, D.flat, hg, min2_ok, hput]
            · subst l1
              have l4 : Df.rowGo c a ns B2 = B3 := by rw [l4]; simp [Df.rowGo]
              refine wp_of (fl := .nx _) rfl ?_
              refine wp_of (fl := .nx _) rfl ⟨B3, d, _, _, _, rfl, l2, by rw [k3, hdr4, l4]⟩
        · subst k1
          have k3 : Df.midGo ns c ns B = B2 := by rw [k3]; simp [Df.midGo]
          refine wp_of (fl := .nx _) rfl ⟨B2, d, _, _, _, _, rfl, k2, ?_⟩
          rw [hdr2, ← k3]; exact j3
      · subst j1
        have j3 : bestB ts = B := by rw [j3]; simp [Df.allGo]
        exact wp_of (fl := .rt d _) (by simp; rfl) ⟨d, rfl, by rw [j3]; exact j2⟩
end R43
set_option Elab.async false
set_option linter.all false
set_option maxRecDepth 100000
set_option maxHeartbeats 1000000
namespace R43
open PySem PySem.Spec L2 RF
open PyProof.Rows hiding St
def Short (ts : List Tt) : Prop := ∀ t ∈ ts, (∀ s, t.1 = some s → s.length ≤ 1000000) ∧ (∀ s, t.2.1 = some s → s.length ≤ 1000000)
def tx (w : OW) : Str := w.getD ""
def k3 (t : Tt) : K3 := [.inr (tx t.1).cps.toList, .inr (tx t.2.1).cps.toList, .inl t.2.2]
theorem or_word (w : OW) (h : ∀ s, w = some s → s.length ≤ 1000000) (ρ : RF.Env) (a : FE) (ha : a ρ = some (eW w)) : eOr a (cn (.str "")) ρ = some (.str (tx w)) := by
  rw [ev_eOr, ha, Option.bind_some]
  cases w with
  | none => rfl
  | some s =>
    show ((if lineOk s.length then some (s.length != 0) else none).bind _) = _
    rw [if_pos (RF.lineOk_le (by have := h s rfl; omega))]
    show (if (s.length != 0) = true then some (D.str s) else some (.str "")) = some (.str s)
    by_cases h0 : s.length = 0
    · have : s = "" := by
        obtain ⟨⟨l⟩⟩ := s
        cases l with
        | nil => rfl
        | cons a b => exact absurd h0 (Nat.succ_ne_zero _)
      subst this; rfl
    · rw [if_pos (by simpa using h0)]
theorem by_words_ok (t : Tt) (h1 : ∀ s, t.1 = some s → s.length ≤ 1000000) (h2 : ∀ s, t.2.1 = some s → s.length ≤ 1000000) : F_by_words [eT t] = some (.tup [.str (tx t.1), .str (tx t.2.1), .int t.2.2]) := by
  obtain ⟨a, b, m⟩ := t
  refine run0_rt (ρ := [some (eT (a, b, m))]) (by rfl) ?_
  have e1 := or_word a h1 [some (eT (a, b, m))] (RF.e2 D.item (vr 0) (cn (.int 0))) (by simp [eT])
  have e2 := or_word b h2 [some (eT (a, b, m))] (RF.e2 D.item (vr 0) (cn (.int 1))) (by simp [eT])
  show (fRt (up (eCall mkTup _))) [some (eT (a, b, m))] = _
  rw [ev_fRt, ev_up, ev_eCall, ev_eCons, e1]
  simp only [Option.bind_some, ev_eCons, e2]
  simp [eT]
theorem keys_ok : ∀ l : List Tt, Short l → keysOf F_by_words (l.map eT) = some (l.map fun t => (k3 t, eT t))
  | [], _ => rfl
  | t :: r, h => by
    rw [List.map_cons, List.map_cons]
    show (F_by_words [eT t]).bind _ = _
    rw [by_words_ok t (h t (by simp)).1 (h t (by simp)).2, Option.bind_some]
    show (some (k3 t)).bind _ = _
    rw [Option.bind_some, keys_ok r fun u hu => h u (by simp [hu])]; rfl
def sortT (l : List Tt) : List Tt := isort (fun x y => k3Lt (k3 x) (k3 y)) l
theorem sort_ok (l : List Tt) (h : Short l) : sortBy F_by_words (eTs l) = some (eTs (sortT l)) := by
  show (keysOf F_by_words (l.map eT)).map _ = _
  rw [keys_ok l h, Option.map_some]
  have e : sortK3 (l.map fun t => (k3 t, eT t)) = (sortT l).map fun t => (k3 t, eT t) := isort_map (lt := fun x y : K3 × D => k3Lt x.1 y.1) (fun t : Tt => (k3 t, eT t)) l
  rw [e, List.map_map]; rfl
theorem sortT_mem (l : List Tt) (t : Tt) : t ∈ sortT l ↔ t ∈ l := by
  have O : SrtO.Swo (fun x y : Tt => k3Lt (k3 x) (k3 y)) := ⟨fun x y => k3_asym _ _, fun x y z => k3_tr _ _ _⟩
  obtain ⟨_, h⟩ := isort_ok O l
  exact h.perm.mem_iff
theorem sortT_perm (l : List Tt) : (sortT l).Perm l := by
  have O : SrtO.Swo (fun x y : Tt => k3Lt (k3 x) (k3 y)) := ⟨fun x y => k3_asym _ _, fun x y z => k3_tr _ _ _⟩
  exact (isort_ok O l).2.perm
structure Clos (ts : List Tt) (C : List Tt) : Prop where
  mem : ∀ a b m, (a, b, m) ∈ C ↔ a ≠ b ∧ bestB ts a b = some m
  nd : (C.map fun t => (t.1, t.2.1)).Nodup
  srt : ∃ l, C = sortT l
  few : C.length ≤ 4096
  ins : ∀ t ∈ C, t.1 ∈ Df.nodes ts ∧ t.2.1 ∈ Df.nodes ts
theorem walk_p2 (g : OW × OW → D) (ks : List (OW × OW)) : D.walk (.dct (ks.map fun p => (eP2 p, g p))) = some (ks.map eP2) := by
  show (if _ then _ else _) = _
  rw [if_pos (List.all_eq_true.mpr fun p hp => by
    obtain ⟨w, _, rfl⟩ := List.mem_map.mp hp
    rfl), List.map_map]
  rfl
theorem short_nodes {ts : List Tt} (h : Short ts) {w : OW} (hw : w ∈ Df.nodes ts) : ∀ s, w = some s → s.length ≤ 1000000 := by
  intro s e
  subst e
  have hs : s ∈ Df.Words.wo ts := by
    rcases List.mem_append.mp hw with z | z
    · obtain ⟨s', h1, h2⟩ := List.mem_map.mp z
      cases h2; exact h1
    · simp at z
  obtain ⟨t, ht, e⟩ := (Df.Words.mem ts s).mp hs
  rcases e with e | e
  · exact (h t ht).1 s e
  · exact (h t ht).2 s e
theorem closure_of_ok (ts : List Tt) (h : Few ts) (hs : Short ts) : if Df.isOpen ts = true then ∃ C, F_closure_of [eTs ts] = some (eTs C) ∧ Clos ts C else F_closure_of [eTs ts] = some .non := by
  have hb := best_of_ok ts h
  have hn64 := nodes_le h
  cases ho : Df.isOpen ts with
  | false =>
    rw [ho, if_neg (by simp)] at hb
    rw [if_neg (by simp)]
    exact run0_rt (ρ := [some (eTs ts), some .non, none, none]) (by rfl) (by simp [b_closure_of, hb])
  | true =>
    rw [ho, if_pos rfl] at hb
    rw [if_pos rfl]
    obtain ⟨d, hd, hB⟩ := hb
    obtain ⟨ks, h1, h2, h3, e⟩ := hB.ks
    have hl := pairs_le hn64 h1 h3
    let U : List Tt := (ks.filter fun p => decide (p.1 ≠ p.2)).map fun p => (p.1, p.2, (bestB ts p.1 p.2).getD 0)
    have hU : Short U := fun t ht => by
      obtain ⟨p, hp, rfl⟩ := List.mem_map.mp ht
      have := h3 p ((List.mem_filter.mp hp).1)
      exact ⟨short_nodes hs this.1, short_nodes hs this.2⟩
    have hlc := xLc_of (vs := [2, 3]) (w := up (eWl (vr 1))) (g := gTp 2 (gCn (gNm 2) (gCn (gNm 3) gNl))) (t := up (eB (RF.e2 D.neY (vr 2) (vr 3)))) (e := up (eCall mkTup (eCons (vr 2) (eCons (vr 3) (eCons (RF.e2 D.item (vr 1) (eCall mkTup (eCons (vr 2) (eCons (vr 3) eNil)))) eNil))))) (ρ := [some (eTs ts), some d, none, none]) (enc := eP2)
      ks (fun p => [some (eTs ts), some d, some (eW p.1), some (eW p.2)]) (fun p => decide (p.1 ≠ p.2)) (fun p => eT (p.1, p.2, (bestB ts p.1 p.2).getD 0)) (by simp only [ev_up, ev_eWl, ev_vr, lk_succ, lk_zero, Option.bind_some]; rw [e, walk_p2]; rfl) (by simp [eP2]) (by simp [neY_w]) (fun p hp _ => by
        obtain ⟨m, hm⟩ := Option.isSome_iff_exists.mp ((h2 p).mp hp)
        have := hB.item (a := p.1) (b := p.2) hm
        simp [this, eT, hm]) (by simp) (by omega) (by simp)
    have hmap : ((ks.filter fun p => decide (p.1 ≠ p.2)).map fun p => eT (p.1, p.2, (bestB ts p.1 p.2).getD 0)) = U.map eT := by simp only [U, List.map_map]; rfl
    rw [hmap] at hlc
    refine ⟨sortT U, ?_, ?_⟩
    · refine run0_wp (by rfl) ?_
      refine wp_nx (ρ1 := [some (eTs ts), some d, none, none]) (by simp [hd]) ?_
      refine wp_nx (ρ1 := [some (eTs ts), some d, none, none]) (by rw [e]; simp) ?_
      refine wp_of (fl := .rt (eTs (sortT U)) [some (eTs ts), some d, none, none]) ?_ rfl
      have hso := sort_ok U hU
      rw [ev_fRt, ev_o1, hlc, Option.bind_some]
      show ((sortBy F_by_words (eTs U)).map _).map _ = _
      rw [hso]; rfl
    · refine ⟨fun a b m => ?_, ?_, ⟨U, rfl⟩, ?_, fun t ht => ?_⟩
      · rw [sortT_mem]
        simp only [U, List.mem_map, List.mem_filter, decide_eq_true_eq]
        constructor
        · rintro ⟨p, ⟨hp, hne⟩, e⟩
          cases e
          obtain ⟨m, hm⟩ := Option.isSome_iff_exists.mp ((h2 p).mp hp)
          exact ⟨hne, by rw [hm]; rfl⟩
        · rintro ⟨hne, hm⟩
          exact ⟨(a, b), ⟨(h2 (a, b)).mpr (by rw [hm]; rfl), hne⟩, by rw [hm]; rfl⟩
      · refine ((sortT_perm U).map fun t => (t.1, t.2.1)).nodup_iff.mpr ?_
        have : (U.map fun t => (t.1, t.2.1)) = ks.filter fun p => decide (p.1 ≠ p.2) := by
          simp only [U, List.map_map]
          exact (List.map_congr_left fun p _ => rfl).trans (List.map_id _)
        rw [this]
        exact h1.filter _
      · rw [(sortT_perm U).length_eq]
        simp only [U, List.length_map]
        exact Nat.le_trans (List.length_filter_le _ _) hl
      · rw [sortT_mem] at ht
        obtain ⟨p, hp, rfl⟩ := List.mem_map.mp ht
        exact h3 p ((List.mem_filter.mp hp).1)
end R43
set_option Elab.async false
set_option linter.all false
set_option maxRecDepth 100000
set_option maxHeartbeats 1000000
namespace R43
open PySem PySem.Spec L2 RF
open PyProof.Rows hiding St
abbrev Sp1 := Df.Stp Str
def sz : List Sp1 → Nat
  | [] => 0
  | st :: r => st.tests.length + 1 + sz r
def wn : List Sp1 → Nat
  | [] => 1
  | st :: r => (st.tests.length + 1) * wn r
theorem wn_pos : ∀ l, 0 < wn l
  | [] => Nat.one_pos
  | st :: r => Nat.mul_pos (Nat.succ_pos _) (wn_pos r)
theorem ways_on_len (w : Wy) (i : Nat) (st : Sp1) : (Df.waysOn w i st).length ≤ st.tests.length + 1 := by
  unfold Df.waysOn
  cases w.out with
  | none => simp
  | some o =>
    refine Nat.le_trans (List.length_filter_le _ _) ?_
    simp
theorem flat_len {β γ : Type} (f : β → List γ) (k : Nat) : ∀ l : List β, (∀ x ∈ l, (f x).length ≤ k) → (l.flatMap f).length ≤ l.length * k
  | [], _ => by simp
  | x :: r, h => by
    rw [List.flatMap_cons, List.length_append, List.length_cons, Nat.add_mul]
    have := h x List.mem_cons_self
    have := flat_len f k r fun y hy => h y (List.mem_cons_of_mem _ hy)
    omega
theorem ways_of_ok (cols : List Str) (hnd : cols.Nodup) (h64 : cols.length < 64) (steps : List Sp1) (hs : ∀ st ∈ steps, GoodStp cols st) (rule : List Tt) (hr : Over cols rule) (h1 : rule.length + sz steps ≤ 1900) (h2 : wn steps ≤ 1000000) (hsl : steps.length ≤ 1000000) :
    F_ways_of [eC cols, eSts steps, eTs rule] = some (.lst ((Df.waysOf cols steps rule).map eWay)) ∧ (∀ w ∈ Df.waysOf cols steps rule, WG cols (rule.length + sz steps) w) ∧ (Df.waysOf cols steps rule).length ≤ wn steps := by
  have hid : xDc [8] (up (eWl (vr 0))) (gNm 8) (up yesT) (up (vr 8)) (up (eCall mkTup (eCons (vr 8) (eCons (cn (.int 0)) eNil)))) [some (eC cols), some (eSts steps), some (eTs rule), none, none, none, none, none, none]
      = some (eS (Df.idOc cols), [some (eC cols), some (eSts steps), some (eTs rule), none, none, none, none, none, none]) := by
    rw [xDc_of (enc := D.str) (e := D.str) str_inj str_leaf cols (fun c => [some (eC cols), some (eSts steps), some (eTs rule), none, none, none, none, none, some (.str c)]) id (fun c => eP (some c, 0)) (by simp [eC]) (by simp) (by simp) (by simp [eP]) (by simp) (by simpa using hnd) (by omega) (by simp)]
    simp [eS, Df.idOc, Function.comp_def]
  let w0 : Wy := ⟨rule, some (Df.idOc cols), []⟩
  have hw0 : WG cols rule.length w0 := ⟨hr, Nat.le_refl _, fun o e => by
    cases e
    refine ⟨by simp [Df.colsOf, Df.idOc, Function.comp_def], fun p hp => ?_⟩
    obtain ⟨c, hc, rfl⟩ := List.mem_map.mp hp
    intro s e; cases e; exact hc, Nat.zero_le _⟩
  let ws0 : List Wy := [w0].filter fun y => Df.isOpen y.tests
  have hlc := xLc_of (vs := [6]) (g := gNm 6) (t := up (eTru (eCall F_is_open (eCons (vr 6) eNil)))) (e := up (vr 6)) (w := (xWl (xCall mkLst (xCons (xCall (mkIns "Way" ["tests", "outcome", "touched"]) (xCons (xCall D.list (up (eCons (vr 2) eNil))) (xCons (xDc [8] (up (eWl (vr 0))) (gNm 8) (up yesT) (up (vr 8)) (up (eCall mkTup (eCons (vr 8) (eCons (cn (.int 0)) eNil))))) (xCons (up (eCall mkLst eNil)) xNil)))) xNil))))
    (ρ := [some (eC cols), some (eSts steps), some (eTs rule), none, none, none, none, none, none]) (enc := eWay) [w0] (fun y => [some (eC cols), some (eSts steps), some (eTs rule), none, none, none, some (eWay y), none, none]) (fun y => Df.isOpen y.tests) eWay
    (by
      have hl : D.list [eTs rule] = some (eTs rule) := rfl
      have hm := mk_way rule (some (Df.idOc cols)) []
      simp only [eO, show eTo [] = .lst [] from rfl] at hm
      simp only [ev_xWl, ev_xCall, ev_xCons, ev_xNil, ev_up, ev_eCons, ev_vr, lk_succ, lk_zero, ev_eNil, Option.map_some, Option.bind_some, hl, hid, ev_eCall, mkLst_nil, hm, mkLst_1, walk_lst, List.map_cons, List.map_nil]
      rfl)
    (by simp) (fun y hy => by
      simp only [List.mem_cons, List.not_mem_nil, or_false] at hy
      subst hy
      simp [is_open_ok w0 (wg_few h64 (by omega) hw0)]) (by simp) (by simp) (by simp) (by simp)
  have hws0 : ∀ w ∈ ws0, WG cols rule.length w := fun w hw => by
    have := List.mem_singleton.mp (List.mem_filter.mp hw).1
    subst this; exact hw0
  have hl0 : ws0.length ≤ 1 := List.length_filter_le _ _
  suffices hh : ∃ d, F_ways_of [eC cols, eSts steps, eTs rule] = some d ∧ (d = .lst ((Df.waysOf cols steps rule).map eWay) ∧ (∀ w ∈ Df.waysOf cols steps rule, WG cols (rule.length + sz steps) w) ∧ (Df.waysOf cols steps rule).length ≤ wn steps) by
    obtain ⟨d, e1, e2, e3⟩ := hh
    exact ⟨e2 ▸ e1, e3⟩
  refine run0_ex (by rfl) ?_
  refine wp_nx (ρ1 := [some (eC cols), some (eSts steps), some (eTs rule), some (.lst (ws0.map eWay)), none, none, none, none, none]) (by rw [ev_fSet]; exact congrArg _ hlc) ?_
  refine wp_for' (enc := fun p : Sp1 × Nat => .tup [.int (p.2 : Nat), eSt p.1]) steps.zipIdx (fun dn ρ => ∃ (ws : List Wy) (N k : Nat) (x4 x5 x6 x7 : Option D), ρ = [some (eC cols), some (eSts steps), some (eTs rule), some (.lst (ws.map eWay)), x4, x5, x6, x7, none] ∧
      (∀ w ∈ ws, WG cols N w) ∧ N + sz (steps.drop dn.length) = rule.length + sz steps ∧ ws.length ≤ k ∧ k * wn (steps.drop dn.length) = wn steps ∧ Df.waysOf cols steps rule = Df.waysGo ws dn.length (steps.drop dn.length))
    (by simp [eSts, enum_map]) ⟨ws0, rule.length, 1, _, _, _, _, rfl, hws0, rfl, hl0, Nat.one_mul _, rfl⟩ (fun dn p r ρ e ⟨ws, N, k, x4, x5, x6, x7, j1, j2, j3, j4, j5, j6⟩ => ?_) (fun ρ ⟨ws, N, k, x4, x5, x6, x7, j1, j2, j3, j4, j5, j6⟩ => ?_)
  · subst j1
    obtain ⟨z1, z2, z3, z4⟩ := zip_at e
    obtain ⟨st, q⟩ := p
    simp only at z1 z2 z3
    subst z1
    have hst : GoodStp cols st := hs st (List.mem_of_getElem? z2)
    rw [z3] at j3 j5 j6
    simp only [sz] at j3
    simp only [wn] at j5
    have hN : N + st.tests.length + 1 ≤ 1900 := by omega
    have hk : k * (st.tests.length + 1) ≤ 1000000 := by
      have h4 : k * (st.tests.length + 1) * wn (steps.drop (dn.length + 1)) = wn steps := by rw [Nat.mul_assoc]; exact j5
      have h3 := Nat.le_mul_of_pos_right (k * (st.tests.length + 1)) (wn_pos (steps.drop (dn.length + 1)))
      omega
    have hfl : (ws.flatMap fun w => Df.waysOn w dn.length st).length ≤ k * (st.tests.length + 1) := Nat.le_trans (flat_len _ (st.tests.length + 1) ws fun w _ => ways_on_len w _ st) (Nat.mul_le_mul_right _ j4)
    have hl2 := xLc2_of (vs := [6, 7]) (vs1 := [7]) (w := up (eWl (vr 3))) (g := gNm 6) (t := up yesT) (w1 := up (eWl (eCall F_ways_on (eCons (vr 6) (eCons (vr 4) (eCons (vr 5) eNil)))))) (g1 := gNm 7) (t1 := up yesT) (e := up (vr 7))
      (ρ := [some (eC cols), some (eSts steps), some (eTs rule), some (.lst (ws.map eWay)), some (.int dn.length), some (eSt st), x6, x7, none]) (enc := eWay) (enc1 := eWay)
      ws (fun w => Df.waysOn w dn.length st) (fun w => [some (eC cols), some (eSts steps), some (eTs rule), some (.lst (ws.map eWay)), some (.int dn.length), some (eSt st), some (eWay w), none, none]) (fun w v => [some (eC cols), some (eSts steps), some (eTs rule), some (.lst (ws.map eWay)), some (.int dn.length), some (eSt st), some (eWay w), some (eWay v), none])
      (fun _ => true) (fun _ _ => true) (fun _ v => eWay v) (by simp) (by simp) (by simp) (fun w hw _ => by
        have := ways_on_ok cols hnd h64 N w dn.length st (j2 w hw) hst hN
        simp [this]) (by simp) (by simp) (by simp) (by simp) (by simp) (by simp) (by rw [filter_tt]; exact Nat.le_trans hfl (Nat.le_trans hk (by decide))) (by simp)
    simp only [filter_tt] at hl2
    have hmm : (ws.flatMap fun x => (Df.waysOn x dn.length st).map fun v => eWay v) = (ws.flatMap fun w => Df.waysOn w dn.length st).map eWay := by rw [List.map_flatMap]
    rw [hmm] at hl2
    refine ⟨[some (eC cols), some (eSts steps), some (eTs rule), some (.lst (ws.map eWay)), some (.int dn.length), some (eSt st), x6, x7, none],
      [some (eC cols), some (eSts steps), some (eTs rule), some (.lst ((ws.flatMap fun w => Df.waysOn w dn.length st).map eWay)), some (.int dn.length), some (eSt st), x6, x7, none], by simp, by simp [hl2], _, N + st.tests.length + 1, k * (st.tests.length + 1), _, _, _, _, rfl, ?_, ?_, hfl, ?_, ?_⟩
    · intro w' hw'
      obtain ⟨w, h1, h2⟩ := List.mem_flatMap.mp hw'
      exact ways_on_wg (j2 w h1) hst w' h2
    · simp only [List.length_append, List.length_singleton]; omega
    · simp only [List.length_append, List.length_singleton]; rw [Nat.mul_assoc]; exact j5
    · rw [j6]; simp only [List.length_append, List.length_singleton]; rfl
  · subst j1
    have hd : steps.drop steps.zipIdx.length = [] := by simp
    rw [hd] at j3 j5 j6
    have j6 : Df.waysOf cols steps rule = ws := j6
    refine wp_of (by simp; rfl) ⟨_, rfl, by rw [j6], ?_, ?_⟩
    · rw [j6]
      intro w hw
      have := j2 w hw
      simp only [sz] at j3
      rw [← j3]; exact this
    · rw [j6]
      simp only [wn] at j5
      omega
def unlikeT : Option (Df.Oc Str) → Option (Df.Oc Str) → List (List Tt)
  | none, none => []
  | none, some _ => [[]]
  | some _, none => [[]]
  | some a, some b => (Df.colsOf a).flatMap fun c => [[((Df.look a c).1, (Df.look b c).1, (Df.look b c).2 - (Df.look a c).2 - 1)], [((Df.look b c).1, (Df.look a c).1, (Df.look a c).2 - (Df.look b c).2 - 1)]]
def eLs2 (l : List (List Tt)) : D := .lst (l.map eTs)
theorem unlike_ok (a b : Option (Df.Oc Str)) (h : ∀ x y, a = some x → b = some y → Df.colsOf y = Df.colsOf x ∧ (Df.colsOf x).Nodup ∧ (Df.colsOf x).length ≤ 100000) : F_unlike [eO a, eO b] = some (eLs2 (unlikeT a b)) := by
  have e1 : D.eqY .non .non = some (.bl true) := by decide +kernel
  have e2 : ∀ o, D.eqY .non (eS o) = some (.bl false) := fun o => rfl
  have e3 : ∀ o, D.eqY (eS o) .non = some (.bl false) := fun o => rfl
  have hn : ∀ o, D.isNone (eS o) = false := fun o => rfl
  cases a with
  | none =>
    cases b with
    | none => refine run0_of (by rfl) ?_; simp [b_unlike, eO, e1, unlikeT, eLs2]
    | some y => refine run0_of (by rfl) ?_; simp [b_unlike, eO, e2, unlikeT, eLs2, eTs]
  | some x =>
    cases b with
    | none => refine run0_of (by rfl) ?_; simp [b_unlike, eO, e3, unlikeT, eLs2, eTs, hn]
    | some y =>
      obtain ⟨h1, h2, h3⟩ := h x y rfl rfl
      refine run0_wp (by rfl) ?_
      refine wp_nx (ρ1 := [some (eS x), some (eS y), none, none, none, none, none, none]) (by simp [eO, hn]) ?_
      refine wp_nx (ρ1 := [some (eS x), some (eS y), some (.lst []), none, none, none, none, none]) (by simp) ?_
      have hw : D.walk (eS x) = some ((Df.colsOf x).map .str) := by
        unfold eS
        show (if _ then some _ else none) = _
        rw [if_pos (by rw [List.all_map]; exact List.all_eq_true.mpr fun _ _ => rfl)]
        simp [Df.colsOf, Function.comp_def]
      let pc : Str → List (List Tt) := fun c => [[((Df.look x c).1, (Df.look y c).1, (Df.look y c).2 - (Df.look x c).2 - 1)], [((Df.look y c).1, (Df.look x c).1, (Df.look x c).2 - (Df.look y c).2 - 1)]]
      refine wp_for' (enc := D.str) (Df.colsOf x) (fun dn ρ => ∃ x3 x4 x5 x6 x7, ρ = [some (eS x), some (eS y), some (eLs2 (dn.flatMap pc)), x3, x4, x5, x6, x7])
        (by simp [hw]) ⟨_, _, _, _, _, rfl⟩ (fun dn c r ρ e ⟨x3, x4, x5, x6, x7, j⟩ => ?_) (fun ρ ⟨x3, x4, x5, x6, x7, j⟩ => ?_)
      · subst j
        have hc : c ∈ Df.colsOf x := by rw [e]; simp
        have i1 : D.item (eS x) (.str c) = some (.tup [eW (Df.look x c).1, .int (Df.look x c).2]) := item_o x c hc
        have i2 : D.item (eS y) (.str c) = some (.tup [eW (Df.look y c).1, .int (Df.look y c).2]) := item_o y c (h1.symm ▸ hc)
        have hdl : dn.length ≤ 100000 := by
          have := congrArg List.length e
          simp at this; omega
        have hfl : (dn.flatMap pc).length ≤ dn.length * 2 := flat_len pc 2 dn fun _ _ => Nat.le_refl _
        have ha : D.add (eLs2 (dn.flatMap pc)) (.lst [.lst [.tup [eW (Df.look x c).1, eW (Df.look y c).1, .int ((Df.look y c).2 - (Df.look x c).2 - 1)]], .lst [.tup [eW (Df.look y c).1, eW (Df.look x c).1, .int ((Df.look x c).2 - (Df.look y c).2 - 1)]]])
            = some (eLs2 ((dn ++ [c]).flatMap pc)) := by
          unfold eLs2
          rw [addL_ok (by simp only [List.length_map, List.length_cons, List.length_nil]; omega)]
          simp [pc, eTs, eT]
        refine ⟨[some (eS x), some (eS y), some (eLs2 (dn.flatMap pc)), some (.str c), x4, x5, x6, x7],
          [some (eS x), some (eS y), some (eLs2 ((dn ++ [c]).flatMap pc)), some (.str c), some (eW (Df.look x c).1), some (.int (Df.look x c).2), some (eW (Df.look y c).1), some (.int (Df.look y c).2)], by simp, ?_, _, _, _, _, _, rfl⟩
        simp [i1, i2, ha]
      · subst j
        exact wp_of (by simp; rfl) rfl
theorem unlike_len (a b : Option (Df.Oc Str)) (k : Nat) (h : ∀ x, a = some x → (Df.colsOf x).length ≤ k) : (unlikeT a b).length ≤ 2 * k + 1 := by
  unfold unlikeT
  cases a with
  | none => cases b <;> simp
  | some x =>
    cases b with
    | none => simp
    | some y =>
      have := flat_len (fun c => [[((Df.look x c).1, (Df.look y c).1, (Df.look y c).2 - (Df.look x c).2 - 1)], [((Df.look y c).1, (Df.look x c).1, (Df.look x c).2 - (Df.look y c).2 - 1)]]) 2 (Df.colsOf x) fun _ _ => Nat.le_refl _
      have := h x rfl
      simp only; omega
theorem unlike_over {cols : List Str} {a b : Option (Df.Oc Str)} (ha : ∀ x, a = some x → Df.colsOf x = cols ∧ ∀ p ∈ x, OverW cols p.2.1) (hb : ∀ x, b = some x → Df.colsOf x = cols ∧ ∀ p ∈ x, OverW cols p.2.1) : ∀ l ∈ unlikeT a b, Over cols l ∧ l.length ≤ 1 := fun l hl => by
  unfold unlikeT at hl
  cases a with
  | none => cases b <;> simp at hl; subst hl; exact ⟨fun t ht => (nomatch ht), Nat.zero_le _⟩
  | some x =>
    cases b with
    | none => simp at hl; subst hl; exact ⟨fun t ht => (nomatch ht), Nat.zero_le _⟩
    | some y =>
      obtain ⟨hx1, hx2⟩ := ha x rfl
      obtain ⟨hy1, hy2⟩ := hb y rfl
      obtain ⟨c, hc, hl⟩ := List.mem_flatMap.mp hl
      have ox := look_over hx2 (c := c) hc
      have oy := look_over hy2 (c := c) (by rw [hy1, ← hx1]; exact hc)
      simp only [List.mem_cons, List.not_mem_nil, or_false] at hl
      rcases hl with rfl | rfl
      · refine ⟨fun t ht => ?_, Nat.le_refl _⟩
        simp only [List.mem_cons, List.not_mem_nil, or_false] at ht
        subst ht; exact ⟨ox, oy⟩
      · refine ⟨fun t ht => ?_, Nat.le_refl _⟩
        simp only [List.mem_cons, List.not_mem_nil, or_false] at ht
        subst ht; exact ⟨oy, ox⟩
def pairT (cols : List Str) (other : List Sp1) (w : Wy) : List (List Tt) := (Df.waysOf cols other w.tests).flatMap fun v => (unlikeT w.out v.out).map (v.tests ++ ·)
def apartT (cols : List Str) (one other : List Sp1) (rule : List Tt) : List (List Tt) := (Df.waysOf cols one rule).flatMap (pairT cols other)
structure GoodSc (cols : List Str) (l : List Sp1) : Prop where
  good : ∀ st ∈ l, GoodStp cols st
  few : l.length ≤ 1000000
theorem apart_ok (cols : List Str) (hc : GoodC cols) (h64 : cols.length < 64) (one other : List Sp1) (h1 : GoodSc cols one) (h2 : GoodSc cols other) (rule : List Tt) (hr : Over cols rule) (hs : rule.length + sz one + sz other ≤ 1800) (hw : wn one * wn other ≤ 10000) :
    F_apart_of [eC cols, eSts one, eSts other, eTs rule] = some (eLs2 (apartT cols one other rule)) ∧ ∀ l ∈ apartT cols one other rule, Few l := by
  have hw1 : wn one ≤ 10000 := Nat.le_trans (Nat.le_mul_of_pos_right _ (wn_pos other)) hw
  have hw2 : wn other ≤ 10000 := Nat.le_trans (Nat.le_mul_of_pos_left _ (wn_pos one)) hw
  obtain ⟨k1, k2, k3⟩ := ways_of_ok cols hc.nd h64 one h1.good rule hr (by omega) (by omega) h1.few
  have second : ∀ w ∈ Df.waysOf cols one rule, F_ways_of [eC cols, eSts other, eTs w.tests] = some (.lst ((Df.waysOf cols other w.tests).map eWay)) ∧ (∀ v ∈ Df.waysOf cols other w.tests, WG cols (rule.length + sz one + sz other) v) ∧ (Df.waysOf cols other w.tests).length ≤ wn other := fun w hw => by
    have hg := k2 w hw
    have hf := hg.few
    obtain ⟨l1, l2, l3⟩ := ways_of_ok cols hc.nd h64 other h2.good w.tests hg.over (by omega) (by omega) h2.few
    exact ⟨l1, fun v hv => ⟨(l2 v hv).over, by have := (l2 v hv).few; omega, (l2 v hv).out, by have := (l2 v hv).tch; omega⟩, l3⟩
  have hul : ∀ w ∈ Df.waysOf cols one rule, ∀ v : Wy, (unlikeT w.out v.out).length ≤ 128 := fun w hw v => by
    have := unlike_len w.out v.out 63 fun x e => by rw [((k2 w hw).out x e).1]; omega
    omega
  have hpl : ∀ w ∈ Df.waysOf cols one rule, (pairT cols other w).length ≤ wn other * 128 := fun w hw =>
    Nat.le_trans (flat_len _ 128 _ fun v _ => by rw [List.length_map]; exact hul w hw v) (Nat.mul_le_mul_right _ (second w hw).2.2)
  refine ⟨?_, fun l hl => ?_⟩
  · refine run0_wp (by rfl) ?_
    refine wp_nx (ρ1 := [some (eC cols), some (eSts one), some (eSts other), some (eTs rule), some (.lst []), none, none, none]) (by simp) ?_
    refine wp_for' (enc := eWay) (Df.waysOf cols one rule) (fun dn ρ => ∃ x5 x6 x7, ρ = [some (eC cols), some (eSts one), some (eSts other), some (eTs rule), some (eLs2 (dn.flatMap (pairT cols other))), x5, x6, x7])
      (by simp [k1]) ⟨_, _, _, rfl⟩ (fun dn w r ρ e ⟨x5, x6, x7, j⟩ => ?_) (fun ρ ⟨x5, x6, x7, j⟩ => ?_)
    · subst j
      have hw' : w ∈ Df.waysOf cols one rule := by rw [e]; simp
      obtain ⟨l1, l2, l3⟩ := second w hw'
      have hdn : dn.length ≤ wn one := by
        have := congrArg List.length e
        simp at this; omega
      have hdl : (dn.flatMap (pairT cols other)).length ≤ dn.length * (wn other * 128) := flat_len _ _ dn fun y hy => hpl y (by rw [e]; simp [hy])
      have hb1 : dn.length * (wn other * 128) ≤ 10000 * 128 := by
        have := Nat.mul_le_mul_right (wn other * 128) hdn
        have h5 : wn one * (wn other * 128) = wn one * wn other * 128 := (Nat.mul_assoc _ _ _).symm
        have := Nat.mul_le_mul_right 128 hw
        omega
      suffices hh : Wp ((fSeq (fFor (up (eWl (eCall F_ways_of (eCons (vr 0) (eCons (vr 2) (eCons (e1 (D.fldC ["Way"] "tests") (vr 5)) eNil)))))) (gNm 6) (fSeq (fSet 4 (o2 D.add (up (vr 4)) (xLc [7] (up (eWl (eCall F_unlike (eCons (e1 (D.fldC ["Way"] "outcome") (vr 5)) (eCons (e1 (D.fldC ["Way"] "outcome") (vr 6)) eNil))))) (gNm 7) (up yesT) (up (e2 D.add (e1 (D.fldC ["Way"] "tests") (vr 6)) (vr 7))))))
          fNx)) fNx) [some (eC cols), some (eSts one), some (eSts other), some (eTs rule), some (eLs2 (dn.flatMap (pairT cols other))), some (eWay w), x6, x7]) (fun fl => ∃ y6 y7, fl = .nx [some (eC cols), some (eSts one), some (eSts other), some (eTs rule), some (eLs2 ((dn ++ [w]).flatMap (pairT cols other))), some (eWay w), y6, y7]) by
        obtain ⟨fl, h5, y6, y7, h6⟩ := hh
        subst h6
        exact ⟨_, _, by simp, h5, _, _, _, rfl⟩
      refine wp_for' (enc := eWay) (Df.waysOf cols other w.tests) (fun dn2 ρ => ∃ y6 y7, ρ = [some (eC cols), some (eSts one), some (eSts other), some (eTs rule), some (eLs2 (dn.flatMap (pairT cols other) ++ dn2.flatMap fun v => (unlikeT w.out v.out).map (v.tests ++ ·))), some (eWay w), y6, y7])
        (by simp [fl_tests, l1]) ⟨x6, x7, by simp⟩ (fun dn2 v r2 ρ ee ⟨y6, y7, j⟩ => ?_) (fun ρ ⟨y6, y7, j⟩ => ?_)
      · subst j
        have hv : v ∈ Df.waysOf cols other w.tests := by rw [ee]; simp
        have hvg := l2 v hv
        have hdn2 : dn2.length ≤ wn other := by
          have := congrArg List.length ee
          simp at this; omega
        have hl2 : (dn2.flatMap fun v => (unlikeT w.out v.out).map (v.tests ++ ·)).length ≤ dn2.length * 128 := flat_len _ _ dn2 fun v _ => by rw [List.length_map]; exact hul w hw' v
        have hun := unlike_ok w.out v.out fun x y ex ey => by
          rw [((k2 w hw').out x ex).1, (hvg.out y ey).1]
          exact ⟨rfl, hc.nd, by omega⟩
        have huo := unlike_over (fun x ex => (k2 w hw').out x ex) (fun y ey => hvg.out y ey)
        have hlc := xLc_of (vs := [7]) (w := up (eWl (eCall F_unlike (eCons (e1 (D.fldC ["Way"] "outcome") (vr 5)) (eCons (e1 (D.fldC ["Way"] "outcome") (vr 6)) eNil))))) (g := gNm 7) (t := up yesT) (e := up (e2 D.add (e1 (D.fldC ["Way"] "tests") (vr 6)) (vr 7)))
          (ρ := [some (eC cols), some (eSts one), some (eSts other), some (eTs rule), some (eLs2 (dn.flatMap (pairT cols other) ++ dn2.flatMap fun v => (unlikeT w.out v.out).map (v.tests ++ ·))), some (eWay w), some (eWay v), y7]) (enc := eTs)
          (unlikeT w.out v.out) (fun l => [some (eC cols), some (eSts one), some (eSts other), some (eTs rule), some (eLs2 (dn.flatMap (pairT cols other) ++ dn2.flatMap fun v => (unlikeT w.out v.out).map (v.tests ++ ·))), some (eWay w), some (eWay v), some (eTs l)]) (fun _ => true) (fun l => eTs (v.tests ++ l))
          (by simp [fl_out, hun, eLs2]) (by simp) (by simp) (fun l hl _ => by
            have : D.add (eTs v.tests) (eTs l) = some (eTs (v.tests ++ l)) := by
              unfold eTs
              rw [addL_ok (by have := hvg.few; have := (huo l hl).2; simp; omega)]; simp
            simp [fl_tests, this]) (by simp) (by have := hul w hw' v; omega) (by simp)
        rw [filter_tt] at hlc
        have hadd : D.add (eLs2 (dn.flatMap (pairT cols other) ++ dn2.flatMap fun v => (unlikeT w.out v.out).map (v.tests ++ ·))) (.lst ((unlikeT w.out v.out).map fun l => eTs (v.tests ++ l))) = some (eLs2 (dn.flatMap (pairT cols other) ++ (dn2 ++ [v]).flatMap fun v => (unlikeT w.out v.out).map (v.tests ++ ·))) := by
          have hln : ((dn.flatMap (pairT cols other) ++ dn2.flatMap fun v => (unlikeT w.out v.out).map (v.tests ++ ·)).map eTs).length + ((unlikeT w.out v.out).map fun l => eTs (v.tests ++ l)).length ≤ 16000000 := by
            have := hul w hw' v
            rw [List.length_map, List.length_map, List.length_append]
            omega
          unfold eLs2
          rw [addL_ok hln]
          simp [Function.comp_def]
        refine ⟨[some (eC cols), some (eSts one), some (eSts other), some (eTs rule), some (eLs2 (dn.flatMap (pairT cols other) ++ dn2.flatMap fun v => (unlikeT w.out v.out).map (v.tests ++ ·))), some (eWay w), some (eWay v), y7],
          [some (eC cols), some (eSts one), some (eSts other), some (eTs rule), some (eLs2 (dn.flatMap (pairT cols other) ++ (dn2 ++ [v]).flatMap fun v => (unlikeT w.out v.out).map (v.tests ++ ·))), some (eWay w), some (eWay v), y7], by simp, ?_, _, _, rfl⟩
        simp [hlc, hadd]
      · subst j
        refine wp_of rfl ⟨y6, y7, ?_⟩
        simp [pairT]
    · subst j
      exact wp_of (by simp; rfl) rfl
  · obtain ⟨w, hw', hl⟩ := List.mem_flatMap.mp hl
    obtain ⟨v, hv, hl⟩ := List.mem_flatMap.mp hl
    obtain ⟨m, hm, rfl⟩ := List.mem_map.mp hl
    have hvg := (second w hw').2.1 v hv
    have huo := unlike_over (fun x ex => (k2 w hw').out x ex) (fun y ey => hvg.out y ey) m hm
    refine few_of ?_ (over_app hvg.over huo.1) h64
    have := hvg.few
    have := huo.2
    simp only [List.length_append]; omega
def partT (cols : List Str) (one other : List Sp1) (rule : List Tt) : Option (List Int) := ((apartT cols one other rule).find? fun ts => Df.isOpen ts).map fun ts => cols.map (Df.numb ts)
def eRow : Option (List Int) → D
  | none => .non
  | some r => .lst (r.map .int)
theorem parting_of_ok (cols : List Str) (hc : GoodC cols) (h64 : cols.length < 64) (one other : List Sp1) (h1 : GoodSc cols one) (h2 : GoodSc cols other) (rule : List Tt) (hr : Over cols rule) (hs : rule.length + sz one + sz other ≤ 1800) (hw : wn one * wn other ≤ 10000) :
    F_parting_of [eC cols, eSts one, eSts other, eTs rule] = some (eRow (partT cols one other rule)) := by
  obtain ⟨a1, a2⟩ := apart_ok cols hc h64 one other h1 h2 rule hr hs hw
  refine run0_wp (by rfl) ?_
  refine wp_for (enc := eTs) (apartT cols one other rule) (fun dn ρ => ∃ x4 x5, ρ = [some (eC cols), some (eSts one), some (eSts other), some (eTs rule), x4, x5] ∧ ∀ ts ∈ dn, Df.isOpen ts = false)
    (by simp [a1, eLs2]) ⟨_, _, rfl, fun ts h => nomatch h⟩ (fun dn ts r ρ e ⟨x4, x5, j, jn⟩ => ?_) (fun ρ ⟨x4, x5, j, jn⟩ => ?_)
  · subst j
    have hts : ts ∈ apartT cols one other rule := by rw [e]; simp
    have hrow := row_of_ok cols (by omega) ts (a2 ts hts)
    refine ⟨[some (eC cols), some (eSts one), some (eSts other), some (eTs rule), some (eTs ts), x5], by simp, ?_⟩
    cases ho : Df.isOpen ts with
    | false =>
      rw [ho] at hrow
      refine wp_of (fl := .nx [some (eC cols), some (eSts one), some (eSts other), some (eTs rule), some (eTs ts), some .non]) (by simp [hrow]) ⟨_, _, rfl, fun u hu => ?_⟩
      rcases List.mem_append.mp hu with hu | hu
      · exact jn u hu
      · simp at hu; subst hu; exact ho
    | true =>
      rw [ho] at hrow
      simp only [if_true] at hrow
      refine wp_of (fl := .rt (.lst (cols.map fun c => .int (Df.numb ts c))) [some (eC cols), some (eSts one), some (eSts other), some (eTs rule), some (eTs ts), some (.lst (cols.map fun c => .int (Df.numb ts c)))]) (by simp [hrow]) ?_
      show some _ = some _
      have hf : (apartT cols one other rule).find? (fun ts => Df.isOpen ts) = some ts := by
        rw [e, List.find?_append, List.find?_eq_none.mpr (fun x hx => by simp [jn x hx])]
        simp [ho]
      simp [partT, hf, eRow, Function.comp_def]
  · subst j
    refine wp_of (by simp; rfl) ?_
    show some _ = some _
    have hf : (apartT cols one other rule).find? (fun ts => Df.isOpen ts) = none := List.find?_eq_none.mpr (fun x hx => by simp [jn x hx])
    simp [partT, hf, eRow]
theorem parting_ok (cols : List Str) (hc : GoodC cols) (h64 : cols.length < 64) (one other : List Sp1) (h1 : GoodSc cols one) (h2 : GoodSc cols other) (d : D) (rule : List Tt) (hd : d = .non ∧ rule = [] ∨ d = eTs rule) (hr : Over cols rule) (hs : rule.length + sz one + sz other ≤ 1800) (hw : wn one * wn other ≤ 10000) :
    F_parting [eC cols, eSts one, eSts other, d] = some (eRow (partT cols one other rule)) := by
  have hru : F_rule_of [eC cols, d] = some (eTs rule) := by
    rcases hd with ⟨rfl, rfl⟩ | rfl
    · exact rule_of_non cols
    · exact rule_of_ok cols hc rule (by omega) hr
  have hcs := check_scripts_ok cols hc one other h1.few h1.good h2.few h2.good d rule hru
  refine run0_of (by rfl) ?_
  simp [b_parting, hcs, parting_of_ok cols hc h64 one other h1 h2 rule hr hs hw]
end R43
set_option Elab.async false
set_option linter.all false
set_option maxRecDepth 100000
set_option maxHeartbeats 1000000
namespace R43
open PySem PySem.Spec L2 RF
open PyProof.Rows hiding St
def Pu (b : Int) (d : D) : Prop := ∃ p0 p1 p2 p3 : Int, d = .lst [.int p0, .int p1, .int p2, .int p3] ∧ 0 ≤ p2 ∧ p2 + b ≤ 400000000000 ∧ 0 ≤ p3 ∧ p3 < 1000000
theorem Pu.less {a b : Int} {d : D} (h : Pu a d) (k : b ≤ a) : Pu b d := by
  obtain ⟨p0, p1, p2, p3, e, h1, h2, h3, h4⟩ := h
  exact ⟨p0, p1, p2, p3, e, h1, by omega, h3, h4⟩
section
variable {β : Type} {enc : β → D}
end
end R43
set_option Elab.async false
set_option linter.all false
namespace RF
open PySem PySem.Spec L2
open PyProof.Rows hiding St
def evA := And.intro (And.intro (And.intro (And.intro (And.intro (And.intro (And.intro (@ev_fSeq) (@ev_fNx)) (And.intro (@ev_fBk) (@ev_fCt))) (And.intro (And.intro (@ev_fSet) (@ev_fDo)) (And.intro (@ev_fRt) (@ev_fRtN)))) (And.intro (And.intro (And.intro (@ev_fIf) (@ev_fAsg)) (And.intro (@ev_fPush) (@ev_fPut))) (And.intro (And.intro (@ev_fBag) (@ev_setD_cons)) (And.intro (@ev_setD_nil) (@ev_gNm))))) (And.intro (And.intro (And.intro (And.intro (@ev_gNl) (@ev_gCn)) (And.intro (@ev_gTp) (@ev_gPut))) (And.intro (And.intro (@ev_vr) (@ev_cn)) (And.intro (@ev_up) (@ev_e1)))) (And.intro (And.intro (And.intro (@ev_e2) (@ev_o1)) (And.intro (@ev_o2) (@ev_xTru))) (And.intro (And.intro (@ev_eTru) (@ev_xNotT)) (And.intro (@ev_eNotT) (And.intro (@ev_xAndT) (@ev_eAndT))))))) (And.intro (And.intro (And.intro (And.intro (And.intro (@ev_xOrT) (@ev_eOrT)) (And.intro (@ev_xIf) (@ev_eIf))) (And.intro (And.intro (@ev_xAnd) (@ev_eAnd)) (And.intro (@ev_xOr) (@ev_eOr)))) (And.intro (And.intro (And.intro (@ev_xNot) (@ev_eNot)) (And.intro (@ev_xNil) (@ev_eNil))) (And.intro (And.intro (@ev_xCons) (@ev_eCons)) (And.intro (@ev_xApp) (And.intro (@ev_xCall) (@ev_eCall)))))) (And.intro (And.intro (And.intro (And.intro (@ev_eChain) (@ev_xChain)) (And.intro (@ev_xNoPart) (@ev_eNoPart))) (And.intro (And.intro (@ev_xPart) (@ev_ePart)) (And.intro (@ev_xSlice) (@ev_eSlice)))) (And.intro (And.intro (And.intro (@ev_xWl) (@ev_eWl)) (And.intro (@ev_xLs) (@ev_eLs))) (And.intro (And.intro (@ev_xM) (@ev_eM)) (And.intro (@ev_xB) (And.intro (@ev_eB) (@ev_xPk)))))))) (And.intro (And.intro (And.intro (And.intro (And.intro (And.intro (@ev_ePk) (@ev_tPk)) (And.intro (@ev_xDct) (@ev_pNil))) (And.intro (And.intro (@ev_pCons) (@ev_yesT)) (And.intro (@ev_bNil) (@ev_bCons)))) (And.intro (And.intro (And.intro (@ev_xCall1) (@ev_asB)) (And.intro (@ev_asInt) (@ev_asL))) (And.intro (And.intro (@ev_one) (@ev_add)) (And.intro (@ev_sub) (@ev_neg))))) (And.intro (And.intro (And.intro (And.intro (@ev_lt) (@ev_le)) (And.intro (@ev_gt) (@ev_ge))) (And.intro (And.intro (@op_trB) (@op_isNone_non)) (And.intro (@op_isNone_int) (@op_isNone_str)))) (And.intro (And.intro (And.intro (@op_isNone_lst) (@op_isNone_tup)) (And.intro (@op_isNone_dct) (@op_isNone_ins))) (And.intro (And.intro (@ev_is2) (@ev_isnt2)) (And.intro (@mkLst_nil) (And.intro (@mkLst_1) (@mkLst_2))))))) (And.intro (And.intro (And.intro (And.intro (And.intro (@mkLst_3) (@mkTup_nil)) (And.intro (@mkTup_1) (@mkTup_2))) (And.intro (And.intro (@mkTup_3) (@it_t0)) (And.intro (@it_t1) (@it_t2)))) (And.intro (And.intro (And.intro (@it_l0) (@it_l1)) (And.intro (@walk_lst) (@walk_tup))) (And.intro (And.intro (@thn_nx) (@thn_bk)) (And.intro (@thn_ct) (And.intro (@thn_rt) (@lk_succ)))))) (And.intro (And.intro (And.intro (And.intro (@lk_zero) (@Option.bind_some.{0,0})) (And.intro (@Option.map_some.{0,0}) (@List.set_cons_succ.{0}))) (And.intro (And.intro (@List.set_cons_zero.{0}) (@List.map_cons.{0,0})) (And.intro (@List.map_nil.{0,0}) (@List.cons_append.{0})))) (And.intro (And.intro (And.intro (@List.nil_append.{0}) (@List.length_cons.{0})) (And.intro (@List.length_nil.{0}) (@Bool.not_true))) (And.intro (And.intro (@Bool.not_false) (@Bool.false_eq_true)) (And.intro (@if_true.{1}) (And.intro (@if_false.{1}) (@Nat.sub_self))))))))
end RF
set_option Elab.async false
set_option linter.all false
set_option maxRecDepth 100000
set_option maxHeartbeats 1000000
namespace R43
open PySem PySem.Spec L2 RF
open PyProof.Rows hiding St
theorem eqN_wT (a b : OW) : ∃ c, eqN 48 (eW a) (eW b) = some c := by cases a <;> cases b <;> exact ⟨_, rfl⟩
theorem eqN_tT (t u : Tt) : ∃ c, eqN 49 (eT t) (eT u) = some c := by
  obtain ⟨a, b, m⟩ := t
  obtain ⟨a', b', m'⟩ := u
  obtain ⟨c1, h1⟩ := eqN_wT a a'
  obtain ⟨c2, h2⟩ := eqN_wT b b'
  show ∃ c, ((eqN 48 (eW a) (eW a')).bind fun b1 => ((eqN 48 (eW b) (eW b')).bind fun b2 => ((some (m == m')).bind fun b3 => (some true).map fun c => b3 && c).map fun c => b2 && c).map fun c => b1 && c).map _ = some c
  rw [h1, h2]
  exact ⟨_, rfl⟩
theorem zipT_tot : ∀ l k : List Tt, ∃ c, allO (List.zipWith (eqN 49) (l.map eT) (k.map eT)) = some c
  | [], k => ⟨true, rfl⟩
  | t :: r, [] => ⟨true, rfl⟩
  | t :: r, u :: s => by
    obtain ⟨c1, h1⟩ := eqN_tT t u
    obtain ⟨c2, h2⟩ := zipT_tot r s
    refine ⟨c1 && c2, ?_⟩
    show (eqN 49 (eT t) (eT u)).bind (fun b => (allO (List.zipWith (eqN 49) (r.map eT) (s.map eT))).map fun c => b && c) = _
    rw [h1, h2]; rfl
theorem eqN_tsT (l k : List Tt) : ∃ c, eqN 50 (eTs l) (eTs k) = some c := by
  show ∃ c, (if (l.map eT).length = (k.map eT).length then allO (List.zipWith (eqN 49) (l.map eT) (k.map eT)) else some false) = some c
  split
  · exact zipT_tot l k
  · exact ⟨_, rfl⟩
theorem anyEq_ts (C : List Tt) : ∀ R : List (List Tt), ∃ c, anyEq (eTs C) (R.map eTs) = some c := fun R => by
  have key : ∃ c, allO ((R.map eTs).map fun y => (eqN 50 y (eTs C)).map not) = some c := by
    induction R with
    | nil => exact ⟨true, rfl⟩
    | cons l r ih =>
      obtain ⟨c2, h2⟩ := ih
      obtain ⟨c1, h1⟩ := eqN_tsT l C
      refine ⟨!c1 && c2, ?_⟩
      rw [List.map_cons, List.map_cons]
      show ((eqN 50 (eTs l) (eTs C)).map not).bind _ = _
      rw [h1, Option.map_some, Option.bind_some, h2]; rfl
  obtain ⟨c, h⟩ := key
  exact ⟨!c, by unfold anyEq; rw [h]; rfl⟩
theorem notin_ls (C : List Tt) (R : List (List Tt)) : ∃ b, D.notIn (eTs C) (eLs2 R) = some (.bl b) ∧ (R = [] → b = true) := by
  obtain ⟨c, h⟩ := anyEq_ts C R
  refine ⟨!c, ?_, fun e => ?_⟩
  · show ((anyEq (eTs C) (R.map eTs)).map fun c => D.bl (!c)) = _
    rw [h]; rfl
  · subst e
    have : anyEq (eTs C) [] = some false := rfl
    have h : anyEq (eTs C) [] = some c := h
    rw [this] at h
    cases h; rfl
theorem none_ts (l : List Tt) : D.isNone (eTs l) = false := rfl
theorem lists_of_ok (L : List (List Tt)) (hl : L.length ≤ 100000) (h : ∀ ts ∈ L, Few ts ∧ Short ts) :
    ∃ R : List (List Tt), F_lists_of [eLs2 L] = some (eLs2 R) ∧ (∀ C ∈ R, ∃ ts ∈ L, Df.isOpen ts = true ∧ Clos ts C) ∧ (R = [] ↔ ∀ ts ∈ L, Df.isOpen ts = false) ∧ R.length ≤ L.length := by
  suffices hh : ∃ d, F_lists_of [eLs2 L] = some d ∧ ∃ R : List (List Tt), d = eLs2 R ∧ (∀ C ∈ R, ∃ ts ∈ L, Df.isOpen ts = true ∧ Clos ts C) ∧ (R = [] ↔ ∀ ts ∈ L, Df.isOpen ts = false) ∧ R.length ≤ L.length by
    obtain ⟨d, e1, R, rfl, e2⟩ := hh
    exact ⟨R, e1, e2⟩
  refine run0_ex (by rfl) ?_
  refine wp_nx (ρ1 := [some (eLs2 L), some (eLs2 []), none, none]) (by simp only [evA, List.replicate, D.flat]; rfl) ?_
  refine wp_for' (enc := eTs) L (fun dn ρ => ∃ (R : List (List Tt)) (x2 x3 : Option D), ρ = [some (eLs2 L), some (eLs2 R), x2, x3] ∧ (∀ C ∈ R, ∃ ts ∈ dn, Df.isOpen ts = true ∧ Clos ts C) ∧ (R = [] ↔ ∀ ts ∈ dn, Df.isOpen ts = false) ∧ R.length ≤ dn.length)
    (by simp [eLs2]) ⟨[], _, _, rfl, by simp, by simp, by simp⟩ (fun dn ts r ρ e ⟨R, x2, x3, j1, j2, j3, j4⟩ => ?_) (fun ρ ⟨R, x2, x3, j1, j2, j3, j4⟩ => ?_)
  · subst j1
    have hm : ts ∈ L := by rw [e]; simp
    have hdn : dn.length ≤ L.length := by rw [e]; simp
    obtain ⟨hf, hs⟩ := h ts hm
    have hc := closure_of_ok ts hf hs
    have up2 : ∀ C ∈ R, ∃ u ∈ dn ++ [ts], Df.isOpen u = true ∧ Clos u C := fun C hC => by
      obtain ⟨u, h1, h2⟩ := j2 C hC
      exact ⟨u, by simp [h1], h2⟩
    cases ho : Df.isOpen ts with
    | false =>
      rw [ho, if_neg (by simp)] at hc
      refine ⟨[some (eLs2 L), some (eLs2 R), some (eTs ts), x3], [some (eLs2 L), some (eLs2 R), some (eTs ts), some .non], by simp only [evA, List.replicate, D.flat], ?_, R, _, _, rfl, up2, ?_, by simp; omega⟩
      · simp only [evA, List.replicate, D.flat, hc]
      · rw [j3]
        simp only [List.mem_append, List.mem_singleton]
        exact ⟨fun z u hu => hu.elim (z u) fun e => e ▸ ho, fun z u hu => z u (.inl hu)⟩
    | true =>
      rw [ho, if_pos rfl] at hc
      obtain ⟨C, hC, cl⟩ := hc
      obtain ⟨b, hb, hb2⟩ := notin_ls C R
      cases b with
      | true =>
        refine ⟨[some (eLs2 L), some (eLs2 R), some (eTs ts), x3], [some (eLs2 L), some (eLs2 (R ++ [C])), some (eTs ts), some (eTs C)], by simp only [evA, List.replicate, D.flat], ?_, R ++ [C], _, _, rfl, fun C' hC' => ?_, ?_, by simp; omega⟩
        · have hp := push_ok (eTs C) (R.map eTs) (by simp; omega)
          have hp2 : (some (D.lst (R.map eTs ++ [eTs C])) : Option D) = some (eLs2 (R ++ [C])) := by simp [eLs2]
          rw [hp2] at hp
          have hp3 : push (eTs C) (eLs2 R) = some (eLs2 (R ++ [C])) := hp
          have ha : asL (eLs2 R) = some (R.map eTs) := rfl
          simp only [evA, List.replicate, D.flat, hC, hb, none_ts]
          first | rw [hp3]; rfl | (simp only [ha, hp]; rfl)
        · rcases List.mem_append.mp hC' with z | z
          · exact up2 C' z
          · simp only [List.mem_singleton] at z
            subst z
            exact ⟨ts, by simp, ho, cl⟩
        · constructor
          · intro z; simp at z
          · intro z
            have := z ts (by simp)
            rw [ho] at this; cases this
      | false =>
        refine ⟨[some (eLs2 L), some (eLs2 R), some (eTs ts), x3], [some (eLs2 L), some (eLs2 R), some (eTs ts), some (eTs C)], by simp only [evA, List.replicate, D.flat], ?_, R, _, _, rfl, up2, ?_, by simp; omega⟩
        · simp only [evA, List.replicate, D.flat, hC, hb, none_ts]
        · constructor
          · intro z; exact absurd (hb2 z) (by simp)
          · intro z
            have := z ts (by simp)
            rw [ho] at this; cases this
  · subst j1
    exact wp_of (by simp only [evA, List.replicate, D.flat]; rfl) ⟨_, rfl, R, rfl, j2, j3, j4⟩
end R43
set_option Elab.async false
set_option linter.all false
set_option maxRecDepth 100000
set_option maxHeartbeats 1000000
namespace R43
open PySem PySem.Spec L2 RF
open PyProof.Rows hiding St
theorem allO_self {q : D → D → Option Bool} : ∀ l : List D, (∀ d ∈ l, q d d = some true) → allO (List.zipWith q l l) = some true
  | [], _ => rfl
  | d :: r, h => by
    show (q d d).bind (fun b => (allO (List.zipWith q r r)).map fun c => b && c) = _
    rw [h d (by simp), allO_self r fun x hx => h x (by simp [hx])]; rfl
theorem allO_may : ∀ (l : List (Option Bool)), (∀ x ∈ l, x = none ∨ x = some true) → allO l = none ∨ allO l = some true
  | [], _ => .inr rfl
  | x :: r, h => by
    show x.bind (fun b => (allO r).map fun c => b && c) = none ∨ x.bind (fun b => (allO r).map fun c => b && c) = some true
    rcases h x (by simp) with rfl | rfl
    · exact .inl rfl
    · rcases allO_may r fun y hy => h y (by simp [hy]) with e | e
      · rw [e]; exact .inl rfl
      · rw [e]; exact .inr rfl
theorem zip_may {q : D → D → Option Bool} (h : ∀ d, q d d = none ∨ q d d = some true) (l : List D) : allO (List.zipWith q l l) = none ∨ allO (List.zipWith q l l) = some true := by
  refine allO_may _ fun x hx => ?_
  induction l with
  | nil => cases hx
  | cons d r ih =>
    rcases List.mem_cons.mp hx with rfl | hx
    · exact h d
    · exact ih hx
theorem eqN_self : ∀ (n : Nat) (d : D), eqN n d d = none ∨ eqN n d d = some true
  | 0, d => by cases d <;> first | exact .inl rfl | (refine .inr ?_; show some (flatEq _ _) = some true; simp [flatEq])
  | n + 1, .lst a => by
    show (if a.length = a.length then _ else _) = _ ∨ (if a.length = a.length then _ else _) = _
    rw [if_pos rfl]
    exact zip_may (eqN_self n) a
  | n + 1, .tup a => by
    show (allO (List.zipWith (eqN n) a a)).map _ = _ ∨ (allO (List.zipWith (eqN n) a a)).map _ = _
    rcases zip_may (eqN_self n) a with e | e
    · rw [e]; exact .inl rfl
    · rw [e]; exact .inr (by simp)
  | n + 1, .non => .inr (by show some (flatEq _ _) = some true; simp [flatEq])
  | n + 1, .bl b => .inr (by show some (flatEq _ _) = some true; simp [flatEq])
  | n + 1, .int i => .inr (by show some (flatEq _ _) = some true; simp [flatEq])
  | n + 1, .str s => .inr (by show some (flatEq _ _) = some true; simp [flatEq])
  | n + 1, .dct _ => .inl rfl
  | n + 1, .ins _ _ => .inl rfl
  | n + 1, .scr _ => .inl rfl
  | n + 1, .mk _ _ _ => .inl rfl
theorem neY_self (l : List D) (h : ∀ d ∈ l, eqO 59 d d = some true) : D.neY (.lst l) (.lst l) = some (.bl false) := by
  unfold D.neY
  have e : D.ne (.lst l) (.lst l) = none ∨ D.ne (.lst l) (.lst l) = some (.bl false) := by
    show (eqN 51 (.lst l) (.lst l)).map _ = none ∨ (eqN 51 (.lst l) (.lst l)).map _ = _
    rcases eqN_self 51 (.lst l) with e | e
    · rw [e]; exact .inl rfl
    · rw [e]; exact .inr rfl
  rcases e with e | e
  · rw [e]
    show (if l.length = l.length then _ else _) = _
    rw [if_pos rfl, allO_self l h]; rfl
  · rw [e]
theorem eqO_lst {n : Nat} {l : List D} (h : ∀ d ∈ l, eqO n d d = some true) : eqO (n + 1) (.lst l) (.lst l) = some true := by
  show (if l.length = l.length then _ else _) = _
  rw [if_pos rfl, allO_self l h]
theorem eqO_tup {n : Nat} {l : List D} (h : ∀ d ∈ l, eqO n d d = some true) : eqO (n + 1) (.tup l) (.tup l) = some true := by
  show (allO (List.zipWith (eqO n) l l)).map _ = _
  rw [allO_self l h]; simp
theorem eqO_w (n : Nat) (w : OW) : eqO n (eW w) (eW w) = some true := by
  cases w with
  | none => cases n <;> rfl
  | some s => cases n <;> (show some (flatEq _ _) = some true; simp [flatEq])
theorem eqO_int (n : Nat) (i : Int) : eqO n (.int i) (.int i) = some true := by cases n <;> (show some (flatEq _ _) = some true; simp [flatEq])
theorem eqO_t (n : Nat) (t : Tt) : eqO (n + 1) (eT t) (eT t) = some true := by
  obtain ⟨a, b, m⟩ := t
  refine eqO_tup fun d hd => ?_
  simp only [List.mem_cons, List.not_mem_nil, or_false] at hd
  rcases hd with rfl | rfl | rfl
  · exact eqO_w n a
  · exact eqO_w n b
  · exact eqO_int n m
theorem unlike_len2 (a b : Option (Df.Oc Str)) (k : Nat) (hk : 1 ≤ k) (h : ∀ x, a = some x → (Df.colsOf x).length ≤ k) : (unlikeT a b).length ≤ 2 * k := by
  cases a with
  | none =>
    cases b with
    | none => simp [unlikeT]
    | some q => simp [unlikeT]; omega
  | some p =>
    cases b with
    | none => simp [unlikeT]; omega
    | some q =>
      have h1 := h p rfl
      have : ∀ l : List Str, (l.flatMap fun c => [[((Df.look p c).1, (Df.look q c).1, (Df.look q c).2 - (Df.look p c).2 - 1)], [((Df.look q c).1, (Df.look p c).1, (Df.look p c).2 - (Df.look q c).2 - 1)]]).length = 2 * l.length := fun l => by
        induction l with
        | nil => rfl
        | cons c r ih => rw [List.flatMap_cons, List.length_append, ih]; simp; omega
      show ((Df.colsOf p).flatMap _).length ≤ _
      rw [this]; omega
section
variable {cols : List Str} {one other : List Sp1} {rule : List Tt}
structure Ask (cols : List Str) (one other : List Sp1) (rule : List Tt) : Prop where
  good : GoodC cols
  short : ∀ c ∈ cols, c.length ≤ 20
  few : cols.length ≤ 4
  g1 : GoodSc cols one
  g2 : GoodSc cols other
  w : wn one * wn other ≤ 243
  r : Over cols rule
  sz : rule.length + R43.sz one + R43.sz other ≤ 38
theorem apart_over (A : Ask cols one other rule) : ∀ l ∈ apartT cols one other rule, Over cols l := fun l hl => by
  have hz := A.sz
  have hf := A.few
  obtain ⟨w, hw, hl⟩ := List.mem_flatMap.mp hl
  obtain ⟨v, hv, hl⟩ := List.mem_flatMap.mp hl
  obtain ⟨m, hm, rfl⟩ := List.mem_map.mp hl
  have w9 : wn one ≤ 243 := Nat.le_trans (Nat.le_mul_of_pos_right _ (wn_pos other)) A.w
  have w9' : wn other ≤ 243 := Nat.le_trans (Nat.le_mul_of_pos_left _ (wn_pos one)) A.w
  obtain ⟨_, k2, _⟩ := ways_of_ok cols A.good.nd (by omega) one A.g1.good rule A.r (by omega) (by omega) A.g1.few
  have g1 := k2 w hw
  have hfw := g1.few
  obtain ⟨_, k3, _⟩ := ways_of_ok cols A.good.nd (by omega) other A.g2.good w.tests g1.over (by omega) (by omega) A.g2.few
  have g2 := k3 v hv
  have hu := unlike_over (cols := cols) (fun x hx => g1.out x hx) (fun x hx => g2.out x hx) m hm
  exact over_app g2.over hu.1
theorem apart_len (A : Ask cols one other rule) : (apartT cols one other rule).length ≤ 1944 := by
  have hz := A.sz
  have hf := A.few
  have w9 : wn one ≤ 243 := Nat.le_trans (Nat.le_mul_of_pos_right _ (wn_pos other)) A.w
  have w9' : wn other ≤ 243 := Nat.le_trans (Nat.le_mul_of_pos_left _ (wn_pos one)) A.w
  obtain ⟨_, k2, k4⟩ := ways_of_ok cols A.good.nd (by omega) one A.g1.good rule A.r (by omega) (by omega) A.g1.few
  have hpair : ∀ w ∈ Df.waysOf cols one rule, (pairT cols other w).length ≤ wn other * 8 := fun w hw => by
    have g1 := k2 w hw
    have hfw := g1.few
    obtain ⟨_, k3, k5⟩ := ways_of_ok cols A.good.nd (by omega) other A.g2.good w.tests g1.over (by omega) (by omega) A.g2.few
    refine Nat.le_trans (flat_len _ 8 _ fun v hv => ?_) (Nat.mul_le_mul_right _ k5)
    rw [List.length_map]
    exact unlike_len2 _ _ 4 (by omega) fun x hx => by rw [(g1.out x hx).1]; exact hf
  refine Nat.le_trans (flat_len _ (wn other * 8) _ hpair) ?_
  have h1 : (Df.waysOf cols one rule).length * (wn other * 8) ≤ wn one * (wn other * 8) := Nat.mul_le_mul_right _ k4
  have h2 : wn one * (wn other * 8) = (wn one * wn other) * 8 := by rw [Nat.mul_assoc]
  have h3 := Nat.mul_le_mul_right 8 A.w
  omega
theorem parted_ok (A : Ask cols one other rule) {d : D} (hd : d = .non ∧ rule = [] ∨ d = eTs rule) : ∃ R : List (List Tt), F_parted [eC cols, eSts one, eSts other, d] = some (eLs2 R) ∧ R.length ≤ 1944 := by
  have hz := A.sz
  have hf := A.few
  have hw := A.w
  have hru : F_rule_of [eC cols, d] = some (eTs rule) := by
    rcases hd with ⟨rfl, rfl⟩ | rfl
    · exact rule_of_non cols
    · exact rule_of_ok cols A.good rule (by omega) A.r
  have hcs := check_scripts_ok cols A.good one other A.g1.few A.g1.good A.g2.few A.g2.good d rule hru
  obtain ⟨a1, a2⟩ := apart_ok cols A.good (by omega) one other A.g1 A.g2 rule A.r (by omega) (by omega)
  have hl := apart_len A
  obtain ⟨R, e, _, _, hR⟩ := lists_of_ok (apartT cols one other rule) (by omega) fun ts hts => ⟨a2 ts hts, fun t ht => ⟨fun s e => by have := A.short s ((apart_over A ts hts t ht).1 s e); omega, fun s e => by have := A.short s ((apart_over A ts hts t ht).2 s e); omega⟩⟩
  refine ⟨R, ?_, by omega⟩
  refine run0_of (by rfl) ?_
  unfold b_parted
  simp only [evA, List.replicate, D.flat, hcs, a1, e]
  rfl
theorem parted_non (A : Ask cols one other []) : F_parted [eC cols, eSts one, eSts other, .non] = F_parted [eC cols, eSts one, eSts other, eTs []] := by
  have hz := A.sz
  have h1 := check_scripts_ok cols A.good one other A.g1.few A.g1.good A.g2.few A.g2.good .non [] (rule_of_non cols)
  have h2 := check_scripts_ok cols A.good one other A.g1.few A.g1.good A.g2.few A.g2.good (eTs []) [] (rule_of_ok cols A.good [] (by simp) A.r)
  have hf := A.few
  have hw := A.w
  obtain ⟨a1, a2⟩ := apart_ok cols A.good (by omega) one other A.g1 A.g2 [] A.r (by omega) (by omega)
  have hl := apart_len A
  obtain ⟨R, e, _, _, hR⟩ := lists_of_ok (apartT cols one other []) (by omega) fun ts hts => ⟨a2 ts hts, fun t ht => ⟨fun s e => by have := A.short s ((apart_over A ts hts t ht).1 s e); omega, fun s e => by have := A.short s ((apart_over A ts hts t ht).2 s e); omega⟩⟩
  have f : ∀ d : D, F_check_scripts [eC cols, eSts one, eSts other, d] = some (eTs []) → F_parted [eC cols, eSts one, eSts other, d] = some (eLs2 R) := fun d hcs => by
    refine run0_of (by rfl) ?_
    unfold b_parted
    simp only [evA, List.replicate, D.flat, hcs, a1, e]
    rfl
  rw [f _ h1, f _ h2]
theorem ne_row (r : Option (List Int)) : D.neY (eRow r) (eRow r) = some (.bl false) := by
  cases r with
  | none => rfl
  | some l =>
    refine neY_self _ fun d hd => ?_
    obtain ⟨i, _, rfl⟩ := List.mem_map.mp hd
    exact eqO_int _ i
theorem ne_ls (R : List (List Tt)) : D.neY (eLs2 R) (eLs2 R) = some (.bl false) := by
  refine neY_self _ fun d hd => ?_
  obtain ⟨ts, _, rfl⟩ := List.mem_map.mp hd
  refine eqO_lst (n := 58) fun d hd => ?_
  obtain ⟨t, _, rfl⟩ := List.mem_map.mp hd
  exact eqO_t 57 t
end
abbrev st1 (r1 : Int) : Sp1 := ⟨[(some "x", none, r1)], some [("x", (some "x", 1))]⟩
abbrev st2 (r2 : Int) : Sp1 := ⟨[(none, some "x", -r2)], none⟩
theorem ov_x {w : Option Str} (h : w = some "x" ∨ w = none) : OverW ["x"] w := fun s e => by
  rcases h with rfl | rfl
  · cases e; simp
  · cases e
theorem good_x : GoodC ["x"] := ⟨fun c hc => by simp at hc; subst hc; show F_is_name [.str "x"] = some (.bl true); kernel_rfl, fun c hc => by simp at hc; subst hc; show F_is_word [.str "x"] = some (.bl true); kernel_rfl, by simp, by simp, by simp⟩
theorem ask_x (r1 r2 : Int) {rule : List Tt} (hr : Over ["x"] rule) (hl : rule.length ≤ 1) : Ask ["x"] [st1 r1] [st2 r2] rule := by
  refine ⟨good_x, fun c hc => ?_, by simp, ⟨fun st hs => ?_, by simp⟩, ⟨fun st hs => ?_, by simp⟩, ?_, hr, ?_⟩
  · simp at hc; subst hc; decide +kernel
  · simp at hs; subst hs
    refine ⟨by simp, fun t ht => ?_, fun s e => ?_⟩
    · simp at ht; subst ht; exact ⟨ov_x (.inl rfl), ov_x (.inr rfl)⟩
    · cases e
      exact ⟨fun p hp => by simp at hp; subst hp; exact ⟨by simp, ov_x (.inl rfl)⟩, by simp, by simp⟩
  · simp at hs; subst hs
    refine ⟨by simp, fun t ht => ?_, fun s e => by cases e⟩
    simp at ht; subst ht; exact ⟨ov_x (.inr rfl), ov_x (.inl rfl)⟩
  · show wn [st1 r1] * wn [st2 r2] ≤ 243
    simp [wn]
  · show rule.length + R43.sz [st1 r1] + R43.sz [st2 r2] ≤ 38
    simp [R43.sz]; omega
theorem ov_rule (r3 : Int) : Over ["x"] [(some "x", none, r3)] := fun t ht => by simp at ht; subst ht; exact ⟨ov_x (.inl rfl), ov_x (.inr rfl)⟩
theorem ov_nil : Over ["x"] ([] : List Tt) := fun t ht => (nomatch ht)
end R43
set_option Elab.async false
set_option linter.all false
set_option maxRecDepth 100000
set_option maxHeartbeats 4000000
namespace R43
open PySem PySem.Spec L2 RF
open PyProof.Rows hiding St
def c_parting (o : Option D) : FS := (fRt (up (cK o)))
def c_parting_of (o : Option D) : FS := (fSeq (fFor (up (eWl (cK o))) (gNm 4) (fSeq (fSet 5 (up (eCall F_row_of (eCons (vr 0) (eCons (vr 4) eNil)))))
  (fSeq (fIf (up (eB (e2 D.isnt2 (vr 5) (cn .non)))) (fRt (up (vr 5)))
  fNx)
  fNx)))
  (fRt (up (cn .non))))
def c_apart_of (o : Option D) : FS := (fSeq (fFor (up (eWl (cK o))) (gNm 5) (fSeq (fFor (up (eWl (eCall F_ways_of (eCons (vr 0) (eCons (vr 2) (eCons (e1 (D.fldC ["Way"] "tests") (vr 5)) eNil)))))) (gNm 6) (fSeq (fSet 4 (o2 D.add (up (vr 4)) (xLc [7] (up (eWl (eCall F_unlike (eCons (e1 (D.fldC ["Way"] "outcome") (vr 5)) (eCons (e1 (D.fldC ["Way"] "outcome") (vr 6)) eNil))))) (gNm 7) (up yesT) (up (e2 D.add (e1 (D.fldC ["Way"] "tests") (vr 6)) (vr 7))))))
  fNx))
  fNx))
  (fRt (up (vr 4))))
def c_ways_of : FS := (fSeq (fSet 3 (xLc [6] (xWl (xCall mkLst (xCons (xCall (mkIns "Way" ["tests", "outcome", "touched"]) (xCons (xCall D.list (up (eCons (vr 2) eNil))) (xCons (xDc [8] (up (eWl (vr 0))) (gNm 8) (up yesT) (up (vr 8)) (up (eCall mkTup (eCons (vr 8) (eCons (cn (.int 0)) eNil))))) (xCons (up (eCall mkLst eNil)) xNil)))) xNil))) (gNm 6) (up (eTru (eCall F_is_open (eCons (vr 6) eNil)))) (up (vr 6))))
  (fSeq (fFor (up (eLs enumL (eCons (vr 1) eNil))) (gTp 2 (gCn (gNm 4) (gCn (gNm 5) gNl))) (fSeq (fSet 3 (xLc2 [6, 7] [7] (up (eWl (vr 3))) (gNm 6) (up yesT) (up (eWl (eCall F_ways_on (eCons (vr 6) (eCons (vr 4) (eCons (vr 5) eNil)))))) (gNm 7) (up yesT) (up (vr 7))))
  fNx))
  (fRt (up (vr 3)))))
def v0 (r1 r3 : Int) : Option D := (c_ways_of [some (.lst [(.str "x")]), some (.lst [(.tup [(.str "change"), (.lst [(.tup [(.str "x"), .non, (.int r1)])]), (.dct [((.str "x"), (.tup [(.str "x"), (.int 1)]))])])]), some (.lst [(.tup [(.str "x"), .non, (.int r3)])]), none, none, none, none, none, none]).bind (finF false)
theorem w0 (r1 r3 : Int) : F_ways_of [(.lst [(.str "x")]), (.lst [(.tup [(.str "change"), (.lst [(.tup [(.str "x"), .non, (.int r1)])]), (.dct [((.str "x"), (.tup [(.str "x"), (.int 1)]))])])]), (.lst [(.tup [(.str "x"), .non, (.int r3)])])] = v0 r1 r3 := by
  refine (run0_eq rfl).trans (congrArg (fun z => Option.bind z (finF false)) ?_)
  rfl
def v1 (r1 r2 r3 : Int) : Option D := (c_apart_of (v0 r1 r3) [some (.lst [(.str "x")]), some (.lst [(.tup [(.str "change"), (.lst [(.tup [(.str "x"), .non, (.int r1)])]), (.dct [((.str "x"), (.tup [(.str "x"), (.int 1)]))])])]), some (.lst [(.tup [(.str "strike"), (.lst [(.tup [.non, (.str "x"), (.int (-r2))])])])]), some (.lst [(.tup [(.str "x"), .non, (.int r3)])]), some (.lst []), none, none, none]).bind (finF false)
theorem w1 (r1 r2 r3 : Int) : F_apart_of [(.lst [(.str "x")]), (.lst [(.tup [(.str "change"), (.lst [(.tup [(.str "x"), .non, (.int r1)])]), (.dct [((.str "x"), (.tup [(.str "x"), (.int 1)]))])])]), (.lst [(.tup [(.str "strike"), (.lst [(.tup [.non, (.str "x"), (.int (-r2))])])])]), (.lst [(.tup [(.str "x"), .non, (.int r3)])])] = v1 r1 r2 r3 := by
  refine (run0_eq rfl).trans (congrArg (fun z => Option.bind z (finF false)) ?_)
  unfold b_apart_of c_apart_of
  refine ((fSeq_eq (ρ1 := [some (.lst [(.str "x")]), some (.lst [(.tup [(.str "change"), (.lst [(.tup [(.str "x"), .non, (.int r1)])]), (.dct [((.str "x"), (.tup [(.str "x"), (.int 1)]))])])]), some (.lst [(.tup [(.str "strike"), (.lst [(.tup [.non, (.str "x"), (.int (-r2))])])])]), some (.lst [(.tup [(.str "x"), .non, (.int r3)])]), some (.lst []), none, none, none]) ?_).trans (st_for ((eCall_eq (l := [(.lst [(.str "x")]), (.lst [(.tup [(.str "change"), (.lst [(.tup [(.str "x"), .non, (.int r1)])]), (.dct [((.str "x"), (.tup [(.str "x"), (.int 1)]))])])]), (.lst [(.tup [(.str "x"), .non, (.int r3)])])]) rfl).trans (w0 r1 r3)))) <;> kernel_rfl
def v2 (r1 r2 r3 : Int) : Option D := (c_parting_of (v1 r1 r2 r3) [some (.lst [(.str "x")]), some (.lst [(.tup [(.str "change"), (.lst [(.tup [(.str "x"), .non, (.int r1)])]), (.dct [((.str "x"), (.tup [(.str "x"), (.int 1)]))])])]), some (.lst [(.tup [(.str "strike"), (.lst [(.tup [.non, (.str "x"), (.int (-r2))])])])]), some (.lst [(.tup [(.str "x"), .non, (.int r3)])]), none, none]).bind (finF false)
theorem w2 (r1 r2 r3 : Int) : F_parting_of [(.lst [(.str "x")]), (.lst [(.tup [(.str "change"), (.lst [(.tup [(.str "x"), .non, (.int r1)])]), (.dct [((.str "x"), (.tup [(.str "x"), (.int 1)]))])])]), (.lst [(.tup [(.str "strike"), (.lst [(.tup [.non, (.str "x"), (.int (-r2))])])])]), (.lst [(.tup [(.str "x"), .non, (.int r3)])])] = v2 r1 r2 r3 := by
  refine (run0_eq rfl).trans (congrArg (fun z => Option.bind z (finF false)) ?_)
  unfold b_parting_of c_parting_of
  exact (st_for ((eCall_eq (l := [(.lst [(.str "x")]), (.lst [(.tup [(.str "change"), (.lst [(.tup [(.str "x"), .non, (.int r1)])]), (.dct [((.str "x"), (.tup [(.str "x"), (.int 1)]))])])]), (.lst [(.tup [(.str "strike"), (.lst [(.tup [.non, (.str "x"), (.int (-r2))])])])]), (.lst [(.tup [(.str "x"), .non, (.int r3)])])]) rfl).trans (w1 r1 r2 r3)))
def v3 (r1 r2 r3 : Int) : Option D := (c_parting (v2 r1 r2 r3) [some (.lst [(.str "x")]), some (.lst [(.tup [(.str "change"), (.lst [(.tup [(.str "x"), .non, (.int r1)])]), (.dct [((.str "x"), (.tup [(.str "x"), (.int 1)]))])])]), some (.lst [(.tup [(.str "strike"), (.lst [(.tup [.non, (.str "x"), (.int (-r2))])])])]), some (.lst [(.tup [(.str "x"), .non, (.int r3)])])]).bind (finF false)
theorem w3 (r1 r2 r3 : Int) : F_parting [(.lst [(.str "x")]), (.lst [(.tup [(.str "change"), (.lst [(.tup [(.str "x"), .non, (.int r1)])]), (.dct [((.str "x"), (.tup [(.str "x"), (.int 1)]))])])]), (.lst [(.tup [(.str "strike"), (.lst [(.tup [.non, (.str "x"), (.int (-r2))])])])]), (.lst [(.tup [(.str "x"), .non, (.int r3)])])] = v3 r1 r2 r3 := by
  refine (run0_eq rfl).trans (congrArg (fun z => Option.bind z (finF false)) ?_)
  unfold b_parting c_parting
  refine ((fSeq_eq (ρ1 := [some (.lst [(.str "x")]), some (.lst [(.tup [(.str "change"), (.lst [(.tup [(.str "x"), .non, (.int r1)])]), (.dct [((.str "x"), (.tup [(.str "x"), (.int 1)]))])])]), some (.lst [(.tup [(.str "strike"), (.lst [(.tup [.non, (.str "x"), (.int (-r2))])])])]), some (.lst [(.tup [(.str "x"), .non, (.int r3)])])]) ?_).trans (st_ret ((eCall_eq (l := [(.lst [(.str "x")]), (.lst [(.tup [(.str "change"), (.lst [(.tup [(.str "x"), .non, (.int r1)])]), (.dct [((.str "x"), (.tup [(.str "x"), (.int 1)]))])])]), (.lst [(.tup [(.str "strike"), (.lst [(.tup [.non, (.str "x"), (.int (-r2))])])])]), (.lst [(.tup [(.str "x"), .non, (.int r3)])])]) rfl).trans (w2 r1 r2 r3)))) <;> kernel_rfl
def c_parted (o : Option D) : FS := (fRt (up (eCall F_lists_of (eCons (cK o) eNil))))
def v4 (r1 r2 r3 : Int) : Option D := (c_parted (v1 r1 r2 r3) [some (.lst [(.str "x")]), some (.lst [(.tup [(.str "change"), (.lst [(.tup [(.str "x"), .non, (.int r1)])]), (.dct [((.str "x"), (.tup [(.str "x"), (.int 1)]))])])]), some (.lst [(.tup [(.str "strike"), (.lst [(.tup [.non, (.str "x"), (.int (-r2))])])])]), some (.lst [(.tup [(.str "x"), .non, (.int r3)])])]).bind (finF false)
theorem w4 (r1 r2 r3 : Int) : F_parted [(.lst [(.str "x")]), (.lst [(.tup [(.str "change"), (.lst [(.tup [(.str "x"), .non, (.int r1)])]), (.dct [((.str "x"), (.tup [(.str "x"), (.int 1)]))])])]), (.lst [(.tup [(.str "strike"), (.lst [(.tup [.non, (.str "x"), (.int (-r2))])])])]), (.lst [(.tup [(.str "x"), .non, (.int r3)])])] = v4 r1 r2 r3 := by
  refine (run0_eq rfl).trans (congrArg (fun z => Option.bind z (finF false)) ?_)
  unfold b_parted c_parted
  refine ((fSeq_eq (ρ1 := [some (.lst [(.str "x")]), some (.lst [(.tup [(.str "change"), (.lst [(.tup [(.str "x"), .non, (.int r1)])]), (.dct [((.str "x"), (.tup [(.str "x"), (.int 1)]))])])]), some (.lst [(.tup [(.str "strike"), (.lst [(.tup [.non, (.str "x"), (.int (-r2))])])])]), some (.lst [(.tup [(.str "x"), .non, (.int r3)])])]) ?_).trans (st_rt ((eCall_eq (l := [(.lst [(.str "x")]), (.lst [(.tup [(.str "change"), (.lst [(.tup [(.str "x"), .non, (.int r1)])]), (.dct [((.str "x"), (.tup [(.str "x"), (.int 1)]))])])]), (.lst [(.tup [(.str "strike"), (.lst [(.tup [.non, (.str "x"), (.int (-r2))])])])]), (.lst [(.tup [(.str "x"), .non, (.int r3)])])]) rfl).trans (w1 r1 r2 r3)))) <;> kernel_rfl
def v5 (r1 : Int) : Option D := (c_ways_of [some (.lst [(.str "x")]), some (.lst [(.tup [(.str "change"), (.lst [(.tup [(.str "x"), .non, (.int r1)])]), (.dct [((.str "x"), (.tup [(.str "x"), (.int 1)]))])])]), some (.lst []), none, none, none, none, none, none]).bind (finF false)
theorem w5 (r1 : Int) : F_ways_of [(.lst [(.str "x")]), (.lst [(.tup [(.str "change"), (.lst [(.tup [(.str "x"), .non, (.int r1)])]), (.dct [((.str "x"), (.tup [(.str "x"), (.int 1)]))])])]), (.lst [])] = v5 r1 := by
  refine (run0_eq rfl).trans (congrArg (fun z => Option.bind z (finF false)) ?_)
  rfl
def v6 (r1 r2 : Int) : Option D := (c_apart_of (v5 r1) [some (.lst [(.str "x")]), some (.lst [(.tup [(.str "change"), (.lst [(.tup [(.str "x"), .non, (.int r1)])]), (.dct [((.str "x"), (.tup [(.str "x"), (.int 1)]))])])]), some (.lst [(.tup [(.str "strike"), (.lst [(.tup [.non, (.str "x"), (.int (-r2))])])])]), some (.lst []), some (.lst []), none, none, none]).bind (finF false)
theorem w6 (r1 r2 : Int) : F_apart_of [(.lst [(.str "x")]), (.lst [(.tup [(.str "change"), (.lst [(.tup [(.str "x"), .non, (.int r1)])]), (.dct [((.str "x"), (.tup [(.str "x"), (.int 1)]))])])]), (.lst [(.tup [(.str "strike"), (.lst [(.tup [.non, (.str "x"), (.int (-r2))])])])]), (.lst [])] = v6 r1 r2 := by
  refine (run0_eq rfl).trans (congrArg (fun z => Option.bind z (finF false)) ?_)
  unfold b_apart_of c_apart_of
  refine ((fSeq_eq (ρ1 := [some (.lst [(.str "x")]), some (.lst [(.tup [(.str "change"), (.lst [(.tup [(.str "x"), .non, (.int r1)])]), (.dct [((.str "x"), (.tup [(.str "x"), (.int 1)]))])])]), some (.lst [(.tup [(.str "strike"), (.lst [(.tup [.non, (.str "x"), (.int (-r2))])])])]), some (.lst []), some (.lst []), none, none, none]) ?_).trans (st_for ((eCall_eq (l := [(.lst [(.str "x")]), (.lst [(.tup [(.str "change"), (.lst [(.tup [(.str "x"), .non, (.int r1)])]), (.dct [((.str "x"), (.tup [(.str "x"), (.int 1)]))])])]), (.lst [])]) rfl).trans (w5 r1)))) <;> kernel_rfl
def v7 (r1 r2 : Int) : Option D := (c_parting_of (v6 r1 r2) [some (.lst [(.str "x")]), some (.lst [(.tup [(.str "change"), (.lst [(.tup [(.str "x"), .non, (.int r1)])]), (.dct [((.str "x"), (.tup [(.str "x"), (.int 1)]))])])]), some (.lst [(.tup [(.str "strike"), (.lst [(.tup [.non, (.str "x"), (.int (-r2))])])])]), some (.lst []), none, none]).bind (finF false)
theorem w7 (r1 r2 : Int) : F_parting_of [(.lst [(.str "x")]), (.lst [(.tup [(.str "change"), (.lst [(.tup [(.str "x"), .non, (.int r1)])]), (.dct [((.str "x"), (.tup [(.str "x"), (.int 1)]))])])]), (.lst [(.tup [(.str "strike"), (.lst [(.tup [.non, (.str "x"), (.int (-r2))])])])]), (.lst [])] = v7 r1 r2 := by
  refine (run0_eq rfl).trans (congrArg (fun z => Option.bind z (finF false)) ?_)
  unfold b_parting_of c_parting_of
  exact (st_for ((eCall_eq (l := [(.lst [(.str "x")]), (.lst [(.tup [(.str "change"), (.lst [(.tup [(.str "x"), .non, (.int r1)])]), (.dct [((.str "x"), (.tup [(.str "x"), (.int 1)]))])])]), (.lst [(.tup [(.str "strike"), (.lst [(.tup [.non, (.str "x"), (.int (-r2))])])])]), (.lst [])]) rfl).trans (w6 r1 r2)))
def v8 (r1 r2 : Int) : Option D := (c_parting (v7 r1 r2) [some (.lst [(.str "x")]), some (.lst [(.tup [(.str "change"), (.lst [(.tup [(.str "x"), .non, (.int r1)])]), (.dct [((.str "x"), (.tup [(.str "x"), (.int 1)]))])])]), some (.lst [(.tup [(.str "strike"), (.lst [(.tup [.non, (.str "x"), (.int (-r2))])])])]), some (.lst [])]).bind (finF false)
theorem w8 (r1 r2 : Int) : F_parting [(.lst [(.str "x")]), (.lst [(.tup [(.str "change"), (.lst [(.tup [(.str "x"), .non, (.int r1)])]), (.dct [((.str "x"), (.tup [(.str "x"), (.int 1)]))])])]), (.lst [(.tup [(.str "strike"), (.lst [(.tup [.non, (.str "x"), (.int (-r2))])])])]), .non] = v8 r1 r2 := by
  refine (run0_eq rfl).trans (congrArg (fun z => Option.bind z (finF false)) ?_)
  unfold b_parting c_parting
  refine ((fSeq_eq (ρ1 := [some (.lst [(.str "x")]), some (.lst [(.tup [(.str "change"), (.lst [(.tup [(.str "x"), .non, (.int r1)])]), (.dct [((.str "x"), (.tup [(.str "x"), (.int 1)]))])])]), some (.lst [(.tup [(.str "strike"), (.lst [(.tup [.non, (.str "x"), (.int (-r2))])])])]), some (.lst [])]) ?_).trans (st_ret ((eCall_eq (l := [(.lst [(.str "x")]), (.lst [(.tup [(.str "change"), (.lst [(.tup [(.str "x"), .non, (.int r1)])]), (.dct [((.str "x"), (.tup [(.str "x"), (.int 1)]))])])]), (.lst [(.tup [(.str "strike"), (.lst [(.tup [.non, (.str "x"), (.int (-r2))])])])]), (.lst [])]) rfl).trans (w7 r1 r2)))) <;> kernel_rfl
def v9 (r1 r2 : Int) : Option D := (c_parting (v7 r1 r2) [some (.lst [(.str "x")]), some (.lst [(.tup [(.str "change"), (.lst [(.tup [(.str "x"), .non, (.int r1)])]), (.dct [((.str "x"), (.tup [(.str "x"), (.int 1)]))])])]), some (.lst [(.tup [(.str "strike"), (.lst [(.tup [.non, (.str "x"), (.int (-r2))])])])]), some (.lst [])]).bind (finF false)
theorem w9 (r1 r2 : Int) : F_parting [(.lst [(.str "x")]), (.lst [(.tup [(.str "change"), (.lst [(.tup [(.str "x"), .non, (.int r1)])]), (.dct [((.str "x"), (.tup [(.str "x"), (.int 1)]))])])]), (.lst [(.tup [(.str "strike"), (.lst [(.tup [.non, (.str "x"), (.int (-r2))])])])]), (.lst [])] = v9 r1 r2 := by
  refine (run0_eq rfl).trans (congrArg (fun z => Option.bind z (finF false)) ?_)
  unfold b_parting c_parting
  refine ((fSeq_eq (ρ1 := [some (.lst [(.str "x")]), some (.lst [(.tup [(.str "change"), (.lst [(.tup [(.str "x"), .non, (.int r1)])]), (.dct [((.str "x"), (.tup [(.str "x"), (.int 1)]))])])]), some (.lst [(.tup [(.str "strike"), (.lst [(.tup [.non, (.str "x"), (.int (-r2))])])])]), some (.lst [])]) ?_).trans (st_ret ((eCall_eq (l := [(.lst [(.str "x")]), (.lst [(.tup [(.str "change"), (.lst [(.tup [(.str "x"), .non, (.int r1)])]), (.dct [((.str "x"), (.tup [(.str "x"), (.int 1)]))])])]), (.lst [(.tup [(.str "strike"), (.lst [(.tup [.non, (.str "x"), (.int (-r2))])])])]), (.lst [])]) rfl).trans (w7 r1 r2)))) <;> kernel_rfl
def v10 (r1 r2 : Int) : Option D := (c_parted (v6 r1 r2) [some (.lst [(.str "x")]), some (.lst [(.tup [(.str "change"), (.lst [(.tup [(.str "x"), .non, (.int r1)])]), (.dct [((.str "x"), (.tup [(.str "x"), (.int 1)]))])])]), some (.lst [(.tup [(.str "strike"), (.lst [(.tup [.non, (.str "x"), (.int (-r2))])])])]), some (.lst [])]).bind (finF false)
theorem w10 (r1 r2 : Int) : F_parted [(.lst [(.str "x")]), (.lst [(.tup [(.str "change"), (.lst [(.tup [(.str "x"), .non, (.int r1)])]), (.dct [((.str "x"), (.tup [(.str "x"), (.int 1)]))])])]), (.lst [(.tup [(.str "strike"), (.lst [(.tup [.non, (.str "x"), (.int (-r2))])])])]), .non] = v10 r1 r2 := by
  refine (run0_eq rfl).trans (congrArg (fun z => Option.bind z (finF false)) ?_)
  unfold b_parted c_parted
  refine ((fSeq_eq (ρ1 := [some (.lst [(.str "x")]), some (.lst [(.tup [(.str "change"), (.lst [(.tup [(.str "x"), .non, (.int r1)])]), (.dct [((.str "x"), (.tup [(.str "x"), (.int 1)]))])])]), some (.lst [(.tup [(.str "strike"), (.lst [(.tup [.non, (.str "x"), (.int (-r2))])])])]), some (.lst [])]) ?_).trans (st_rt ((eCall_eq (l := [(.lst [(.str "x")]), (.lst [(.tup [(.str "change"), (.lst [(.tup [(.str "x"), .non, (.int r1)])]), (.dct [((.str "x"), (.tup [(.str "x"), (.int 1)]))])])]), (.lst [(.tup [(.str "strike"), (.lst [(.tup [.non, (.str "x"), (.int (-r2))])])])]), (.lst [])]) rfl).trans (w6 r1 r2)))) <;> kernel_rfl
def v11 (r1 r2 : Int) : Option D := (c_parted (v6 r1 r2) [some (.lst [(.str "x")]), some (.lst [(.tup [(.str "change"), (.lst [(.tup [(.str "x"), .non, (.int r1)])]), (.dct [((.str "x"), (.tup [(.str "x"), (.int 1)]))])])]), some (.lst [(.tup [(.str "strike"), (.lst [(.tup [.non, (.str "x"), (.int (-r2))])])])]), some (.lst [])]).bind (finF false)
theorem w11 (r1 r2 : Int) : F_parted [(.lst [(.str "x")]), (.lst [(.tup [(.str "change"), (.lst [(.tup [(.str "x"), .non, (.int r1)])]), (.dct [((.str "x"), (.tup [(.str "x"), (.int 1)]))])])]), (.lst [(.tup [(.str "strike"), (.lst [(.tup [.non, (.str "x"), (.int (-r2))])])])]), (.lst [])] = v11 r1 r2 := by
  refine (run0_eq rfl).trans (congrArg (fun z => Option.bind z (finF false)) ?_)
  unfold b_parted c_parted
  refine ((fSeq_eq (ρ1 := [some (.lst [(.str "x")]), some (.lst [(.tup [(.str "change"), (.lst [(.tup [(.str "x"), .non, (.int r1)])]), (.dct [((.str "x"), (.tup [(.str "x"), (.int 1)]))])])]), some (.lst [(.tup [(.str "strike"), (.lst [(.tup [.non, (.str "x"), (.int (-r2))])])])]), some (.lst [])]) ?_).trans (st_rt ((eCall_eq (l := [(.lst [(.str "x")]), (.lst [(.tup [(.str "change"), (.lst [(.tup [(.str "x"), .non, (.int r1)])]), (.dct [((.str "x"), (.tup [(.str "x"), (.int 1)]))])])]), (.lst [(.tup [(.str "strike"), (.lst [(.tup [.non, (.str "x"), (.int (-r2))])])])]), (.lst [])]) rfl).trans (w6 r1 r2)))) <;> kernel_rfl
theorem draw {p0 p1 p2 p3 m : Int} (h2 : 0 ≤ p2) (h3 : p2 < 500000000000) (h4 : 0 ≤ p3) (h5 : p3 < 1000000) (hm : 0 < m) (hm2 : m.natAbs.log2 < 9000) (hb : Builtin.Int.intBits m < 100000) :
    ∃ r p0' p2' : Int, F__law_draw (.lst [.int p0, .int p1, .int p2, .int p3]) [.int m] = some (.int r, .lst [.int p0', .int p1, .int p2', .int p3]) ∧ 0 ≤ r ∧ r < m ∧ p2 ≤ p2' ∧ p2' ≤ p2 + 1 + (Builtin.Int.intBits m : Int) / 28 :=
  drawA_run (fun b h1 h2 => mixA_run p1 b p3 h1 h2 h4 h5) h2 h3 hm hm2 hb
theorem ck0_ok (r1 r2 r3 : Int) (ur1 : 0 ≤ r1) (tr1 : r1 < 9) (ur2 : 0 ≤ r2) (tr2 : r2 < 9) (ur3 : 0 ≤ r3) (tr3 : r3 < 9) : ∃ d, v3 r1 r2 r3 = some d ∧ D.neY d d = some (.bl false) := by
  have A := ask_x r1 r2 (ov_rule r3) (by simp)
  have h := parting_ok ["x"] A.good (by decide) [st1 r1] [st2 r2] A.g1 A.g2 (eTs [(some "x", none, r3)]) _ (.inr rfl) A.r (by have := A.sz; omega) (by have := A.w; omega)
  rw [← w3]
  exact ⟨_, h, ne_row _⟩
theorem ck1_ok (r1 r2 r3 : Int) (ur1 : 0 ≤ r1) (tr1 : r1 < 9) (ur2 : 0 ≤ r2) (tr2 : r2 < 9) (ur3 : 0 ≤ r3) (tr3 : r3 < 9) : ∃ d, v4 r1 r2 r3 = some d ∧ D.neY d d = some (.bl false) := by
  have A := ask_x r1 r2 (ov_rule r3) (by simp)
  obtain ⟨R, h, _⟩ := parted_ok A (d := eTs [(some "x", none, r3)]) (.inr rfl)
  rw [← w4]
  exact ⟨_, h, ne_ls R⟩
theorem ck2_ok (r1 r2 : Int) (ur1 : 0 ≤ r1) (tr1 : r1 < 9) (ur2 : 0 ≤ r2) (tr2 : r2 < 9) : ∃ d, v8 r1 r2 = some d ∧ ∃ e, v9 r1 r2 = some e ∧ D.neY d e = some (.bl false) := by
  have A := ask_x r1 r2 ov_nil (by simp)
  have h := parting_ok ["x"] A.good (by decide) [st1 r1] [st2 r2] A.g1 A.g2 .non _ (.inl ⟨rfl, rfl⟩) A.r (by have := A.sz; omega) (by have := A.w; omega)
  have g := parting_ok ["x"] A.good (by decide) [st1 r1] [st2 r2] A.g1 A.g2 (eTs []) _ (.inr rfl) A.r (by have := A.sz; omega) (by have := A.w; omega)
  rw [← w8, ← w9]
  exact ⟨_, h, _, g, ne_row _⟩
theorem ck3_ok (r1 r2 : Int) (ur1 : 0 ≤ r1) (tr1 : r1 < 9) (ur2 : 0 ≤ r2) (tr2 : r2 < 9) : ∃ d, v10 r1 r2 = some d ∧ ∃ e, v11 r1 r2 = some e ∧ D.neY d e = some (.bl false) := by
  have A := ask_x r1 r2 ov_nil (by simp)
  obtain ⟨R, g, _⟩ := parted_ok A (d := eTs []) (.inr rfl)
  have h : F_parted [eC ["x"], eSts [st1 r1], eSts [st2 r2], .non] = some (eLs2 R) := by
    rw [← g]
    exact parted_non A
  rw [← w10, ← w11]
  exact ⟨_, h, _, g, ne_ls R⟩
theorem turn (p0 p1 p2 p3 : Int) (h2 : 0 ≤ p2) (h2b : p2 < 500000) (h3 : 0 ≤ p3) (h3b : p3 < 1000000) (ns : List Int) (t : RF.Env) (ht : t.length + 1 = 5) : ∃ ρ', (fSeq (fSet 2 (xCall mkLst (xCons (xCall mkTup (xCons (up (cn (.str "change"))) (xCons (xCall mkLst (xCons (xCall mkTup (xCons (up (cn (.str "x"))) (xCons (up (cn .non)) (xCons (xCall1 1 F__law_draw (up (eCons (cn (.int 9)) eNil))) xNil)))) xNil)) (xCons (xDct (pCons (up (cn (.str "x"))) (up (eCall mkTup (eCons (cn (.str "x")) (eCons (cn (.int 1)) eNil)))) pNil)) xNil)))) xNil)))
  (fSeq (fBag [3, 4] (bCons false (xCall mkLst (xCons (xCall mkTup (xCons (up (cn (.str "strike"))) (xCons (xCall mkLst (xCons (xCall mkTup (xCons (up (cn .non)) (xCons (up (cn (.str "x"))) (xCons (o1 D.neg (xCall1 1 F__law_draw (up (eCons (cn (.int 9)) eNil)))) xNil)))) xNil)) xNil))) xNil)) (bCons false (xCall mkLst (xCons (xCall mkTup (xCons (up (cn (.str "x"))) (xCons (up (cn .non)) (xCons (xCall1 1 F__law_draw (up (eCons (cn (.int 9)) eNil))) xNil)))) xNil)) bNil)))
  (fSeq (fIf (xB (o2 D.neY (xCall (fun ds => F_parting ((selI [3, 2, 1, 0] 4) (ds ++ []))) (xCons (up (vr 4)) (xCons (up (vr 3)) (xCons (up (vr 2)) (xCons (up (eCall mkLst (eCons (cn (.str "x")) eNil))) xNil))))) (xCall (fun ds => F_parting ((selI [0, 1, 2, 3] 4) (ds ++ []))) (xApp (xCons (up (eCall mkLst (eCons (cn (.str "x")) eNil))) (xCons (up (vr 2)) (xCons (up (vr 3)) (xCons (up (vr 4)) xNil)))) xNil)))) (fRt (up (cn (.bl false))))
  fNx)
  (fSeq (fIf (xB (o2 D.neY (xCall (fun ds => F_parted ((selI [3, 2, 1, 0] 4) (ds ++ []))) (xCons (up (vr 4)) (xCons (up (vr 3)) (xCons (up (vr 2)) (xCons (up (eCall mkLst (eCons (cn (.str "x")) eNil))) xNil))))) (xCall (fun ds => F_parted ((selI [0, 1, 2, 3] 4) (ds ++ []))) (xApp (xCons (up (eCall mkLst (eCons (cn (.str "x")) eNil))) (xCons (up (vr 2)) (xCons (up (vr 3)) (xCons (up (vr 4)) xNil)))) xNil)))) (fRt (up (cn (.bl false))))
  fNx)
  (fSeq (fIf (xB (o2 D.neY (xCall (fun ds => F_parting ((selI [2, 1, 0, 3] 4) (ds ++ [.non]))) (xCons (up (vr 3)) (xCons (up (vr 2)) (xCons (up (eCall mkLst (eCons (cn (.str "x")) eNil))) xNil)))) (xCall (fun ds => F_parting ((selI [0, 1, 2, 3] 4) (ds ++ []))) (xApp (xCons (up (eCall mkLst (eCons (cn (.str "x")) eNil))) (xCons (up (vr 2)) (xCons (up (vr 3)) (xCons (up (eCall mkLst eNil)) xNil)))) xNil)))) (fRt (up (cn (.bl false))))
  fNx)
  (fSeq (fIf (xB (o2 D.neY (xCall (fun ds => F_parted ((selI [2, 1, 0, 3] 4) (ds ++ [.non]))) (xCons (up (vr 3)) (xCons (up (vr 2)) (xCons (up (eCall mkLst (eCons (cn (.str "x")) eNil))) xNil)))) (xCall (fun ds => F_parted ((selI [0, 1, 2, 3] 4) (ds ++ []))) (xApp (xCons (up (eCall mkLst (eCons (cn (.str "x")) eNil))) (xCons (up (vr 2)) (xCons (up (vr 3)) (xCons (up (eCall mkLst eNil)) xNil)))) xNil)))) (fRt (up (cn (.bl false))))
  fNx)
  fNx)))))) ((some (.scr ns) :: t).set 1 (some (.lst [.int p0, .int p1, .int p2, .int p3]))) = some (.nx ρ') ∧ ρ'.length = 5 ∧ lk ρ' 0 = some (.scr ns) := by
  match t, ht with
  | [x1, x2, x3, x4], _ =>
    obtain ⟨r1, p0_1, p2_1, dq1, a1, b1, c1, d1⟩ := draw (p0 := p0) (p1 := p1) (p2 := p2) (p3 := p3) (m := 9) (by omega) (by omega) h3 h3b (by decide) (by decide +kernel) (by decide +kernel)
    rw [(by decide +kernel : (Builtin.Int.intBits 9 : Int) / 28 = 0)] at d1
    obtain ⟨r2, p0_2, p2_2, dq2, a2, b2, c2, d2⟩ := draw (p0 := p0_1) (p1 := p1) (p2 := p2_1) (p3 := p3) (m := 9) (by omega) (by omega) h3 h3b (by decide) (by decide +kernel) (by decide +kernel)
    rw [(by decide +kernel : (Builtin.Int.intBits 9 : Int) / 28 = 0)] at d2
    obtain ⟨r3, p0_3, p2_3, dq3, a3, b3, c3, d3⟩ := draw (p0 := p0_2) (p1 := p1) (p2 := p2_2) (p3 := p3) (m := 9) (by omega) (by omega) h3 h3b (by decide) (by decide +kernel) (by decide +kernel)
    rw [(by decide +kernel : (Builtin.Int.intBits 9 : Int) / 28 = 0)] at d3
    obtain ⟨dv0, hd0, hn0⟩ := ck0_ok r1 r2 r3 a1 b1 a2 b2 a3 b3
    obtain ⟨dv1, hd1, hn1⟩ := ck1_ok r1 r2 r3 a1 b1 a2 b2 a3 b3
    obtain ⟨dv2, hd2, ev2, he2, hn2⟩ := ck2_ok r1 r2 a1 b1 a2 b2
    obtain ⟨dv3, hd3, ev3, he3, hn3⟩ := ck3_ok r1 r2 a1 b1 a2 b2
    have s1 : (fSet 2 (xCall mkLst (xCons (xCall mkTup (xCons (up (cn (.str "change"))) (xCons (xCall mkLst (xCons (xCall mkTup (xCons (up (cn (.str "x"))) (xCons (up (cn .non)) (xCons (xCall1 1 F__law_draw (up (eCons (cn (.int 9)) eNil))) xNil)))) xNil)) (xCons (xDct (pCons (up (cn (.str "x"))) (up (eCall mkTup (eCons (cn (.str "x")) (eCons (cn (.int 1)) eNil)))) pNil)) xNil)))) xNil)))
      [some (.scr ns), some (.lst [.int p0, .int p1, .int p2, .int p3]), x2, x3, x4] = some (.nx [some (.scr ns), some (.lst [.int p0_1, .int p1, .int p2_1, .int p3]), some (.lst [(.tup [(.str "change"), (.lst [(.tup [(.str "x"), .non, (.int r1)])]), (.dct [((.str "x"), (.tup [(.str "x"), (.int 1)]))])])]), x3, x4]) :=
      fSet_of (xCall_of (xCons_of (xCall_of (xCons_of (show _ = some (((.str "change") : D), [some (.scr ns), some (.lst [.int p0, .int p1, .int p2, .int p3]), x2, x3, x4]) from rfl) (xCons_of (xCall_of (xCons_of (xCall_of (xCons_of (show _ = some (((.str "x") : D), [some (.scr ns), some (.lst [.int p0, .int p1, .int p2, .int p3]), x2, x3, x4]) from rfl) (xCons_of (show _ = some ((.non : D), [some (.scr ns), some (.lst [.int p0, .int p1, .int p2, .int p3]), x2, x3, x4]) from rfl) (xCons_of (xCall1_of (d0 := (.lst [.int p0, .int p1, .int p2, .int p3])) rfl (up_of (eCons_of (cn_of _ _) (eNil_of _))) (d1 := (.lst [.int p0, .int p1, .int p2, .int p3])) rfl dq1) (xNil_of _)))) (x := (.tup [(.str "x"), .non, (.int r1)])) rfl) (xNil_of _)) (x := (.lst [(.tup [(.str "x"), .non, (.int r1)])])) rfl) (xCons_of (show _ = some (((.dct [((.str "x"), (.tup [(.str "x"), (.int 1)]))]) : D), [some (.scr ns), some (.lst [.int p0_1, .int p1, .int p2_1, .int p3]), x2, x3, x4]) from rfl) (xNil_of _)))) (x := (.tup [(.str "change"), (.lst [(.tup [(.str "x"), .non, (.int r1)])]), (.dct [((.str "x"), (.tup [(.str "x"), (.int 1)]))])])) rfl) (xNil_of _)) (x := (.lst [(.tup [(.str "change"), (.lst [(.tup [(.str "x"), .non, (.int r1)])]), (.dct [((.str "x"), (.tup [(.str "x"), (.int 1)]))])])])) rfl)
    have s2 : (fBag [3, 4] (bCons false (xCall mkLst (xCons (xCall mkTup (xCons (up (cn (.str "strike"))) (xCons (xCall mkLst (xCons (xCall mkTup (xCons (up (cn .non)) (xCons (up (cn (.str "x"))) (xCons (o1 D.neg (xCall1 1 F__law_draw (up (eCons (cn (.int 9)) eNil)))) xNil)))) xNil)) xNil))) xNil)) (bCons false (xCall mkLst (xCons (xCall mkTup (xCons (up (cn (.str "x"))) (xCons (up (cn .non)) (xCons (xCall1 1 F__law_draw (up (eCons (cn (.int 9)) eNil))) xNil)))) xNil)) bNil)))
      [some (.scr ns), some (.lst [.int p0_1, .int p1, .int p2_1, .int p3]), some (.lst [(.tup [(.str "change"), (.lst [(.tup [(.str "x"), .non, (.int r1)])]), (.dct [((.str "x"), (.tup [(.str "x"), (.int 1)]))])])]), x3, x4] = some (.nx [some (.scr ns), some (.lst [.int p0_3, .int p1, .int p2_3, .int p3]), some (.lst [(.tup [(.str "change"), (.lst [(.tup [(.str "x"), .non, (.int r1)])]), (.dct [((.str "x"), (.tup [(.str "x"), (.int 1)]))])])]), some (.lst [(.tup [(.str "strike"), (.lst [(.tup [.non, (.str "x"), (.int (-r2))])])])]), some (.lst [(.tup [(.str "x"), .non, (.int r3)])])]) :=
      fBag_of (bCons_of (xCall_of (xCons_of (xCall_of (xCons_of (show _ = some (((.str "strike") : D), [some (.scr ns), some (.lst [.int p0_1, .int p1, .int p2_1, .int p3]), some (.lst [(.tup [(.str "change"), (.lst [(.tup [(.str "x"), .non, (.int r1)])]), (.dct [((.str "x"), (.tup [(.str "x"), (.int 1)]))])])]), x3, x4]) from rfl) (xCons_of (xCall_of (xCons_of (xCall_of (xCons_of (show _ = some ((.non : D), [some (.scr ns), some (.lst [.int p0_1, .int p1, .int p2_1, .int p3]), some (.lst [(.tup [(.str "change"), (.lst [(.tup [(.str "x"), .non, (.int r1)])]), (.dct [((.str "x"), (.tup [(.str "x"), (.int 1)]))])])]), x3, x4]) from rfl) (xCons_of (show _ = some (((.str "x") : D), [some (.scr ns), some (.lst [.int p0_1, .int p1, .int p2_1, .int p3]), some (.lst [(.tup [(.str "change"), (.lst [(.tup [(.str "x"), .non, (.int r1)])]), (.dct [((.str "x"), (.tup [(.str "x"), (.int 1)]))])])]), x3, x4]) from rfl) (xCons_of (o1_of (xCall1_of (d0 := (.lst [.int p0_1, .int p1, .int p2_1, .int p3])) rfl (up_of (eCons_of (cn_of _ _) (eNil_of _))) (d1 := (.lst [.int p0_1, .int p1, .int p2_1, .int p3])) rfl dq2) (z := (.int (-r2))) rfl) (xNil_of _)))) (x := (.tup [.non, (.str "x"), (.int (-r2))])) rfl) (xNil_of _)) (x := (.lst [(.tup [.non, (.str "x"), (.int (-r2))])])) rfl) (xNil_of _))) (x := (.tup [(.str "strike"), (.lst [(.tup [.non, (.str "x"), (.int (-r2))])])])) rfl) (xNil_of _)) (x := (.lst [(.tup [(.str "strike"), (.lst [(.tup [.non, (.str "x"), (.int (-r2))])])])])) rfl) (bCons_of (xCall_of (xCons_of (xCall_of (xCons_of (show _ = some (((.str "x") : D), [some (.scr ns), some (.lst [.int p0_2, .int p1, .int p2_2, .int p3]), some (.lst [(.tup [(.str "change"), (.lst [(.tup [(.str "x"), .non, (.int r1)])]), (.dct [((.str "x"), (.tup [(.str "x"), (.int 1)]))])])]), x3, x4]) from rfl) (xCons_of (show _ = some ((.non : D), [some (.scr ns), some (.lst [.int p0_2, .int p1, .int p2_2, .int p3]), some (.lst [(.tup [(.str "change"), (.lst [(.tup [(.str "x"), .non, (.int r1)])]), (.dct [((.str "x"), (.tup [(.str "x"), (.int 1)]))])])]), x3, x4]) from rfl) (xCons_of (xCall1_of (d0 := (.lst [.int p0_2, .int p1, .int p2_2, .int p3])) rfl (up_of (eCons_of (cn_of _ _) (eNil_of _))) (d1 := (.lst [.int p0_2, .int p1, .int p2_2, .int p3])) rfl dq3) (xNil_of _)))) (x := (.tup [(.str "x"), .non, (.int r3)])) rfl) (xNil_of _)) (x := (.lst [(.tup [(.str "x"), .non, (.int r3)])])) rfl) (bNil_of _)))
    have sr : (fSeq (fIf (xB (o2 D.neY (xCall (fun ds => F_parting ((selI [3, 2, 1, 0] 4) (ds ++ []))) (xCons (up (vr 4)) (xCons (up (vr 3)) (xCons (up (vr 2)) (xCons (up (eCall mkLst (eCons (cn (.str "x")) eNil))) xNil))))) (xCall (fun ds => F_parting ((selI [0, 1, 2, 3] 4) (ds ++ []))) (xApp (xCons (up (eCall mkLst (eCons (cn (.str "x")) eNil))) (xCons (up (vr 2)) (xCons (up (vr 3)) (xCons (up (vr 4)) xNil)))) xNil)))) (fRt (up (cn (.bl false))))
  fNx)
  (fSeq (fIf (xB (o2 D.neY (xCall (fun ds => F_parted ((selI [3, 2, 1, 0] 4) (ds ++ []))) (xCons (up (vr 4)) (xCons (up (vr 3)) (xCons (up (vr 2)) (xCons (up (eCall mkLst (eCons (cn (.str "x")) eNil))) xNil))))) (xCall (fun ds => F_parted ((selI [0, 1, 2, 3] 4) (ds ++ []))) (xApp (xCons (up (eCall mkLst (eCons (cn (.str "x")) eNil))) (xCons (up (vr 2)) (xCons (up (vr 3)) (xCons (up (vr 4)) xNil)))) xNil)))) (fRt (up (cn (.bl false))))
  fNx)
  (fSeq (fIf (xB (o2 D.neY (xCall (fun ds => F_parting ((selI [2, 1, 0, 3] 4) (ds ++ [.non]))) (xCons (up (vr 3)) (xCons (up (vr 2)) (xCons (up (eCall mkLst (eCons (cn (.str "x")) eNil))) xNil)))) (xCall (fun ds => F_parting ((selI [0, 1, 2, 3] 4) (ds ++ []))) (xApp (xCons (up (eCall mkLst (eCons (cn (.str "x")) eNil))) (xCons (up (vr 2)) (xCons (up (vr 3)) (xCons (up (eCall mkLst eNil)) xNil)))) xNil)))) (fRt (up (cn (.bl false))))
  fNx)
  (fSeq (fIf (xB (o2 D.neY (xCall (fun ds => F_parted ((selI [2, 1, 0, 3] 4) (ds ++ [.non]))) (xCons (up (vr 3)) (xCons (up (vr 2)) (xCons (up (eCall mkLst (eCons (cn (.str "x")) eNil))) xNil)))) (xCall (fun ds => F_parted ((selI [0, 1, 2, 3] 4) (ds ++ []))) (xApp (xCons (up (eCall mkLst (eCons (cn (.str "x")) eNil))) (xCons (up (vr 2)) (xCons (up (vr 3)) (xCons (up (eCall mkLst eNil)) xNil)))) xNil)))) (fRt (up (cn (.bl false))))
  fNx)
  fNx))))
      [some (.scr ns), some (.lst [.int p0_3, .int p1, .int p2_3, .int p3]), some (.lst [(.tup [(.str "change"), (.lst [(.tup [(.str "x"), .non, (.int r1)])]), (.dct [((.str "x"), (.tup [(.str "x"), (.int 1)]))])])]), some (.lst [(.tup [(.str "strike"), (.lst [(.tup [.non, (.str "x"), (.int (-r2))])])])]), some (.lst [(.tup [(.str "x"), .non, (.int r3)])])] = some (.nx [some (.scr ns), some (.lst [.int p0_3, .int p1, .int p2_3, .int p3]), some (.lst [(.tup [(.str "change"), (.lst [(.tup [(.str "x"), .non, (.int r1)])]), (.dct [((.str "x"), (.tup [(.str "x"), (.int 1)]))])])]), some (.lst [(.tup [(.str "strike"), (.lst [(.tup [.non, (.str "x"), (.int (-r2))])])])]), some (.lst [(.tup [(.str "x"), .non, (.int r3)])])]) := (fSeq_nx (fIf_no (op_no (xCall_of (l := [(.lst [(.tup [(.str "x"), .non, (.int r3)])]), (.lst [(.tup [(.str "strike"), (.lst [(.tup [.non, (.str "x"), (.int (-r2))])])])]), (.lst [(.tup [(.str "change"), (.lst [(.tup [(.str "x"), .non, (.int r1)])]), (.dct [((.str "x"), (.tup [(.str "x"), (.int 1)]))])])]), (.lst [(.str "x")])]) (ρ1 := [some (.scr ns), some (.lst [.int p0_3, .int p1, .int p2_3, .int p3]), some (.lst [(.tup [(.str "change"), (.lst [(.tup [(.str "x"), .non, (.int r1)])]), (.dct [((.str "x"), (.tup [(.str "x"), (.int 1)]))])])]), some (.lst [(.tup [(.str "strike"), (.lst [(.tup [.non, (.str "x"), (.int (-r2))])])])]), some (.lst [(.tup [(.str "x"), .non, (.int r3)])])]) rfl ((w3 r1 r2 r3).trans hd0)) (xCall_of (l := [(.lst [(.str "x")]), (.lst [(.tup [(.str "change"), (.lst [(.tup [(.str "x"), .non, (.int r1)])]), (.dct [((.str "x"), (.tup [(.str "x"), (.int 1)]))])])]), (.lst [(.tup [(.str "strike"), (.lst [(.tup [.non, (.str "x"), (.int (-r2))])])])]), (.lst [(.tup [(.str "x"), .non, (.int r3)])])]) (ρ1 := [some (.scr ns), some (.lst [.int p0_3, .int p1, .int p2_3, .int p3]), some (.lst [(.tup [(.str "change"), (.lst [(.tup [(.str "x"), .non, (.int r1)])]), (.dct [((.str "x"), (.tup [(.str "x"), (.int 1)]))])])]), some (.lst [(.tup [(.str "strike"), (.lst [(.tup [.non, (.str "x"), (.int (-r2))])])])]), some (.lst [(.tup [(.str "x"), .non, (.int r3)])])]) rfl ((w3 r1 r2 r3).trans hd0)) hn0) rfl) (fSeq_nx (fIf_no (op_no (xCall_of (l := [(.lst [(.tup [(.str "x"), .non, (.int r3)])]), (.lst [(.tup [(.str "strike"), (.lst [(.tup [.non, (.str "x"), (.int (-r2))])])])]), (.lst [(.tup [(.str "change"), (.lst [(.tup [(.str "x"), .non, (.int r1)])]), (.dct [((.str "x"), (.tup [(.str "x"), (.int 1)]))])])]), (.lst [(.str "x")])]) (ρ1 := [some (.scr ns), some (.lst [.int p0_3, .int p1, .int p2_3, .int p3]), some (.lst [(.tup [(.str "change"), (.lst [(.tup [(.str "x"), .non, (.int r1)])]), (.dct [((.str "x"), (.tup [(.str "x"), (.int 1)]))])])]), some (.lst [(.tup [(.str "strike"), (.lst [(.tup [.non, (.str "x"), (.int (-r2))])])])]), some (.lst [(.tup [(.str "x"), .non, (.int r3)])])]) rfl ((w4 r1 r2 r3).trans hd1)) (xCall_of (l := [(.lst [(.str "x")]), (.lst [(.tup [(.str "change"), (.lst [(.tup [(.str "x"), .non, (.int r1)])]), (.dct [((.str "x"), (.tup [(.str "x"), (.int 1)]))])])]), (.lst [(.tup [(.str "strike"), (.lst [(.tup [.non, (.str "x"), (.int (-r2))])])])]), (.lst [(.tup [(.str "x"), .non, (.int r3)])])]) (ρ1 := [some (.scr ns), some (.lst [.int p0_3, .int p1, .int p2_3, .int p3]), some (.lst [(.tup [(.str "change"), (.lst [(.tup [(.str "x"), .non, (.int r1)])]), (.dct [((.str "x"), (.tup [(.str "x"), (.int 1)]))])])]), some (.lst [(.tup [(.str "strike"), (.lst [(.tup [.non, (.str "x"), (.int (-r2))])])])]), some (.lst [(.tup [(.str "x"), .non, (.int r3)])])]) rfl ((w4 r1 r2 r3).trans hd1)) hn1) rfl) (fSeq_nx (fIf_no (op_no (xCall_of (l := [(.lst [(.tup [(.str "strike"), (.lst [(.tup [.non, (.str "x"), (.int (-r2))])])])]), (.lst [(.tup [(.str "change"), (.lst [(.tup [(.str "x"), .non, (.int r1)])]), (.dct [((.str "x"), (.tup [(.str "x"), (.int 1)]))])])]), (.lst [(.str "x")])]) (ρ1 := [some (.scr ns), some (.lst [.int p0_3, .int p1, .int p2_3, .int p3]), some (.lst [(.tup [(.str "change"), (.lst [(.tup [(.str "x"), .non, (.int r1)])]), (.dct [((.str "x"), (.tup [(.str "x"), (.int 1)]))])])]), some (.lst [(.tup [(.str "strike"), (.lst [(.tup [.non, (.str "x"), (.int (-r2))])])])]), some (.lst [(.tup [(.str "x"), .non, (.int r3)])])]) rfl ((w8 r1 r2).trans hd2)) (xCall_of (l := [(.lst [(.str "x")]), (.lst [(.tup [(.str "change"), (.lst [(.tup [(.str "x"), .non, (.int r1)])]), (.dct [((.str "x"), (.tup [(.str "x"), (.int 1)]))])])]), (.lst [(.tup [(.str "strike"), (.lst [(.tup [.non, (.str "x"), (.int (-r2))])])])]), (.lst [])]) (ρ1 := [some (.scr ns), some (.lst [.int p0_3, .int p1, .int p2_3, .int p3]), some (.lst [(.tup [(.str "change"), (.lst [(.tup [(.str "x"), .non, (.int r1)])]), (.dct [((.str "x"), (.tup [(.str "x"), (.int 1)]))])])]), some (.lst [(.tup [(.str "strike"), (.lst [(.tup [.non, (.str "x"), (.int (-r2))])])])]), some (.lst [(.tup [(.str "x"), .non, (.int r3)])])]) rfl ((w9 r1 r2).trans he2)) hn2) rfl) (fSeq_nx (fIf_no (op_no (xCall_of (l := [(.lst [(.tup [(.str "strike"), (.lst [(.tup [.non, (.str "x"), (.int (-r2))])])])]), (.lst [(.tup [(.str "change"), (.lst [(.tup [(.str "x"), .non, (.int r1)])]), (.dct [((.str "x"), (.tup [(.str "x"), (.int 1)]))])])]), (.lst [(.str "x")])]) (ρ1 := [some (.scr ns), some (.lst [.int p0_3, .int p1, .int p2_3, .int p3]), some (.lst [(.tup [(.str "change"), (.lst [(.tup [(.str "x"), .non, (.int r1)])]), (.dct [((.str "x"), (.tup [(.str "x"), (.int 1)]))])])]), some (.lst [(.tup [(.str "strike"), (.lst [(.tup [.non, (.str "x"), (.int (-r2))])])])]), some (.lst [(.tup [(.str "x"), .non, (.int r3)])])]) rfl ((w10 r1 r2).trans hd3)) (xCall_of (l := [(.lst [(.str "x")]), (.lst [(.tup [(.str "change"), (.lst [(.tup [(.str "x"), .non, (.int r1)])]), (.dct [((.str "x"), (.tup [(.str "x"), (.int 1)]))])])]), (.lst [(.tup [(.str "strike"), (.lst [(.tup [.non, (.str "x"), (.int (-r2))])])])]), (.lst [])]) (ρ1 := [some (.scr ns), some (.lst [.int p0_3, .int p1, .int p2_3, .int p3]), some (.lst [(.tup [(.str "change"), (.lst [(.tup [(.str "x"), .non, (.int r1)])]), (.dct [((.str "x"), (.tup [(.str "x"), (.int 1)]))])])]), some (.lst [(.tup [(.str "strike"), (.lst [(.tup [.non, (.str "x"), (.int (-r2))])])])]), some (.lst [(.tup [(.str "x"), .non, (.int r3)])])]) rfl ((w11 r1 r2).trans he3)) hn3) rfl) rfl))))
    exact ⟨_, (fSeq_nx s1 (fSeq_nx s2 sr)), rfl, rfl⟩
theorem law_true (ns : List Int) (h : ns.length ≤ 63) : F_law [.scr ns] = some (.bl true) := lawA (n := 12) (ip := 1) (by decide) (by decide) (fun p0 p1 p2 p3 a b c d t ht => turn p0 p1 p2 p3 a b c d ns t ht) h
end R43
set_option Elab.async false
set_option linter.all false
set_option maxRecDepth 100000
set_option maxHeartbeats 0
namespace R43
open PySem PySem.Spec L2 RF
open PyProof.Rows hiding St
def top (i : Nat) : Stmt := PySem.Challenge.pw_rowfates_k43_compare_by_name.main.body.getD i (.Pass ⟨0, 0, 0, 0⟩)
def meth (i j : Nat) : Stmt := match top i with | .ClassDef _ _ _ b .. => b.getD j (.Pass ⟨0, 0, 0, 0⟩) | s => s
section
variable {P : Program} {w : World} {K : PySem.W.Frag} {mg : Str → Option Value} {base : Heap} {f : Addr} {fd : FuncData}
theorem fi_Way (hc : Cls K (He.ga K "Way")) (n1 : NoAttr K (He.ga K "Way") "tests") (n2 : NoAttr K (He.ga K "Way") "outcome") (n3 : NoAttr K (He.ga K "Way") "touched") (F : FunD K "__init__" "Way.__init__" (defArgs (meth 31 0)) (defBody (meth 31 0)) (defScope (meth 31 0)) [] [] f fd) : FnOk P w K mg base CX0 1 f fd ["self", "tests", "outcome", "touched"] (spIni (He.ga K "Way") ["tests", "outcome", "touched"]) := by
  refine F.ok (k := 0) (N := ["self", "tests", "outcome", "touched"]) ⟨rfl, rfl, rfl, by decide +kernel, rfl, by decide +kernel, by decide +kernel⟩ (fun vs H Q E h => by obtain ⟨x, dx, us, rfl, hl, _⟩ := h; rw [List.length_cons, hl]; rfl) fun cdv A outer s H vs Q E hr h => ⟨_, PSs.nox (pss_cons (ps_fld (pv 0) (pv 1) rfl) (pss_cons (ps_fld (pv 0) (pv 2) rfl) (pss_cons (ps_fld (pv 0) (pv 3) rfl) pss_nil))), ?_⟩
  obtain ⟨x, dx, us, rfl, hl, hx, hq⟩ := h
  match us, hl with
  | [u1, u2, u3], _ =>
    have q0_1 : ¬ (("tests" : Str) = "outcome") := by decide
    have q0_2 : ¬ (("tests" : Str) = "touched") := by decide
    have q1_2 : ¬ (("outcome" : Str) = "touched") := by decide
    have e : ∀ (a b : HO), upd (upd H x a) x b = upd H x b := fun a b => upd_upd
    refine ⟨_, rfl, _, rfl, x, _, dx, _, rfl, hx, hc, n1, by simp [putF, q0_1, q0_2, q1_2], ?_⟩
    refine ⟨_, rfl, _, rfl, x, _, dx, _, rfl, upd_same, hc, n2, by simp [putF, q0_1, q0_2, q1_2], ?_⟩
    rw [e]
    refine ⟨_, rfl, _, rfl, x, _, dx, _, rfl, upd_same, hc, n3, by simp [putF, q0_1, q0_2, q1_2], ?_⟩
    rw [e]
    show Q .non _
    simpa [putF, q0_1, q0_2, q1_2] using hq
theorem fo__law_purse (B : Bl mg) (h_SMALL : ∃ t, mg "SMALL" = some (.str "abcdefghijklmnopqrstuvwxyz" t)) (h_DIGITS : ∃ t, mg "DIGITS" = some (.str "0123456789" t)) (F : FunD K "_law_purse" "_law_purse" (defArgs (top 48)) (defBody (top 48)) (defScope (top 48)) [] [] f fd) : FnOk P w K mg base CX0 1 f fd ["_law_script", "_law_at"] (sp0 P w K true 2 F__law_purse) := by
  have nd : (["_law_script", "_law_at", "_law_seed"] : List Str).Nodup := by decide +kernel
  refine ok0 (N := (["_law_script", "_law_at", "_law_seed"] : List Str)) (ps := ["_law_script", "_law_at"]) (O' := []) (k := 0) (fb := b__law_purse) true F ⟨rfl, rfl, rfl, nd, rfl, by decide +kernel, by decide +kernel⟩ fun cdv A outer s H E hr => ?_
  have hu := hr.units
  exact (dss_cons (ds_setX (i := 2) (e_blt (call_sumD rfl) (by rfl) B.sum boot_sum (ea_cons (e_slice (vv 0) (eo_some (vv 1)) (eo_some (e_op op_addD (vv 1) dx_int))) ea_nil)) nd)
    (dss_one (ds_retF (f_lst (ea_cons (e_op op_modD (e_blt (call_max2D rfl) (by rfl) B.max boot_max (ea_cons (e_op op_subD (vv 2) (e_op op_powD dx_int dx_int)) (ea_cons dx_int ea_nil))) (e_op op_powD (e_op op_powD dx_int dx_int) dx_int)) (ea_cons (e_op op_modD (vv 2) dx_int) (ea_cons dx_int (ea_cons (vv 1) ea_nil))))))))
theorem ok__law_purse (B : Bl mg) (h_SMALL : ∃ t, mg "SMALL" = some (.str "abcdefghijklmnopqrstuvwxyz" t)) (h_DIGITS : ∃ t, mg "DIGITS" = some (.str "0123456789" t)) (F : FunD K "_law_purse" "_law_purse" (defArgs (top 48)) (defBody (top 48)) (defScope (top 48)) [] [] f fd) (hm : mg "_law_purse" = some (.ref f)) : Ok0 P w K mg base true "_law_purse" 1 2 F__law_purse :=
  ⟨f, fd, ["_law_script", "_law_at"], fo__law_purse B h_SMALL h_DIGITS F, hm, F.kp, F.bindsN fun _ _ _ _ _ _ us hl => match us, hl with | [_, _], _ => rfl, fun ds d => run0_len ds d⟩
theorem fo__law_purses (B : Bl mg) (h_SMALL : ∃ t, mg "SMALL" = some (.str "abcdefghijklmnopqrstuvwxyz" t)) (h_DIGITS : ∃ t, mg "DIGITS" = some (.str "0123456789" t)) (o__law_purse : Ok0 P w K mg base true "_law_purse" 1 2 F__law_purse) (F : FunD K "_law_purses" "_law_purses" (defArgs (top 51)) (defBody (top 51)) (defScope (top 51)) [] [] f fd) : FnOk P w K mg base CX0 2 f fd ["_law_script", "_law_few"] (spW P w K 2 F__law_purses) := by
  have nd : (["_law_script", "_law_few", "_law_at"] : List Str).Nodup := by decide +kernel
  refine okW (N := (["_law_script", "_law_few", "_law_at"] : List Str)) (ps := ["_law_script", "_law_few"]) (k := 1) F ⟨rfl, rfl, rfl, nd, rfl, by decide +kernel, by decide +kernel⟩ fun cdv A outer s H E hr => ?_
  have hu := hr.units
  exact (w_lc [("_law_at", 2)] rfl nd (die_range1 (by rfl) B.range (ea_cons (e_blt (call_max2D rfl) (by rfl) B.max boot_max (ea_cons dx_int (ea_cons (e_blt (call_min2D rfl) (by rfl) B.min boot_min (ea_cons (vv 1) (ea_cons (e_blt call_lenD' (by rfl) B.len boot_len (ea_cons (vv 0) ea_nil)) ea_nil))) ea_nil))) ea_nil)) (blkOk_by (N := (["_law_script", "_law_few", "_law_at"] : List Str)) (sc := defScope (top 51)) (by decide +kernel)) (fun _ _ _ _ _ => (gn 2 nd)) (fun _ _ _ _ _ => (f_call o__law_purse hr (by decide) (by rfl) (ea_cons (vv 0) (ea_cons (vv 2) ea_nil)))))
theorem ok__law_purses (B : Bl mg) (h_SMALL : ∃ t, mg "SMALL" = some (.str "abcdefghijklmnopqrstuvwxyz" t)) (h_DIGITS : ∃ t, mg "DIGITS" = some (.str "0123456789" t)) (o__law_purse : Ok0 P w K mg base true "_law_purse" 1 2 F__law_purse) (F : FunD K "_law_purses" "_law_purses" (defArgs (top 51)) (defBody (top 51)) (defScope (top 51)) [] [] f fd) (hm : mg "_law_purses" = some (.ref f)) : OkW P w K mg base "_law_purses" 2 2 F__law_purses :=
  ⟨f, fd, ["_law_script", "_law_few"], fo__law_purses B h_SMALL h_DIGITS o__law_purse F, hm, F.kp, F.bindsN fun _ _ _ _ _ _ us hl => match us, hl with | [_, _], _ => rfl, fun ds d => runWl_len ds d⟩
theorem fo_is_name (B : Bl mg) (h_SMALL : ∃ t, mg "SMALL" = some (.str "abcdefghijklmnopqrstuvwxyz" t)) (h_DIGITS : ∃ t, mg "DIGITS" = some (.str "0123456789" t)) (F : FunD K "is_name" "is_name" (defArgs (top 9)) (defBody (top 9)) (defScope (top 9)) [] [] f fd) : FnOk P w K mg base CX0 1 f fd ["value"] (sp0 P w K false 1 F_is_name) := by
  have nd : (["value", "sign"] : List Str).Nodup := by decide +kernel
  refine ok0 (N := (["value", "sign"] : List Str)) (ps := ["value"]) (O' := []) (k := 0) (fb := b_is_name) false F ⟨rfl, rfl, rfl, nd, rfl, by decide +kernel, by decide +kernel⟩ fun cdv A outer s H E hr => ?_
  have hu := hr.units
  exact (dss_cons (ds_if (et_w (ew_or (et_not (et_of (e_isi (vv 0) (by rfl) B.isinstance (by rfl) B.str boot_str))) (ew_or1 (et_not (et_chain op_leD op_leD dx_int (e_blt call_lenD' (by rfl) B.len boot_len (ea_cons (vv 0) ea_nil)) dx_int))))) (dss_one (ds_ret dx_bl))
    dss_nil)
    (dss_one (ds_ret (x_cmp (op_eqY hu) ((f_lc [("sign", 1)] rfl nd (die_any (vv 0)) (blkOk_by (N := (["value", "sign"] : List Str)) (sc := defScope (top 9)) (by decide +kernel)) (fun _ _ _ _ _ => (gn 1 nd)) (fun _ _ _ _ _ => (dts_one (et_cmp (op_notInX hu) (vv 1) (e_globS (by rfl) h_SMALL)))) (fun _ _ _ _ _ => (vv 1)))).x (e_lst ea_nil)))))
theorem ok_is_name (B : Bl mg) (h_SMALL : ∃ t, mg "SMALL" = some (.str "abcdefghijklmnopqrstuvwxyz" t)) (h_DIGITS : ∃ t, mg "DIGITS" = some (.str "0123456789" t)) (F : FunD K "is_name" "is_name" (defArgs (top 9)) (defBody (top 9)) (defScope (top 9)) [] [] f fd) (hm : mg "is_name" = some (.ref f)) : Ok0 P w K mg base false "is_name" 1 1 F_is_name :=
  ⟨f, fd, ["value"], fo_is_name B h_SMALL h_DIGITS F, hm, F.kp, F.bindsN fun _ _ _ _ _ _ us hl => match us, hl with | [_], _ => rfl, fun ds d => run0_len ds d⟩
theorem fo_check_columns (B : Bl mg) (h_SMALL : ∃ t, mg "SMALL" = some (.str "abcdefghijklmnopqrstuvwxyz" t)) (h_DIGITS : ∃ t, mg "DIGITS" = some (.str "0123456789" t)) (o_is_name : Ok0 P w K mg base false "is_name" 1 1 F_is_name) (F : FunD K "check_columns" "check_columns" (defArgs (top 24)) (defBody (top 24)) (defScope (top 24)) [] [] f fd) : FnOk P w K mg base CX0 2 f fd ["columns"] (sp0 P w K false 1 F_check_columns) := by
  have nd : (["columns", "name"] : List Str).Nodup := by decide +kernel
  refine ok0 (N := (["columns", "name"] : List Str)) (ps := ["columns"]) (O' := []) (k := 1) (fb := b_check_columns) false F ⟨rfl, rfl, rfl, nd, rfl, by decide +kernel, by decide +kernel⟩ fun cdv A outer s H E hr => ?_
  have hu := hr.units
  exact (dss_cons (ds_if (xt_w (xw_or (et_not (et_of (e_isi (vv 0) (by rfl) B.isinstance (by rfl) B.list boot_list))) (xw_or (et_cmp (op_eqY hu) (vv 0) (e_lst ea_nil)) (xw_or1 (xt_cmp (op_neY hu) ((f_lc [("name", 1)] rfl nd (die_any (vv 0)) (blkOk_by (N := (["columns", "name"] : List Str)) (sc := defScope (top 24)) (by decide +kernel)) (fun _ _ _ _ _ => (gn 1 nd)) (fun _ _ _ _ _ => (dts_one (et_not (et_of (e_call o_is_name hr (by decide) (by rfl) (ea_cons (vv 1) ea_nil)))))) (fun _ _ _ _ _ => (vv 1)))).x (e_lst ea_nil)))))) dss_never
    dss_nil)
    (dss_cons (ds_if (et_cmp (op_neY hu) (e_lenSet rfl (by rfl) B.len (by rfl) B.set (vv 0)) (e_blt call_lenD' (by rfl) B.len boot_len (ea_cons (vv 0) ea_nil))) dss_never
    dss_nil)
    dss_nil))
theorem ok_check_columns (B : Bl mg) (h_SMALL : ∃ t, mg "SMALL" = some (.str "abcdefghijklmnopqrstuvwxyz" t)) (h_DIGITS : ∃ t, mg "DIGITS" = some (.str "0123456789" t)) (o_is_name : Ok0 P w K mg base false "is_name" 1 1 F_is_name) (F : FunD K "check_columns" "check_columns" (defArgs (top 24)) (defBody (top 24)) (defScope (top 24)) [] [] f fd) (hm : mg "check_columns" = some (.ref f)) : Ok0 P w K mg base false "check_columns" 2 1 F_check_columns :=
  ⟨f, fd, ["columns"], fo_check_columns B h_SMALL h_DIGITS o_is_name F, hm, F.kp, F.bindsN fun _ _ _ _ _ _ us hl => match us, hl with | [_], _ => rfl, fun ds d => run0_len ds d⟩
theorem fo_is_whole (B : Bl mg) (h_SMALL : ∃ t, mg "SMALL" = some (.str "abcdefghijklmnopqrstuvwxyz" t)) (h_DIGITS : ∃ t, mg "DIGITS" = some (.str "0123456789" t)) (F : FunD K "is_whole" "is_whole" (defArgs (top 8)) (defBody (top 8)) (defScope (top 8)) [] [] f fd) : FnOk P w K mg base CX0 1 f fd ["value"] (sp0 P w K false 1 F_is_whole) := by
  have nd : (["value"] : List Str).Nodup := by decide +kernel
  refine ok0 (N := (["value"] : List Str)) (ps := ["value"]) (O' := []) (k := 0) (fb := b_is_whole) false F ⟨rfl, rfl, rfl, nd, rfl, by decide +kernel, by decide +kernel⟩ fun cdv A outer s H E hr => ?_
  have hu := hr.units
  exact (dss_one (ds_ret (e_and (e_isi (vv 0) (by rfl) B.isinstance (by rfl) B.int boot_int) (e_one (e_not (e_isi (vv 0) (by rfl) B.isinstance (by rfl) B.bool boot_bool))))))
theorem ok_is_whole (B : Bl mg) (h_SMALL : ∃ t, mg "SMALL" = some (.str "abcdefghijklmnopqrstuvwxyz" t)) (h_DIGITS : ∃ t, mg "DIGITS" = some (.str "0123456789" t)) (F : FunD K "is_whole" "is_whole" (defArgs (top 8)) (defBody (top 8)) (defScope (top 8)) [] [] f fd) (hm : mg "is_whole" = some (.ref f)) : Ok0 P w K mg base false "is_whole" 1 1 F_is_whole :=
  ⟨f, fd, ["value"], fo_is_whole B h_SMALL h_DIGITS F, hm, F.kp, F.bindsN fun _ _ _ _ _ _ us hl => match us, hl with | [_], _ => rfl, fun ds d => run0_len ds d⟩
theorem fo_are_settings (B : Bl mg) (h_SMALL : ∃ t, mg "SMALL" = some (.str "abcdefghijklmnopqrstuvwxyz" t)) (h_DIGITS : ∃ t, mg "DIGITS" = some (.str "0123456789" t)) (o_is_name : Ok0 P w K mg base false "is_name" 1 1 F_is_name) (o_is_whole : Ok0 P w K mg base false "is_whole" 1 1 F_is_whole) (F : FunD K "are_settings" "are_settings" (defArgs (top 25)) (defBody (top 25)) (defScope (top 25)) [] [] f fd) : FnOk P w K mg base CX0 2 f fd ["value", "columns"] (sp0 P w K false 2 F_are_settings) := by
  have nd : (["value", "columns", "name", "part"] : List Str).Nodup := by decide +kernel
  refine ok0 (N := (["value", "columns", "name", "part"] : List Str)) (ps := ["value", "columns"]) (O' := []) (k := 1) (fb := b_are_settings) false F ⟨rfl, rfl, rfl, nd, rfl, by decide +kernel, by decide +kernel⟩ fun cdv A outer s H E hr => ?_
  have hu := hr.units
  exact (dss_cons (ds_if (xt_w (xw_or (et_not (et_of (e_isi (vv 0) (by rfl) B.isinstance (by rfl) B.dict boot_dict))) (xw_or1 (xt_cmp (op_eqY hu) (vv 0) (f_dict0).x)))) (dss_one (ds_ret dx_bl))
    dss_nil)
    (dss_cons (ds_for PassesOwn.never rfl (die_any (vv 0)) (gn 2 nd) (dss_cons (ds_if (et_w (ew_or (et_not (et_of (e_call o_is_name hr (by decide) (by rfl) (ea_cons (vv 2) ea_nil)))) (ew_or1 (et_cmp (op_notInX hu) (vv 2) (vv 1))))) (dss_one (ds_ret dx_bl))
    dss_nil)
    (dss_cons (ds_setX (i := 3) (e_ix (ix_D hu) (vv 0) (vv 2)) nd)
    (dss_cons (ds_if (et_w (ew_or (et_not (et_of (e_isi (vv 3) (by rfl) B.isinstance (by rfl) B.tuple boot_tuple))) (ew_or (et_cmp (op_neY hu) (e_blt call_lenD' (by rfl) B.len boot_len (ea_cons (vv 3) ea_nil)) dx_int) (ew_or1 (et_not (et_of (e_call o_is_whole hr (by decide) (by rfl) (ea_cons (e_ix (ix_D hu) (vv 3) dx_int) ea_nil)))))))) (dss_one (ds_ret dx_bl))
    dss_nil)
    (dss_cons (ds_if (et_w (ew_and (et_cmp op_isnt2 (e_ix (ix_D hu) (vv 3) dx_int) dx_non) (ew_and1 (et_w (ew_or (et_not (et_of (e_call o_is_name hr (by decide) (by rfl) (ea_cons (e_ix (ix_D hu) (vv 3) dx_int) ea_nil)))) (ew_or1 (et_cmp (op_notInX hu) (e_ix (ix_D hu) (vv 3) dx_int) (vv 1)))))))) (dss_one (ds_ret dx_bl))
    dss_nil)
    dss_nil)))))
    (dss_one (ds_ret dx_bl))))
theorem ok_are_settings (B : Bl mg) (h_SMALL : ∃ t, mg "SMALL" = some (.str "abcdefghijklmnopqrstuvwxyz" t)) (h_DIGITS : ∃ t, mg "DIGITS" = some (.str "0123456789" t)) (o_is_name : Ok0 P w K mg base false "is_name" 1 1 F_is_name) (o_is_whole : Ok0 P w K mg base false "is_whole" 1 1 F_is_whole) (F : FunD K "are_settings" "are_settings" (defArgs (top 25)) (defBody (top 25)) (defScope (top 25)) [] [] f fd) (hm : mg "are_settings" = some (.ref f)) : Ok0 P w K mg base false "are_settings" 2 2 F_are_settings :=
  ⟨f, fd, ["value", "columns"], fo_are_settings B h_SMALL h_DIGITS o_is_name o_is_whole F, hm, F.kp, F.bindsN fun _ _ _ _ _ _ us hl => match us, hl with | [_, _], _ => rfl, fun ds d => run0_len ds d⟩
theorem fo_is_digits (B : Bl mg) (h_SMALL : ∃ t, mg "SMALL" = some (.str "abcdefghijklmnopqrstuvwxyz" t)) (h_DIGITS : ∃ t, mg "DIGITS" = some (.str "0123456789" t)) (F : FunD K "is_digits" "is_digits" (defArgs (top 10)) (defBody (top 10)) (defScope (top 10)) [] [] f fd) : FnOk P w K mg base CX0 1 f fd ["value"] (sp0 P w K false 1 F_is_digits) := by
  have nd : (["value", "sign"] : List Str).Nodup := by decide +kernel
  refine ok0 (N := (["value", "sign"] : List Str)) (ps := ["value"]) (O' := []) (k := 0) (fb := b_is_digits) false F ⟨rfl, rfl, rfl, nd, rfl, by decide +kernel, by decide +kernel⟩ fun cdv A outer s H E hr => ?_
  have hu := hr.units
  exact (dss_cons (ds_if (xt_w (xw_or (et_cmp (op_eqY hu) (vv 0) dx_str) (xw_or1 (xt_cmp (op_neY hu) ((f_lc [("sign", 1)] rfl nd (die_any (vv 0)) (blkOk_by (N := (["value", "sign"] : List Str)) (sc := defScope (top 10)) (by decide +kernel)) (fun _ _ _ _ _ => (gn 1 nd)) (fun _ _ _ _ _ => (dts_one (et_cmp (op_notInX hu) (vv 1) (e_globS (by rfl) h_DIGITS)))) (fun _ _ _ _ _ => (vv 1)))).x (e_lst ea_nil))))) (dss_one (ds_ret dx_bl))
    dss_nil)
    (dss_one (ds_ret (e_or (e_cmp (op_eqY hu) (vv 0) dx_str) (e_one (e_cmp (op_neY hu) (e_ix (ix_D hu) (vv 0) dx_int) dx_str))))))
theorem ok_is_digits (B : Bl mg) (h_SMALL : ∃ t, mg "SMALL" = some (.str "abcdefghijklmnopqrstuvwxyz" t)) (h_DIGITS : ∃ t, mg "DIGITS" = some (.str "0123456789" t)) (F : FunD K "is_digits" "is_digits" (defArgs (top 10)) (defBody (top 10)) (defScope (top 10)) [] [] f fd) (hm : mg "is_digits" = some (.ref f)) : Ok0 P w K mg base false "is_digits" 1 1 F_is_digits :=
  ⟨f, fd, ["value"], fo_is_digits B h_SMALL h_DIGITS F, hm, F.kp, F.bindsN fun _ _ _ _ _ _ us hl => match us, hl with | [_], _ => rfl, fun ds d => run0_len ds d⟩
theorem fo_is_word (B : Bl mg) (h_SMALL : ∃ t, mg "SMALL" = some (.str "abcdefghijklmnopqrstuvwxyz" t)) (h_DIGITS : ∃ t, mg "DIGITS" = some (.str "0123456789" t)) (o_is_name : Ok0 P w K mg base false "is_name" 1 1 F_is_name) (o_is_digits : Ok0 P w K mg base false "is_digits" 1 1 F_is_digits) (F : FunD K "is_word" "is_word" (defArgs (top 11)) (defBody (top 11)) (defScope (top 11)) [] [] f fd) : FnOk P w K mg base CX0 2 f fd ["value"] (sp0 P w K false 1 F_is_word) := by
  have nd : (["value", "pieces"] : List Str).Nodup := by decide +kernel
  refine ok0 (N := (["value", "pieces"] : List Str)) (ps := ["value"]) (O' := []) (k := 1) (fb := b_is_word) false F ⟨rfl, rfl, rfl, nd, rfl, by decide +kernel, by decide +kernel⟩ fun cdv A outer s H E hr => ?_
  have hu := hr.units
  exact (dss_cons (ds_if (et_not (et_of (e_isi (vv 0) (by rfl) B.isinstance (by rfl) B.str boot_str))) (dss_one (ds_ret dx_bl))
    dss_nil)
    (dss_cons (ds_setX (i := 1) ((f_split (vv 0) (ea_cons dx_str ea_nil))).x nd)
    (dss_cons (ds_if (et_cmp (op_eqY hu) (e_blt call_lenD' (by rfl) B.len boot_len (ea_cons (vv 1) ea_nil)) dx_int) (dss_one (ds_ret (e_call o_is_name hr (by decide) (by rfl) (ea_cons (vv 0) ea_nil))))
    dss_nil)
    (dss_one (ds_ret (e_and (e_cmp (op_eqY hu) (e_blt call_lenD' (by rfl) B.len boot_len (ea_cons (vv 1) ea_nil)) dx_int) (e_and (e_call o_is_name hr (by decide) (by rfl) (ea_cons (e_ix (ix_D hu) (vv 1) dx_int) ea_nil)) (e_one (e_call o_is_digits hr (by decide) (by rfl) (ea_cons (e_ix (ix_D hu) (vv 1) dx_int) ea_nil))))))))))
theorem ok_is_word (B : Bl mg) (h_SMALL : ∃ t, mg "SMALL" = some (.str "abcdefghijklmnopqrstuvwxyz" t)) (h_DIGITS : ∃ t, mg "DIGITS" = some (.str "0123456789" t)) (o_is_name : Ok0 P w K mg base false "is_name" 1 1 F_is_name) (o_is_digits : Ok0 P w K mg base false "is_digits" 1 1 F_is_digits) (F : FunD K "is_word" "is_word" (defArgs (top 11)) (defBody (top 11)) (defScope (top 11)) [] [] f fd) (hm : mg "is_word" = some (.ref f)) : Ok0 P w K mg base false "is_word" 2 1 F_is_word :=
  ⟨f, fd, ["value"], fo_is_word B h_SMALL h_DIGITS o_is_name o_is_digits F, hm, F.kp, F.bindsN fun _ _ _ _ _ _ us hl => match us, hl with | [_], _ => rfl, fun ds d => run0_len ds d⟩
theorem fo_is_test (B : Bl mg) (h_SMALL : ∃ t, mg "SMALL" = some (.str "abcdefghijklmnopqrstuvwxyz" t)) (h_DIGITS : ∃ t, mg "DIGITS" = some (.str "0123456789" t)) (o_is_whole : Ok0 P w K mg base false "is_whole" 1 1 F_is_whole) (o_is_word : Ok0 P w K mg base false "is_word" 2 1 F_is_word) (F : FunD K "is_test" "is_test" (defArgs (top 12)) (defBody (top 12)) (defScope (top 12)) [] [] f fd) : FnOk P w K mg base CX0 3 f fd ["value"] (sp0 P w K false 1 F_is_test) := by
  have nd : (["value", "word"] : List Str).Nodup := by decide +kernel
  refine ok0 (N := (["value", "word"] : List Str)) (ps := ["value"]) (O' := []) (k := 2) (fb := b_is_test) false F ⟨rfl, rfl, rfl, nd, rfl, by decide +kernel, by decide +kernel⟩ fun cdv A outer s H E hr => ?_
  have hu := hr.units
  exact (dss_cons (ds_if (et_w (ew_or (et_not (et_of (e_isi (vv 0) (by rfl) B.isinstance (by rfl) B.tuple boot_tuple))) (ew_or (et_cmp (op_neY hu) (e_blt call_lenD' (by rfl) B.len boot_len (ea_cons (vv 0) ea_nil)) dx_int) (ew_or1 (et_not (et_of (e_call o_is_whole hr (by decide) (by rfl) (ea_cons (e_ix (ix_D hu) (vv 0) dx_int) ea_nil)))))))) (dss_one (ds_ret dx_bl))
    dss_nil)
    (dss_one (ds_ret (x_cmp (op_eqY hu) ((f_lc [("word", 1)] rfl nd (die_any (e_slice (vv 0) eo_none (eo_some dx_int))) (blkOk_by (N := (["value", "word"] : List Str)) (sc := defScope (top 12)) (by decide +kernel)) (fun _ _ _ _ _ => (gn 1 nd)) (fun _ _ _ _ _ => (dts_one (et_w (ew_and (et_cmp op_isnt2 (vv 1) dx_non) (ew_and1 (et_not (et_of (e_call o_is_word hr (by decide) (by rfl) (ea_cons (vv 1) ea_nil))))))))) (fun _ _ _ _ _ => (vv 1)))).x (e_lst ea_nil)))))
theorem ok_is_test (B : Bl mg) (h_SMALL : ∃ t, mg "SMALL" = some (.str "abcdefghijklmnopqrstuvwxyz" t)) (h_DIGITS : ∃ t, mg "DIGITS" = some (.str "0123456789" t)) (o_is_whole : Ok0 P w K mg base false "is_whole" 1 1 F_is_whole) (o_is_word : Ok0 P w K mg base false "is_word" 2 1 F_is_word) (F : FunD K "is_test" "is_test" (defArgs (top 12)) (defBody (top 12)) (defScope (top 12)) [] [] f fd) (hm : mg "is_test" = some (.ref f)) : Ok0 P w K mg base false "is_test" 3 1 F_is_test :=
  ⟨f, fd, ["value"], fo_is_test B h_SMALL h_DIGITS o_is_whole o_is_word F, hm, F.kp, F.bindsN fun _ _ _ _ _ _ us hl => match us, hl with | [_], _ => rfl, fun ds d => run0_len ds d⟩
theorem fo_are_tests (B : Bl mg) (h_SMALL : ∃ t, mg "SMALL" = some (.str "abcdefghijklmnopqrstuvwxyz" t)) (h_DIGITS : ∃ t, mg "DIGITS" = some (.str "0123456789" t)) (o_is_test : Ok0 P w K mg base false "is_test" 3 1 F_is_test) (F : FunD K "are_tests" "are_tests" (defArgs (top 13)) (defBody (top 13)) (defScope (top 13)) [] [] f fd) : FnOk P w K mg base CX0 4 f fd ["value"] (sp0 P w K false 1 F_are_tests) := by
  have nd : (["value", "test"] : List Str).Nodup := by decide +kernel
  refine ok0 (N := (["value", "test"] : List Str)) (ps := ["value"]) (O' := []) (k := 3) (fb := b_are_tests) false F ⟨rfl, rfl, rfl, nd, rfl, by decide +kernel, by decide +kernel⟩ fun cdv A outer s H E hr => ?_
  have hu := hr.units
  exact (dss_one (ds_ret (x_and (e_isi (vv 0) (by rfl) B.isinstance (by rfl) B.list boot_list) (x_one (x_cmp (op_eqY hu) ((f_lc [("test", 1)] rfl nd (die_any (vv 0)) (blkOk_by (N := (["value", "test"] : List Str)) (sc := defScope (top 13)) (by decide +kernel)) (fun _ _ _ _ _ => (gn 1 nd)) (fun _ _ _ _ _ => (dts_one (et_not (et_of (e_call o_is_test hr (by decide) (by rfl) (ea_cons (vv 1) ea_nil)))))) (fun _ _ _ _ _ => (vv 1)))).x (e_lst ea_nil))))))
theorem ok_are_tests (B : Bl mg) (h_SMALL : ∃ t, mg "SMALL" = some (.str "abcdefghijklmnopqrstuvwxyz" t)) (h_DIGITS : ∃ t, mg "DIGITS" = some (.str "0123456789" t)) (o_is_test : Ok0 P w K mg base false "is_test" 3 1 F_is_test) (F : FunD K "are_tests" "are_tests" (defArgs (top 13)) (defBody (top 13)) (defScope (top 13)) [] [] f fd) (hm : mg "are_tests" = some (.ref f)) : Ok0 P w K mg base false "are_tests" 4 1 F_are_tests :=
  ⟨f, fd, ["value"], fo_are_tests B h_SMALL h_DIGITS o_is_test F, hm, F.kp, F.bindsN fun _ _ _ _ _ _ us hl => match us, hl with | [_], _ => rfl, fun ds d => run0_len ds d⟩
theorem fo_are_tests_over (B : Bl mg) (h_SMALL : ∃ t, mg "SMALL" = some (.str "abcdefghijklmnopqrstuvwxyz" t)) (h_DIGITS : ∃ t, mg "DIGITS" = some (.str "0123456789" t)) (o_are_tests : Ok0 P w K mg base false "are_tests" 4 1 F_are_tests) (F : FunD K "are_tests_over" "are_tests_over" (defArgs (top 14)) (defBody (top 14)) (defScope (top 14)) [] [] f fd) : FnOk P w K mg base CX0 5 f fd ["value", "words"] (sp0 P w K false 2 F_are_tests_over) := by
  have nd : (["value", "words", "test", "word"] : List Str).Nodup := by decide +kernel
  refine ok0 (N := (["value", "words", "test", "word"] : List Str)) (ps := ["value", "words"]) (O' := []) (k := 4) (fb := b_are_tests_over) false F ⟨rfl, rfl, rfl, nd, rfl, by decide +kernel, by decide +kernel⟩ fun cdv A outer s H E hr => ?_
  have hu := hr.units
  exact (dss_cons (ds_if (et_not (et_of (e_call o_are_tests hr (by decide) (by rfl) (ea_cons (vv 0) ea_nil)))) (dss_one (ds_ret dx_bl))
    dss_nil)
    (dss_one (ds_ret (x_cmp (op_eqY hu) ((f_lc2 [("test", 2), ("word", 3)] [3] rfl nd (die_any (vv 0)) (blkOk_by (N := (["value", "words", "test", "word"] : List Str)) (sc := defScope (top 14)) (by decide +kernel)) (fun _ _ _ _ _ => (gn 2 nd)) (fun _ _ _ _ _ => dts_nil) (fun _ _ _ _ _ => (die_any (e_slice (vv 2) eo_none (eo_some dx_int)))) (fun _ _ _ _ _ => (gn 3 nd)) (fun _ _ _ _ _ => (dts_one (et_w (ew_and (et_cmp op_isnt2 (vv 3) dx_non) (ew_and1 (et_cmp (op_notInX hu) (vv 3) (vv 1))))))) (fun _ _ _ _ _ => (vv 3)))).x (e_lst ea_nil)))))
theorem ok_are_tests_over (B : Bl mg) (h_SMALL : ∃ t, mg "SMALL" = some (.str "abcdefghijklmnopqrstuvwxyz" t)) (h_DIGITS : ∃ t, mg "DIGITS" = some (.str "0123456789" t)) (o_are_tests : Ok0 P w K mg base false "are_tests" 4 1 F_are_tests) (F : FunD K "are_tests_over" "are_tests_over" (defArgs (top 14)) (defBody (top 14)) (defScope (top 14)) [] [] f fd) (hm : mg "are_tests_over" = some (.ref f)) : Ok0 P w K mg base false "are_tests_over" 5 2 F_are_tests_over :=
  ⟨f, fd, ["value", "words"], fo_are_tests_over B h_SMALL h_DIGITS o_are_tests F, hm, F.kp, F.bindsN fun _ _ _ _ _ _ us hl => match us, hl with | [_, _], _ => rfl, fun ds d => run0_len ds d⟩
theorem fo_is_statement (B : Bl mg) (h_SMALL : ∃ t, mg "SMALL" = some (.str "abcdefghijklmnopqrstuvwxyz" t)) (h_DIGITS : ∃ t, mg "DIGITS" = some (.str "0123456789" t)) (o_are_settings : Ok0 P w K mg base false "are_settings" 2 2 F_are_settings) (o_are_tests_over : Ok0 P w K mg base false "are_tests_over" 5 2 F_are_tests_over) (F : FunD K "is_statement" "is_statement" (defArgs (top 26)) (defBody (top 26)) (defScope (top 26)) [] [] f fd) : FnOk P w K mg base CX0 6 f fd ["columns", "value"] (sp0 P w K false 2 F_is_statement) := by
  have nd : (["columns", "value"] : List Str).Nodup := by decide +kernel
  refine ok0 (N := (["columns", "value"] : List Str)) (ps := ["columns", "value"]) (O' := []) (k := 5) (fb := b_is_statement) false F ⟨rfl, rfl, rfl, nd, rfl, by decide +kernel, by decide +kernel⟩ fun cdv A outer s H E hr => ?_
  have hu := hr.units
  exact (dss_cons (ds_if (et_w (ew_or (et_not (et_of (e_isi (vv 1) (by rfl) B.isinstance (by rfl) B.tuple boot_tuple))) (ew_or (et_cmp op_ltD (e_blt call_lenD' (by rfl) B.len boot_len (ea_cons (vv 1) ea_nil)) dx_int) (ew_or1 (et_not (et_of (e_isi (e_ix (ix_D hu) (vv 1) dx_int) (by rfl) B.isinstance (by rfl) B.str boot_str))))))) (dss_one (ds_ret dx_bl))
    dss_nil)
    (dss_cons (ds_if (xt_w (xw_or (xt_cmp (op_neY hu) (e_blt call_lenD' (by rfl) B.len boot_len (ea_cons (vv 1) ea_nil)) (x_get2 hu ((f_dct (dp_cons dx_str dx_int (dp_cons dx_str dx_int dp_nil)))).x (ea_cons (e_ix (ix_D hu) (vv 1) dx_int) (ea_cons dx_int ea_nil)) ⟨by rfl, by rfl, by rfl, by rfl⟩)) (xw_or1 (et_not (et_of (e_call o_are_tests_over hr (by decide) (by rfl) (ea_cons (e_ix (ix_D hu) (vv 1) dx_int) (ea_cons (vv 0) ea_nil)))))))) (dss_one (ds_ret dx_bl))
    dss_nil)
    (dss_one (ds_ret (e_or (e_cmp (op_eqY hu) (e_blt call_lenD' (by rfl) B.len boot_len (ea_cons (vv 1) ea_nil)) dx_int) (e_one (e_call o_are_settings hr (by decide) (by rfl) (ea_cons (e_ix (ix_D hu) (vv 1) dx_int) (ea_cons (vv 0) ea_nil)))))))))
theorem ok_is_statement (B : Bl mg) (h_SMALL : ∃ t, mg "SMALL" = some (.str "abcdefghijklmnopqrstuvwxyz" t)) (h_DIGITS : ∃ t, mg "DIGITS" = some (.str "0123456789" t)) (o_are_settings : Ok0 P w K mg base false "are_settings" 2 2 F_are_settings) (o_are_tests_over : Ok0 P w K mg base false "are_tests_over" 5 2 F_are_tests_over) (F : FunD K "is_statement" "is_statement" (defArgs (top 26)) (defBody (top 26)) (defScope (top 26)) [] [] f fd) (hm : mg "is_statement" = some (.ref f)) : Ok0 P w K mg base false "is_statement" 6 2 F_is_statement :=
  ⟨f, fd, ["columns", "value"], fo_is_statement B h_SMALL h_DIGITS o_are_settings o_are_tests_over F, hm, F.kp, F.bindsN fun _ _ _ _ _ _ us hl => match us, hl with | [_, _], _ => rfl, fun ds d => run0_len ds d⟩
theorem fo_check_steps (B : Bl mg) (h_SMALL : ∃ t, mg "SMALL" = some (.str "abcdefghijklmnopqrstuvwxyz" t)) (h_DIGITS : ∃ t, mg "DIGITS" = some (.str "0123456789" t)) (o_is_statement : Ok0 P w K mg base false "is_statement" 6 2 F_is_statement) (F : FunD K "check_steps" "check_steps" (defArgs (top 27)) (defBody (top 27)) (defScope (top 27)) [] [] f fd) : FnOk P w K mg base CX0 7 f fd ["columns", "steps"] (sp0 P w K false 2 F_check_steps) := by
  have nd : (["columns", "steps", "step"] : List Str).Nodup := by decide +kernel
  refine ok0 (N := (["columns", "steps", "step"] : List Str)) (ps := ["columns", "steps"]) (O' := []) (k := 6) (fb := b_check_steps) false F ⟨rfl, rfl, rfl, nd, rfl, by decide +kernel, by decide +kernel⟩ fun cdv A outer s H E hr => ?_
  have hu := hr.units
  exact (dss_cons (ds_if (xt_w (xw_or (et_not (et_of (e_isi (vv 1) (by rfl) B.isinstance (by rfl) B.list boot_list))) (xw_or1 (xt_cmp (op_neY hu) ((f_lc [("step", 2)] rfl nd (die_any (vv 1)) (blkOk_by (N := (["columns", "steps", "step"] : List Str)) (sc := defScope (top 27)) (by decide +kernel)) (fun _ _ _ _ _ => (gn 2 nd)) (fun _ _ _ _ _ => (dts_one (et_not (et_of (e_call o_is_statement hr (by decide) (by rfl) (ea_cons (vv 0) (ea_cons (vv 2) ea_nil))))))) (fun _ _ _ _ _ => (vv 2)))).x (e_lst ea_nil))))) dss_never
    dss_nil)
    dss_nil)
theorem ok_check_steps (B : Bl mg) (h_SMALL : ∃ t, mg "SMALL" = some (.str "abcdefghijklmnopqrstuvwxyz" t)) (h_DIGITS : ∃ t, mg "DIGITS" = some (.str "0123456789" t)) (o_is_statement : Ok0 P w K mg base false "is_statement" 6 2 F_is_statement) (F : FunD K "check_steps" "check_steps" (defArgs (top 27)) (defBody (top 27)) (defScope (top 27)) [] [] f fd) (hm : mg "check_steps" = some (.ref f)) : Ok0 P w K mg base false "check_steps" 7 2 F_check_steps :=
  ⟨f, fd, ["columns", "steps"], fo_check_steps B h_SMALL h_DIGITS o_is_statement F, hm, F.kp, F.bindsN fun _ _ _ _ _ _ us hl => match us, hl with | [_, _], _ => rfl, fun ds d => run0_len ds d⟩
theorem fo_check_rule (B : Bl mg) (h_SMALL : ∃ t, mg "SMALL" = some (.str "abcdefghijklmnopqrstuvwxyz" t)) (h_DIGITS : ∃ t, mg "DIGITS" = some (.str "0123456789" t)) (o_are_tests_over : Ok0 P w K mg base false "are_tests_over" 5 2 F_are_tests_over) (F : FunD K "check_rule" "check_rule" (defArgs (top 28)) (defBody (top 28)) (defScope (top 28)) [] [] f fd) : FnOk P w K mg base CX0 6 f fd ["columns", "rule"] (sp0 P w K false 2 F_check_rule) := by
  have nd : (["columns", "rule"] : List Str).Nodup := by decide +kernel
  refine ok0 (N := (["columns", "rule"] : List Str)) (ps := ["columns", "rule"]) (O' := []) (k := 5) (fb := b_check_rule) false F ⟨rfl, rfl, rfl, nd, rfl, by decide +kernel, by decide +kernel⟩ fun cdv A outer s H E hr => ?_
  have hu := hr.units
  exact (dss_cons (ds_if (et_not (et_of (e_call o_are_tests_over hr (by decide) (by rfl) (ea_cons (vv 1) (ea_cons (vv 0) ea_nil))))) dss_never
    dss_nil)
    dss_nil)
theorem ok_check_rule (B : Bl mg) (h_SMALL : ∃ t, mg "SMALL" = some (.str "abcdefghijklmnopqrstuvwxyz" t)) (h_DIGITS : ∃ t, mg "DIGITS" = some (.str "0123456789" t)) (o_are_tests_over : Ok0 P w K mg base false "are_tests_over" 5 2 F_are_tests_over) (F : FunD K "check_rule" "check_rule" (defArgs (top 28)) (defBody (top 28)) (defScope (top 28)) [] [] f fd) (hm : mg "check_rule" = some (.ref f)) : Ok0 P w K mg base false "check_rule" 6 2 F_check_rule :=
  ⟨f, fd, ["columns", "rule"], fo_check_rule B h_SMALL h_DIGITS o_are_tests_over F, hm, F.kp, F.bindsN fun _ _ _ _ _ _ us hl => match us, hl with | [_, _], _ => rfl, fun ds d => run0_len ds d⟩
theorem fo_rule_of (B : Bl mg) (h_SMALL : ∃ t, mg "SMALL" = some (.str "abcdefghijklmnopqrstuvwxyz" t)) (h_DIGITS : ∃ t, mg "DIGITS" = some (.str "0123456789" t)) (o_check_rule : Ok0 P w K mg base false "check_rule" 6 2 F_check_rule) (F : FunD K "rule_of" "rule_of" (defArgs (top 29)) (defBody (top 29)) (defScope (top 29)) [] [] f fd) : FnOk P w K mg base CX0 7 f fd ["columns", "rule"] (sp0 P w K false 2 F_rule_of) := by
  have nd : (["columns", "rule"] : List Str).Nodup := by decide +kernel
  refine ok0 (N := (["columns", "rule"] : List Str)) (ps := ["columns", "rule"]) (O' := []) (k := 6) (fb := b_rule_of) false F ⟨rfl, rfl, rfl, nd, rfl, by decide +kernel, by decide +kernel⟩ fun cdv A outer s H E hr => ?_
  have hu := hr.units
  exact (dss_cons (ds_if (et_cmp op_is2 (vv 1) dx_non) (dss_one (ds_ret (e_lst ea_nil)))
    dss_nil)
    (dss_cons (ds_do (e_call o_check_rule hr (by decide) (by rfl) (ea_cons (vv 0) (ea_cons (vv 1) ea_nil))))
    (dss_one (ds_ret (vv 1)))))
theorem ok_rule_of (B : Bl mg) (h_SMALL : ∃ t, mg "SMALL" = some (.str "abcdefghijklmnopqrstuvwxyz" t)) (h_DIGITS : ∃ t, mg "DIGITS" = some (.str "0123456789" t)) (o_check_rule : Ok0 P w K mg base false "check_rule" 6 2 F_check_rule) (F : FunD K "rule_of" "rule_of" (defArgs (top 29)) (defBody (top 29)) (defScope (top 29)) [] [] f fd) (hm : mg "rule_of" = some (.ref f)) : Ok0 P w K mg base false "rule_of" 7 2 F_rule_of :=
  ⟨f, fd, ["columns", "rule"], fo_rule_of B h_SMALL h_DIGITS o_check_rule F, hm, F.kp, F.bindsN fun _ _ _ _ _ _ us hl => match us, hl with | [_, _], _ => rfl, fun ds d => run0_len ds d⟩
theorem fo_check_scripts (B : Bl mg) (h_SMALL : ∃ t, mg "SMALL" = some (.str "abcdefghijklmnopqrstuvwxyz" t)) (h_DIGITS : ∃ t, mg "DIGITS" = some (.str "0123456789" t)) (o_check_columns : Ok0 P w K mg base false "check_columns" 2 1 F_check_columns) (o_check_steps : Ok0 P w K mg base false "check_steps" 7 2 F_check_steps) (o_rule_of : Ok0 P w K mg base false "rule_of" 7 2 F_rule_of) (F : FunD K "check_scripts" "check_scripts" (defArgs (top 44)) (defBody (top 44)) (defScope (top 44)) [] [] f fd) : FnOk P w K mg base CX0 8 f fd ["columns", "one", "other", "rule"] (sp0 P w K false 4 F_check_scripts) := by
  have nd : (["columns", "one", "other", "rule"] : List Str).Nodup := by decide +kernel
  refine ok0 (N := (["columns", "one", "other", "rule"] : List Str)) (ps := ["columns", "one", "other", "rule"]) (O' := []) (k := 7) (fb := b_check_scripts) false F ⟨rfl, rfl, rfl, nd, rfl, by decide +kernel, by decide +kernel⟩ fun cdv A outer s H E hr => ?_
  have hu := hr.units
  exact (dss_cons (ds_do (e_call o_check_columns hr (by decide) (by rfl) (ea_cons (vv 0) ea_nil)))
    (dss_cons (ds_do (e_call o_check_steps hr (by decide) (by rfl) (ea_cons (vv 0) (ea_cons (vv 1) ea_nil))))
    (dss_cons (ds_do (e_call o_check_steps hr (by decide) (by rfl) (ea_cons (vv 0) (ea_cons (vv 2) ea_nil))))
    (dss_one (ds_ret (e_call o_rule_of hr (by decide) (by rfl) (ea_cons (vv 0) (ea_cons (vv 3) ea_nil))))))))
theorem ok_check_scripts (B : Bl mg) (h_SMALL : ∃ t, mg "SMALL" = some (.str "abcdefghijklmnopqrstuvwxyz" t)) (h_DIGITS : ∃ t, mg "DIGITS" = some (.str "0123456789" t)) (o_check_columns : Ok0 P w K mg base false "check_columns" 2 1 F_check_columns) (o_check_steps : Ok0 P w K mg base false "check_steps" 7 2 F_check_steps) (o_rule_of : Ok0 P w K mg base false "rule_of" 7 2 F_rule_of) (F : FunD K "check_scripts" "check_scripts" (defArgs (top 44)) (defBody (top 44)) (defScope (top 44)) [] [] f fd) (hm : mg "check_scripts" = some (.ref f)) : Ok0 P w K mg base false "check_scripts" 8 4 F_check_scripts :=
  ⟨f, fd, ["columns", "one", "other", "rule"], fo_check_scripts B h_SMALL h_DIGITS o_check_columns o_check_steps o_rule_of F, hm, F.kp, F.bindsN fun _ _ _ _ _ _ us hl => match us, hl with | [_, _, _, _], _ => rfl, fun ds d => run0_len ds d⟩
theorem fo_words_of (B : Bl mg) (h_SMALL : ∃ t, mg "SMALL" = some (.str "abcdefghijklmnopqrstuvwxyz" t)) (h_DIGITS : ∃ t, mg "DIGITS" = some (.str "0123456789" t)) (F : FunD K "words_of" "words_of" (defArgs (top 16)) (defBody (top 16)) (defScope (top 16)) [] [] f fd) : FnOk P w K mg base CX0 1 f fd ["tests"] (sp0 P w K false 1 F_words_of) := by
  have nd : (["tests", "test", "word"] : List Str).Nodup := by decide +kernel
  refine ok0 (N := (["tests", "test", "word"] : List Str)) (ps := ["tests"]) (O' := []) (k := 0) (fb := b_words_of) false F ⟨rfl, rfl, rfl, nd, rfl, by decide +kernel, by decide +kernel⟩ fun cdv A outer s H E hr => ?_
  have hu := hr.units
  exact (dss_one (ds_ret ((f_sortSc [("test", 1), ("word", 2)] [2] (by rfl) B.sorted rfl nd (die_any (vv 0)) (blkOk_by (N := (["tests", "test", "word"] : List Str)) (sc := defScope (top 16)) (by decide +kernel)) (fun _ _ _ _ _ => (gn 1 nd)) (fun _ _ _ _ _ => dts_nil) (fun _ _ _ _ _ => (die_any (e_slice (vv 1) eo_none (eo_some dx_int)))) (fun _ _ _ _ _ => (gn 2 nd)) (fun _ _ _ _ _ => (dts_one (et_cmp op_isnt2 (vv 2) dx_non))) (fun _ _ _ _ _ => (vv 2)))).x))
theorem ok_words_of (B : Bl mg) (h_SMALL : ∃ t, mg "SMALL" = some (.str "abcdefghijklmnopqrstuvwxyz" t)) (h_DIGITS : ∃ t, mg "DIGITS" = some (.str "0123456789" t)) (F : FunD K "words_of" "words_of" (defArgs (top 16)) (defBody (top 16)) (defScope (top 16)) [] [] f fd) (hm : mg "words_of" = some (.ref f)) : Ok0 P w K mg base false "words_of" 1 1 F_words_of :=
  ⟨f, fd, ["tests"], fo_words_of B h_SMALL h_DIGITS F, hm, F.kp, F.bindsN fun _ _ _ _ _ _ us hl => match us, hl with | [_], _ => rfl, fun ds d => run0_len ds d⟩
theorem fo_relaxed (B : Bl mg) (h_SMALL : ∃ t, mg "SMALL" = some (.str "abcdefghijklmnopqrstuvwxyz" t)) (h_DIGITS : ∃ t, mg "DIGITS" = some (.str "0123456789" t)) (o_words_of : Ok0 P w K mg base false "words_of" 1 1 F_words_of) (F : FunD K "relaxed" "relaxed" (defArgs (top 17)) (defBody (top 17)) (defScope (top 17)) [] [] f fd) : FnOk P w K mg base CX0 2 f fd ["tests"] (sp0 P w K false 1 F_relaxed) := by
  have nd : (["tests", "nodes", "turn", "least", "back", "moving", "at", "node", "one", "other", "much"] : List Str).Nodup := by decide +kernel
  refine ok0 (N := (["tests", "nodes", "turn", "least", "back", "moving", "at", "node", "one", "other", "much"] : List Str)) (ps := ["tests"]) (O' := []) (k := 1) (fb := b_relaxed) false F ⟨rfl, rfl, rfl, nd, rfl, by decide +kernel, by decide +kernel⟩ fun cdv A outer s H E hr => ?_
  have hu := hr.units
  exact (dss_cons (ds_setX (i := 1) (e_op op_addD (e_call o_words_of hr (by decide) (by rfl) (ea_cons (vv 0) ea_nil)) (e_lst (ea_cons dx_non ea_nil))) nd)
    (dss_cons (ds_par3 (ps_par3 (i := 3) (j := 4) (l := 5) rfl nd (by rfl) (by rfl) (by rfl) (by decide) (by decide) (by decide) (by rfl) (by rfl) (by rfl) (db_consF (f_dc [("node", 7)] hu rfl nd (die_any (vv 1)) (blkOk_by (N := (["tests", "nodes", "turn", "least", "back", "moving", "at", "node", "one", "other", "much"] : List Str)) (sc := defScope (top 17)) (by decide +kernel)) (fun _ _ _ _ _ => (gn 7 nd)) (fun _ _ _ _ _ => dts_nil) (fun _ _ _ _ _ => (vv 7)) (fun _ _ _ _ _ => dx_int)) (db_consF f_dict0 (db_cons (e_lst ea_nil) db_nil))) (by rfl)) (kinds_cons (kinds_cons (kinds_cons kinds_nil))) (by decide) (by decide) (by decide))
    (dss_cons (ds_for PassesOwn.never rfl (die_range1 (by rfl) B.range (ea_cons (e_op op_addD (e_blt call_lenD' (by rfl) B.len boot_len (ea_cons (vv 1) ea_nil)) dx_int) ea_nil)) (gn 2 nd) (dss_cons (ds_setX (i := 5) (e_lst ea_nil) nd)
    (dss_cons (ds_for PassesOwn.never rfl (die_enum (by rfl) B.enumerate (ea_cons (vv 0) ea_nil)) (dg_tup rfl (dgs_cons (gn 6 nd) (dgs_cons (dg_tup rfl (dgs_cons (gn 8 nd) (dgs_cons (gn 9 nd) (dgs_cons (gn 10 nd) dgs_nil)))) dgs_nil))) (dss_cons (ds_if (et_cmp op_ltD (e_op op_addD (e_pk (e_ix (ix_D hu) (vv 3) (vv 9))) (vv 10)) (e_pk (e_ix (ix_D hu) (vv 3) (vv 8)))) (dss_cons (ds_asg (ps_asg (e_tup (ea_cons (e_op op_addD (e_pk (e_ix (ix_D hu) (vv 3) (vv 9))) (vv 10)) (ea_cons (vv 6) (ea_cons (e_lst (ea_cons (vv 8) ea_nil)) ea_nil)))) (dg_tup rfl (dgs_cons (dg_sub (i := 3) hu (by rfl) (by first | exact Or.inl rfl | exact Or.inr (Or.inl rfl) | exact Or.inr (Or.inr rfl)) (by decide) (vv 8)) (dgs_cons (dg_sub (i := 4) hu (by rfl) (by first | exact Or.inl rfl | exact Or.inr (Or.inl rfl) | exact Or.inr (Or.inr rfl)) (by decide) (vv 8)) (dgs_cons (gn 5 nd) dgs_nil))))))
    dss_nil)
    dss_nil)
    dss_nil))
    (dss_cons (ds_if (et_cmp (op_eqY hu) (vv 5) (e_lst ea_nil)) (dss_one ds_break')
    dss_nil)
    dss_nil))))
    (dss_from [] (dss_one (ds_ret (e_tup (ea_cons (vv 3) (ea_cons (vv 4) (ea_cons (vv 5) ea_nil))))))))))
theorem ok_relaxed (B : Bl mg) (h_SMALL : ∃ t, mg "SMALL" = some (.str "abcdefghijklmnopqrstuvwxyz" t)) (h_DIGITS : ∃ t, mg "DIGITS" = some (.str "0123456789" t)) (o_words_of : Ok0 P w K mg base false "words_of" 1 1 F_words_of) (F : FunD K "relaxed" "relaxed" (defArgs (top 17)) (defBody (top 17)) (defScope (top 17)) [] [] f fd) (hm : mg "relaxed" = some (.ref f)) : Ok0 P w K mg base false "relaxed" 2 1 F_relaxed :=
  ⟨f, fd, ["tests"], fo_relaxed B h_SMALL h_DIGITS o_words_of F, hm, F.kp, F.bindsN fun _ _ _ _ _ _ us hl => match us, hl with | [_], _ => rfl, fun ds d => run0_len ds d⟩
theorem fo_solution_of (B : Bl mg) (h_SMALL : ∃ t, mg "SMALL" = some (.str "abcdefghijklmnopqrstuvwxyz" t)) (h_DIGITS : ∃ t, mg "DIGITS" = some (.str "0123456789" t)) (o_words_of : Ok0 P w K mg base false "words_of" 1 1 F_words_of) (o_relaxed : Ok0 P w K mg base false "relaxed" 2 1 F_relaxed) (F : FunD K "solution_of" "solution_of" (defArgs (top 19)) (defBody (top 19)) (defScope (top 19)) [] [] f fd) : FnOk P w K mg base CX0 3 f fd ["tests"] (sp0 P w K false 1 F_solution_of) := by
  have nd : (["tests", "least", "back", "moving", "word"] : List Str).Nodup := by decide +kernel
  refine ok0 (N := (["tests", "least", "back", "moving", "word"] : List Str)) (ps := ["tests"]) (O' := []) (k := 2) (fb := b_solution_of) false F ⟨rfl, rfl, rfl, nd, rfl, by decide +kernel, by decide +kernel⟩ fun cdv A outer s H E hr => ?_
  have hu := hr.units
  exact (dss_cons (ds_asg (ps_asg (e_call o_relaxed hr (by decide) (by rfl) (ea_cons (vv 0) ea_nil)) (dg_tup rfl (dgs_cons (gn 1 nd) (dgs_cons (gn 2 nd) (dgs_cons (gn 3 nd) dgs_nil))))))
    (dss_cons (ds_if (et_cmp (op_neY hu) (vv 3) (e_lst ea_nil)) (dss_one (ds_ret dx_non))
    dss_nil)
    (dss_one (ds_ret ((f_dc [("word", 4)] hu rfl nd (die_any (e_call o_words_of hr (by decide) (by rfl) (ea_cons (vv 0) ea_nil))) (blkOk_by (N := (["tests", "least", "back", "moving", "word"] : List Str)) (sc := defScope (top 19)) (by decide +kernel)) (fun _ _ _ _ _ => (gn 4 nd)) (fun _ _ _ _ _ => dts_nil) (fun _ _ _ _ _ => (vv 4)) (fun _ _ _ _ _ => (e_op op_subD (e_ix (ix_D hu) (vv 1) (vv 4)) (e_ix (ix_D hu) (vv 1) dx_non))))).x))))
theorem ok_solution_of (B : Bl mg) (h_SMALL : ∃ t, mg "SMALL" = some (.str "abcdefghijklmnopqrstuvwxyz" t)) (h_DIGITS : ∃ t, mg "DIGITS" = some (.str "0123456789" t)) (o_words_of : Ok0 P w K mg base false "words_of" 1 1 F_words_of) (o_relaxed : Ok0 P w K mg base false "relaxed" 2 1 F_relaxed) (F : FunD K "solution_of" "solution_of" (defArgs (top 19)) (defBody (top 19)) (defScope (top 19)) [] [] f fd) (hm : mg "solution_of" = some (.ref f)) : Ok0 P w K mg base false "solution_of" 3 1 F_solution_of :=
  ⟨f, fd, ["tests"], fo_solution_of B h_SMALL h_DIGITS o_words_of o_relaxed F, hm, F.kp, F.bindsN fun _ _ _ _ _ _ us hl => match us, hl with | [_], _ => rfl, fun ds d => run0_len ds d⟩
theorem fo_is_open (B : Bl mg) (h_SMALL : ∃ t, mg "SMALL" = some (.str "abcdefghijklmnopqrstuvwxyz" t)) (h_DIGITS : ∃ t, mg "DIGITS" = some (.str "0123456789" t)) (fl_tests : FldOk K ["Way"] "tests") (o_solution_of : Ok0 P w K mg base false "solution_of" 3 1 F_solution_of) (F : FunD K "is_open" "is_open" (defArgs (top 35)) (defBody (top 35)) (defScope (top 35)) [] [] f fd) : FnOk P w K mg base CX0 4 f fd ["way"] (sp0 P w K false 1 F_is_open) := by
  have nd : (["way"] : List Str).Nodup := by decide +kernel
  refine ok0 (N := (["way"] : List Str)) (ps := ["way"]) (O' := []) (k := 3) (fb := b_is_open) false F ⟨rfl, rfl, rfl, nd, rfl, by decide +kernel, by decide +kernel⟩ fun cdv A outer s H E hr => ?_
  have hu := hr.units
  exact (dss_one (ds_ret (e_cmp op_isnt2 (e_call o_solution_of hr (by decide) (by rfl) (ea_cons (e_fld fl_tests (vv 0)) ea_nil)) dx_non)))
theorem ok_is_open (B : Bl mg) (h_SMALL : ∃ t, mg "SMALL" = some (.str "abcdefghijklmnopqrstuvwxyz" t)) (h_DIGITS : ∃ t, mg "DIGITS" = some (.str "0123456789" t)) (fl_tests : FldOk K ["Way"] "tests") (o_solution_of : Ok0 P w K mg base false "solution_of" 3 1 F_solution_of) (F : FunD K "is_open" "is_open" (defArgs (top 35)) (defBody (top 35)) (defScope (top 35)) [] [] f fd) (hm : mg "is_open" = some (.ref f)) : Ok0 P w K mg base false "is_open" 4 1 F_is_open :=
  ⟨f, fd, ["way"], fo_is_open B h_SMALL h_DIGITS fl_tests o_solution_of F, hm, F.kp, F.bindsN fun _ _ _ _ _ _ us hl => match us, hl with | [_], _ => rfl, fun ds d => run0_len ds d⟩
theorem fo_settled (B : Bl mg) (h_SMALL : ∃ t, mg "SMALL" = some (.str "abcdefghijklmnopqrstuvwxyz" t)) (h_DIGITS : ∃ t, mg "DIGITS" = some (.str "0123456789" t)) (F : FunD K "settled" "settled" (defArgs (top 34)) (defBody (top 34)) (defScope (top 34)) [] [] f fd) : FnOk P w K mg base CX0 1 f fd ["outcome", "settings"] (sp0 P w K false 2 F_settled) := by
  have nd : (["outcome", "settings", "found", "column", "other", "much", "word", "more"] : List Str).Nodup := by decide +kernel
  refine ok0 (N := (["outcome", "settings", "found", "column", "other", "much", "word", "more"] : List Str)) (ps := ["outcome", "settings"]) (O' := []) (k := 0) (fb := b_settled) false F ⟨rfl, rfl, rfl, nd, rfl, by decide +kernel, by decide +kernel⟩ fun cdv A outer s H E hr => ?_
  have hu := hr.units
  exact (dss_cons (ds_setFX (i := 2) (f_dictOf (by rfl) B.dict (ea_cons (vv 0) ea_nil)) nd)
    (dss_cons (ds_for PassesOwn.never rfl (die_any (vv 1)) (gn 3 nd) (dss_cons (ds_asg (ps_asg (e_ix (ix_D hu) (vv 1) (vv 3)) (dg_tup rfl (dgs_cons (gn 4 nd) (dgs_cons (gn 5 nd) dgs_nil)))))
    (dss_cons (ds_asg (ps_asg (e_if (et_cmp op_is2 (vv 4) dx_non) (e_tup (ea_cons dx_non (ea_cons dx_int ea_nil))) (e_ix (ix_D hu) (vv 0) (vv 4))) (dg_tup rfl (dgs_cons (gn 6 nd) (dgs_cons (gn 7 nd) dgs_nil)))))
    (dss_cons (ds_put (i := 2) hu (by rfl) (by first | exact Or.inl rfl | exact Or.inr (Or.inl rfl) | exact Or.inr (Or.inr rfl)) (by decide) (e_tup (ea_cons (vv 6) (ea_cons (e_op op_addD (vv 7) (vv 5)) ea_nil))) (vv 3))
    dss_nil))))
    (dss_from [] (dss_one (ds_ret (vv 2))))))
theorem ok_settled (B : Bl mg) (h_SMALL : ∃ t, mg "SMALL" = some (.str "abcdefghijklmnopqrstuvwxyz" t)) (h_DIGITS : ∃ t, mg "DIGITS" = some (.str "0123456789" t)) (F : FunD K "settled" "settled" (defArgs (top 34)) (defBody (top 34)) (defScope (top 34)) [] [] f fd) (hm : mg "settled" = some (.ref f)) : Ok0 P w K mg base false "settled" 1 2 F_settled :=
  ⟨f, fd, ["outcome", "settings"], fo_settled B h_SMALL h_DIGITS F, hm, F.kp, F.bindsN fun _ _ _ _ _ _ us hl => match us, hl with | [_, _], _ => rfl, fun ds d => run0_len ds d⟩
theorem fo_seen_by (B : Bl mg) (h_SMALL : ∃ t, mg "SMALL" = some (.str "abcdefghijklmnopqrstuvwxyz" t)) (h_DIGITS : ∃ t, mg "DIGITS" = some (.str "0123456789" t)) (F : FunD K "seen_by" "seen_by" (defArgs (top 32)) (defBody (top 32)) (defScope (top 32)) [] [] f fd) : FnOk P w K mg base CX0 1 f fd ["outcome", "test"] (sp0 P w K false 2 F_seen_by) := by
  have nd : (["outcome", "test", "words", "much", "sign", "column", "word", "more"] : List Str).Nodup := by decide +kernel
  refine ok0 (N := (["outcome", "test", "words", "much", "sign", "column", "word", "more"] : List Str)) (ps := ["outcome", "test"]) (O' := []) (k := 0) (fb := b_seen_by) false F ⟨rfl, rfl, rfl, nd, rfl, by decide +kernel, by decide +kernel⟩ fun cdv A outer s H E hr => ?_
  have hu := hr.units
  exact (dss_cons (ds_par (ps_par (i := 2) (j := 3) rfl nd (by rfl) (by rfl) (by decide) (by rfl) (by rfl) (db_consF (f_lst ea_nil) (db_cons (e_ix (ix_D hu) (vv 1) dx_int) db_nil)) (by rfl)) (kinds_cons (kinds_cons kinds_nil)) (by decide) (by decide))
    (dss_cons (ds_for PassesOwn.never rfl (di_zipT (by rfl) B.zip (ea_cons (e_tup (ea_cons (e_un un_negD dx_int) (ea_cons dx_int ea_nil))) (ea_cons (e_slice (vv 1) eo_none (eo_some dx_int)) ea_nil))) (dg_tup rfl (dgs_cons (gn 4 nd) (dgs_cons (gn 5 nd) dgs_nil))) (dss_cons (ds_asg (ps_asg (e_if (et_cmp op_is2 (vv 5) dx_non) (e_tup (ea_cons dx_non (ea_cons dx_int ea_nil))) (e_ix (ix_D hu) (vv 0) (vv 5))) (dg_tup rfl (dgs_cons (gn 6 nd) (dgs_cons (gn 7 nd) dgs_nil)))))
    (dss_cons (ds_push (i := 2) (by rfl) (by first | exact Or.inl rfl | exact Or.inr (Or.inl rfl) | exact Or.inr (Or.inr rfl)) (by decide) (vv 6))
    (dss_cons (ds_setX (i := 3) (e_op op_addD (vv 3) (e_op op_mulD (vv 4) (vv 7))) nd)
    dss_nil))))
    (dss_from [] (dss_one (ds_ret (e_tup (ea_cons (e_ix (ix_D hu) (vv 2) dx_int) (ea_cons (e_ix (ix_D hu) (vv 2) dx_int) (ea_cons (vv 3) ea_nil)))))))))
theorem ok_seen_by (B : Bl mg) (h_SMALL : ∃ t, mg "SMALL" = some (.str "abcdefghijklmnopqrstuvwxyz" t)) (h_DIGITS : ∃ t, mg "DIGITS" = some (.str "0123456789" t)) (F : FunD K "seen_by" "seen_by" (defArgs (top 32)) (defBody (top 32)) (defScope (top 32)) [] [] f fd) (hm : mg "seen_by" = some (.ref f)) : Ok0 P w K mg base false "seen_by" 1 2 F_seen_by :=
  ⟨f, fd, ["outcome", "test"], fo_seen_by B h_SMALL h_DIGITS F, hm, F.kp, F.bindsN fun _ _ _ _ _ _ us hl => match us, hl with | [_, _], _ => rfl, fun ds d => run0_len ds d⟩
theorem fo_against (B : Bl mg) (h_SMALL : ∃ t, mg "SMALL" = some (.str "abcdefghijklmnopqrstuvwxyz" t)) (h_DIGITS : ∃ t, mg "DIGITS" = some (.str "0123456789" t)) (F : FunD K "against" "against" (defArgs (top 33)) (defBody (top 33)) (defScope (top 33)) [] [] f fd) : FnOk P w K mg base CX0 1 f fd ["test"] (sp0 P w K false 1 F_against) := by
  have nd : (["test"] : List Str).Nodup := by decide +kernel
  refine ok0 (N := (["test"] : List Str)) (ps := ["test"]) (O' := []) (k := 0) (fb := b_against) false F ⟨rfl, rfl, rfl, nd, rfl, by decide +kernel, by decide +kernel⟩ fun cdv A outer s H E hr => ?_
  have hu := hr.units
  exact (dss_one (ds_ret (e_tup (ea_cons (e_ix (ix_D hu) (vv 0) dx_int) (ea_cons (e_ix (ix_D hu) (vv 0) dx_int) (ea_cons (e_op op_subD (e_un un_negD dx_int) (e_ix (ix_D hu) (vv 0) dx_int)) ea_nil))))))
theorem ok_against (B : Bl mg) (h_SMALL : ∃ t, mg "SMALL" = some (.str "abcdefghijklmnopqrstuvwxyz" t)) (h_DIGITS : ∃ t, mg "DIGITS" = some (.str "0123456789" t)) (F : FunD K "against" "against" (defArgs (top 33)) (defBody (top 33)) (defScope (top 33)) [] [] f fd) (hm : mg "against" = some (.ref f)) : Ok0 P w K mg base false "against" 1 1 F_against :=
  ⟨f, fd, ["test"], fo_against B h_SMALL h_DIGITS F, hm, F.kp, F.bindsN fun _ _ _ _ _ _ us hl => match us, hl with | [_], _ => rfl, fun ds d => run0_len ds d⟩
theorem fo_ways_on (B : Bl mg) (h_SMALL : ∃ t, mg "SMALL" = some (.str "abcdefghijklmnopqrstuvwxyz" t)) (h_DIGITS : ∃ t, mg "DIGITS" = some (.str "0123456789" t)) (fl_outcome : FldOk K ["Way"] "outcome") (fl_tests : FldOk K ["Way"] "tests") (fl_touched : FldOk K ["Way"] "touched") (m_Way : MkOk P w K mg base "Way" ["tests", "outcome", "touched"] 1) (o_is_open : Ok0 P w K mg base false "is_open" 4 1 F_is_open) (o_settled : Ok0 P w K mg base false "settled" 1 2 F_settled) (o_seen_by : Ok0 P w K mg base false "seen_by" 1 2 F_seen_by) (o_against : Ok0 P w K mg base false "against" 1 1 F_against) (F : FunD K "ways_on" "ways_on" (defArgs (top 36)) (defBody (top 36)) (defScope (top 36)) [] [] f fd) : FnOk P w K mg base CX0 5 f fd ["way", "at", "step"] (sp0 P w K false 3 F_ways_on) := by
  have nd : (["way", "at", "step", "later", "seen", "found", "spot", "test", "more"] : List Str).Nodup := by decide +kernel
  refine ok0 (N := (["way", "at", "step", "later", "seen", "found", "spot", "test", "more"] : List Str)) (ps := ["way", "at", "step"]) (O' := []) (k := 4) (fb := b_ways_on) false F ⟨rfl, rfl, rfl, nd, rfl, by decide +kernel, by decide +kernel⟩ fun cdv A outer s H E hr => ?_
  have hu := hr.units
  exact (dss_cons (ds_if (et_cmp op_is2 (e_fld fl_outcome (vv 0)) dx_non) (dss_one (ds_ret (e_lst (ea_cons (vv 0) ea_nil))))
    dss_nil)
    (dss_cons (ds_par (ps_par (i := 4) (j := 5) rfl nd (by rfl) (by rfl) (by decide) (by rfl) (by rfl) (db_cons ((f_lc [("test", 7)] rfl nd (die_any (e_ix (ix_D hu) (vv 2) dx_int)) (blkOk_by (N := (["way", "at", "step", "later", "seen", "found", "spot", "test", "more"] : List Str)) (sc := defScope (top 36)) (by decide +kernel)) (fun _ _ _ _ _ => (gn 7 nd)) (fun _ _ _ _ _ => dts_nil) (fun _ _ _ _ _ => (e_call o_seen_by hr (by decide) (by rfl) (ea_cons (e_fld fl_outcome (vv 0)) (ea_cons (vv 7) ea_nil)))))).x (db_consF (f_lst ea_nil) db_nil)) (by rfl)) (kinds_cons (kinds_cons kinds_nil)) (by decide) (by decide))
    (dss_cons (ds_for PassesOwn.never rfl (die_enum (by rfl) B.enumerate (ea_cons (vv 4) ea_nil)) (dg_tup rfl (dgs_cons (gn 6 nd) (dgs_cons (gn 7 nd) dgs_nil))) (dss_cons (ds_push (i := 5) (by rfl) (by first | exact Or.inl rfl | exact Or.inr (Or.inl rfl) | exact Or.inr (Or.inr rfl)) (by decide) (x_make m_Way hr (by decide) (by rfl) (ea_cons (e_op op_addD (e_op op_addD (e_fld fl_tests (vv 0)) (e_slice (vv 4) eo_none (eo_some (vv 6)))) (e_lst (ea_cons (e_call o_against hr (by decide) (by rfl) (ea_cons (vv 7) ea_nil)) ea_nil))) (ea_cons (e_fld fl_outcome (vv 0)) (ea_cons (e_fld fl_touched (vv 0)) ea_nil)))))
    dss_nil))
    (dss_cons (ds_setX (i := 3) (e_if (et_cmp (op_eqY hu) (e_ix (ix_D hu) (vv 2) dx_int) dx_str) dx_non (e_call o_settled hr (by decide) (by rfl) (ea_cons (e_fld fl_outcome (vv 0)) (ea_cons (e_ix (ix_D hu) (vv 2) dx_int) ea_nil)))) nd)
    (dss_from [] (dss_one (ds_ret ((f_lc [("more", 8)] rfl nd (di_any (dx_op op_addD (vv 5) (x_lst (xa_cons (x_make m_Way hr (by decide) (by rfl) (ea_cons (e_op op_addD (e_fld fl_tests (vv 0)) (vv 4)) (ea_cons (vv 3) (ea_cons (e_op op_addD (e_fld fl_touched (vv 0)) (e_lst (ea_cons (vv 1) ea_nil))) ea_nil)))) xa_nil)))) (blkOk_by (N := (["way", "at", "step", "later", "seen", "found", "spot", "test", "more"] : List Str)) (sc := defScope (top 36)) (by decide +kernel)) (fun _ _ _ _ _ => (gn 8 nd)) (fun _ _ _ _ _ => (dts_one (et_of (e_call o_is_open hr (by decide) (by rfl) (ea_cons (vv 8) ea_nil))))) (fun _ _ _ _ _ => (vv 8)))).x)))))))
theorem ok_ways_on (B : Bl mg) (h_SMALL : ∃ t, mg "SMALL" = some (.str "abcdefghijklmnopqrstuvwxyz" t)) (h_DIGITS : ∃ t, mg "DIGITS" = some (.str "0123456789" t)) (fl_outcome : FldOk K ["Way"] "outcome") (fl_tests : FldOk K ["Way"] "tests") (fl_touched : FldOk K ["Way"] "touched") (m_Way : MkOk P w K mg base "Way" ["tests", "outcome", "touched"] 1) (o_is_open : Ok0 P w K mg base false "is_open" 4 1 F_is_open) (o_settled : Ok0 P w K mg base false "settled" 1 2 F_settled) (o_seen_by : Ok0 P w K mg base false "seen_by" 1 2 F_seen_by) (o_against : Ok0 P w K mg base false "against" 1 1 F_against) (F : FunD K "ways_on" "ways_on" (defArgs (top 36)) (defBody (top 36)) (defScope (top 36)) [] [] f fd) (hm : mg "ways_on" = some (.ref f)) : Ok0 P w K mg base false "ways_on" 5 3 F_ways_on :=
  ⟨f, fd, ["way", "at", "step"], fo_ways_on B h_SMALL h_DIGITS fl_outcome fl_tests fl_touched m_Way o_is_open o_settled o_seen_by o_against F, hm, F.kp, F.bindsN fun _ _ _ _ _ _ us hl => match us, hl with | [_, _, _], _ => rfl, fun ds d => run0_len ds d⟩
theorem fo_ways_of (B : Bl mg) (h_SMALL : ∃ t, mg "SMALL" = some (.str "abcdefghijklmnopqrstuvwxyz" t)) (h_DIGITS : ∃ t, mg "DIGITS" = some (.str "0123456789" t)) (m_Way : MkOk P w K mg base "Way" ["tests", "outcome", "touched"] 1) (o_is_open : Ok0 P w K mg base false "is_open" 4 1 F_is_open) (o_ways_on : Ok0 P w K mg base false "ways_on" 5 3 F_ways_on) (F : FunD K "ways_of" "ways_of" (defArgs (top 37)) (defBody (top 37)) (defScope (top 37)) [] [] f fd) : FnOk P w K mg base CX0 6 f fd ["columns", "steps", "rule"] (sp0 P w K false 3 F_ways_of) := by
  have nd : (["columns", "steps", "rule", "found", "at", "step", "way", "more", "column"] : List Str).Nodup := by decide +kernel
  refine ok0 (N := (["columns", "steps", "rule", "found", "at", "step", "way", "more", "column"] : List Str)) (ps := ["columns", "steps", "rule"]) (O' := []) (k := 5) (fb := b_ways_of) false F ⟨rfl, rfl, rfl, nd, rfl, by decide +kernel, by decide +kernel⟩ fun cdv A outer s H E hr => ?_
  have hu := hr.units
  exact (dss_cons (ds_set (PS.imp (s_lc (i := 3) [("way", 6)] rfl nd rfl rfl (sw_true rfl rfl rfl (by decide +kernel)) (di_any (x_lst (xa_cons (x_make m_Way hr (by decide) (by rfl) (xa_cons ((f_list (by rfl) B.list (ea_cons (vv 2) ea_nil))).x (xa_cons ((f_dc [("column", 8)] hu rfl nd (die_any (vv 0)) (blkOk_by (N := (["columns", "steps", "rule", "found", "at", "step", "way", "more", "column"] : List Str)) (sc := defScope (top 37)) (by decide +kernel)) (fun _ _ _ _ _ => (gn 8 nd)) (fun _ _ _ _ _ => dts_nil) (fun _ _ _ _ _ => (vv 8)) (fun _ _ _ _ _ => (e_tup (ea_cons (vv 8) (ea_cons dx_int ea_nil)))))).x (xa_cons (e_lst ea_nil) xa_nil)))) xa_nil))) (blkOk_by (N := (["columns", "steps", "rule", "found", "at", "step", "way", "more", "column"] : List Str)) (sc := defScope (top 37)) (by decide +kernel)) (fun _ _ _ _ _ => (gn 6 nd)) (fun _ _ _ _ _ => (dts_one (et_of (e_call o_is_open hr (by decide) (by rfl) (ea_cons (vv 6) ea_nil))))) (fun _ _ _ _ _ => (vv 6))) fun _ _ _ q => tD_of_tDf q) (by decide))
    (dss_cons (ds_for PassesOwn.never rfl (die_enum (by rfl) B.enumerate (ea_cons (vv 1) ea_nil)) (dg_tup rfl (dgs_cons (gn 4 nd) (dgs_cons (gn 5 nd) dgs_nil))) (dss_cons (ds_set (PS.imp (s_lc2 (i := 3) [("way", 6), ("more", 7)] [7] rfl nd rfl rfl (sw_true rfl rfl rfl (by decide +kernel)) (die_any (vv 3)) (blkOk_by (N := (["columns", "steps", "rule", "found", "at", "step", "way", "more", "column"] : List Str)) (sc := defScope (top 37)) (by decide +kernel)) (fun _ _ _ _ _ => (gn 6 nd)) (fun _ _ _ _ _ => dts_nil) (fun _ _ _ _ _ => (die_any (e_call o_ways_on hr (by decide) (by rfl) (ea_cons (vv 6) (ea_cons (vv 4) (ea_cons (vv 5) ea_nil)))))) (fun _ _ _ _ _ => (gn 7 nd)) (fun _ _ _ _ _ => dts_nil) (fun _ _ _ _ _ => (vv 7))) fun _ _ _ q => tD_of_tDf q) (by decide))
    dss_nil))
    (dss_one (ds_ret (vv 3)))))
theorem ok_ways_of (B : Bl mg) (h_SMALL : ∃ t, mg "SMALL" = some (.str "abcdefghijklmnopqrstuvwxyz" t)) (h_DIGITS : ∃ t, mg "DIGITS" = some (.str "0123456789" t)) (m_Way : MkOk P w K mg base "Way" ["tests", "outcome", "touched"] 1) (o_is_open : Ok0 P w K mg base false "is_open" 4 1 F_is_open) (o_ways_on : Ok0 P w K mg base false "ways_on" 5 3 F_ways_on) (F : FunD K "ways_of" "ways_of" (defArgs (top 37)) (defBody (top 37)) (defScope (top 37)) [] [] f fd) (hm : mg "ways_of" = some (.ref f)) : Ok0 P w K mg base false "ways_of" 6 3 F_ways_of :=
  ⟨f, fd, ["columns", "steps", "rule"], fo_ways_of B h_SMALL h_DIGITS m_Way o_is_open o_ways_on F, hm, F.kp, F.bindsN fun _ _ _ _ _ _ us hl => match us, hl with | [_, _, _], _ => rfl, fun ds d => run0_len ds d⟩
theorem fo_unlike (B : Bl mg) (h_SMALL : ∃ t, mg "SMALL" = some (.str "abcdefghijklmnopqrstuvwxyz" t)) (h_DIGITS : ∃ t, mg "DIGITS" = some (.str "0123456789" t)) (F : FunD K "unlike" "unlike" (defArgs (top 38)) (defBody (top 38)) (defScope (top 38)) [] [] f fd) : FnOk P w K mg base CX0 1 f fd ["one", "other"] (sp0 P w K false 2 F_unlike) := by
  have nd : (["one", "other", "found", "column", "word", "much", "second", "more"] : List Str).Nodup := by decide +kernel
  refine ok0 (N := (["one", "other", "found", "column", "word", "much", "second", "more"] : List Str)) (ps := ["one", "other"]) (O' := []) (k := 0) (fb := b_unlike) false F ⟨rfl, rfl, rfl, nd, rfl, by decide +kernel, by decide +kernel⟩ fun cdv A outer s H E hr => ?_
  have hu := hr.units
  exact (dss_cons (ds_if (et_w (ew_or (et_cmp op_is2 (vv 0) dx_non) (ew_or1 (et_cmp op_is2 (vv 1) dx_non)))) (dss_one (ds_ret (e_if (et_cmp (op_eqY hu) (vv 0) (vv 1)) (e_lst ea_nil) (e_lst (ea_cons (e_lst ea_nil) ea_nil)))))
    dss_nil)
    (dss_cons (ds_setX (i := 2) (e_lst ea_nil) nd)
    (dss_cons (ds_for PassesOwn.never rfl (die_any (vv 0)) (gn 3 nd) (dss_cons (ds_asg (ps_asg (e_ix (ix_D hu) (vv 0) (vv 3)) (dg_tup rfl (dgs_cons (gn 4 nd) (dgs_cons (gn 5 nd) dgs_nil)))))
    (dss_cons (ds_asg (ps_asg (e_ix (ix_D hu) (vv 1) (vv 3)) (dg_tup rfl (dgs_cons (gn 6 nd) (dgs_cons (gn 7 nd) dgs_nil)))))
    (dss_cons (ds_setX (i := 2) (e_op op_addD (vv 2) (e_lst (ea_cons (e_lst (ea_cons (e_tup (ea_cons (vv 4) (ea_cons (vv 6) (ea_cons (e_op op_subD (e_op op_subD (vv 7) (vv 5)) dx_int) ea_nil)))) ea_nil)) (ea_cons (e_lst (ea_cons (e_tup (ea_cons (vv 6) (ea_cons (vv 4) (ea_cons (e_op op_subD (e_op op_subD (vv 5) (vv 7)) dx_int) ea_nil)))) ea_nil)) ea_nil)))) nd)
    dss_nil))))
    (dss_one (ds_ret (vv 2))))))
theorem ok_unlike (B : Bl mg) (h_SMALL : ∃ t, mg "SMALL" = some (.str "abcdefghijklmnopqrstuvwxyz" t)) (h_DIGITS : ∃ t, mg "DIGITS" = some (.str "0123456789" t)) (F : FunD K "unlike" "unlike" (defArgs (top 38)) (defBody (top 38)) (defScope (top 38)) [] [] f fd) (hm : mg "unlike" = some (.ref f)) : Ok0 P w K mg base false "unlike" 1 2 F_unlike :=
  ⟨f, fd, ["one", "other"], fo_unlike B h_SMALL h_DIGITS F, hm, F.kp, F.bindsN fun _ _ _ _ _ _ us hl => match us, hl with | [_, _], _ => rfl, fun ds d => run0_len ds d⟩
theorem fo_apart_of (B : Bl mg) (h_SMALL : ∃ t, mg "SMALL" = some (.str "abcdefghijklmnopqrstuvwxyz" t)) (h_DIGITS : ∃ t, mg "DIGITS" = some (.str "0123456789" t)) (fl_outcome : FldOk K ["Way"] "outcome") (fl_tests : FldOk K ["Way"] "tests") (o_ways_of : Ok0 P w K mg base false "ways_of" 6 3 F_ways_of) (o_unlike : Ok0 P w K mg base false "unlike" 1 2 F_unlike) (F : FunD K "apart_of" "apart_of" (defArgs (top 41)) (defBody (top 41)) (defScope (top 41)) [] [] f fd) : FnOk P w K mg base CX0 7 f fd ["columns", "one", "other", "rule"] (sp0 P w K false 4 F_apart_of) := by
  have nd : (["columns", "one", "other", "rule", "found", "way", "second", "more"] : List Str).Nodup := by decide +kernel
  refine ok0 (N := (["columns", "one", "other", "rule", "found", "way", "second", "more"] : List Str)) (ps := ["columns", "one", "other", "rule"]) (O' := []) (k := 6) (fb := b_apart_of) false F ⟨rfl, rfl, rfl, nd, rfl, by decide +kernel, by decide +kernel⟩ fun cdv A outer s H E hr => ?_
  have hu := hr.units
  exact (dss_cons (ds_setX (i := 4) (e_lst ea_nil) nd)
    (dss_cons (ds_for PassesOwn.never rfl (die_any (e_call o_ways_of hr (by decide) (by rfl) (ea_cons (vv 0) (ea_cons (vv 1) (ea_cons (vv 3) ea_nil))))) (gn 5 nd) (dss_cons (ds_for PassesOwn.never rfl (die_any (e_call o_ways_of hr (by decide) (by rfl) (ea_cons (vv 0) (ea_cons (vv 2) (ea_cons (e_fld fl_tests (vv 5)) ea_nil))))) (gn 6 nd) (dss_cons (ds_setX (i := 4) (dx_op op_addD (vv 4) ((f_lc [("more", 7)] rfl nd (die_any (e_call o_unlike hr (by decide) (by rfl) (ea_cons (e_fld fl_outcome (vv 5)) (ea_cons (e_fld fl_outcome (vv 6)) ea_nil)))) (blkOk_by (N := (["columns", "one", "other", "rule", "found", "way", "second", "more"] : List Str)) (sc := defScope (top 41)) (by decide +kernel)) (fun _ _ _ _ _ => (gn 7 nd)) (fun _ _ _ _ _ => dts_nil) (fun _ _ _ _ _ => (e_op op_addD (e_fld fl_tests (vv 6)) (vv 7))))).x) nd)
    dss_nil))
    dss_nil))
    (dss_one (ds_ret (vv 4)))))
theorem ok_apart_of (B : Bl mg) (h_SMALL : ∃ t, mg "SMALL" = some (.str "abcdefghijklmnopqrstuvwxyz" t)) (h_DIGITS : ∃ t, mg "DIGITS" = some (.str "0123456789" t)) (fl_outcome : FldOk K ["Way"] "outcome") (fl_tests : FldOk K ["Way"] "tests") (o_ways_of : Ok0 P w K mg base false "ways_of" 6 3 F_ways_of) (o_unlike : Ok0 P w K mg base false "unlike" 1 2 F_unlike) (F : FunD K "apart_of" "apart_of" (defArgs (top 41)) (defBody (top 41)) (defScope (top 41)) [] [] f fd) (hm : mg "apart_of" = some (.ref f)) : Ok0 P w K mg base false "apart_of" 7 4 F_apart_of :=
  ⟨f, fd, ["columns", "one", "other", "rule"], fo_apart_of B h_SMALL h_DIGITS fl_outcome fl_tests o_ways_of o_unlike F, hm, F.kp, F.bindsN fun _ _ _ _ _ _ us hl => match us, hl with | [_, _, _, _], _ => rfl, fun ds d => run0_len ds d⟩
theorem fo_row_of (B : Bl mg) (h_SMALL : ∃ t, mg "SMALL" = some (.str "abcdefghijklmnopqrstuvwxyz" t)) (h_DIGITS : ∃ t, mg "DIGITS" = some (.str "0123456789" t)) (o_solution_of : Ok0 P w K mg base false "solution_of" 3 1 F_solution_of) (F : FunD K "row_of" "row_of" (defArgs (top 42)) (defBody (top 42)) (defScope (top 42)) [] [] f fd) : FnOk P w K mg base CX0 4 f fd ["columns", "tests"] (sp0 P w K false 2 F_row_of) := by
  have nd : (["columns", "tests", "numbers", "column"] : List Str).Nodup := by decide +kernel
  refine ok0 (N := (["columns", "tests", "numbers", "column"] : List Str)) (ps := ["columns", "tests"]) (O' := []) (k := 3) (fb := b_row_of) false F ⟨rfl, rfl, rfl, nd, rfl, by decide +kernel, by decide +kernel⟩ fun cdv A outer s H E hr => ?_
  have hu := hr.units
  exact (dss_cons (ds_setX (i := 2) (e_call o_solution_of hr (by decide) (by rfl) (ea_cons (vv 1) ea_nil)) nd)
    (dss_one (ds_ret (x_if (et_cmp op_is2 (vv 2) dx_non) dx_non ((f_lc [("column", 3)] rfl nd (die_any (vv 0)) (blkOk_by (N := (["columns", "tests", "numbers", "column"] : List Str)) (sc := defScope (top 42)) (by decide +kernel)) (fun _ _ _ _ _ => (gn 3 nd)) (fun _ _ _ _ _ => dts_nil) (fun _ _ _ _ _ => (e_get2 hu (vv 2) (ea_cons (vv 3) (ea_cons dx_int ea_nil)) ⟨by rfl, by rfl, by rfl, by rfl⟩)))).x))))
theorem ok_row_of (B : Bl mg) (h_SMALL : ∃ t, mg "SMALL" = some (.str "abcdefghijklmnopqrstuvwxyz" t)) (h_DIGITS : ∃ t, mg "DIGITS" = some (.str "0123456789" t)) (o_solution_of : Ok0 P w K mg base false "solution_of" 3 1 F_solution_of) (F : FunD K "row_of" "row_of" (defArgs (top 42)) (defBody (top 42)) (defScope (top 42)) [] [] f fd) (hm : mg "row_of" = some (.ref f)) : Ok0 P w K mg base false "row_of" 4 2 F_row_of :=
  ⟨f, fd, ["columns", "tests"], fo_row_of B h_SMALL h_DIGITS o_solution_of F, hm, F.kp, F.bindsN fun _ _ _ _ _ _ us hl => match us, hl with | [_, _], _ => rfl, fun ds d => run0_len ds d⟩
theorem fo_parting_of (B : Bl mg) (h_SMALL : ∃ t, mg "SMALL" = some (.str "abcdefghijklmnopqrstuvwxyz" t)) (h_DIGITS : ∃ t, mg "DIGITS" = some (.str "0123456789" t)) (o_apart_of : Ok0 P w K mg base false "apart_of" 7 4 F_apart_of) (o_row_of : Ok0 P w K mg base false "row_of" 4 2 F_row_of) (F : FunD K "parting_of" "parting_of" (defArgs (top 43)) (defBody (top 43)) (defScope (top 43)) [] [] f fd) : FnOk P w K mg base CX0 8 f fd ["columns", "one", "other", "rule"] (sp0 P w K false 4 F_parting_of) := by
  have nd : (["columns", "one", "other", "rule", "tests", "row"] : List Str).Nodup := by decide +kernel
  refine ok0 (N := (["columns", "one", "other", "rule", "tests", "row"] : List Str)) (ps := ["columns", "one", "other", "rule"]) (O' := []) (k := 7) (fb := b_parting_of) false F ⟨rfl, rfl, rfl, nd, rfl, by decide +kernel, by decide +kernel⟩ fun cdv A outer s H E hr => ?_
  have hu := hr.units
  exact (dss_cons (ds_for PassesOwn.never rfl (die_any (e_call o_apart_of hr (by decide) (by rfl) (ea_cons (vv 0) (ea_cons (vv 1) (ea_cons (vv 2) (ea_cons (vv 3) ea_nil)))))) (gn 4 nd) (dss_cons (ds_setX (i := 5) (e_call o_row_of hr (by decide) (by rfl) (ea_cons (vv 0) (ea_cons (vv 4) ea_nil))) nd)
    (dss_cons (ds_if (et_cmp op_isnt2 (vv 5) dx_non) (dss_one (ds_ret (vv 5)))
    dss_nil)
    dss_nil)))
    (dss_one (ds_ret dx_non)))
theorem ok_parting_of (B : Bl mg) (h_SMALL : ∃ t, mg "SMALL" = some (.str "abcdefghijklmnopqrstuvwxyz" t)) (h_DIGITS : ∃ t, mg "DIGITS" = some (.str "0123456789" t)) (o_apart_of : Ok0 P w K mg base false "apart_of" 7 4 F_apart_of) (o_row_of : Ok0 P w K mg base false "row_of" 4 2 F_row_of) (F : FunD K "parting_of" "parting_of" (defArgs (top 43)) (defBody (top 43)) (defScope (top 43)) [] [] f fd) (hm : mg "parting_of" = some (.ref f)) : Ok0 P w K mg base false "parting_of" 8 4 F_parting_of :=
  ⟨f, fd, ["columns", "one", "other", "rule"], fo_parting_of B h_SMALL h_DIGITS o_apart_of o_row_of F, hm, F.kp, F.bindsN fun _ _ _ _ _ _ us hl => match us, hl with | [_, _, _, _], _ => rfl, fun ds d => run0_len ds d⟩
theorem fo_parting (B : Bl mg) (h_SMALL : ∃ t, mg "SMALL" = some (.str "abcdefghijklmnopqrstuvwxyz" t)) (h_DIGITS : ∃ t, mg "DIGITS" = some (.str "0123456789" t)) (o_check_scripts : Ok0 P w K mg base false "check_scripts" 8 4 F_check_scripts) (o_parting_of : Ok0 P w K mg base false "parting_of" 8 4 F_parting_of) (F : FunD K "parting" "parting" (defArgs (top 45)) (defBody (top 45)) (defScope (top 45)) [.non] [] f fd) : FnOk P w K mg base CX0 9 f fd ["columns", "one", "other", "rule"] (sp0 P w K false 4 F_parting) := by
  have nd : (["columns", "one", "other", "rule"] : List Str).Nodup := by decide +kernel
  refine ok0 (N := (["columns", "one", "other", "rule"] : List Str)) (ps := ["columns", "one", "other", "rule"]) (O' := []) (k := 8) (fb := b_parting) false F ⟨rfl, rfl, rfl, nd, rfl, by decide +kernel, by decide +kernel⟩ fun cdv A outer s H E hr => ?_
  have hu := hr.units
  exact (dss_cons (ds_setX (i := 3) (e_call o_check_scripts hr (by decide) (by rfl) (ea_cons (vv 0) (ea_cons (vv 1) (ea_cons (vv 2) (ea_cons (vv 3) ea_nil))))) nd)
    (dss_one (ds_ret (e_call o_parting_of hr (by decide) (by rfl) (ea_cons (vv 0) (ea_cons (vv 1) (ea_cons (vv 2) (ea_cons (vv 3) ea_nil))))))))
theorem fo_ring_of (B : Bl mg) (h_SMALL : ∃ t, mg "SMALL" = some (.str "abcdefghijklmnopqrstuvwxyz" t)) (h_DIGITS : ∃ t, mg "DIGITS" = some (.str "0123456789" t)) (o_relaxed : Ok0 P w K mg base false "relaxed" 2 1 F_relaxed) (F : FunD K "ring_of" "ring_of" (defArgs (top 18)) (defBody (top 18)) (defScope (top 18)) [] [] f fd) : FnOk P w K mg base CX0 3 f fd ["tests"] (sp0 P w K false 1 F_ring_of) := by
  have nd : (["tests", "turn", "start", "least", "back", "moving", "node", "found"] : List Str).Nodup := by decide +kernel
  refine ok0 (N := (["tests", "turn", "start", "least", "back", "moving", "node", "found"] : List Str)) (ps := ["tests"]) (O' := []) (k := 2) (fb := b_ring_of) false F ⟨rfl, rfl, rfl, nd, rfl, by decide +kernel, by decide +kernel⟩ fun cdv A outer s H E hr => ?_
  have hu := hr.units
  exact (dss_cons (ds_asg (ps_asg (e_call o_relaxed hr (by decide) (by rfl) (ea_cons (vv 0) ea_nil)) (dg_tup rfl (dgs_cons (gn 3 nd) (dgs_cons (gn 4 nd) (dgs_cons (gn 5 nd) dgs_nil))))))
    (dss_cons (ds_if (et_cmp (op_eqY hu) (vv 5) (e_lst ea_nil)) (dss_one (ds_ret dx_non))
    dss_nil)
    (dss_cons (ds_par (ps_par (i := 6) (j := 7) rfl nd (by rfl) (by rfl) (by decide) (by rfl) (by rfl) (db_cons (e_ix (ix_D hu) (vv 5) dx_int) (db_consF (f_lst ea_nil) db_nil)) (by rfl)) (kinds_cons (kinds_cons kinds_nil)) (by decide) (by decide))
    (dss_cons (ds_for PassesOwn.never rfl (die_any (vv 3)) (gn 1 nd) (dss_cons (ds_setX (i := 6) (e_ix (ix_D hu) (e_ix (ix_D hu) (vv 0) (e_ix (ix_D hu) (vv 4) (vv 6))) dx_int) nd)
    dss_nil))
    (dss_cons (ds_setX (i := 2) (vv 6) nd)
    (dss_cons (ds_while 100 PassesOwn.never (et_w (ew_or (et_pk (et_cmp (op_eqY hu) (vv 7) (e_lst ea_nil))) (ew_or1 (et_cmp (op_neY hu) (vv 6) (vv 2))))) (dss_cons (ds_push (i := 7) (by rfl) (by first | exact Or.inl rfl | exact Or.inr (Or.inl rfl) | exact Or.inr (Or.inr rfl)) (by decide) (e_ix (ix_D hu) (vv 4) (vv 6)))
    (dss_cons (ds_setX (i := 6) (e_ix (ix_D hu) (e_ix (ix_D hu) (vv 0) (e_ix (ix_D hu) (vv 4) (vv 6))) dx_int) nd)
    dss_nil)))
    (dss_from [] (dss_one (ds_ret (vv 7))))))))))
theorem ok_ring_of (B : Bl mg) (h_SMALL : ∃ t, mg "SMALL" = some (.str "abcdefghijklmnopqrstuvwxyz" t)) (h_DIGITS : ∃ t, mg "DIGITS" = some (.str "0123456789" t)) (o_relaxed : Ok0 P w K mg base false "relaxed" 2 1 F_relaxed) (F : FunD K "ring_of" "ring_of" (defArgs (top 18)) (defBody (top 18)) (defScope (top 18)) [] [] f fd) (hm : mg "ring_of" = some (.ref f)) : Ok0 P w K mg base false "ring_of" 3 1 F_ring_of :=
  ⟨f, fd, ["tests"], fo_ring_of B h_SMALL h_DIGITS o_relaxed F, hm, F.kp, F.bindsN fun _ _ _ _ _ _ us hl => match us, hl with | [_], _ => rfl, fun ds d => run0_len ds d⟩
theorem fo_best_of (B : Bl mg) (h_SMALL : ∃ t, mg "SMALL" = some (.str "abcdefghijklmnopqrstuvwxyz" t)) (h_DIGITS : ∃ t, mg "DIGITS" = some (.str "0123456789" t)) (o_words_of : Ok0 P w K mg base false "words_of" 1 1 F_words_of) (o_ring_of : Ok0 P w K mg base false "ring_of" 3 1 F_ring_of) (F : FunD K "best_of" "best_of" (defArgs (top 20)) (defBody (top 20)) (defScope (top 20)) [] [] f fd) : FnOk P w K mg base CX0 4 f fd ["tests"] (sp0 P w K false 1 F_best_of) := by
  have nd : (["tests", "middle", "nodes", "best", "one", "other", "much"] : List Str).Nodup := by decide +kernel
  refine ok0 (N := (["tests", "middle", "nodes", "best", "one", "other", "much"] : List Str)) (ps := ["tests"]) (O' := []) (k := 3) (fb := b_best_of) false F ⟨rfl, rfl, rfl, nd, rfl, by decide +kernel, by decide +kernel⟩ fun cdv A outer s H E hr => ?_
  have hu := hr.units
  exact (dss_cons (ds_if (et_cmp op_isnt2 (e_call o_ring_of hr (by decide) (by rfl) (ea_cons (vv 0) ea_nil)) dx_non) (dss_one (ds_ret dx_non))
    dss_nil)
    (dss_cons (ds_par (ps_par (i := 2) (j := 3) rfl nd (by rfl) (by rfl) (by decide) (by rfl) (by rfl) (db_cons (e_op op_addD (e_call o_words_of hr (by decide) (by rfl) (ea_cons (vv 0) ea_nil)) (e_lst (ea_cons dx_non ea_nil))) (db_consF f_dict0 db_nil)) (by rfl)) (kinds_cons (kinds_cons kinds_nil)) (by decide) (by decide))
    (dss_cons (ds_for PassesOwn.never rfl (die_any (vv 0)) (dg_tup rfl (dgs_cons (gn 4 nd) (dgs_cons (gn 5 nd) (dgs_cons (gn 6 nd) dgs_nil)))) (dss_cons (ds_put (i := 3) hu (by rfl) (by first | exact Or.inl rfl | exact Or.inr (Or.inl rfl) | exact Or.inr (Or.inr rfl)) (by decide) (e_blt (call_min2D rfl) (by rfl) B.min boot_min (ea_cons (vv 6) (ea_cons (e_pk (e_get2 hu (vv 3) (ea_cons (e_tup (ea_cons (vv 4) (ea_cons (vv 5) ea_nil))) (ea_cons (vv 6) ea_nil)) ⟨by rfl, by rfl, by rfl, by rfl⟩)) ea_nil))) (e_tup (ea_cons (vv 4) (ea_cons (vv 5) ea_nil))))
    dss_nil))
    (dss_cons (ds_for PassesOwn.never rfl (die_any (vv 2)) (gn 1 nd) (dss_cons (ds_for PassesOwn.never rfl (die_any (vv 2)) (gn 4 nd) (dss_cons (ds_if (et_pk (et_cmp (op_inX hu) (e_tup (ea_cons (vv 4) (ea_cons (vv 1) ea_nil))) (vv 3))) (dss_cons (ds_for PassesOwn.never rfl (die_any (vv 2)) (gn 5 nd) (dss_cons (ds_if (et_pk (et_cmp (op_inX hu) (e_tup (ea_cons (vv 1) (ea_cons (vv 5) ea_nil))) (vv 3))) (dss_cons (ds_setX (i := 6) (e_op op_addD (e_pk (e_ix (ix_D hu) (vv 3) (e_tup (ea_cons (vv 4) (ea_cons (vv 1) ea_nil))))) (e_pk (e_ix (ix_D hu) (vv 3) (e_tup (ea_cons (vv 1) (ea_cons (vv 5) ea_nil)))))) nd)
    (dss_cons (ds_put (i := 3) hu (by rfl) (by first | exact Or.inl rfl | exact Or.inr (Or.inl rfl) | exact Or.inr (Or.inr rfl)) (by decide) (e_blt (call_min2D rfl) (by rfl) B.min boot_min (ea_cons (vv 6) (ea_cons (e_pk (e_get2 hu (vv 3) (ea_cons (e_tup (ea_cons (vv 4) (ea_cons (vv 5) ea_nil))) (ea_cons (vv 6) ea_nil)) ⟨by rfl, by rfl, by rfl, by rfl⟩)) ea_nil))) (e_tup (ea_cons (vv 4) (ea_cons (vv 5) ea_nil))))
    dss_nil))
    dss_nil)
    dss_nil))
    dss_nil)
    dss_nil)
    dss_nil))
    dss_nil))
    (dss_from [] (dss_one (ds_ret (vv 3))))))))
theorem ok_best_of (B : Bl mg) (h_SMALL : ∃ t, mg "SMALL" = some (.str "abcdefghijklmnopqrstuvwxyz" t)) (h_DIGITS : ∃ t, mg "DIGITS" = some (.str "0123456789" t)) (o_words_of : Ok0 P w K mg base false "words_of" 1 1 F_words_of) (o_ring_of : Ok0 P w K mg base false "ring_of" 3 1 F_ring_of) (F : FunD K "best_of" "best_of" (defArgs (top 20)) (defBody (top 20)) (defScope (top 20)) [] [] f fd) (hm : mg "best_of" = some (.ref f)) : Ok0 P w K mg base false "best_of" 4 1 F_best_of :=
  ⟨f, fd, ["tests"], fo_best_of B h_SMALL h_DIGITS o_words_of o_ring_of F, hm, F.kp, F.bindsN fun _ _ _ _ _ _ us hl => match us, hl with | [_], _ => rfl, fun ds d => run0_len ds d⟩
theorem fo_by_words (B : Bl mg) (h_SMALL : ∃ t, mg "SMALL" = some (.str "abcdefghijklmnopqrstuvwxyz" t)) (h_DIGITS : ∃ t, mg "DIGITS" = some (.str "0123456789" t)) (F : FunD K "by_words" "by_words" (defArgs (top 21)) (defBody (top 21)) (defScope (top 21)) [] [] f fd) : FnOk P w K mg base CX0 1 f fd ["test"] (sp0 P w K false 1 F_by_words) := by
  have nd : (["test"] : List Str).Nodup := by decide +kernel
  refine ok0 (N := (["test"] : List Str)) (ps := ["test"]) (O' := []) (k := 0) (fb := b_by_words) false F ⟨rfl, rfl, rfl, nd, rfl, by decide +kernel, by decide +kernel⟩ fun cdv A outer s H E hr => ?_
  have hu := hr.units
  exact (dss_one (ds_ret (e_tup (ea_cons (e_or (e_ix (ix_D hu) (vv 0) dx_int) (e_one dx_str)) (ea_cons (e_or (e_ix (ix_D hu) (vv 0) dx_int) (e_one dx_str)) (ea_cons (e_ix (ix_D hu) (vv 0) dx_int) ea_nil))))))
theorem ok_by_words (B : Bl mg) (h_SMALL : ∃ t, mg "SMALL" = some (.str "abcdefghijklmnopqrstuvwxyz" t)) (h_DIGITS : ∃ t, mg "DIGITS" = some (.str "0123456789" t)) (F : FunD K "by_words" "by_words" (defArgs (top 21)) (defBody (top 21)) (defScope (top 21)) [] [] f fd) (hm : mg "by_words" = some (.ref f)) : Ok0 P w K mg base false "by_words" 1 1 F_by_words :=
  ⟨f, fd, ["test"], fo_by_words B h_SMALL h_DIGITS F, hm, F.kp, F.bindsN fun _ _ _ _ _ _ us hl => match us, hl with | [_], _ => rfl, fun ds d => run0_len ds d⟩
theorem fo_closure_of (B : Bl mg) (h_SMALL : ∃ t, mg "SMALL" = some (.str "abcdefghijklmnopqrstuvwxyz" t)) (h_DIGITS : ∃ t, mg "DIGITS" = some (.str "0123456789" t)) (o_best_of : Ok0 P w K mg base false "best_of" 4 1 F_best_of) (o_by_words : Ok0 P w K mg base false "by_words" 1 1 F_by_words) (F : FunD K "closure_of" "closure_of" (defArgs (top 22)) (defBody (top 22)) (defScope (top 22)) [] [] f fd) : FnOk P w K mg base CX0 5 f fd ["tests"] (sp0 P w K false 1 F_closure_of) := by
  have nd : (["tests", "best", "one", "other"] : List Str).Nodup := by decide +kernel
  refine ok0 (N := (["tests", "best", "one", "other"] : List Str)) (ps := ["tests"]) (O' := []) (k := 4) (fb := b_closure_of) false F ⟨rfl, rfl, rfl, nd, rfl, by decide +kernel, by decide +kernel⟩ fun cdv A outer s H E hr => ?_
  have hu := hr.units
  exact (dss_cons (ds_setX (i := 1) (e_call o_best_of hr (by decide) (by rfl) (ea_cons (vv 0) ea_nil)) nd)
    (dss_cons (ds_if (et_cmp op_is2 (vv 1) dx_non) (dss_one (ds_ret dx_non))
    dss_nil)
    (dss_one (ds_ret ((f_sortBy o_by_words hr (by decide) (by rfl) (by rfl) B.sorted ((f_lc [("one", 2), ("other", 3)] rfl nd (die_any (vv 1)) (blkOk_by (N := (["tests", "best", "one", "other"] : List Str)) (sc := defScope (top 22)) (by decide +kernel)) (fun _ _ _ _ _ => (dg_tup rfl (dgs_cons (gn 2 nd) (dgs_cons (gn 3 nd) dgs_nil)))) (fun _ _ _ _ _ => (dts_one (et_cmp (op_neY hu) (vv 2) (vv 3)))) (fun _ _ _ _ _ => (e_tup (ea_cons (vv 2) (ea_cons (vv 3) (ea_cons (e_ix (ix_D hu) (vv 1) (e_tup (ea_cons (vv 2) (ea_cons (vv 3) ea_nil)))) ea_nil))))))).x)).x))))
theorem ok_closure_of (B : Bl mg) (h_SMALL : ∃ t, mg "SMALL" = some (.str "abcdefghijklmnopqrstuvwxyz" t)) (h_DIGITS : ∃ t, mg "DIGITS" = some (.str "0123456789" t)) (o_best_of : Ok0 P w K mg base false "best_of" 4 1 F_best_of) (o_by_words : Ok0 P w K mg base false "by_words" 1 1 F_by_words) (F : FunD K "closure_of" "closure_of" (defArgs (top 22)) (defBody (top 22)) (defScope (top 22)) [] [] f fd) (hm : mg "closure_of" = some (.ref f)) : Ok0 P w K mg base false "closure_of" 5 1 F_closure_of :=
  ⟨f, fd, ["tests"], fo_closure_of B h_SMALL h_DIGITS o_best_of o_by_words F, hm, F.kp, F.bindsN fun _ _ _ _ _ _ us hl => match us, hl with | [_], _ => rfl, fun ds d => run0_len ds d⟩
theorem fo_lists_of (B : Bl mg) (h_SMALL : ∃ t, mg "SMALL" = some (.str "abcdefghijklmnopqrstuvwxyz" t)) (h_DIGITS : ∃ t, mg "DIGITS" = some (.str "0123456789" t)) (o_closure_of : Ok0 P w K mg base false "closure_of" 5 1 F_closure_of) (F : FunD K "lists_of" "lists_of" (defArgs (top 39)) (defBody (top 39)) (defScope (top 39)) [] [] f fd) : FnOk P w K mg base CX0 6 f fd ["systems"] (sp0 P w K false 1 F_lists_of) := by
  have nd : (["systems", "found", "tests", "closed"] : List Str).Nodup := by decide +kernel
  refine ok0 (N := (["systems", "found", "tests", "closed"] : List Str)) (ps := ["systems"]) (O' := []) (k := 5) (fb := b_lists_of) false F ⟨rfl, rfl, rfl, nd, rfl, by decide +kernel, by decide +kernel⟩ fun cdv A outer s H E hr => ?_
  have hu := hr.units
  exact (dss_cons (ds_setFX (i := 1) (f_lst ea_nil) nd)
    (dss_cons (ds_for PassesOwn.never rfl (die_any (vv 0)) (gn 2 nd) (dss_cons (ds_setX (i := 3) (e_call o_closure_of hr (by decide) (by rfl) (ea_cons (vv 2) ea_nil)) nd)
    (dss_cons (ds_if (et_w (ew_and (et_cmp op_isnt2 (vv 3) dx_non) (ew_and1 (et_pk (et_cmp (op_notInX hu) (vv 3) (vv 1)))))) (dss_cons (ds_push (i := 1) (by rfl) (by first | exact Or.inl rfl | exact Or.inr (Or.inl rfl) | exact Or.inr (Or.inr rfl)) (by decide) (vv 3))
    dss_nil)
    dss_nil)
    dss_nil)))
    (dss_from [] (dss_one (ds_ret (vv 1))))))
theorem ok_lists_of (B : Bl mg) (h_SMALL : ∃ t, mg "SMALL" = some (.str "abcdefghijklmnopqrstuvwxyz" t)) (h_DIGITS : ∃ t, mg "DIGITS" = some (.str "0123456789" t)) (o_closure_of : Ok0 P w K mg base false "closure_of" 5 1 F_closure_of) (F : FunD K "lists_of" "lists_of" (defArgs (top 39)) (defBody (top 39)) (defScope (top 39)) [] [] f fd) (hm : mg "lists_of" = some (.ref f)) : Ok0 P w K mg base false "lists_of" 6 1 F_lists_of :=
  ⟨f, fd, ["systems"], fo_lists_of B h_SMALL h_DIGITS o_closure_of F, hm, F.kp, F.bindsN fun _ _ _ _ _ _ us hl => match us, hl with | [_], _ => rfl, fun ds d => run0_len ds d⟩
theorem fo_parted (B : Bl mg) (h_SMALL : ∃ t, mg "SMALL" = some (.str "abcdefghijklmnopqrstuvwxyz" t)) (h_DIGITS : ∃ t, mg "DIGITS" = some (.str "0123456789" t)) (o_check_scripts : Ok0 P w K mg base false "check_scripts" 8 4 F_check_scripts) (o_apart_of : Ok0 P w K mg base false "apart_of" 7 4 F_apart_of) (o_lists_of : Ok0 P w K mg base false "lists_of" 6 1 F_lists_of) (F : FunD K "parted" "parted" (defArgs (top 46)) (defBody (top 46)) (defScope (top 46)) [.non] [] f fd) : FnOk P w K mg base CX0 9 f fd ["columns", "one", "other", "rule"] (sp0 P w K false 4 F_parted) := by
  have nd : (["columns", "one", "other", "rule"] : List Str).Nodup := by decide +kernel
  refine ok0 (N := (["columns", "one", "other", "rule"] : List Str)) (ps := ["columns", "one", "other", "rule"]) (O' := []) (k := 8) (fb := b_parted) false F ⟨rfl, rfl, rfl, nd, rfl, by decide +kernel, by decide +kernel⟩ fun cdv A outer s H E hr => ?_
  have hu := hr.units
  exact (dss_cons (ds_setX (i := 3) (e_call o_check_scripts hr (by decide) (by rfl) (ea_cons (vv 0) (ea_cons (vv 1) (ea_cons (vv 2) (ea_cons (vv 3) ea_nil))))) nd)
    (dss_one (ds_ret (e_call o_lists_of hr (by decide) (by rfl) (ea_cons (e_call o_apart_of hr (by decide) (by rfl) (ea_cons (vv 0) (ea_cons (vv 1) (ea_cons (vv 2) (ea_cons (vv 3) ea_nil))))) ea_nil)))))
theorem fo__law_mixed (B : Bl mg) (h_SMALL : ∃ t, mg "SMALL" = some (.str "abcdefghijklmnopqrstuvwxyz" t)) (h_DIGITS : ∃ t, mg "DIGITS" = some (.str "0123456789" t)) (F : FunD K "_law_mixed" "_law_mixed" (defArgs (top 49)) (defBody (top 49)) (defScope (top 49)) [] [] f fd) : FnOk P w K mg base CX0 1 f fd ["_law_seed", "_law_turn", "_law_at"] (sp0 P w K false 3 F__law_mixed) := by
  have nd : (["_law_seed", "_law_turn", "_law_at", "_law_mixed_here"] : List Str).Nodup := by decide +kernel
  refine ok0 (N := (["_law_seed", "_law_turn", "_law_at", "_law_mixed_here"] : List Str)) (ps := ["_law_seed", "_law_turn", "_law_at"]) (O' := []) (k := 0) (fb := b__law_mixed) false F ⟨rfl, rfl, rfl, nd, rfl, by decide +kernel, by decide +kernel⟩ fun cdv A outer s H E hr => ?_
  have hu := hr.units
  exact (dss_cons (ds_setX (i := 3) (e_op op_addD (e_op op_mulD (vv 0) dx_int) (e_op op_mulD (e_op op_mulD dx_int (vv 1)) (vv 1))) nd)
    (dss_cons (ds_setX (i := 3) (e_op op_modD (e_op op_addD (e_op op_addD (vv 3) (e_op op_mulD dx_int (vv 2))) (vv 1)) dx_int) nd)
    (dss_cons (ds_setX (i := 3) (e_op op_modD (e_op op_addD (e_op op_mulD (vv 3) (vv 3)) dx_int) dx_int) nd)
    (dss_one (ds_ret (e_op op_modD (e_op op_mulD (vv 3) dx_int) dx_int))))))
theorem ok__law_mixed (B : Bl mg) (h_SMALL : ∃ t, mg "SMALL" = some (.str "abcdefghijklmnopqrstuvwxyz" t)) (h_DIGITS : ∃ t, mg "DIGITS" = some (.str "0123456789" t)) (F : FunD K "_law_mixed" "_law_mixed" (defArgs (top 49)) (defBody (top 49)) (defScope (top 49)) [] [] f fd) (hm : mg "_law_mixed" = some (.ref f)) : Ok0 P w K mg base false "_law_mixed" 1 3 F__law_mixed :=
  ⟨f, fd, ["_law_seed", "_law_turn", "_law_at"], fo__law_mixed B h_SMALL h_DIGITS F, hm, F.kp, F.bindsN fun _ _ _ _ _ _ us hl => match us, hl with | [_, _, _], _ => rfl, fun ds d => run0_len ds d⟩
theorem fo__law_draw (B : Bl mg) (h_SMALL : ∃ t, mg "SMALL" = some (.str "abcdefghijklmnopqrstuvwxyz" t)) (h_DIGITS : ∃ t, mg "DIGITS" = some (.str "0123456789" t)) (o__law_mixed : Ok0 P w K mg base false "_law_mixed" 1 3 F__law_mixed) (F : FunD K "_law_draw" "_law_draw" (defArgs (top 50)) (defBody (top 50)) (defScope (top 50)) [] [] f fd) : FnOk P w K mg base CX0 2 f fd ["_law_purse_here", "_law_many"] (sp1 P w K false 2 F__law_draw) := by
  have nd : (["_law_purse_here", "_law_many", "_law_found", "_law_piece", "_law_drawn"] : List Str).Nodup := by decide +kernel
  refine ok1 (N := (["_law_purse_here", "_law_many", "_law_found", "_law_piece", "_law_drawn"] : List Str)) (ps := ["_law_purse_here", "_law_many"]) (O' := []) (k := 1) (fb := b__law_draw) false F ⟨rfl, rfl, rfl, nd, rfl, by decide +kernel, by decide +kernel⟩ fun cdv A outer s H E hr => ?_
  have hu := hr.units
  exact (dss_cons (ds_if (et_cmp op_gtD (e_pk (e_ix (ix_D hu) (vv 0) dx_int)) dx_int) (dss_cons (ds_setX (i := 4) (e_op op_modD (e_pk (e_ix (ix_D hu) (vv 0) dx_int)) (vv 1)) nd)
    (dss_cons (ds_put (i := 0) hu (by rfl) (by first | exact Or.inl rfl | exact Or.inr (Or.inl rfl) | exact Or.inr (Or.inr rfl)) (by decide) (e_op op_fdivD (e_pk (e_ix (ix_D hu) (vv 0) dx_int)) (vv 1)) dx_int)
    (dss_one (ds_ret (vv 4)))))
    dss_nil)
    (dss_cons (ds_setX (i := 2) dx_int nd)
    (dss_cons (ds_for PassesOwn.never rfl (die_range1 (by rfl) B.range (ea_cons (e_op op_addD dx_int (e_op op_fdivD (e_bits (vv 1)) dx_int)) ea_nil)) (gn 3 nd) (dss_cons (ds_put (i := 0) hu (by rfl) (by first | exact Or.inl rfl | exact Or.inr (Or.inl rfl) | exact Or.inr (Or.inr rfl)) (by decide) (e_op op_addD (e_pk (e_ix (ix_D hu) (vv 0) dx_int)) dx_int) dx_int)
    (dss_cons (ds_setX (i := 2) (e_op op_addD (e_op op_mulD (vv 2) dx_int) (e_call o__law_mixed hr (by decide) (by rfl) (ea_cons (e_pk (e_ix (ix_D hu) (vv 0) dx_int)) (ea_cons (e_pk (e_ix (ix_D hu) (vv 0) dx_int)) (ea_cons (e_pk (e_ix (ix_D hu) (vv 0) dx_int)) ea_nil))))) nd)
    dss_nil)))
    (dss_one (ds_ret (e_op op_modD (vv 2) (vv 1)))))))
theorem ok__law_draw (B : Bl mg) (h_SMALL : ∃ t, mg "SMALL" = some (.str "abcdefghijklmnopqrstuvwxyz" t)) (h_DIGITS : ∃ t, mg "DIGITS" = some (.str "0123456789" t)) (o__law_mixed : Ok0 P w K mg base false "_law_mixed" 1 3 F__law_mixed) (F : FunD K "_law_draw" "_law_draw" (defArgs (top 50)) (defBody (top 50)) (defScope (top 50)) [] [] f fd) (hm : mg "_law_draw" = some (.ref f)) : Ok1 P w K mg base false "_law_draw" 2 2 F__law_draw :=
  ⟨f, fd, ["_law_purse_here", "_law_many"], fo__law_draw B h_SMALL h_DIGITS o__law_mixed F, hm, F.kp, F.bindsN fun _ _ _ _ _ _ us hl => match us, hl with | [_, _], _ => rfl, fun d0 ds d => run1_len d0 ds d⟩
theorem fo_law (B : Bl mg) (h_SMALL : ∃ t, mg "SMALL" = some (.str "abcdefghijklmnopqrstuvwxyz" t)) (h_DIGITS : ∃ t, mg "DIGITS" = some (.str "0123456789" t)) (o__law_purses : OkW P w K mg base "_law_purses" 2 2 F__law_purses) (o__law_draw : Ok1 P w K mg base false "_law_draw" 2 2 F__law_draw) (k_parting_0 : OkN P w K mg base "parting" 9 0 ["rule", "other", "one", "columns"] 4 [3, 2, 1, 0] [] F_parting) (k_parting_1 : OkN P w K mg base "parting" 9 4 [] 4 [0, 1, 2, 3] [] F_parting) (k_parted_2 : OkN P w K mg base "parted" 9 0 ["rule", "other", "one", "columns"] 4 [3, 2, 1, 0] [] F_parted) (k_parted_3 : OkN P w K mg base "parted" 9 4 [] 4 [0, 1, 2, 3] [] F_parted) (k_parting_4 : OkN P w K mg base "parting" 9 0 ["other", "one", "columns"] 4 [2, 1, 0, 3] [.non] F_parting) (k_parted_5 : OkN P w K mg base "parted" 9 0 ["other", "one", "columns"] 4 [2, 1, 0, 3] [.non] F_parted) (F : FunD K "law" "law" (defArgs (top 52)) (defBody (top 52)) (defScope (top 52)) [] [] f fd) : FnOk P w K mg base CX0 10 f fd ["_law_script"] (sp0 P w K false 1 F_law) := by
  have nd : (["_law_script", "_law_purse_here", "_law_row", "_law_later", "_law_wanted"] : List Str).Nodup := by decide +kernel
  refine ok0 (N := (["_law_script", "_law_purse_here", "_law_row", "_law_later", "_law_wanted"] : List Str)) (ps := ["_law_script"]) (O' := []) (k := 9) (fb := b_law) false F ⟨rfl, rfl, rfl, nd, rfl, by decide +kernel, by decide +kernel⟩ fun cdv A outer s H E hr => ?_
  have hu := hr.units
  exact (dss_cons (ds_forW PassesOwn.never rfl (w_call o__law_purses hr (by decide) (by rfl) (ea_cons (vv 0) (ea_cons dx_int ea_nil))) nd (by rfl) (by first | exact Or.inl rfl | exact Or.inr rfl) (by decide) (by decide) (by decide) (dss_cons (ds_setX (i := 2) (x_lst (xa_cons (x_tup (xa_cons dx_str (xa_cons (x_lst (xa_cons (x_tup (xa_cons dx_str (xa_cons dx_non (xa_cons (x_call1 (i := 1) o__law_draw hr (by decide) (by rfl) (by rfl) (by first | exact Or.inl rfl | exact Or.inr (Or.inl rfl) | exact Or.inr (Or.inr rfl)) (by decide) (ea_cons dx_int ea_nil)) xa_nil)))) xa_nil)) (xa_cons ((f_dct (dp_cons dx_str (e_tup (ea_cons dx_str (ea_cons dx_int ea_nil))) dp_nil))).x xa_nil)))) xa_nil)) nd)
    (dss_cons (ds_par (ps_par (i := 3) (j := 4) rfl nd (by rfl) (by rfl) (by decide) (by rfl) (by rfl) (db_cons (x_lst (xa_cons (x_tup (xa_cons dx_str (xa_cons (x_lst (xa_cons (x_tup (xa_cons dx_non (xa_cons dx_str (xa_cons (dx_un un_negD (x_call1 (i := 1) o__law_draw hr (by decide) (by rfl) (by rfl) (by first | exact Or.inl rfl | exact Or.inr (Or.inl rfl) | exact Or.inr (Or.inr rfl)) (by decide) (ea_cons dx_int ea_nil))) xa_nil)))) xa_nil)) xa_nil))) xa_nil)) (db_cons (x_lst (xa_cons (x_tup (xa_cons dx_str (xa_cons dx_non (xa_cons (x_call1 (i := 1) o__law_draw hr (by decide) (by rfl) (by rfl) (by first | exact Or.inl rfl | exact Or.inr (Or.inl rfl) | exact Or.inr (Or.inr rfl)) (by decide) (ea_cons dx_int ea_nil)) xa_nil)))) xa_nil)) db_nil)) (by rfl)) (kinds_cons (kinds_cons kinds_nil)) (by decide) (by decide))
    (dss_cons (ds_if (xt_cmp (op_neY hu) (x_callN0 k_parting_0 hr (by decide) (by rfl) (dk_cons (vv 4) (dk_cons (vv 3) (dk_cons (vv 2) (dk_cons (e_lst (ea_cons dx_str ea_nil)) dk_nil))))) (x_callN k_parting_1 hr (by decide) (by rfl) (xa_cons (e_lst (ea_cons dx_str ea_nil)) (xa_cons (vv 2) (xa_cons (vv 3) (xa_cons (vv 4) xa_nil)))) dk_nil (hlen := (cl (cl (cl (cl nl))))))) (dss_from [] (dss_one (ds_ret dx_bl)))
    dss_nil)
    (dss_cons (ds_if (xt_cmp (op_neY hu) (x_callN0 k_parted_2 hr (by decide) (by rfl) (dk_cons (vv 4) (dk_cons (vv 3) (dk_cons (vv 2) (dk_cons (e_lst (ea_cons dx_str ea_nil)) dk_nil))))) (x_callN k_parted_3 hr (by decide) (by rfl) (xa_cons (e_lst (ea_cons dx_str ea_nil)) (xa_cons (vv 2) (xa_cons (vv 3) (xa_cons (vv 4) xa_nil)))) dk_nil (hlen := (cl (cl (cl (cl nl))))))) (dss_from [] (dss_one (ds_ret dx_bl)))
    dss_nil)
    (dss_cons (ds_if (xt_cmp (op_neY hu) (x_callN0 k_parting_4 hr (by decide) (by rfl) (dk_cons (vv 3) (dk_cons (vv 2) (dk_cons (e_lst (ea_cons dx_str ea_nil)) dk_nil)))) (x_callN k_parting_1 hr (by decide) (by rfl) (xa_cons (e_lst (ea_cons dx_str ea_nil)) (xa_cons (vv 2) (xa_cons (vv 3) (xa_cons (e_lst ea_nil) xa_nil)))) dk_nil (hlen := (cl (cl (cl (cl nl))))))) (dss_from [] (dss_one (ds_ret dx_bl)))
    dss_nil)
    (dss_cons (ds_if (xt_cmp (op_neY hu) (x_callN0 k_parted_5 hr (by decide) (by rfl) (dk_cons (vv 3) (dk_cons (vv 2) (dk_cons (e_lst (ea_cons dx_str ea_nil)) dk_nil)))) (x_callN k_parted_3 hr (by decide) (by rfl) (xa_cons (e_lst (ea_cons dx_str ea_nil)) (xa_cons (vv 2) (xa_cons (vv 3) (xa_cons (e_lst ea_nil) xa_nil)))) dk_nil (hlen := (cl (cl (cl (cl nl))))))) (dss_from [] (dss_one (ds_ret dx_bl)))
    dss_nil)
    dss_nil)))))))
    (dss_one (ds_ret dx_bl)))
end
def dd (x : Str) (i : Nat) : He.DefD := ⟨(x, none), x, x, defArgs (top i), defBody (top i), defScope (top i), [], []⟩
def de (x : Str) (i : Nat) : He.DefD := ⟨(x, none), x, x, defArgs (top i), defBody (top i), defScope (top i), [.non], []⟩
def dm_Way : He.DefD := ⟨("Way", some "__init__"), "__init__", "Way.__init__", defArgs (meth 31 0), defBody (meth 31 0), defScope (meth 31 0), [], []⟩
def fn : List He.DefD := ([dd "_law_purse" 48, dd "_law_purses" 51, dd "is_name" 9, dd "check_columns" 24, dd "is_whole" 8, dd "are_settings" 25, dd "is_digits" 10, dd "is_word" 11, dd "is_test" 12, dd "are_tests" 13, dd "are_tests_over" 14, dd "is_statement" 26, dd "check_steps" 27, dd "check_rule" 28, dd "rule_of" 29, dd "check_scripts" 44, dd "words_of" 16, dd "relaxed" 17, dd "solution_of" 19, dd "is_open" 35, dd "settled" 34, dd "seen_by" 32, dd "against" 33, dd "ways_on" 36, dd "ways_of" 37, dd "unlike" 38, dd "apart_of" 41, dd "row_of" 42, dd "parting_of" 43, de "parting" 45] : List He.DefD) ++ ([dd "ring_of" 18, dd "best_of" 20, dd "by_words" 21, dd "closure_of" 22, dd "lists_of" 39, de "parted" 46, dd "_law_mixed" 49, dd "_law_draw" 50, dd "law" 52, dm_Way] : List He.DefD)
def fa : List He.Fa := ([.glo "_law_purse", .glo "_law_purses", .glo "is_name", .glo "check_columns", .glo "is_whole", .glo "are_settings", .glo "is_digits", .glo "is_word", .glo "is_test", .glo "are_tests", .glo "are_tests_over", .glo "is_statement", .glo "check_steps", .glo "check_rule", .glo "rule_of", .glo "check_scripts", .glo "words_of", .glo "relaxed", .glo "solution_of", .glo "is_open", .glo "settled", .glo "seen_by", .glo "against", .glo "ways_on", .glo "ways_of", .glo "unlike", .glo "apart_of", .glo "row_of", .glo "parting_of", .glo "parting"] : List He.Fa) ++ ([.glo "ring_of", .glo "best_of", .glo "by_words", .glo "closure_of", .glo "lists_of", .glo "parted", .glo "_law_mixed", .glo "_law_draw", .glo "law", .free "isinstance", .free "int", .free "bool", .free "str", .free "list", .free "tuple", .free "dict", .free "set", .free "len", .free "range", .free "enumerate", .free "zip", .free "sum", .free "max", .free "min", .free "sorted", .glo "Way", .cls "Way", .mkr "Way", .noat "Way" "tests", .noat "Way" "outcome"] : List He.Fa) ++ ([.noat "Way" "touched", .str "SMALL" "abcdefghijklmnopqrstuvwxyz", .str "DIGITS" "0123456789"] : List He.Fa)
abbrev R : PySem.W.OpenRow := PySem.W.OpenLaw.row PySem.Challenge.rw_rowfates_k43_compare_by_name
abbrev hk : PySem.W.Hook := He.hookD 5 fa fn
def ob (s : PySem.W.SharedT) : He.AlD := He.obsDG 5 fa fn (HandSHeadRun.getT s)
theorem ob_eq (s : PySem.W.SharedT) : ob s = hk.obs s.abs := He.obsDG_eq (HandSHeadRun.getT_eq s)
def loose : List Str := (["__name__", "FateError", "InvalidColumns", "InvalidSteps", "InvalidRule", "SMALL", "DIGITS", "is_whole", "is_name", "is_digits", "is_word", "is_test", "are_tests", "are_tests_over", "words_of", "relaxed", "ring_of", "solution_of", "best_of", "by_words", "closure_of", "check_columns", "are_settings", "is_statement", "check_steps", "check_rule", "rule_of", "Way", "seen_by", "against"] : List Str) ++ (["settled", "is_open", "ways_on", "ways_of", "unlike", "lists_of", "apart_of", "row_of", "parting_of", "check_scripts", "parting", "parted", "_law_purse", "_law_mixed", "_law_draw", "_law_purses"] : List Str)
theorem run (w : World) : HandSHeadRun.RunEq R (PySem.W.view R.prog [52]) hk ob 4000 loose w := by
  intro os
  kernel_rfl
theorem facts {P : Program} {w : World} {K : PySem.W.Frag} {h : Heap} {mg : Str → Option Value} {f : Addr} (X : K.In h) (G : h.Ns mainGlobals mg) (hfa : mg ("law" : Str) = some (.ref f)) (c : He.SaysD fa fn K) :
    ∃ fd : FuncData, (∀ (s : Shared) (v : Value), BindsTo s fd ⟨[v], []⟩ [("_law_script", v)]) ∧ ∀ base : Heap, FnOk P w K mg base CX0 10 f fd ["_law_script"] (sp0 P w K false 1 F_law) := by
  have B : Bl mg := ⟨He.free_ok X G (c.fact 39 (f := .free "isinstance") rfl), He.free_ok X G (c.fact 40 (f := .free "int") rfl), He.free_ok X G (c.fact 41 (f := .free "bool") rfl), He.free_ok X G (c.fact 42 (f := .free "str") rfl), He.free_ok X G (c.fact 43 (f := .free "list") rfl), He.free_ok X G (c.fact 44 (f := .free "tuple") rfl), He.free_ok X G (c.fact 45 (f := .free "dict") rfl), He.free_ok X G (c.fact 46 (f := .free "set") rfl), He.free_ok X G (c.fact 47 (f := .free "len") rfl), He.free_ok X G (c.fact 48 (f := .free "range") rfl), He.free_ok X G (c.fact 49 (f := .free "enumerate") rfl), He.free_ok X G (c.fact 50 (f := .free "zip") rfl), He.free_ok X G (c.fact 51 (f := .free "sum") rfl), He.free_ok X G (c.fact 52 (f := .free "max") rfl), He.free_ok X G (c.fact 53 (f := .free "min") rfl), He.free_ok X G (c.fact 54 (f := .free "sorted") rfl)⟩
  obtain ⟨d_Way, Z_Way⟩ := c.def_ 39 (d := dm_Way) rfl
  have h_SMALL := He.str_ok X G (c.fact 61 (f := .str "SMALL" "abcdefghijklmnopqrstuvwxyz") rfl)
  have h_DIGITS := He.str_ok X G (c.fact 62 (f := .str "DIGITS" "0123456789") rfl)
  obtain ⟨d__law_purse, Z__law_purse⟩ := c.def_ 0 (d := dd "_law_purse" 48) rfl
  have g__law_purse := He.glo_ok X G (c.fact 0 (f := .glo "_law_purse") rfl)
  obtain ⟨d__law_purses, Z__law_purses⟩ := c.def_ 1 (d := dd "_law_purses" 51) rfl
  have g__law_purses := He.glo_ok X G (c.fact 1 (f := .glo "_law_purses") rfl)
  obtain ⟨d_is_name, Z_is_name⟩ := c.def_ 2 (d := dd "is_name" 9) rfl
  have g_is_name := He.glo_ok X G (c.fact 2 (f := .glo "is_name") rfl)
  obtain ⟨d_check_columns, Z_check_columns⟩ := c.def_ 3 (d := dd "check_columns" 24) rfl
  have g_check_columns := He.glo_ok X G (c.fact 3 (f := .glo "check_columns") rfl)
  obtain ⟨d_is_whole, Z_is_whole⟩ := c.def_ 4 (d := dd "is_whole" 8) rfl
  have g_is_whole := He.glo_ok X G (c.fact 4 (f := .glo "is_whole") rfl)
  obtain ⟨d_are_settings, Z_are_settings⟩ := c.def_ 5 (d := dd "are_settings" 25) rfl
  have g_are_settings := He.glo_ok X G (c.fact 5 (f := .glo "are_settings") rfl)
  obtain ⟨d_is_digits, Z_is_digits⟩ := c.def_ 6 (d := dd "is_digits" 10) rfl
  have g_is_digits := He.glo_ok X G (c.fact 6 (f := .glo "is_digits") rfl)
  obtain ⟨d_is_word, Z_is_word⟩ := c.def_ 7 (d := dd "is_word" 11) rfl
  have g_is_word := He.glo_ok X G (c.fact 7 (f := .glo "is_word") rfl)
  obtain ⟨d_is_test, Z_is_test⟩ := c.def_ 8 (d := dd "is_test" 12) rfl
  have g_is_test := He.glo_ok X G (c.fact 8 (f := .glo "is_test") rfl)
  obtain ⟨d_are_tests, Z_are_tests⟩ := c.def_ 9 (d := dd "are_tests" 13) rfl
  have g_are_tests := He.glo_ok X G (c.fact 9 (f := .glo "are_tests") rfl)
  obtain ⟨d_are_tests_over, Z_are_tests_over⟩ := c.def_ 10 (d := dd "are_tests_over" 14) rfl
  have g_are_tests_over := He.glo_ok X G (c.fact 10 (f := .glo "are_tests_over") rfl)
  obtain ⟨d_is_statement, Z_is_statement⟩ := c.def_ 11 (d := dd "is_statement" 26) rfl
  have g_is_statement := He.glo_ok X G (c.fact 11 (f := .glo "is_statement") rfl)
  obtain ⟨d_check_steps, Z_check_steps⟩ := c.def_ 12 (d := dd "check_steps" 27) rfl
  have g_check_steps := He.glo_ok X G (c.fact 12 (f := .glo "check_steps") rfl)
  obtain ⟨d_check_rule, Z_check_rule⟩ := c.def_ 13 (d := dd "check_rule" 28) rfl
  have g_check_rule := He.glo_ok X G (c.fact 13 (f := .glo "check_rule") rfl)
  obtain ⟨d_rule_of, Z_rule_of⟩ := c.def_ 14 (d := dd "rule_of" 29) rfl
  have g_rule_of := He.glo_ok X G (c.fact 14 (f := .glo "rule_of") rfl)
  obtain ⟨d_check_scripts, Z_check_scripts⟩ := c.def_ 15 (d := dd "check_scripts" 44) rfl
  have g_check_scripts := He.glo_ok X G (c.fact 15 (f := .glo "check_scripts") rfl)
  obtain ⟨d_words_of, Z_words_of⟩ := c.def_ 16 (d := dd "words_of" 16) rfl
  have g_words_of := He.glo_ok X G (c.fact 16 (f := .glo "words_of") rfl)
  obtain ⟨d_relaxed, Z_relaxed⟩ := c.def_ 17 (d := dd "relaxed" 17) rfl
  have g_relaxed := He.glo_ok X G (c.fact 17 (f := .glo "relaxed") rfl)
  obtain ⟨d_solution_of, Z_solution_of⟩ := c.def_ 18 (d := dd "solution_of" 19) rfl
  have g_solution_of := He.glo_ok X G (c.fact 18 (f := .glo "solution_of") rfl)
  obtain ⟨d_is_open, Z_is_open⟩ := c.def_ 19 (d := dd "is_open" 35) rfl
  have g_is_open := He.glo_ok X G (c.fact 19 (f := .glo "is_open") rfl)
  obtain ⟨d_settled, Z_settled⟩ := c.def_ 20 (d := dd "settled" 34) rfl
  have g_settled := He.glo_ok X G (c.fact 20 (f := .glo "settled") rfl)
  obtain ⟨d_seen_by, Z_seen_by⟩ := c.def_ 21 (d := dd "seen_by" 32) rfl
  have g_seen_by := He.glo_ok X G (c.fact 21 (f := .glo "seen_by") rfl)
  obtain ⟨d_against, Z_against⟩ := c.def_ 22 (d := dd "against" 33) rfl
  have g_against := He.glo_ok X G (c.fact 22 (f := .glo "against") rfl)
  obtain ⟨d_ways_on, Z_ways_on⟩ := c.def_ 23 (d := dd "ways_on" 36) rfl
  have g_ways_on := He.glo_ok X G (c.fact 23 (f := .glo "ways_on") rfl)
  obtain ⟨d_ways_of, Z_ways_of⟩ := c.def_ 24 (d := dd "ways_of" 37) rfl
  have g_ways_of := He.glo_ok X G (c.fact 24 (f := .glo "ways_of") rfl)
  obtain ⟨d_unlike, Z_unlike⟩ := c.def_ 25 (d := dd "unlike" 38) rfl
  have g_unlike := He.glo_ok X G (c.fact 25 (f := .glo "unlike") rfl)
  obtain ⟨d_apart_of, Z_apart_of⟩ := c.def_ 26 (d := dd "apart_of" 41) rfl
  have g_apart_of := He.glo_ok X G (c.fact 26 (f := .glo "apart_of") rfl)
  obtain ⟨d_row_of, Z_row_of⟩ := c.def_ 27 (d := dd "row_of" 42) rfl
  have g_row_of := He.glo_ok X G (c.fact 27 (f := .glo "row_of") rfl)
  obtain ⟨d_parting_of, Z_parting_of⟩ := c.def_ 28 (d := dd "parting_of" 43) rfl
  have g_parting_of := He.glo_ok X G (c.fact 28 (f := .glo "parting_of") rfl)
  obtain ⟨d_parting, Z_parting⟩ := c.def_ 29 (d := de "parting" 45) rfl
  have g_parting := He.glo_ok X G (c.fact 29 (f := .glo "parting") rfl)
  obtain ⟨d_ring_of, Z_ring_of⟩ := c.def_ 30 (d := dd "ring_of" 18) rfl
  have g_ring_of := He.glo_ok X G (c.fact 30 (f := .glo "ring_of") rfl)
  obtain ⟨d_best_of, Z_best_of⟩ := c.def_ 31 (d := dd "best_of" 20) rfl
  have g_best_of := He.glo_ok X G (c.fact 31 (f := .glo "best_of") rfl)
  obtain ⟨d_by_words, Z_by_words⟩ := c.def_ 32 (d := dd "by_words" 21) rfl
  have g_by_words := He.glo_ok X G (c.fact 32 (f := .glo "by_words") rfl)
  obtain ⟨d_closure_of, Z_closure_of⟩ := c.def_ 33 (d := dd "closure_of" 22) rfl
  have g_closure_of := He.glo_ok X G (c.fact 33 (f := .glo "closure_of") rfl)
  obtain ⟨d_lists_of, Z_lists_of⟩ := c.def_ 34 (d := dd "lists_of" 39) rfl
  have g_lists_of := He.glo_ok X G (c.fact 34 (f := .glo "lists_of") rfl)
  obtain ⟨d_parted, Z_parted⟩ := c.def_ 35 (d := de "parted" 46) rfl
  have g_parted := He.glo_ok X G (c.fact 35 (f := .glo "parted") rfl)
  obtain ⟨d__law_mixed, Z__law_mixed⟩ := c.def_ 36 (d := dd "_law_mixed" 49) rfl
  have g__law_mixed := He.glo_ok X G (c.fact 36 (f := .glo "_law_mixed") rfl)
  obtain ⟨d__law_draw, Z__law_draw⟩ := c.def_ 37 (d := dd "_law_draw" 50) rfl
  have g__law_draw := He.glo_ok X G (c.fact 37 (f := .glo "_law_draw") rfl)
  obtain ⟨d_law, Z_law⟩ := c.def_ 38 (d := dd "law" 52) rfl
  have g_law := He.glo_ok X G (c.fact 38 (f := .glo "law") rfl)
  have e := hfa.symm.trans g_law
  cases e
  have b := FunD.bindsA (ps := ["_law_script"]) Z_law fun _ _ _ _ _ _ us hl => match us, hl with | [_], _ => rfl
  refine ⟨d_law, fun s v => b s [v] rfl, fun base => ?_⟩
  have m_Way : MkOk P w K mg base "Way" ["tests", "outcome", "touched"] 1 := ⟨⟨_, d_Way, ["self", "tests", "outcome", "touched"], He.mkr_ok (c.fact 57 (f := .mkr "Way") rfl), fi_Way (He.cls_ok (c.fact 56 (f := .cls "Way") rfl)) (He.noat_ok (c.fact 58 (f := .noat "Way" "tests") rfl)) (He.noat_ok (c.fact 59 (f := .noat "Way" "outcome") rfl)) (He.noat_ok (c.fact 60 (f := .noat "Way" "touched") rfl)) Z_Way, Z_Way.bindsN fun _ _ _ _ _ _ us hl => match us, hl with | [_, _, _, _], _ => rfl, He.glo_ok X G (c.fact 55 (f := .glo "Way") rfl)⟩⟩
  have fl_outcome : FldOk K ["Way"] "outcome" := fun x hx => by
    rcases List.mem_cons.mp hx with rfl | hx
    · exact ⟨He.cls_ok (c.fact 56 (f := .cls "Way") rfl), He.noat_ok (c.fact 59 (f := .noat "Way" "outcome") rfl)⟩
    cases hx
  have fl_tests : FldOk K ["Way"] "tests" := fun x hx => by
    rcases List.mem_cons.mp hx with rfl | hx
    · exact ⟨He.cls_ok (c.fact 56 (f := .cls "Way") rfl), He.noat_ok (c.fact 58 (f := .noat "Way" "tests") rfl)⟩
    cases hx
  have fl_touched : FldOk K ["Way"] "touched" := fun x hx => by
    rcases List.mem_cons.mp hx with rfl | hx
    · exact ⟨He.cls_ok (c.fact 56 (f := .cls "Way") rfl), He.noat_ok (c.fact 60 (f := .noat "Way" "touched") rfl)⟩
    cases hx
  have o__law_purse := ok__law_purse (P := P) (w := w) (base := base) B h_SMALL h_DIGITS Z__law_purse g__law_purse
  have o__law_purses := ok__law_purses (P := P) (w := w) (base := base) B h_SMALL h_DIGITS o__law_purse Z__law_purses g__law_purses
  have o_is_name := ok_is_name (P := P) (w := w) (base := base) B h_SMALL h_DIGITS Z_is_name g_is_name
  have o_check_columns := ok_check_columns (P := P) (w := w) (base := base) B h_SMALL h_DIGITS o_is_name Z_check_columns g_check_columns
  have o_is_whole := ok_is_whole (P := P) (w := w) (base := base) B h_SMALL h_DIGITS Z_is_whole g_is_whole
  have o_are_settings := ok_are_settings (P := P) (w := w) (base := base) B h_SMALL h_DIGITS o_is_name o_is_whole Z_are_settings g_are_settings
  have o_is_digits := ok_is_digits (P := P) (w := w) (base := base) B h_SMALL h_DIGITS Z_is_digits g_is_digits
  have o_is_word := ok_is_word (P := P) (w := w) (base := base) B h_SMALL h_DIGITS o_is_name o_is_digits Z_is_word g_is_word
  have o_is_test := ok_is_test (P := P) (w := w) (base := base) B h_SMALL h_DIGITS o_is_whole o_is_word Z_is_test g_is_test
  have o_are_tests := ok_are_tests (P := P) (w := w) (base := base) B h_SMALL h_DIGITS o_is_test Z_are_tests g_are_tests
  have o_are_tests_over := ok_are_tests_over (P := P) (w := w) (base := base) B h_SMALL h_DIGITS o_are_tests Z_are_tests_over g_are_tests_over
  have o_is_statement := ok_is_statement (P := P) (w := w) (base := base) B h_SMALL h_DIGITS o_are_settings o_are_tests_over Z_is_statement g_is_statement
  have o_check_steps := ok_check_steps (P := P) (w := w) (base := base) B h_SMALL h_DIGITS o_is_statement Z_check_steps g_check_steps
  have o_check_rule := ok_check_rule (P := P) (w := w) (base := base) B h_SMALL h_DIGITS o_are_tests_over Z_check_rule g_check_rule
  have o_rule_of := ok_rule_of (P := P) (w := w) (base := base) B h_SMALL h_DIGITS o_check_rule Z_rule_of g_rule_of
  have o_check_scripts := ok_check_scripts (P := P) (w := w) (base := base) B h_SMALL h_DIGITS o_check_columns o_check_steps o_rule_of Z_check_scripts g_check_scripts
  have o_words_of := ok_words_of (P := P) (w := w) (base := base) B h_SMALL h_DIGITS Z_words_of g_words_of
  have o_relaxed := ok_relaxed (P := P) (w := w) (base := base) B h_SMALL h_DIGITS o_words_of Z_relaxed g_relaxed
  have o_solution_of := ok_solution_of (P := P) (w := w) (base := base) B h_SMALL h_DIGITS o_words_of o_relaxed Z_solution_of g_solution_of
  have o_is_open := ok_is_open (P := P) (w := w) (base := base) B h_SMALL h_DIGITS fl_tests o_solution_of Z_is_open g_is_open
  have o_settled := ok_settled (P := P) (w := w) (base := base) B h_SMALL h_DIGITS Z_settled g_settled
  have o_seen_by := ok_seen_by (P := P) (w := w) (base := base) B h_SMALL h_DIGITS Z_seen_by g_seen_by
  have o_against := ok_against (P := P) (w := w) (base := base) B h_SMALL h_DIGITS Z_against g_against
  have o_ways_on := ok_ways_on (P := P) (w := w) (base := base) B h_SMALL h_DIGITS fl_outcome fl_tests fl_touched m_Way o_is_open o_settled o_seen_by o_against Z_ways_on g_ways_on
  have o_ways_of := ok_ways_of (P := P) (w := w) (base := base) B h_SMALL h_DIGITS m_Way o_is_open o_ways_on Z_ways_of g_ways_of
  have o_unlike := ok_unlike (P := P) (w := w) (base := base) B h_SMALL h_DIGITS Z_unlike g_unlike
  have o_apart_of := ok_apart_of (P := P) (w := w) (base := base) B h_SMALL h_DIGITS fl_outcome fl_tests o_ways_of o_unlike Z_apart_of g_apart_of
  have o_row_of := ok_row_of (P := P) (w := w) (base := base) B h_SMALL h_DIGITS o_solution_of Z_row_of g_row_of
  have o_parting_of := ok_parting_of (P := P) (w := w) (base := base) B h_SMALL h_DIGITS o_apart_of o_row_of Z_parting_of g_parting_of
  have k_parting_0 : OkN P w K mg base "parting" 9 0 ["rule", "other", "one", "columns"] 4 [3, 2, 1, 0] [] F_parting := ⟨_, _, ["columns", "one", "other", "rule"], 4, [], [], fo_parting (P := P) (w := w) (base := base) B h_SMALL h_DIGITS o_check_scripts o_parting_of Z_parting, g_parting, Z_parting.kp, kbF (ks := (["rule", "other", "one", "columns"] : List Str)) [3, 2, 1, 0] 4 0 Z_parting fun _ _ _ _ _ _ _ us ws h1 h2 => match us, ws, h1, h2 with | [], [_, _, _, _], _, _ => ⟨_, rfl, rfl⟩, fun _ => rfl, selI_len2 (fun ds d => run0_len ds d) (by decide) rfl⟩
  have k_parting_1 : OkN P w K mg base "parting" 9 4 [] 4 [0, 1, 2, 3] [] F_parting := ⟨_, _, ["columns", "one", "other", "rule"], 4, [], [], fo_parting (P := P) (w := w) (base := base) B h_SMALL h_DIGITS o_check_scripts o_parting_of Z_parting, g_parting, Z_parting.kp, kbF (ks := ([] : List Str)) [0, 1, 2, 3] 4 4 Z_parting fun _ _ _ _ _ _ _ us ws h1 h2 => match us, ws, h1, h2 with | [_, _, _, _], [], _, _ => ⟨_, rfl, rfl⟩, fun _ => rfl, selI_len2 (fun ds d => run0_len ds d) (by decide) rfl⟩
  have k_parting_4 : OkN P w K mg base "parting" 9 0 ["other", "one", "columns"] 4 [2, 1, 0, 3] [.non] F_parting := ⟨_, _, ["columns", "one", "other", "rule"], 4, [.none], [.non], fo_parting (P := P) (w := w) (base := base) B h_SMALL h_DIGITS o_check_scripts o_parting_of Z_parting, g_parting, Z_parting.kp, kbD (ks := (["other", "one", "columns"] : List Str)) [2, 1, 0, 3] 4 0 Z_parting fun _ _ _ _ _ _ _ us ws h1 h2 => match us, ws, h1, h2 with | [], [_, _, _], _, _ => ⟨_, rfl, rfl⟩, fun _ => ⟨_, _, rfl, rfl, rfl⟩, selI_len2 (fun ds d => run0_len ds d) (by decide) rfl⟩
  have o_ring_of := ok_ring_of (P := P) (w := w) (base := base) B h_SMALL h_DIGITS o_relaxed Z_ring_of g_ring_of
  have o_best_of := ok_best_of (P := P) (w := w) (base := base) B h_SMALL h_DIGITS o_words_of o_ring_of Z_best_of g_best_of
  have o_by_words := ok_by_words (P := P) (w := w) (base := base) B h_SMALL h_DIGITS Z_by_words g_by_words
  have o_closure_of := ok_closure_of (P := P) (w := w) (base := base) B h_SMALL h_DIGITS o_best_of o_by_words Z_closure_of g_closure_of
  have o_lists_of := ok_lists_of (P := P) (w := w) (base := base) B h_SMALL h_DIGITS o_closure_of Z_lists_of g_lists_of
  have k_parted_2 : OkN P w K mg base "parted" 9 0 ["rule", "other", "one", "columns"] 4 [3, 2, 1, 0] [] F_parted := ⟨_, _, ["columns", "one", "other", "rule"], 4, [], [], fo_parted (P := P) (w := w) (base := base) B h_SMALL h_DIGITS o_check_scripts o_apart_of o_lists_of Z_parted, g_parted, Z_parted.kp, kbF (ks := (["rule", "other", "one", "columns"] : List Str)) [3, 2, 1, 0] 4 0 Z_parted fun _ _ _ _ _ _ _ us ws h1 h2 => match us, ws, h1, h2 with | [], [_, _, _, _], _, _ => ⟨_, rfl, rfl⟩, fun _ => rfl, selI_len2 (fun ds d => run0_len ds d) (by decide) rfl⟩
  have k_parted_3 : OkN P w K mg base "parted" 9 4 [] 4 [0, 1, 2, 3] [] F_parted := ⟨_, _, ["columns", "one", "other", "rule"], 4, [], [], fo_parted (P := P) (w := w) (base := base) B h_SMALL h_DIGITS o_check_scripts o_apart_of o_lists_of Z_parted, g_parted, Z_parted.kp, kbF (ks := ([] : List Str)) [0, 1, 2, 3] 4 4 Z_parted fun _ _ _ _ _ _ _ us ws h1 h2 => match us, ws, h1, h2 with | [_, _, _, _], [], _, _ => ⟨_, rfl, rfl⟩, fun _ => rfl, selI_len2 (fun ds d => run0_len ds d) (by decide) rfl⟩
  have k_parted_5 : OkN P w K mg base "parted" 9 0 ["other", "one", "columns"] 4 [2, 1, 0, 3] [.non] F_parted := ⟨_, _, ["columns", "one", "other", "rule"], 4, [.none], [.non], fo_parted (P := P) (w := w) (base := base) B h_SMALL h_DIGITS o_check_scripts o_apart_of o_lists_of Z_parted, g_parted, Z_parted.kp, kbD (ks := (["other", "one", "columns"] : List Str)) [2, 1, 0, 3] 4 0 Z_parted fun _ _ _ _ _ _ _ us ws h1 h2 => match us, ws, h1, h2 with | [], [_, _, _], _, _ => ⟨_, rfl, rfl⟩, fun _ => ⟨_, _, rfl, rfl, rfl⟩, selI_len2 (fun ds d => run0_len ds d) (by decide) rfl⟩
  have o__law_mixed := ok__law_mixed (P := P) (w := w) (base := base) B h_SMALL h_DIGITS Z__law_mixed g__law_mixed
  have o__law_draw := ok__law_draw (P := P) (w := w) (base := base) B h_SMALL h_DIGITS o__law_mixed Z__law_draw g__law_draw
  exact fo_law B h_SMALL h_DIGITS o__law_purses o__law_draw k_parting_0 k_parting_1 k_parted_2 k_parted_3 k_parting_4 k_parted_5 Z_law
end R43
open PySem PySem.W PySem.Calls PyProof.Rows
theorem k43_of (law_true : ∀ ns : List Int, ns.length ≤ 63 → R43.F_law [.scr ns] = some (.bl true)) : PySem.Challenge.rw_rowfates_k43_compare_by_name.Holds := by
  w_on; o_law
  refine HandSHeadRun.head_any (r := OpenLaw.row PySem.Challenge.rw_rowfates_k43_compare_by_name) (q := view (OpenLaw.row PySem.Challenge.rw_rowfates_k43_compare_by_name).prog [52]) (H := R43.hk) (ob := R43.ob) (M := 4000) (loose := R43.loose) (d := HandSHeadRun.topDef (OpenLaw.row PySem.Challenge.rw_rowfates_k43_compare_by_name).prog 52) (kwd := []) R43.ob_eq
    (by kernel_rfl) (fun s => by kernel_rfl) R43.run (by kernel_rfl) (by kernel_rfl) (by kernel_rfl) (by rfl) (by first | assumption | decide +kernel) (by decide +kernel) ⟨rfl, rfl, rfl, rfl, rfl, by decide +kernel⟩ ?hw ?hc
  case hw => w_witness2
  case hc =>
    refine L2.walk_ofE (l := PySem.Challenge.rw_rowfates_k43_compare_by_name) (n := 63) (k := 10) (x := "_law_script") (CX := L2.CX0) rfl (by decide) (by kernel_rfl) ⟨rfl, by decide, by decide⟩ ?F (fun _ _ _ _ z => z)
    intro w mg fa h Y G hmg0
    obtain ⟨K, KX, c⟩ := Y
    have hmg : mg ("law" : PySem.Str) = some (.ref fa) := by
      have e : (HandSHeadRun.topDef (OpenLaw.row PySem.Challenge.rw_rowfates_k43_compare_by_name).prog 52).name = ("law" : PySem.Str) := by kernel_rfl
      rw [← e]
      exact hmg0
    obtain ⟨fd, hb, hF⟩ := R43.facts (P := (PySem.Challenge.rw_rowfates_k43_compare_by_name).prog) (w := w) KX G hmg c
    exact ⟨K, fd, RF.sp0 _ w K false 1 R43.F_law, KX, hb, fun H a ns hl _ hS => RF.sp_law hS (law_true ns hl), fun base _ _ => hF base⟩
set_option maxRecDepth 100000 in
set_option maxHeartbeats 8000000 in
theorem PySem.Challenge.cw_rowfates_k43_compare_by_name_holds : PySem.Challenge.rw_rowfates_k43_compare_by_name.Holds := by
  exact k43_of R43.law_true

