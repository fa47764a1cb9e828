import PyProof.Rows.All
import HandS.ForMost
import HandS.Exc
import HandS.AnyAll
import HandS.GenList
import HandS.TupAny
import HandS.TupLe
import HandS.Style
import HandS.Text
import HandS.Conv
import KE.DataEq
import KE.DataCmp
import KE.SortData
import HandS.Lambda
import HandS.ReCall
import PyProof.FactsAll.tuple_2
import PyProof.FactsAll.list_3
import HandS.SortInts
import HandS.ExcValue
import PyProof.TupleOfSeq
import HandS.IsInst
import HandS.Codes
import HandS.Zip
import KE.GoesNewDict
import KE.GoesMore
import HandS.Dict
import HandS.Property
import HandS.Small
import HandS.More
import KE.KDictZip
import KE.GoesEnum
import HandS.Strs
import HandS.SetFor
import HandS.ExcInit
import HandS.FStr
import KE.KExcSuper
import HandS.ExcField
import HandS.TryMany
import KE.KExcIs
import HandS.HeadHook4
import HandS.Ends
import HandS.Defaults
import HandS.HeadWalk
import HandS.Head0
import HandS.Head1
import HandS.Head2
import PySem.Challenge.RW_evenrosters_k03_burdens_and_wishes
set_option Elab.async false
set_option linter.all false
set_option maxRecDepth 100000
set_option maxHeartbeats 4000000
namespace Rg
open PySem PySem.Spec PyProof.Rows L2 GenW GxR
def qname (isAll : Bool) : Str := if isAll then "all" else "any"
end Rg
set_option Elab.async false
set_option linter.all false
set_option maxRecDepth 100000
set_option maxHeartbeats 4000000
namespace Rg
open PySem PySem.Spec PyProof.Rows L2
inductive D where
  | non | bl (b : Bool) | int (i : Int) | str (s : Str)
  | tp (c : Bool) (l : List D) | lst (l : List D) | dct (t : Bool) (l : List (D × D)) | obj (c : Nat) (l : List (Nat × D))
  deriving Inhabited
mutual
def D.dec : (a b : D) → Decidable (a = b)
  | .non, .non => Decidable.isTrue rfl
  | .bl a, .bl b => if h : a = b then Decidable.isTrue (by rw [h]) else Decidable.isFalse fun e => h (D.bl.inj e)
  | .int a, .int b => if h : a = b then Decidable.isTrue (by rw [h]) else Decidable.isFalse fun e => h (D.int.inj e)
  | .str a, .str b => if h : a = b then Decidable.isTrue (by rw [h]) else Decidable.isFalse fun e => h (D.str.inj e)
  | .tp c a, .tp c' b => if h : c = c' then match D.decL a b with
    | Decidable.isTrue h2 => Decidable.isTrue (by rw [h, h2])
    | Decidable.isFalse h2 => Decidable.isFalse fun e => h2 (D.tp.inj e).2
    else Decidable.isFalse fun e => h (D.tp.inj e).1
  | .lst a, .lst b => match D.decL a b with
    | Decidable.isTrue h => Decidable.isTrue (by rw [h])
    | Decidable.isFalse h => Decidable.isFalse fun e => h (D.lst.inj e)
  | .dct c a, .dct c' b => if h : c = c' then match D.decD a b with
    | Decidable.isTrue h2 => Decidable.isTrue (by rw [h, h2])
    | Decidable.isFalse h2 => Decidable.isFalse fun e => h2 (D.dct.inj e).2
    else Decidable.isFalse fun e => h (D.dct.inj e).1
  | .obj c a, .obj c' b => if h : c = c' then match D.decF a b with
    | Decidable.isTrue h2 => Decidable.isTrue (by rw [h, h2])
    | Decidable.isFalse h2 => Decidable.isFalse fun e => h2 (D.obj.inj e).2
    else Decidable.isFalse fun e => h (D.obj.inj e).1
  | .non, .bl _ => Decidable.isFalse fun e => nomatch e
  | .non, .int _ => Decidable.isFalse fun e => nomatch e
  | .non, .str _ => Decidable.isFalse fun e => nomatch e
  | .non, .tp _ _ => Decidable.isFalse fun e => nomatch e
  | .non, .lst _ => Decidable.isFalse fun e => nomatch e
  | .non, .dct _ _ => Decidable.isFalse fun e => nomatch e
  | .non, .obj _ _ => Decidable.isFalse fun e => nomatch e
  | .bl _, .non => Decidable.isFalse fun e => nomatch e
  | .bl _, .int _ => Decidable.isFalse fun e => nomatch e
  | .bl _, .str _ => Decidable.isFalse fun e => nomatch e
  | .bl _, .tp _ _ => Decidable.isFalse fun e => nomatch e
  | .bl _, .lst _ => Decidable.isFalse fun e => nomatch e
  | .bl _, .dct _ _ => Decidable.isFalse fun e => nomatch e
  | .bl _, .obj _ _ => Decidable.isFalse fun e => nomatch e
  | .int _, .non => Decidable.isFalse fun e => nomatch e
  | .int _, .bl _ => Decidable.isFalse fun e => nomatch e
  | .int _, .str _ => Decidable.isFalse fun e => nomatch e
  | .int _, .tp _ _ => Decidable.isFalse fun e => nomatch e
  | .int _, .lst _ => Decidable.isFalse fun e => nomatch e
  | .int _, .dct _ _ => Decidable.isFalse fun e => nomatch e
  | .int _, .obj _ _ => Decidable.isFalse fun e => nomatch e
  | .str _, .non => Decidable.isFalse fun e => nomatch e
  | .str _, .bl _ => Decidable.isFalse fun e => nomatch e
  | .str _, .int _ => Decidable.isFalse fun e => nomatch e
  | .str _, .tp _ _ => Decidable.isFalse fun e => nomatch e
  | .str _, .lst _ => Decidable.isFalse fun e => nomatch e
  | .str _, .dct _ _ => Decidable.isFalse fun e => nomatch e
  | .str _, .obj _ _ => Decidable.isFalse fun e => nomatch e
  | .tp _ _, .non => Decidable.isFalse fun e => nomatch e
  | .tp _ _, .bl _ => Decidable.isFalse fun e => nomatch e
  | .tp _ _, .int _ => Decidable.isFalse fun e => nomatch e
  | .tp _ _, .str _ => Decidable.isFalse fun e => nomatch e
  | .tp _ _, .lst _ => Decidable.isFalse fun e => nomatch e
  | .tp _ _, .dct _ _ => Decidable.isFalse fun e => nomatch e
  | .tp _ _, .obj _ _ => Decidable.isFalse fun e => nomatch e
  | .lst _, .non => Decidable.isFalse fun e => nomatch e
  | .lst _, .bl _ => Decidable.isFalse fun e => nomatch e
  | .lst _, .int _ => Decidable.isFalse fun e => nomatch e
  | .lst _, .str _ => Decidable.isFalse fun e => nomatch e
  | .lst _, .tp _ _ => Decidable.isFalse fun e => nomatch e
  | .lst _, .dct _ _ => Decidable.isFalse fun e => nomatch e
  | .lst _, .obj _ _ => Decidable.isFalse fun e => nomatch e
  | .dct _ _, .non => Decidable.isFalse fun e => nomatch e
  | .dct _ _, .bl _ => Decidable.isFalse fun e => nomatch e
  | .dct _ _, .int _ => Decidable.isFalse fun e => nomatch e
  | .dct _ _, .str _ => Decidable.isFalse fun e => nomatch e
  | .dct _ _, .tp _ _ => Decidable.isFalse fun e => nomatch e
  | .dct _ _, .lst _ => Decidable.isFalse fun e => nomatch e
  | .dct _ _, .obj _ _ => Decidable.isFalse fun e => nomatch e
  | .obj _ _, .non => Decidable.isFalse fun e => nomatch e
  | .obj _ _, .bl _ => Decidable.isFalse fun e => nomatch e
  | .obj _ _, .int _ => Decidable.isFalse fun e => nomatch e
  | .obj _ _, .str _ => Decidable.isFalse fun e => nomatch e
  | .obj _ _, .tp _ _ => Decidable.isFalse fun e => nomatch e
  | .obj _ _, .lst _ => Decidable.isFalse fun e => nomatch e
  | .obj _ _, .dct _ _ => Decidable.isFalse fun e => nomatch e
def D.decL : (a b : List D) → Decidable (a = b)
  | [], [] => Decidable.isTrue rfl
  | [], _ :: _ => Decidable.isFalse fun e => nomatch e
  | _ :: _, [] => Decidable.isFalse fun e => nomatch e
  | a :: l, b :: r => match D.dec a b with
    | Decidable.isTrue h => match D.decL l r with
      | Decidable.isTrue h2 => Decidable.isTrue (by rw [h, h2])
      | Decidable.isFalse h2 => Decidable.isFalse fun e => h2 (List.cons.inj e).2
    | Decidable.isFalse h => Decidable.isFalse fun e => h (List.cons.inj e).1
def D.decD : (a b : List (D × D)) → Decidable (a = b)
  | [], [] => Decidable.isTrue rfl
  | [], _ :: _ => Decidable.isFalse fun e => nomatch e
  | _ :: _, [] => Decidable.isFalse fun e => nomatch e
  | (k, a) :: l, (j, b) :: r => match D.dec k j with
    | Decidable.isTrue h => match D.dec a b with
      | Decidable.isTrue h1 => match D.decD l r with
        | Decidable.isTrue h2 => Decidable.isTrue (by rw [h, h1, h2])
        | Decidable.isFalse h2 => Decidable.isFalse fun e => h2 (List.cons.inj e).2
      | Decidable.isFalse h1 => Decidable.isFalse fun e => h1 (Prod.mk.inj (List.cons.inj e).1).2
    | Decidable.isFalse h => Decidable.isFalse fun e => h (Prod.mk.inj (List.cons.inj e).1).1
def D.decF : (a b : List (Nat × D)) → Decidable (a = b)
  | [], [] => Decidable.isTrue rfl
  | [], _ :: _ => Decidable.isFalse fun e => nomatch e
  | _ :: _, [] => Decidable.isFalse fun e => nomatch e
  | (k, a) :: l, (j, b) :: r => if h : k = j then match D.dec a b with
      | Decidable.isTrue h1 => match D.decF l r with
        | Decidable.isTrue h2 => Decidable.isTrue (by rw [h, h1, h2])
        | Decidable.isFalse h2 => Decidable.isFalse fun e => h2 (List.cons.inj e).2
      | Decidable.isFalse h1 => Decidable.isFalse fun e => h1 (Prod.mk.inj (List.cons.inj e).1).2
    else Decidable.isFalse fun e => h (Prod.mk.inj (List.cons.inj e).1).1
end
instance : DecidableEq D := D.dec
abbrev D.tup (l : List D) : D := .tp true l
mutual
def D.py : D → PyData
  | .non => .none
  | .bl b => .bool b
  | .int i => .int i
  | .str s => .str s
  | .tp _ l => .tuple (D.pys l)
  | .lst l => .list (D.pys l)
  | .dct _ _ => .dict []
  | .obj _ _ => .dict []
def D.pys : List D → List PyData
  | [] => []
  | a :: l => D.py a :: D.pys l
end
mutual
def D.pl : D → Bool
  | .non => true
  | .bl _ => true
  | .int _ => true
  | .str _ => true
  | .tp _ l => D.pls l
  | .lst l => D.pls l
  | .dct _ _ => false
  | .obj _ _ => false
def D.pls : List D → Bool
  | [] => true
  | a :: l => D.pl a && D.pls l
end
def dfind (l : List (D × D)) (k : D) : Option D := (l.find? fun p => decide (p.1 = k)).map (·.2)
def asKey : D → Option Key
  | .int i => some (.inl i)
  | .str s => some (.inr s)
  | _ => none
def keyOk (t : Bool) (d : D) : Bool := !t && (asKey d).isSome
end Rg
set_option Elab.async false
set_option linter.all false
set_option maxRecDepth 100000
set_option maxHeartbeats 4000000
namespace Rg
open PySem PySem.Spec PyProof.Rows L2
def LN : Nat := sizeLine
def dLine : Nat := 60
inductive O2 where
  | add | sub | mul | fdiv | mod | pow | shl | shr | band
  | eq | ne | lt | le | gt | ge | isin | notin | isx | isnot
  deriving DecidableEq
def mulOk (i j : Int) : Bool := (decide (-(2 ^ 64) < i) && decide (i < 2 ^ 64)) || (decide (-(2 ^ 64) < j) && decide (j < 2 ^ 64))
def eqOk (a b : D) : Bool := a.pl && b.pl && decide (a.py.depth ≤ dLine)
def ordOk (a b : D) : Bool := a.pl && b.pl && PySem.W.alike a.py b.py && decide (a ≠ .non) && decide (a.py.depth ≤ dLine)
def dLt (a b : D) : Bool := PySem.W.dataLt a.py b.py
def dEq (a b : D) : Bool := PyData.eqv a.py b.py
def O2.f : O2 → D → D → Option D
  | .add, .int i, .int j => some (.int (i + j))
  | .add, .tp c a, .tp c' b => if (c && c') = true ∧ a.length + b.length ≤ LN then some (.tup (a ++ b)) else none
  | .add, .lst a, .lst b => if a.length + b.length ≤ LN then some (.lst (a ++ b)) else none
  | .add, .str a, .str b => if a.length + b.length ≤ LN then some (.str (a ++ b)) else none
  | .sub, .int i, .int j => some (.int (i - j))
  | .mul, .int i, .int j => if mulOk i j then some (.int (i * j)) else none
  | .mul, .lst a, .int k => if 0 ≤ k ∧ k ≤ 1000000 ∧ a.length * k.toNat ≤ LN then some (.lst (List.replicate k.toNat a).flatten) else none
  | .fdiv, .int i, .int j => if j ≠ 0 ∧ j.natAbs < 1073741824 then some (.int (i.fdiv j)) else none
  | .mod, .int i, .int j => if j ≠ 0 then some (.int (i.fmod j)) else none
  | .pow, .int i, .int j => if 0 ≤ j ∧ j ≤ 1000000 ∧ i.natAbs < 2 ^ 64 then some (.int (i ^ j.toNat)) else none
  | .shl, .int i, .int j => if 0 ≤ j ∧ j ≤ 1000000 ∧ i.natAbs < 2 ^ 64 then some (.int (i * 2 ^ j.toNat)) else none
  | .shr, .int i, .int j => if 0 ≤ j then some (.int (i / 2 ^ j.toNat)) else none
  | .band, .int i, .int j => some (.int (Builtin.bitAnd i j))
  | .eq, a, b => if eqOk a b then some (.bl (dEq a b)) else none
  | .ne, a, b => if eqOk a b then some (.bl (!dEq a b)) else none
  | .lt, a, b => if ordOk a b then some (.bl (dLt a b)) else none
  | .gt, a, b => if ordOk a b then some (.bl (dLt b a)) else none
  | .le, a, b => if ordOk a b then some (.bl (!dLt b a)) else none
  | .ge, a, b => if ordOk a b then some (.bl (!dLt a b)) else none
  | .isin, a, .lst xs => if eqOk (.lst xs) a then some (.bl (xs.any fun y => dEq y a)) else none
  | .isin, a, .tp c xs => if eqOk (.tp c xs) a then some (.bl (xs.any fun y => dEq y a)) else none
  | .isin, .str a, .str b => if a.cps.size = 1 then some (.bl (decide (a.cps.getD 0 0 ∈ b.cps.toList))) else none
  | .isin, a, .dct t l => if keyOk t a then some (.bl (dfind l a).isSome) else none
  | .notin, a, .lst xs => if eqOk (.lst xs) a then some (.bl (!xs.any fun y => dEq y a)) else none
  | .notin, a, .tp c xs => if eqOk (.tp c xs) a then some (.bl (!xs.any fun y => dEq y a)) else none
  | .notin, .str a, .str b => if a.cps.size = 1 then some (.bl (!decide (a.cps.getD 0 0 ∈ b.cps.toList))) else none
  | .notin, a, .dct t l => if keyOk t a then some (.bl (!(dfind l a).isSome)) else none
  | .isx, a, .non => some (.bl (decide (a = .non)))
  | .isx, .bl a, .bl b => some (.bl (decide (a = b)))
  | .isnot, a, .non => some (.bl (!decide (a = .non)))
  | .isnot, .bl a, .bl b => some (.bl (!decide (a = b)))
  | _, _, _ => none
end Rg
set_option Elab.async false
set_option linter.all false
set_option maxRecDepth 100000
set_option maxHeartbeats 4000000
namespace Rg
open PySem PySem.Spec PyProof.Rows L2
abbrev Loc := Nat ⊕ Nat
inductive W where
  | d (x : D) | l (p : Loc)
  deriving Inhabited
inductive Cell where
  | lst (l : List D) | dct (t : Bool) (l : List (D × D)) | ob (c : Nat) (fs : List (Nat × W))
  deriving Inhabited
inductive Slot where
  | un | w (x : W) | own (c : Cell)
  deriving Inhabited
section
variable {T : Tab} {hr : AS} {ow ow' : Ow} {H H' : Hp}
def Cell.data : Cell → Option D
  | .lst l => some (.lst l)
  | .dct t l => some (.dct t l)
  | .ob _ _ => none
variable {env : List Slot} {S : List Cell} {σ : L2.St}
end
abbrev Xc := Nat × List (Nat × D)
inductive Res (α : Type) where
  | ok (x : α) (S : List Cell) | ex (x : Xc) (S : List Cell) | bad
def Res.opt {α β : Type} (o : Option α) (k : α → Res β) : Res β := match o with
  | some x => k x
  | none => .bad
end Rg
set_option Elab.async false
set_option linter.all false
set_option maxRecDepth 100000
set_option maxHeartbeats 4000000
namespace Rg
open PySem PySem.Spec PyProof.Rows L2
mutual
inductive Tg where
  | nm (i : Nat) | tp (l : Tgs)
inductive Tgs where
  | nil | cons (t : Tg) (l : Tgs)
end
inductive Bi where
  | len | int | str | tuple | list | sum | min | max | sorted | lenset | dict
  deriving DecidableEq
inductive Mt where
  | count | index | get1 | get2 | split | join
  deriving DecidableEq
inductive Cl where
  | ty (n : String) | own (c : Nat)
  deriving DecidableEq
mutual
inductive E where
  | nm (i : Nat)
  | k (c : D)
  | gl (x : Str) (c : D)
  | o2 (o : O2) (a b : E)
  | ch (o o' : O2) (a b c : E)
  | neg (a : E)
  | nt (a : E)
  | bo (isAnd : Bool) (l : Es)
  | ite (c a b : E)
  | tup (l : Es)
  | fr (f : Fr)
  | ix (a b : E)
  | sl (a : E) (lo hi : Eo)
  | rev (a : E)
  | fl (c n : Nat) (a : E)
  | pr (c f : Nat) (a : E)
  | me (c f : Nat) (a : E) (l : Es)
  | mk (c f : Nat) (data : Bool) (l : Es)
  | ca (f : Nat) (l : Es)
  | bi (b : Bi) (l : Es)
  | mt (m : Mt) (a : E) (l : Es)
  | col (isT : Bool) (it : It)
  | qu (isAll : Bool) (t : Tg) (it : It) (e : E) (vs : List Nat)
  | isi (a : E) (l : List Cl)
  | inK (isIn : Bool) (a : E) (x : Str) (l : List D)
  | lenK (x : Str) (n : Nat)
  | ixK (a : E) (x : Str) (l : List (D × D))
  | fs (l : Es)
  | heard (e : E)
  | eqW (isEq : Bool) (c f : Nat) (a b : E)
inductive Fr where
  | lst (l : Es)
  | lc (t : Tg) (it : It) (c : Eo) (e : E) (vs : List Nat)
  | dct (ks : List Str) (l : Es)
inductive Es where
  | nil | cons (a : E) (l : Es)
inductive Eo where
  | none | some (a : E)
inductive It where
  | e (a : E) | rg1 (a : E) | rg2 (a b : E) | en (a : E) | zp (l : Es) | its (a : E)
end
mutual
inductive St where
  | asg (t : Tg) (e : E)
  | own (i : Nat) (f : Fr)
  | alc (i : Nat) (f : Fr)
  | sf (c n : Nat) (o e : E)
  | sfo (c n : Nat) (o : E) (f : Fr)
  | si (a i e : E)
  | aug (i : Nat) (o : O2) (e : E)
  | augf (c n : Nat) (i : Nat) (o : O2) (e : E)
  | app (a e : E)
  | ext (a e : E)
  | pop (a : E)
  | ex (e : E)
  | ite (c : E) (a b : Sts)
  | fr (t : Tg) (it : It) (b : Sts)
  | wh (c : E) (b : Sts)
  | ret (e : E)
  | retn
  | rais (c : Nat) (ns : List Nat) (l : Es)
  | pass
  | fz (i : Nat)
  | kl (l : List Nat)
  | par (is : List Nat) (l : Es)
inductive Sts where
  | nil | cons (s : St) (l : Sts)
end
mutual
def Tg.set : Tg → D → List Slot → Option (List Slot)
  | .nm i, x, env => some (env.set i (.w (.d x)))
  | .tp l, x, env => match x with
    | .tp _ xs => l.set xs env
    | _ => none
def Tgs.set : Tgs → List D → List Slot → Option (List Slot)
  | .nil, [], env => some env
  | .cons t l, x :: xs, env => match t.set x env with
    | some env' => l.set xs env'
    | none => none
  | _, _, _ => none
end
def sumD : List D → Option Int
  | [] => some 0
  | .int i :: l => match sumD l with
    | some s => some (i + s)
    | none => none
  | _ => none
def tyD : D → String
  | .non => "NoneType"
  | .bl _ => "bool"
  | .int _ => "int"
  | .str _ => "str"
  | .tp _ _ => "tuple"
  | .lst _ => "list"
  | .dct _ _ => "dict"
  | .obj _ _ => ""
def isTy (d : D) : Cl → Bool
  | .ty n => tyD d == n || (n == "int" && tyD d == "bool")
  | .own c => match d with
    | .obj c' _ => decide (c' = c)
    | _ => false
def lenD : D → Option D
  | .lst l => some (.int l.length)
  | .tp _ l => some (.int l.length)
  | .str x => if x.length ≤ LN then some (.int x.length) else none
  | .dct _ l => some (.int l.length)
  | _ => none
def intD : D → Option D
  | .int i => some (.int i)
  | _ => none
def tupD : D → Option D
  | .lst l => some (.tup l)
  | .tp c l => if c = true then some (.tup l) else none
  | _ => none
def lstD : D → Option D
  | .lst l => some (.lst l)
  | .tp _ l => some (.lst l)
  | _ => none
def sumB : D → Option D
  | .lst l => (sumD l).map .int
  | _ => none
def strsL : List D → Option (List Str)
  | [] => some []
  | .str x :: l => match strsL l with
    | some xs => some (x :: xs)
    | none => none
  | _ => none
def sawT (xs : List Str) (i : Nat) : Str → Bool := fun y => (xs.take i).any (· == y)
def cntT (xs : List Str) : Nat → Nat
  | 0 => 0
  | i + 1 => match xs[i]? with
    | some x => if sawT xs i x = true then cntT xs i else cntT xs i + 1
    | none => cntT xs i
def lensetD : D → Option D
  | .tp true l => match strsL l with
    | some xs => if xs.length ≤ 4000 then some (.int (cntT xs xs.length)) else none
    | none => none
  | _ => none
def intsL : List D → Option (List Int)
  | [] => some []
  | .int i :: l => match intsL l with
    | some r => some (i :: r)
    | none => none
  | _ => none
def insI (x : Int) : List Int → List Int
  | [] => [x]
  | y :: l => if x ≤ y then x :: y :: l else y :: insI x l
def srtI : List Int → List Int
  | [] => []
  | x :: l => insI x (srtI l)
def srtD : D → Option D
  | .lst l => (intsL l).map fun r => .lst ((srtI r).map .int)
  | .tp _ l => (intsL l).map fun r => .lst ((srtI r).map .int)
  | _ => none
def Bi.f1 : Bi → D → Option D
  | .len => lenD
  | .int => intD
  | .tuple => tupD
  | .list => lstD
  | .sum => sumB
  | .lenset => lensetD
  | .sorted => srtD
  | _ => fun _ => none
def Bi.f (b : Bi) : List D → Option D
  | [x] => b.f1 x
  | _ => none
def countD (l : List D) (x : D) : Nat := l.countP fun y => dEq y x
def cntD : D → List D → Option D
  | .lst l, [x] => if eqOk (.lst l) x then some (.int (countD l x)) else none
  | .tp c l, [x] => if c = true ∧ eqOk (.tup l) x then some (.int (countD l x)) else none
  | _, _ => none
def Mt.f : Mt → D → List D → Option D
  | .count => cntD
  | _ => fun _ _ => none
inductive Out where
  | nx (env : List Slot) (S : List Cell) | rt (w : W) (S : List Cell) | bk (env : List Slot) (S : List Cell) | ct (env : List Slot) (S : List Cell) | ex (x : Xc) (S : List Cell) | bad
def Res.out {α : Type} : Res α → (α → List Cell → Out) → Out
  | .ok x S, k => k x S
  | .ex x S, _ => .ex x S
  | .bad, _ => .bad
def Out.opt {α : Type} (o : Option α) (k : α → Out) : Out := match o with
  | some x => k x
  | none => .bad
def Es.len : Es → Nat
  | .nil => 0
  | .cons _ l => l.len + 1
end Rg
set_option Elab.async false
set_option linter.all false
set_option maxRecDepth 100000
set_option maxHeartbeats 4000000
namespace Rg
open PySem PySem.Spec PyProof.Rows L2
def b_is_number : Sts := .cons (.ret (.bo true (.cons (.isi (.nm 0) [.ty "int"]) (.cons (.nt (.isi (.nm 0) [.ty "bool"])) (.cons (.ch .le .le (.nm 1) (.nm 0) (.nm 2)) .nil))))) .nil
def b_check : Sts := .cons (.ite (.nt (.nm 0)) (.cons (.rais 101 [101] (.cons (.nm 1) .nil)) .nil) .nil) .nil
def b_is_word : Sts := .cons (.ite (.bo false (.cons (.nt (.isi (.nm 0) [.ty "str"])) (.cons (.nt (.ch .le .le (.k (.int 1)) (.bi .len (.cons (.nm 0) .nil)) (.gl ("MOST_LETTERS" : Str) (.int 8)))) (.cons (.inK true (.nm 0) ("KEPT" : Str) [.str ("every" : Str), .str ("day" : Str), .str ("never" : Str), .str ("then" : Str), .str ("at" : Str), .str ("most" : Str), .str ("least" : Str), .str ("in" : Str), .str ("has" : Str), .str ("not" : Str), .str ("on" : Str), .str ("wants" : Str), .str ("off" : Str)]) .nil)))) (.cons (.ret (.k (.bl false))) .nil) .nil) (.cons (.ret (.qu true (.nm 1) (.e (.nm 0)) (.o2 .isin (.nm 1) (.gl ("LETTERS" : Str) (.str ("abcdefghijklmnopqrstuvwxyz" : Str)))) [1])) .nil)
def b_are_words : Sts := .cons (.ite (.bo false (.cons (.nt (.isi (.nm 0) [.ty "tuple"])) (.cons (.nt (.ch .le .le (.k (.int 1)) (.bi .len (.cons (.nm 0) .nil)) (.nm 1))) (.cons (.nt (.qu true (.nm 2) (.e (.nm 0)) (.ca 203 (.cons (.nm 2) .nil)) [2])) .nil)))) (.cons (.ret (.k (.bl false))) .nil) .nil) (.cons (.ret (.o2 .eq (.bi .lenset (.cons (.nm 0) .nil)) (.bi .len (.cons (.nm 0) .nil)))) .nil)
def b_are_numbers : Sts := .cons (.ret (.bo true (.cons (.isi (.nm 0) [.ty "tuple"]) (.cons (.o2 .eq (.bi .len (.cons (.nm 0) .nil)) (.nm 1)) (.cons (.qu true (.nm 4) (.e (.nm 0)) (.ca 201 (.cons (.nm 4) (.cons (.nm 2) (.cons (.nm 3) .nil)))) [4]) .nil))))) .nil
def b_Size_init : Sts := .cons (.sf 1 1 (.nm 0) (.nm 1)) (.cons (.sf 1 2 (.nm 0) (.nm 2)) (.cons (.sf 1 3 (.nm 0) (.nm 3)) .nil))
def b_Size_is_day : Sts := .cons (.ret (.ca 201 (.cons (.nm 1) (.cons (.k (.int 1)) (.cons (.fl 1 1 (.nm 0)) .nil))))) .nil
def b_Size_is_person : Sts := .cons (.ret (.ca 201 (.cons (.nm 1) (.cons (.k (.int 0)) (.cons (.o2 .sub (.fl 1 2 (.nm 0)) (.k (.int 1))) .nil))))) .nil
def b_Size_is_duty : Sts := .cons (.ret (.ca 201 (.cons (.nm 1) (.cons (.k (.int 0)) (.cons (.o2 .sub (.fl 1 3 (.nm 0)) (.k (.int 1))) .nil))))) .nil
def b_is_rule_in : Sts := .cons (.ite (.bo false (.cons (.nt (.isi (.nm 1) [.ty "tuple"])) (.cons (.o2 .eq (.bi .len (.cons (.nm 1) .nil)) (.k (.int 0))) (.cons (.nt (.isi (.ix (.nm 1) (.k (.int 0))) [.ty "str"])) .nil)))) (.cons (.ret (.k (.bl false))) .nil) .nil) (.cons (.asg (.nm 2) (.ix (.nm 1) (.k (.int 0)))) (.cons (.ite (.bo false (.cons (.inK false (.nm 2) ("SIZES" : Str) [.str ("every" : Str), .str ("day" : Str), .str ("never" : Str), .str ("in" : Str), .str ("has" : Str), .str ("not" : Str), .str ("least" : Str), .str ("most" : Str)]) (.cons (.o2 .ne (.bi .len (.cons (.nm 1) .nil)) (.ixK (.nm 2) ("SIZES" : Str) [(.str ("every" : Str), .int 3), (.str ("day" : Str), .int 4), (.str ("never" : Str), .int 3), (.str ("in" : Str), .int 4), (.str ("has" : Str), .int 4), (.str ("not" : Str), .int 4), (.str ("least" : Str), .int 4), (.str ("most" : Str), .int 4)])) .nil))) (.cons (.ret (.k (.bl false))) .nil) .nil) (.cons (.ite (.o2 .eq (.nm 2) (.gl ("EVERY" : Str) (.str ("every" : Str)))) (.cons (.ret (.bo true (.cons (.me 1 209 (.nm 0) (.cons (.ix (.nm 1) (.k (.int 1))) .nil)) (.cons (.ca 201 (.cons (.ix (.nm 1) (.k (.int 2))) (.cons (.k (.int 0)) (.cons (.fl 1 2 (.nm 0)) .nil)))) .nil)))) .nil) .nil) (.cons (.ite (.o2 .eq (.nm 2) (.gl ("ON_DAY" : Str) (.str ("day" : Str)))) (.cons (.ret (.bo true (.cons (.me 1 207 (.nm 0) (.cons (.ix (.nm 1) (.k (.int 1))) .nil)) (.cons (.me 1 209 (.nm 0) (.cons (.ix (.nm 1) (.k (.int 2))) .nil)) (.cons (.ca 201 (.cons (.ix (.nm 1) (.k (.int 3))) (.cons (.k (.int 0)) (.cons (.fl 1 2 (.nm 0)) .nil)))) .nil))))) .nil) .nil) (.cons (.ite (.o2 .eq (.nm 2) (.gl ("NEVER" : Str) (.str ("never" : Str)))) (.cons (.ret (.bo true (.cons (.me 1 209 (.nm 0) (.cons (.ix (.nm 1) (.k (.int 1))) .nil)) (.cons (.me 1 209 (.nm 0) (.cons (.ix (.nm 1) (.k (.int 2))) .nil)) .nil)))) .nil) .nil) (.cons (.ite (.o2 .eq (.nm 2) (.gl ("IN_ROW" : Str) (.str ("in" : Str)))) (.cons (.ret (.bo true (.cons (.ca 201 (.cons (.ix (.nm 1) (.k (.int 1))) (.cons (.k (.int 0)) (.cons (.fl 1 1 (.nm 0)) .nil)))) (.cons (.me 1 209 (.nm 0) (.cons (.ix (.nm 1) (.k (.int 2))) .nil)) (.cons (.me 1 207 (.nm 0) (.cons (.ix (.nm 1) (.k (.int 3))) .nil)) .nil))))) .nil) .nil) (.cons (.ite (.o2 .isin (.nm 2) (.tup (.cons (.gl ("HAS" : Str) (.str ("has" : Str))) (.cons (.gl ("HAS_NOT" : Str) (.str ("not" : Str))) .nil)))) (.cons (.ret (.bo true (.cons (.me 1 208 (.nm 0) (.cons (.ix (.nm 1) (.k (.int 1))) .nil)) (.cons (.me 1 209 (.nm 0) (.cons (.ix (.nm 1) (.k (.int 2))) .nil)) (.cons (.me 1 207 (.nm 0) (.cons (.ix (.nm 1) (.k (.int 3))) .nil)) .nil))))) .nil) .nil) (.cons (.ret (.bo true (.cons (.me 1 208 (.nm 0) (.cons (.ix (.nm 1) (.k (.int 1))) .nil)) (.cons (.ca 201 (.cons (.ix (.nm 1) (.k (.int 2))) (.cons (.k (.int 0)) (.cons (.fl 1 1 (.nm 0)) .nil)))) (.cons (.me 1 209 (.nm 0) (.cons (.ix (.nm 1) (.k (.int 3))) .nil)) .nil))))) .nil))))))))
def b_is_wish_in : Sts := .cons (.ite (.bo false (.cons (.nt (.isi (.nm 1) [.ty "tuple"])) (.cons (.o2 .ne (.bi .len (.cons (.nm 1) .nil)) (.k (.int 5))) (.cons (.nt (.isi (.ix (.nm 1) (.k (.int 3))) [.ty "bool"])) .nil)))) (.cons (.ret (.k (.bl false))) .nil) .nil) (.cons (.asg (.nm 2) (.bo true (.cons (.me 1 208 (.nm 0) (.cons (.ix (.nm 1) (.k (.int 0))) .nil)) (.cons (.me 1 209 (.nm 0) (.cons (.ix (.nm 1) (.k (.int 1))) .nil)) (.cons (.me 1 207 (.nm 0) (.cons (.ix (.nm 1) (.k (.int 2))) .nil)) .nil))))) (.cons (.ret (.bo true (.cons (.nm 2) (.cons (.ca 201 (.cons (.ix (.nm 1) (.k (.int 4))) (.cons (.k (.int 1)) (.cons (.gl ("MOST_WEIGHT" : Str) (.int 9)) .nil)))) .nil)))) .nil))
def b_are_rules_in : Sts := .cons (.ret (.bo true (.cons (.isi (.nm 1) [.ty "tuple"]) (.cons (.o2 .le (.bi .len (.cons (.nm 1) .nil)) (.gl ("MOST_RULES" : Str) (.int 12))) (.cons (.qu true (.nm 2) (.e (.nm 1)) (.ca 210 (.cons (.nm 0) (.cons (.nm 2) .nil))) [2]) .nil))))) .nil
def b_are_wishes_in : Sts := .cons (.ret (.bo true (.cons (.isi (.nm 1) [.ty "tuple"]) (.cons (.o2 .le (.bi .len (.cons (.nm 1) .nil)) (.gl ("MOST_WISHES" : Str) (.int 12))) (.cons (.qu true (.nm 2) (.e (.nm 1)) (.ca 211 (.cons (.nm 0) (.cons (.nm 2) .nil))) [2]) .nil))))) .nil
def b_Ward_init : Sts := .cons (.ex (.ca 202 (.cons (.ca 201 (.cons (.nm 1) (.cons (.k (.int 1)) (.cons (.gl ("MOST_DAYS" : Str) (.int 5)) .nil)))) (.cons (.k (.str ("days" : Str))) .nil)))) (.cons (.ex (.ca 202 (.cons (.ca 204 (.cons (.nm 2) (.cons (.gl ("MOST_PEOPLE" : Str) (.int 4)) .nil))) (.cons (.k (.str ("people" : Str))) .nil)))) (.cons (.ex (.ca 202 (.cons (.ca 204 (.cons (.nm 3) (.cons (.gl ("MOST_DUTIES" : Str) (.int 3)) .nil))) (.cons (.k (.str ("duties" : Str))) .nil)))) (.cons (.ex (.ca 202 (.cons (.ca 205 (.cons (.nm 4) (.cons (.bi .len (.cons (.nm 3) .nil)) (.cons (.k (.int 0)) (.cons (.gl ("MOST_BURDEN" : Str) (.int 9)) .nil))))) (.cons (.k (.str ("burdens" : Str))) .nil)))) (.cons (.asg (.nm 7) (.mk 1 206 true (.cons (.nm 1) (.cons (.bi .len (.cons (.nm 2) .nil)) (.cons (.bi .len (.cons (.nm 3) .nil)) .nil))))) (.cons (.ex (.ca 202 (.cons (.ca 212 (.cons (.nm 7) (.cons (.nm 5) .nil))) (.cons (.k (.str ("rules" : Str))) .nil)))) (.cons (.ex (.ca 202 (.cons (.ca 213 (.cons (.nm 7) (.cons (.nm 6) .nil))) (.cons (.k (.str ("wishes" : Str))) .nil)))) (.cons (.sf 2 4 (.nm 0) (.nm 7)) (.cons (.sf 2 5 (.nm 0) (.nm 2)) (.cons (.sf 2 6 (.nm 0) (.nm 3)) (.cons (.sf 2 7 (.nm 0) (.nm 4)) (.cons (.sf 2 8 (.nm 0) (.nm 5)) (.cons (.sf 2 9 (.nm 0) (.nm 6)) .nil))))))))))))
def b_Ward_days : Sts := .cons (.ret (.fl 1 1 (.fl 2 4 (.nm 0)))) .nil
def b_Ward_people : Sts := .cons (.ret (.fl 2 5 (.nm 0))) .nil
def b_Ward_duties : Sts := .cons (.ret (.fl 2 6 (.nm 0))) .nil
def b_Ward_burdens : Sts := .cons (.ret (.fl 2 7 (.nm 0))) .nil
def b_Ward_rules : Sts := .cons (.ret (.fl 2 8 (.nm 0))) .nil
def b_Ward_wishes : Sts := .cons (.ret (.fl 2 9 (.nm 0))) .nil
def b_Ward_size : Sts := .cons (.ret (.fl 2 4 (.nm 0))) .nil
def b_parts_of : Sts := .cons (.ret (.tup (.cons (.pr 2 215 (.nm 0)) (.cons (.pr 2 216 (.nm 0)) (.cons (.pr 2 217 (.nm 0)) (.cons (.pr 2 218 (.nm 0)) (.cons (.pr 2 219 (.nm 0)) (.cons (.pr 2 220 (.nm 0)) .nil)))))))) .nil
def b_is_ward : Sts := .cons (.ret (.isi (.nm 0) [.own 2])) .nil
def b_is_table : Sts := .cons (.ite (.bo false (.cons (.nt (.isi (.nm 1) [.ty "tuple"])) (.cons (.o2 .ne (.bi .len (.cons (.nm 1) .nil)) (.bi .len (.cons (.pr 2 216 (.nm 0)) .nil))) .nil))) (.cons (.ret (.k (.bl false))) .nil) .nil) (.cons (.ret (.qu true (.nm 2) (.e (.nm 1)) (.ca 205 (.cons (.nm 2) (.cons (.pr 2 215 (.nm 0)) (.cons (.k (.int 0)) (.cons (.o2 .sub (.bi .len (.cons (.pr 2 217 (.nm 0)) .nil)) (.k (.int 1))) .nil))))) [2])) .nil)
def b_check_roster : Sts := .cons (.ex (.ca 202 (.cons (.ca 223 (.cons (.nm 0) .nil)) (.cons (.k (.str ("ward" : Str))) .nil)))) (.cons (.ex (.ca 202 (.cons (.ca 224 (.cons (.nm 0) (.cons (.nm 1) .nil))) (.cons (.nm 2) .nil)))) .nil)
def b__law_taken : Sts := .cons (.ite (.o2 .gt (.ix (.nm 0) (.k (.int 3))) (.k (.int 0))) (.cons (.asg (.nm 2) (.o2 .mod (.bi .int (.cons (.ix (.nm 0) (.k (.int 3))) .nil)) (.nm 1))) (.cons (.si (.nm 0) (.k (.int 3)) (.o2 .fdiv (.ix (.nm 0) (.k (.int 3))) (.nm 1))) (.cons (.ret (.nm 2)) .nil))) .nil) (.cons (.si (.nm 0) (.k (.int 1)) (.o2 .add (.ix (.nm 0) (.k (.int 1))) (.k (.int 1)))) (.cons (.ite (.o2 .gt (.ix (.nm 0) (.k (.int 1))) (.bi .len (.cons (.ix (.nm 0) (.k (.int 0))) .nil))) (.cons (.si (.nm 0) (.k (.int 2)) (.o2 .mod (.bi .int (.cons (.o2 .add (.o2 .mul (.ix (.nm 0) (.k (.int 2))) (.k (.int 48271))) (.k (.int 11))) .nil)) (.k (.int 2147483647)))) (.cons (.ret (.o2 .mod (.bi .int (.cons (.o2 .fdiv (.ix (.nm 0) (.k (.int 2))) (.k (.int 7))) .nil)) (.nm 1))) .nil)) .nil) (.cons (.asg (.nm 3) (.ix (.ix (.nm 0) (.k (.int 0))) (.o2 .sub (.ix (.nm 0) (.k (.int 1))) (.k (.int 1))))) (.cons (.si (.nm 0) (.k (.int 2)) (.o2 .mod (.bi .int (.cons (.o2 .add (.o2 .add (.o2 .mul (.ix (.nm 0) (.k (.int 2))) (.k (.int 48271))) (.nm 3)) (.k (.int 11))) .nil)) (.k (.int 2147483647)))) (.cons (.ite (.o2 .ge (.nm 3) (.o2 .pow (.k (.int 10)) (.k (.int 18)))) (.cons (.si (.nm 0) (.k (.int 3)) (.o2 .fdiv (.nm 3) (.nm 1))) .nil) .nil) (.cons (.ret (.o2 .mod (.bi .int (.cons (.nm 3) .nil)) (.nm 1))) .nil))))))
def b__law_pick : Sts := .cons (.ret (.ix (.nm 1) (.ca 233 (.cons (.nm 0) (.cons (.bi .len (.cons (.nm 1) .nil)) .nil))))) .nil
def b__law_power : Sts := .cons (.asg (.nm 2) (.k (.int 1))) (.cons (.fr (.nm 3) (.rg1 (.nm 1)) (.cons (.asg (.nm 2) (.o2 .mul (.nm 2) (.nm 0))) .nil)) (.cons (.ret (.nm 2)) .nil))
def b__law_size : Sts := .cons (.par [2, 3] (.cons (.o2 .add (.k (.int 1)) (.ca 233 (.cons (.nm 0) (.cons (.ca 234 (.cons (.nm 0) (.cons (.fr (.lst (.cons (.k (.int 2)) (.cons (.k (.int 3)) (.cons (.k (.int 4)) .nil))))) .nil))) .nil)))) (.cons (.o2 .add (.k (.int 1)) (.ca 233 (.cons (.nm 0) (.cons (.k (.int 3)) .nil)))) .nil))) (.cons (.asg (.nm 4) (.o2 .add (.k (.int 1)) (.ca 233 (.cons (.nm 0) (.cons (.k (.int 5)) .nil))))) (.cons (.wh (.o2 .gt (.ca 235 (.cons (.nm 3) (.cons (.o2 .mul (.nm 4) (.nm 2)) .nil))) (.nm 1)) (.cons (.asg (.tp (.cons (.nm 4) (.cons (.nm 2) .nil))) (.ite (.o2 .gt (.nm 4) (.k (.int 1))) (.tup (.cons (.o2 .sub (.nm 4) (.k (.int 1))) (.cons (.nm 2) .nil))) (.tup (.cons (.nm 4) (.cons (.o2 .sub (.nm 2) (.k (.int 1))) .nil))))) .nil)) (.cons (.ret (.tup (.cons (.nm 4) (.cons (.nm 2) (.cons (.nm 3) .nil))))) .nil)))
def b__law_rule : Sts := .cons (.asg (.tp (.cons (.nm 2) (.cons (.nm 3) (.cons (.nm 4) .nil)))) (.nm 1)) (.cons (.asg (.nm 5) (.ca 234 (.cons (.nm 0) (.cons (.fr (.lst (.cons (.k (.str ("every" : Str))) (.cons (.k (.str ("day" : Str))) (.cons (.k (.str ("day" : Str))) (.cons (.k (.str ("never" : Str))) (.cons (.k (.str ("in" : Str))) (.cons (.k (.str ("has" : Str))) (.cons (.k (.str ("not" : Str))) (.cons (.k (.str ("not" : Str))) (.cons (.k (.str ("least" : Str))) (.cons (.k (.str ("most" : Str))) .nil)))))))))))) .nil)))) (.cons (.par [6, 7, 8] (.cons (.o2 .add (.k (.int 1)) (.ca 233 (.cons (.nm 0) (.cons (.nm 2) .nil)))) (.cons (.ca 233 (.cons (.nm 0) (.cons (.nm 3) .nil))) (.cons (.ca 233 (.cons (.nm 0) (.cons (.nm 4) .nil))) .nil)))) (.cons (.ite (.o2 .eq (.nm 5) (.k (.str ("every" : Str)))) (.cons (.ret (.tup (.cons (.nm 5) (.cons (.nm 8) (.cons (.ca 233 (.cons (.nm 0) (.cons (.o2 .add (.nm 3) (.k (.int 1))) .nil))) .nil))))) .nil) .nil) (.cons (.ite (.o2 .eq (.nm 5) (.k (.str ("day" : Str)))) (.cons (.ret (.tup (.cons (.nm 5) (.cons (.nm 6) (.cons (.nm 8) (.cons (.ca 233 (.cons (.nm 0) (.cons (.o2 .add (.nm 3) (.k (.int 1))) .nil))) .nil)))))) .nil) .nil) (.cons (.ite (.o2 .eq (.nm 5) (.k (.str ("never" : Str)))) (.cons (.ret (.tup (.cons (.nm 5) (.cons (.nm 8) (.cons (.ca 233 (.cons (.nm 0) (.cons (.nm 4) .nil))) .nil))))) .nil) .nil) (.cons (.ite (.o2 .eq (.nm 5) (.k (.str ("in" : Str)))) (.cons (.ret (.tup (.cons (.nm 5) (.cons (.ca 233 (.cons (.nm 0) (.cons (.o2 .add (.nm 6) (.k (.int 1))) .nil))) (.cons (.nm 8) (.cons (.nm 6) .nil)))))) .nil) .nil) (.cons (.ite (.o2 .isin (.nm 5) (.tup (.cons (.k (.str ("has" : Str))) (.cons (.k (.str ("not" : Str))) .nil)))) (.cons (.ret (.tup (.cons (.nm 5) (.cons (.nm 7) (.cons (.nm 8) (.cons (.nm 6) .nil)))))) .nil) .nil) (.cons (.ret (.tup (.cons (.nm 5) (.cons (.nm 7) (.cons (.ca 233 (.cons (.nm 0) (.cons (.o2 .add (.nm 2) (.k (.int 1))) .nil))) (.cons (.nm 8) .nil)))))) .nil))))))))
def b__law_wish : Sts := .cons (.asg (.tp (.cons (.nm 2) (.cons (.nm 3) (.cons (.nm 4) .nil)))) (.nm 1)) (.cons (.ret (.tup (.cons (.ca 233 (.cons (.nm 0) (.cons (.nm 3) .nil))) (.cons (.ca 233 (.cons (.nm 0) (.cons (.nm 4) .nil))) (.cons (.o2 .add (.k (.int 1)) (.ca 233 (.cons (.nm 0) (.cons (.nm 2) .nil)))) (.cons (.o2 .eq (.ca 233 (.cons (.nm 0) (.cons (.k (.int 2)) .nil))) (.k (.int 0))) (.cons (.o2 .add (.k (.int 1)) (.ca 233 (.cons (.nm 0) (.cons (.ca 234 (.cons (.nm 0) (.cons (.fr (.lst (.cons (.k (.int 1)) (.cons (.k (.int 3)) (.cons (.k (.int 9)) .nil))))) .nil))) .nil)))) .nil))))))) .nil)
def b__law_parts : Sts := .cons (.asg (.nm 3) (.ca 236 (.cons (.nm 0) (.cons (.nm 1) .nil)))) (.cons (.asg (.nm 4) (.bi .tuple (.cons (.fr (.lc (.nm 5) (.rg1 (.ix (.nm 3) (.k (.int 2)))) .none (.ca 233 (.cons (.nm 0) (.cons (.ca 234 (.cons (.nm 0) (.cons (.fr (.lst (.cons (.k (.int 2)) (.cons (.k (.int 4)) (.cons (.k (.int 10)) .nil))))) .nil))) .nil))) [5])) .nil))) (.cons (.asg (.nm 6) (.bi .tuple (.cons (.fr (.lc (.nm 7) (.rg1 (.ca 233 (.cons (.nm 0) (.cons (.o2 .add (.nm 2) (.k (.int 1))) .nil)))) .none (.ca 237 (.cons (.nm 0) (.cons (.nm 3) .nil))) [7])) .nil))) (.cons (.ret (.tup (.cons (.nm 3) (.cons (.nm 4) (.cons (.nm 6) (.cons (.bi .tuple (.cons (.fr (.lc (.nm 7) (.rg1 (.ca 233 (.cons (.nm 0) (.cons (.ca 234 (.cons (.nm 0) (.cons (.fr (.lst (.cons (.k (.int 2)) (.cons (.k (.int 7)) .nil)))) .nil))) .nil)))) .none (.ca 238 (.cons (.nm 0) (.cons (.nm 3) .nil))) [7])) .nil)) .nil)))))) .nil)))
def b__law_names : Sts := .cons (.ret (.tup (.cons (.sl (.tup (.cons (.k (.str ("ann" : Str))) (.cons (.k (.str ("bo" : Str))) (.cons (.k (.str ("cy" : Str))) (.cons (.k (.str ("dee" : Str))) .nil))))) .none (.some (.nm 0))) (.cons (.sl (.tup (.cons (.k (.str ("early" : Str))) (.cons (.k (.str ("late" : Str))) (.cons (.k (.str ("free" : Str))) .nil)))) .none (.some (.nm 1))) .nil)))) .nil
def b__law_ward : Sts := .cons (.asg (.tp (.cons (.nm 1) (.cons (.nm 2) (.cons (.nm 3) (.cons (.nm 4) .nil))))) (.nm 0)) (.cons (.asg (.tp (.cons (.nm 5) (.cons (.nm 6) .nil))) (.ca 240 (.cons (.ix (.nm 1) (.k (.int 1))) (.cons (.ix (.nm 1) (.k (.int 2))) .nil)))) (.cons (.ret (.mk 2 214 true (.cons (.ix (.nm 1) (.k (.int 0))) (.cons (.nm 5) (.cons (.nm 6) (.cons (.nm 2) (.cons (.nm 3) (.cons (.nm 4) .nil)))))))) .nil))
def b__law_table : Sts := .cons (.ret (.bi .tuple (.cons (.fr (.lc (.nm 3) (.rg1 (.ix (.nm 1) (.k (.int 1)))) .none (.bi .tuple (.cons (.fr (.lc (.nm 2) (.rg1 (.ix (.nm 1) (.k (.int 0)))) .none (.ca 233 (.cons (.nm 0) (.cons (.ix (.nm 1) (.k (.int 2))) .nil))) [2])) .nil)) [3])) .nil))) .nil
def b__law_alike1 : Sts := .cons (.ite (.isi (.nm 1) [.ty "tuple", .ty "list"]) (.cons (.ite (.bo false (.cons (.nt (.isi (.nm 0) [.ty "tuple", .ty "list"])) (.cons (.o2 .ne (.isi (.nm 0) [.ty "list"]) (.isi (.nm 1) [.ty "list"])) .nil))) (.cons (.ret (.k (.bl false))) .nil) .nil) (.cons (.ite (.o2 .ne (.bi .len (.cons (.nm 0) .nil)) (.bi .len (.cons (.nm 1) .nil))) (.cons (.ret (.k (.bl false))) .nil) .nil) (.cons (.ret (.o2 .eq (.fr (.lc (.nm 2) (.rg1 (.bi .len (.cons (.nm 1) .nil))) (.some (.nt (.ca 244 (.cons (.ix (.nm 0) (.nm 2)) (.cons (.ix (.nm 1) (.nm 2)) .nil))))) (.nm 2) [2])) (.fr (.lst .nil)))) .nil))) .nil) (.cons (.ite (.isi (.nm 1) [.ty "dict"]) (.cons (.ite (.bo false (.cons (.nt (.isi (.nm 0) [.ty "dict"])) (.cons (.o2 .ne (.bi .list (.cons (.nm 0) .nil)) (.bi .list (.cons (.nm 1) .nil))) .nil))) (.cons (.ret (.k (.bl false))) .nil) .nil) (.cons (.ret (.o2 .eq (.fr (.lc (.nm 3) (.e (.nm 1)) (.some (.nt (.ca 244 (.cons (.ix (.nm 0) (.nm 3)) (.cons (.ix (.nm 1) (.nm 3)) .nil))))) (.nm 3) [3])) (.fr (.lst .nil)))) .nil)) .nil) (.cons (.ite (.bo false (.cons (.o2 .isx (.nm 1) (.k (.non))) (.cons (.isi (.nm 1) [.ty "str"]) .nil))) (.cons (.ret (.bo true (.cons (.o2 .eq (.nm 0) (.nm 1)) (.cons (.o2 .eq (.isi (.nm 0) [.ty "str"]) (.isi (.nm 1) [.ty "str"])) .nil)))) .nil) .nil) (.cons (.ret (.bo true (.cons (.isi (.nm 0) [.ty "int"]) (.cons (.o2 .eq (.isi (.nm 0) [.ty "bool"]) (.isi (.nm 1) [.ty "bool"])) (.cons (.o2 .eq (.nm 0) (.nm 1)) .nil))))) .nil)))
def b__law_alike2 : Sts := .cons (.ite (.isi (.nm 1) [.ty "tuple", .ty "list"]) (.cons (.ite (.bo false (.cons (.nt (.isi (.nm 0) [.ty "tuple", .ty "list"])) (.cons (.o2 .ne (.isi (.nm 0) [.ty "list"]) (.isi (.nm 1) [.ty "list"])) .nil))) (.cons (.ret (.k (.bl false))) .nil) .nil) (.cons (.ite (.o2 .ne (.bi .len (.cons (.nm 0) .nil)) (.bi .len (.cons (.nm 1) .nil))) (.cons (.ret (.k (.bl false))) .nil) .nil) (.cons (.ret (.o2 .eq (.fr (.lc (.nm 2) (.rg1 (.bi .len (.cons (.nm 1) .nil))) (.some (.nt (.ca 245 (.cons (.ix (.nm 0) (.nm 2)) (.cons (.ix (.nm 1) (.nm 2)) .nil))))) (.nm 2) [2])) (.fr (.lst .nil)))) .nil))) .nil) (.cons (.ite (.isi (.nm 1) [.ty "dict"]) (.cons (.ite (.bo false (.cons (.nt (.isi (.nm 0) [.ty "dict"])) (.cons (.o2 .ne (.bi .list (.cons (.nm 0) .nil)) (.bi .list (.cons (.nm 1) .nil))) .nil))) (.cons (.ret (.k (.bl false))) .nil) .nil) (.cons (.ret (.o2 .eq (.fr (.lc (.nm 3) (.e (.nm 1)) (.some (.nt (.ca 245 (.cons (.ix (.nm 0) (.nm 3)) (.cons (.ix (.nm 1) (.nm 3)) .nil))))) (.nm 3) [3])) (.fr (.lst .nil)))) .nil)) .nil) (.cons (.ite (.bo false (.cons (.o2 .isx (.nm 1) (.k (.non))) (.cons (.isi (.nm 1) [.ty "str"]) .nil))) (.cons (.ret (.bo true (.cons (.o2 .eq (.nm 0) (.nm 1)) (.cons (.o2 .eq (.isi (.nm 0) [.ty "str"]) (.isi (.nm 1) [.ty "str"])) .nil)))) .nil) .nil) (.cons (.ret (.bo true (.cons (.isi (.nm 0) [.ty "int"]) (.cons (.o2 .eq (.isi (.nm 0) [.ty "bool"]) (.isi (.nm 1) [.ty "bool"])) (.cons (.o2 .eq (.nm 0) (.nm 1)) .nil))))) .nil)))
def b__law_alike3 : Sts := .cons (.ite (.isi (.nm 1) [.ty "tuple", .ty "list"]) (.cons (.ite (.bo false (.cons (.nt (.isi (.nm 0) [.ty "tuple", .ty "list"])) (.cons (.o2 .ne (.isi (.nm 0) [.ty "list"]) (.isi (.nm 1) [.ty "list"])) .nil))) (.cons (.ret (.k (.bl false))) .nil) .nil) (.cons (.ite (.o2 .ne (.bi .len (.cons (.nm 0) .nil)) (.bi .len (.cons (.nm 1) .nil))) (.cons (.ret (.k (.bl false))) .nil) .nil) (.cons (.ret (.o2 .eq (.fr (.lc (.nm 2) (.rg1 (.bi .len (.cons (.nm 1) .nil))) (.some (.nt (.ca 246 (.cons (.ix (.nm 0) (.nm 2)) (.cons (.ix (.nm 1) (.nm 2)) .nil))))) (.nm 2) [2])) (.fr (.lst .nil)))) .nil))) .nil) (.cons (.ite (.isi (.nm 1) [.ty "dict"]) (.cons (.ite (.bo false (.cons (.nt (.isi (.nm 0) [.ty "dict"])) (.cons (.o2 .ne (.bi .list (.cons (.nm 0) .nil)) (.bi .list (.cons (.nm 1) .nil))) .nil))) (.cons (.ret (.k (.bl false))) .nil) .nil) (.cons (.ret (.o2 .eq (.fr (.lc (.nm 3) (.e (.nm 1)) (.some (.nt (.ca 246 (.cons (.ix (.nm 0) (.nm 3)) (.cons (.ix (.nm 1) (.nm 3)) .nil))))) (.nm 3) [3])) (.fr (.lst .nil)))) .nil)) .nil) (.cons (.ite (.bo false (.cons (.o2 .isx (.nm 1) (.k (.non))) (.cons (.isi (.nm 1) [.ty "str"]) .nil))) (.cons (.ret (.bo true (.cons (.o2 .eq (.nm 0) (.nm 1)) (.cons (.o2 .eq (.isi (.nm 0) [.ty "str"]) (.isi (.nm 1) [.ty "str"])) .nil)))) .nil) .nil) (.cons (.ret (.bo true (.cons (.isi (.nm 0) [.ty "int"]) (.cons (.o2 .eq (.isi (.nm 0) [.ty "bool"]) (.isi (.nm 1) [.ty "bool"])) (.cons (.o2 .eq (.nm 0) (.nm 1)) .nil))))) .nil)))
def b__law_alike4 : Sts := .cons (.ite (.isi (.nm 1) [.ty "tuple", .ty "list"]) (.cons (.ite (.bo false (.cons (.nt (.isi (.nm 0) [.ty "tuple", .ty "list"])) (.cons (.o2 .ne (.isi (.nm 0) [.ty "list"]) (.isi (.nm 1) [.ty "list"])) .nil))) (.cons (.ret (.k (.bl false))) .nil) .nil) (.cons (.ite (.o2 .ne (.bi .len (.cons (.nm 0) .nil)) (.bi .len (.cons (.nm 1) .nil))) (.cons (.ret (.k (.bl false))) .nil) .nil) (.cons (.ret (.o2 .eq (.fr (.lc (.nm 2) (.rg1 (.bi .len (.cons (.nm 1) .nil))) (.some (.nt (.ca 247 (.cons (.ix (.nm 0) (.nm 2)) (.cons (.ix (.nm 1) (.nm 2)) .nil))))) (.nm 2) [2])) (.fr (.lst .nil)))) .nil))) .nil) (.cons (.ite (.isi (.nm 1) [.ty "dict"]) (.cons (.ite (.bo false (.cons (.nt (.isi (.nm 0) [.ty "dict"])) (.cons (.o2 .ne (.bi .list (.cons (.nm 0) .nil)) (.bi .list (.cons (.nm 1) .nil))) .nil))) (.cons (.ret (.k (.bl false))) .nil) .nil) (.cons (.ret (.o2 .eq (.fr (.lc (.nm 3) (.e (.nm 1)) (.some (.nt (.ca 247 (.cons (.ix (.nm 0) (.nm 3)) (.cons (.ix (.nm 1) (.nm 3)) .nil))))) (.nm 3) [3])) (.fr (.lst .nil)))) .nil)) .nil) (.cons (.ite (.bo false (.cons (.o2 .isx (.nm 1) (.k (.non))) (.cons (.isi (.nm 1) [.ty "str"]) .nil))) (.cons (.ret (.bo true (.cons (.o2 .eq (.nm 0) (.nm 1)) (.cons (.o2 .eq (.isi (.nm 0) [.ty "str"]) (.isi (.nm 1) [.ty "str"])) .nil)))) .nil) .nil) (.cons (.ret (.bo true (.cons (.isi (.nm 0) [.ty "int"]) (.cons (.o2 .eq (.isi (.nm 0) [.ty "bool"]) (.isi (.nm 1) [.ty "bool"])) (.cons (.o2 .eq (.nm 0) (.nm 1)) .nil))))) .nil)))
def b__law_alike5 : Sts := .cons (.ite (.isi (.nm 1) [.ty "tuple", .ty "list"]) (.cons (.ite (.bo false (.cons (.nt (.isi (.nm 0) [.ty "tuple", .ty "list"])) (.cons (.o2 .ne (.isi (.nm 0) [.ty "list"]) (.isi (.nm 1) [.ty "list"])) .nil))) (.cons (.ret (.k (.bl false))) .nil) .nil) (.cons (.ite (.o2 .ne (.bi .len (.cons (.nm 0) .nil)) (.bi .len (.cons (.nm 1) .nil))) (.cons (.ret (.k (.bl false))) .nil) .nil) (.cons (.ret (.o2 .eq (.fr (.lc (.nm 2) (.rg1 (.bi .len (.cons (.nm 1) .nil))) (.some (.nt (.ca 248 (.cons (.ix (.nm 0) (.nm 2)) (.cons (.ix (.nm 1) (.nm 2)) .nil))))) (.nm 2) [2])) (.fr (.lst .nil)))) .nil))) .nil) (.cons (.ite (.isi (.nm 1) [.ty "dict"]) (.cons (.ite (.bo false (.cons (.nt (.isi (.nm 0) [.ty "dict"])) (.cons (.o2 .ne (.bi .list (.cons (.nm 0) .nil)) (.bi .list (.cons (.nm 1) .nil))) .nil))) (.cons (.ret (.k (.bl false))) .nil) .nil) (.cons (.ret (.o2 .eq (.fr (.lc (.nm 3) (.e (.nm 1)) (.some (.nt (.ca 248 (.cons (.ix (.nm 0) (.nm 3)) (.cons (.ix (.nm 1) (.nm 3)) .nil))))) (.nm 3) [3])) (.fr (.lst .nil)))) .nil)) .nil) (.cons (.ite (.bo false (.cons (.o2 .isx (.nm 1) (.k (.non))) (.cons (.isi (.nm 1) [.ty "str"]) .nil))) (.cons (.ret (.bo true (.cons (.o2 .eq (.nm 0) (.nm 1)) (.cons (.o2 .eq (.isi (.nm 0) [.ty "str"]) (.isi (.nm 1) [.ty "str"])) .nil)))) .nil) .nil) (.cons (.ret (.bo true (.cons (.isi (.nm 0) [.ty "int"]) (.cons (.o2 .eq (.isi (.nm 0) [.ty "bool"]) (.isi (.nm 1) [.ty "bool"])) (.cons (.o2 .eq (.nm 0) (.nm 1)) .nil))))) .nil)))
def b__law_alike6 : Sts := .cons (.ite (.isi (.nm 1) [.ty "tuple", .ty "list"]) (.cons (.ite (.bo false (.cons (.nt (.isi (.nm 0) [.ty "tuple", .ty "list"])) (.cons (.o2 .ne (.isi (.nm 0) [.ty "list"]) (.isi (.nm 1) [.ty "list"])) .nil))) (.cons (.ret (.k (.bl false))) .nil) .nil) (.cons (.ite (.o2 .ne (.bi .len (.cons (.nm 0) .nil)) (.bi .len (.cons (.nm 1) .nil))) (.cons (.ret (.k (.bl false))) .nil) .nil) (.cons (.ret (.o2 .eq (.fr (.lc (.nm 2) (.rg1 (.bi .len (.cons (.nm 1) .nil))) (.some (.nt (.ca 249 (.cons (.ix (.nm 0) (.nm 2)) (.cons (.ix (.nm 1) (.nm 2)) .nil))))) (.nm 2) [2])) (.fr (.lst .nil)))) .nil))) .nil) (.cons (.ite (.isi (.nm 1) [.ty "dict"]) (.cons (.ite (.bo false (.cons (.nt (.isi (.nm 0) [.ty "dict"])) (.cons (.o2 .ne (.bi .list (.cons (.nm 0) .nil)) (.bi .list (.cons (.nm 1) .nil))) .nil))) (.cons (.ret (.k (.bl false))) .nil) .nil) (.cons (.ret (.o2 .eq (.fr (.lc (.nm 3) (.e (.nm 1)) (.some (.nt (.ca 249 (.cons (.ix (.nm 0) (.nm 3)) (.cons (.ix (.nm 1) (.nm 3)) .nil))))) (.nm 3) [3])) (.fr (.lst .nil)))) .nil)) .nil) (.cons (.ite (.bo false (.cons (.o2 .isx (.nm 1) (.k (.non))) (.cons (.isi (.nm 1) [.ty "str"]) .nil))) (.cons (.ret (.bo true (.cons (.o2 .eq (.nm 0) (.nm 1)) (.cons (.o2 .eq (.isi (.nm 0) [.ty "str"]) (.isi (.nm 1) [.ty "str"])) .nil)))) .nil) .nil) (.cons (.ret (.bo true (.cons (.isi (.nm 0) [.ty "int"]) (.cons (.o2 .eq (.isi (.nm 0) [.ty "bool"]) (.isi (.nm 1) [.ty "bool"])) (.cons (.o2 .eq (.nm 0) (.nm 1)) .nil))))) .nil)))
def b__law_bent_table : Sts := .cons (.asg (.nm 3) (.fr (.lst (.cons (.k (.non)) (.cons (.bi .list (.cons (.nm 2) .nil)) (.cons (.o2 .add (.nm 2) (.sl (.nm 2) .none (.some (.k (.int 1))))) (.cons (.sl (.nm 2) .none (.some (.neg (.k (.int 1))))) (.cons (.k (.str ("x" : Str))) (.cons (.o2 .add (.sl (.nm 2) .none (.some (.neg (.k (.int 1))))) (.tup (.cons (.bi .list (.cons (.ix (.nm 2) (.neg (.k (.int 1)))) .nil)) .nil))) (.cons (.o2 .add (.sl (.nm 2) .none (.some (.neg (.k (.int 1))))) (.tup (.cons (.o2 .add (.ix (.nm 2) (.neg (.k (.int 1)))) (.tup (.cons (.k (.int 0)) .nil))) .nil))) .nil)))))))))) (.cons (.ret (.ca 234 (.cons (.nm 0) (.cons (.o2 .add (.nm 3) (.fr (.lst (.cons (.o2 .add (.sl (.nm 2) .none (.some (.neg (.k (.int 1))))) (.tup (.cons (.o2 .add (.sl (.ix (.nm 2) (.neg (.k (.int 1)))) .none (.some (.neg (.k (.int 1))))) (.tup (.cons (.ix (.nm 1) (.k (.int 2))) .nil))) .nil))) (.cons (.o2 .add (.sl (.nm 2) .none (.some (.neg (.k (.int 1))))) (.tup (.cons (.o2 .add (.sl (.ix (.nm 2) (.neg (.k (.int 1)))) .none (.some (.neg (.k (.int 1))))) (.tup (.cons (.neg (.k (.int 1))) .nil))) .nil))) (.cons (.o2 .add (.sl (.nm 2) .none (.some (.neg (.k (.int 1))))) (.tup (.cons (.o2 .add (.sl (.ix (.nm 2) (.neg (.k (.int 1)))) .none (.some (.neg (.k (.int 1))))) (.tup (.cons (.k (.bl true)) .nil))) .nil))) .nil)))))) .nil)))) .nil)
end Rg
set_option Elab.async false
set_option linter.all false
set_option maxRecDepth 100000
set_option maxHeartbeats 4000000
set_option Elab.async false
set_option linter.all false
set_option maxRecDepth 100000
set_option maxHeartbeats 4000000
set_option Elab.async false
set_option linter.all false
set_option maxRecDepth 100000
set_option maxHeartbeats 4000000
set_option Elab.async false
set_option linter.all false
set_option maxRecDepth 100000
set_option maxHeartbeats 4000000
set_option Elab.async false
set_option linter.all false
set_option maxRecDepth 100000
set_option maxHeartbeats 4000000
set_option Elab.async false
set_option linter.all false
set_option maxRecDepth 100000
set_option maxHeartbeats 4000000
set_option Elab.async false
set_option linter.all false
set_option maxRecDepth 100000
set_option maxHeartbeats 4000000
set_option Elab.async false
set_option linter.all false
set_option maxRecDepth 100000
set_option maxHeartbeats 4000000
namespace Rg
open PySem PySem.Spec PyProof.Rows L2
mutual
def gTg (K : PySem.W.Frag) : Tg → TG
  | .nm i => gName i
  | .tp l => gTup K l.len (gTgs K l)
def gTgs (K : PySem.W.Frag) : Tgs → TGs
  | .nil => gNil
  | .cons t l => gCons (gTg K t) (gTgs K l)
def Tgs.len : Tgs → Nat
  | .nil => 0
  | .cons _ l => l.len + 1
end
mutual
def Tg.ix : Tg → List Nat
  | .nm i => [i]
  | .tp l => l.ix
def Tgs.ix : Tgs → List Nat
  | .nil => []
  | .cons t l => t.ix ++ l.ix
end
end Rg
set_option Elab.async false
set_option linter.all false
set_option maxRecDepth 100000
set_option maxHeartbeats 4000000
set_option Elab.async false
set_option linter.all false
set_option maxRecDepth 100000
set_option maxHeartbeats 4000000
set_option Elab.async false
set_option linter.all false
set_option maxRecDepth 100000
set_option maxHeartbeats 4000000
set_option Elab.async false
set_option linter.all false
set_option maxRecDepth 100000
set_option maxHeartbeats 4000000
set_option Elab.async false
set_option linter.all false
set_option maxRecDepth 100000
set_option maxHeartbeats 4000000
set_option Elab.async false
set_option linter.all false
set_option maxRecDepth 100000
set_option maxHeartbeats 4000000
set_option Elab.async false
set_option linter.all false
set_option maxRecDepth 100000
set_option maxHeartbeats 4000000
set_option Elab.async false
set_option linter.all false
set_option maxRecDepth 100000
set_option maxHeartbeats 4000000
set_option Elab.async false
set_option linter.all false
set_option maxRecDepth 100000
set_option maxHeartbeats 4000000
set_option Elab.async false
set_option linter.all false
set_option maxRecDepth 100000
set_option maxHeartbeats 4000000
set_option Elab.async false
set_option linter.all false
set_option maxRecDepth 100000
set_option maxHeartbeats 4000000
namespace Rg
open PySem PySem.Spec PyProof.Rows L2
def inO : Bool → CmpOp → Bool
  | true, .In => true
  | false, .NotIn => true
  | _, _ => false
end Rg
set_option Elab.async false
set_option linter.all false
set_option maxRecDepth 100000
set_option maxHeartbeats 4000000
set_option Elab.async false
set_option linter.all false
set_option maxRecDepth 100000
set_option maxHeartbeats 4000000
set_option Elab.async false
set_option linter.all false
set_option maxRecDepth 100000
set_option maxHeartbeats 4000000
set_option Elab.async false
set_option linter.all false
set_option maxRecDepth 100000
set_option maxHeartbeats 4000000
set_option Elab.async false
set_option linter.all false
set_option maxRecDepth 100000
set_option maxHeartbeats 4000000
set_option Elab.async false
set_option linter.all false
set_option maxRecDepth 100000
set_option maxHeartbeats 4000000
namespace Rg
open PySem PySem.Spec PyProof.Rows L2
def notStar : Expr → Bool
  | .Starred _ _ => false
  | _ => true
def allNS : List Expr → Bool
  | [] => true
  | e :: es => notStar e && allNS es
def plainIx : Expr → Bool
  | .Slice _ _ _ _ => false
  | _ => true
def plainIt : Expr → Bool
  | .Set _ _ _ => false
  | .List _ _ => false
  | _ => true
def attrOk : Expr → Bool
  | .Call (.Name id _) _ _ _ => id != "super"
  | _ => true
def noComp : Expr → Bool
  | .ListComp _ _ _ _ => false
  | .SetComp _ _ _ _ => false
  | .DictComp _ _ _ _ _ => false
  | _ => true
def notTup : Expr → Bool
  | .Tuple _ _ _ => false
  | .List _ _ => false
  | _ => true
end Rg
set_option Elab.async false
set_option linter.all false
set_option maxRecDepth 100000
set_option maxHeartbeats 4000000
set_option Elab.async false
set_option linter.all false
set_option maxRecDepth 100000
set_option maxHeartbeats 4000000
set_option Elab.async false
set_option linter.all false
set_option maxRecDepth 100000
set_option maxHeartbeats 4000000
set_option Elab.async false
set_option linter.all false
set_option maxRecDepth 100000
set_option maxHeartbeats 4000000
set_option Elab.async false
set_option linter.all false
set_option maxRecDepth 100000
set_option maxHeartbeats 4000000
set_option Elab.async false
set_option linter.all false
set_option maxRecDepth 100000
set_option maxHeartbeats 4000000
set_option Elab.async false
set_option linter.all false
set_option maxRecDepth 100000
set_option maxHeartbeats 4000000
set_option Elab.async false
set_option linter.all false
set_option maxRecDepth 100000
set_option maxHeartbeats 4000000
namespace Rg
open PySem PySem.Spec PyProof.Rows L2
structure Sg where
  fns : List (Str × Nat × Nat)
  mts : List (Nat × Str × Nat × Nat)
  prs : List (Nat × Str × Nat × Nat)
  kls : List (Str × Nat × Nat × Nat)
  fls : List (Nat × Nat × Str)
  gls : List (Str × D)
  kts : List (Str × List D)
  kds : List (Str × List (D × D))
  cln : List (Str × Nat)
  xcs : List (Str × Nat × List Nat × Nat)
  hrd : List Str
structure Cc where
  G : Sg
  N : List Str
  sc : Scope
  own : Scope
  j : Nat
  q : Bool
  lq : Bool
def Cc.blk (c : Cc) (scope : Scope) : Cc := { c with sc := relS scope c.sc, own := scope }
def Cc.gen (c : Cc) (scope : Scope) : Cc := { c with sc := scope, own := scope, j := c.j - 3, q := false, lq := false }
def Cc.lam (c : Cc) (scope : Scope) : Cc := { c with sc := scope, own := scope, j := c.j - 2, q := false, lq := false }
def Cc.isGl (c : Cc) (x : Str) : Bool := decide (c.sc.names.lookup x = some .globalImplicit) && decide (x ≠ ("__debug__" : Str))
def Cc.isVis (c : Cc) (i : Nat) (x : Str) : Bool := decide (c.N[i]? = some x) && (match c.sc.names.lookup x with | some .local => true | some .cell => true | some .free => true | _ => false) &&
  decide (x ≠ ("__debug__" : Str)) && decide (x ≠ ("__classdict__" : Str))
def Cc.isLoc (c : Cc) (i : Nat) (x : Str) : Bool := decide (c.N[i]? = some x) && (decide (c.sc.names.lookup x = some .local) || (decide (c.sc.names.lookup x = some .cell) && decide (c.own.names.lookup x = some .cell)))
def sEq : D → D → Bool
  | .int i, .int j => decide (i = j)
  | .str i, .str j => decide (i = j)
  | .bl i, .bl j => decide (i = j)
  | .non, .non => true
  | _, _ => false
def sEqs : List D → List D → Bool
  | [], [] => true
  | a :: l, b :: r => sEq a b && sEqs l r
  | _, _ => false
def sEqp : List (D × D) → List (D × D) → Bool
  | [], [] => true
  | a :: l, b :: r => sEq a.1 b.1 && sEq a.2 b.2 && sEqp l r
  | _, _ => false
def kOk : D → Expr → Bool
  | d, .Constant (.int i) _ _ => sEq d (.int i)
  | d, .Constant (.str i) _ _ => sEq d (.str i)
  | d, .Constant (.bool i) _ _ => sEq d (.bl i)
  | d, .Constant .none _ _ => sEq d .non
  | _, _ => false
def binO : O2 → Operator → Bool
  | .add, .Add => true | .sub, .Sub => true | .mul, .Mult => true | .fdiv, .FloorDiv => true | .mod, .Mod => true | .pow, .Pow => true | .shl, .LShift => true | .shr, .RShift => true | .band, .BitAnd => true
  | _, _ => false
def cmpO : O2 → CmpOp → Bool
  | .eq, .Eq => true | .ne, .NotEq => true | .lt, .Lt => true | .le, .LtE => true | .gt, .Gt => true | .ge, .GtE => true | .isin, .In => true | .notin, .NotIn => true | .isx, .Is => true | .isnot, .IsNot => true
  | _, _ => false
def boO : Bool → BoolOp → Bool
  | true, .And => true | false, .Or => true | _, _ => false
def Bi.nm : Bi → Option Str
  | .len => some "len" | .int => some "int" | .tuple => some "tuple" | .list => some "list" | .sum => some "sum" | .sorted => some "sorted" | _ => none
def bltNames : List Str := ["len", "int", "str", "tuple", "list", "sum", "min", "max", "sorted", "range", "enumerate", "zip", "all", "any", "isinstance", "bool", "set", "dict"]
def clOk (c : Cc) : Cl → Expr → Bool
  | .ty n, .Name x _ => c.isGl x && ((decide (n = "int") && decide (x = ("int" : Str))) || (decide (n = "bool") && decide (x = ("bool" : Str))) || (decide (n = "str") && decide (x = ("str" : Str))) || (decide (n = "tuple") && decide (x = ("tuple" : Str))) || (decide (n = "list") && decide (x = ("list" : Str))) || (decide (n = "dict") && decide (x = ("dict" : Str))))
  | .own k, .Name x _ => c.isGl x && c.G.cln.any fun p => decide (p.1 = x) && decide (p.2 = k)
  | _, _ => false
def clsOk (c : Cc) : List Cl → List Expr → Bool
  | [], [] => true
  | a :: l, e :: es => clOk c a e && clsOk c l es
  | _, _ => false
mutual
def tgOk (c : Cc) : Tg → Expr → Bool
  | .nm i, e => match e with
    | .Name x _ => c.isLoc i x
    | _ => false
  | .tp l, e => match e with
    | .Tuple es _ _ => tgsOk c l es
    | _ => false
def tgsOk (c : Cc) : Tgs → List Expr → Bool
  | .nil, es => match es with
    | [] => true
    | _ => false
  | .cons t l, es => match es with
    | e :: es => notStar e && tgOk c t e && tgsOk c l es
    | _ => false
end
def isTup : Expr → Bool
  | .Tuple _ _ _ => true
  | _ => false
def noCell (s : Scope) : Bool := s.names.all fun y => match y.2 with | .cell => false | _ => true
def noPar : Arguments → Bool
  | ⟨[], [], none, [], [], none, []⟩ => true
  | _ => false
def isRg : It → Bool
  | .rg1 _ => true
  | .rg2 _ _ => true
  | _ => false
def isTwo : Es → Bool
  | .cons _ (.cons _ .nil) => true
  | _ => false
def ksOk : List Str → List (Option Expr) → Bool
  | [], [] => true
  | k :: ks, some (.Constant (.str x) _ _) :: es => decide (k = x) && ksOk ks es
  | _, _ => false
mutual
def chkE : E → Cc → Expr → Bool
  | .nm i, c, e => match e with
    | .Name x _ => c.isVis i x
    | _ => false
  | .k d, _, e => kOk d e
  | .gl x d, c, e => match e with
    | .Name y _ => decide (x = y) && c.isGl y && c.G.gls.any fun p => decide (p.1 = y) && sEq p.2 d
    | _ => false
  | .o2 o a b, c, e => match e with
    | .BinOp ea op eb _ => binO o op && chkE a c ea && chkE b c eb
    | .Compare ea ops ebs _ => match ops, ebs with
      | [op], [eb] => cmpO o op && chkE a c ea && chkE b c eb && !behindInMarks op eb
      | _, _ => false
    | _ => false
  | .ch o o' a b d, c, e => match e with
    | .Compare ea ops ebs _ => match ops, ebs with
      | [op, op'], [eb, ed] => cmpO o op && cmpO o' op' && chkE a c ea && chkE b c eb && chkE d c ed && !lastMarks [op, op'] [eb, ed]
      | _, _ => false
    | _ => false
  | .neg a, c, e => match e with
    | .UnaryOp op ea _ => match op with
      | .USub => chkE a c ea
      | _ => false
    | _ => false
  | .nt a, c, e => match e with
    | .UnaryOp op ea _ => match op with
      | .Not => chkE a c ea
      | _ => false
    | _ => false
  | .bo isAnd l, c, e => match e with
    | .BoolOp op es _ => boO isAnd op && chkEs l c es && !es.isEmpty
    | _ => false
  | .ite t a b, c, e => match e with
    | .IfExp et ea eb _ => chkE t c et && chkE a c ea && chkE b c eb
    | _ => false
  | .tup l, c, e => match e with
    | .Tuple es _ _ => chkEs l c es
    | _ => false
  | .fr f, c, e => chkF f c e
  | .ix a b, c, e => match e with
    | .Subscript ea eb _ => plainIx eb && chkE a c ea && chkE b c eb
    | _ => false
  | .sl a lo hi, c, e => match e with
    | .Subscript ea es _ => match es with
      | .Slice elo ehi st _ => (match st with | none => true | _ => false) && chkE a c ea && chkO lo c elo && chkO hi c ehi
      | _ => false
    | _ => false
  | .rev a, c, e => match e with
    | .Subscript ea es _ => match es with
      | .Slice none none (some (.UnaryOp .USub (.Constant (.int i) _ _) _)) _ => decide (i = 1) && chkE a c ea
      | _ => false
    | _ => false
  | .fl k n a, c, e => match e with
    | .Attribute o m _ => (c.G.fls.any fun p => decide (p.1 = k) && decide (p.2.1 = n) && decide (p.2.2 = m)) && attrOk o && chkE a c o
    | _ => false
  | .pr k f a, c, e => match e with
    | .Attribute o m _ => (c.G.prs.any fun p => decide (p.1 = k) && decide (p.2.1 = m) && decide (p.2.2.1 = f) && decide (p.2.2.2 + 1 ≤ c.j)) && attrOk o && chkE a c o
    | _ => false
  | .me k f a l, c, e => match e with
    | .Call fe es ks pos => match fe, ks with
      | .Attribute o m apos, [] => (c.G.mts.any fun p => decide (p.1 = k) && decide (p.2.1 = m) && decide (p.2.2.1 = f) && decide (p.2.2.2 ≤ c.j)) && attrOk o && decide (es.length < 30) && (apos.endLine == pos.line) && chkE a c o && chkEs l c es
      | _, _ => false
    | _ => false
  | .mk k f _ l, c, e => match e with
    | .Call fe es ks _ => match fe, ks with
      | .Name x _, [] => c.isGl x && (c.G.kls.any fun p => decide (p.1 = x) && decide (p.2.1 = k) && decide (p.2.2.1 = f) && decide (p.2.2.2 + 1 ≤ c.j)) && !es.isEmpty && chkEs l c es
      | _, _ => false
    | _ => false
  | .ca f l, c, e => match e with
    | .Call fe es ks _ => match fe, ks with
      | .Name x _, [] => c.isGl x && (c.G.fns.any fun p => decide (p.1 = x) && decide (p.2.1 = f) && decide (p.2.2 ≤ c.j)) && chkEs l c es
      | _, _ => false
    | _ => false
  | .bi b l, c, e => if b = .lenset then match e with
      | .Call (.Name x _) [.Call (.Name y _) [ea] [] _] [] _ => decide (x = ("len" : Str)) && decide (y = ("set" : Str)) && c.isGl x && c.isGl y && notStar ea && chkEs l c [ea]
      | _ => false
    else match e with
    | .Call fe es ks _ => match fe, ks with
      | .Name x _, [] => c.isGl x && decide (b.nm = some x) && !es.isEmpty && chkEs l c es
      | _, _ => false
    | _ => false
  | .mt m a l, c, e => match e with
    | .Call fe es ks pos => match fe, ks, es with
      | .Attribute o mn apos, [], [v] => decide (m = .count) && decide (mn = ("count" : Str)) && attrOk o && (apos.endLine == pos.line) && notStar v && chkE a c o && chkEs l c [v]
      | _, _, _ => false
    | _ => false
  | .col isT it, c, e => match e with
    | .Call fe es ks _ => match fe, ks, es with
      | .Name x _, [], [e1] => decide (x = (if isT = true then ("tuple" : Str) else ("list" : Str))) && c.isGl x && notStar e1 && ((isRg it && chkI it c e1 e1) || (!isT && (match it with
        | .zp l => match e1 with
          | .Call (.Name y _) [ea, eb] [] _ => isTwo l && decide (y = ("zip" : Str)) && c.isGl y && chkEs l c [ea, eb]
          | _ => false
        | _ => false)))
      | _, _, _ => false
    | _ => false
  | .qu isAll t it e1 vs, c, e => match e with
    | .Call fe es ks _ => match fe, ks, es with
      | .Name x _, [], [.GeneratorExp elt gs scope _] => match gs with
        | [⟨tg, iter, ifs, asy⟩] => c.q && decide (3 ≤ c.j) && decide (x = qname isAll) && c.isGl x && ifs.isEmpty && decide (asy = 0) && plainIt iter && chkI it c tg iter && blkC c.N c.sc scope (vs.map fun i => (c.N.getD i Str.empty, i)) &&
          noCell scope && decide (scope.names.lookup (".0" : Str) = some NameKind.local) && !scope.isCoroutine && tgOk (c.gen scope) t tg && chkE e1 (c.gen scope) elt && (t.ix.all fun i => vs.contains i)
        | _ => false
      | _, _, _ => false
    | _ => false
  | .isi a l, c, e => match e with
    | .Call fe es ks _ => match fe, ks, es with
      | .Name x _, [], [ea, ec] => decide (x = ("isinstance" : Str)) && c.isGl x && notStar ea && chkE a c ea && (match ec with
        | .Tuple es _ _ => allNS es && decide (l.length ≤ 1000) && clsOk c l es
        | ec => clsOk c l [ec])
      | _, _, _ => false
    | _ => false
  | .inK isIn a x l, c, e => match e with
    | .Compare ea ops ebs _ => match ops, ebs with
      | [op], [.Name y _] => inO isIn op && decide (x = y) && c.isGl y && chkE a c ea && ((c.G.kts.any fun p => decide (p.1 = y) && sEqs p.2 l) || (c.G.kds.any fun p => decide (p.1 = y) && sEqs (p.2.map (·.1)) l))
      | _, _ => false
    | _ => false
  | .lenK x n, c, e => match e with
    | .Call (.Name f _) [.Name y _] [] _ => decide (f = ("len" : Str)) && c.isGl f && decide (x = y) && c.isGl y && (c.G.kts.any fun p => decide (p.1 = y) && decide (p.2.length = n))
    | _ => false
  | .ixK a x l, c, e => match e with
    | .Subscript (.Name y _) ea _ => plainIx ea && decide (x = y) && c.isGl y && chkE a c ea && (c.G.kds.any fun p => decide (p.1 = y) && sEqp p.2 l)
    | _ => false
  | .fs _, _, _ => false
  | .heard e1, c, e => match e with
    | .Call fe es ks _ => match fe, ks, es with
      | .Name x _, [], [.Lambda params body scope _] => c.lq && decide (4 ≤ c.j) && c.isGl x && (c.G.hrd.any fun y => decide (y = x)) && LamX.lamSB c.sc scope && noPar params && chkE e1 (c.lam scope) body
      | _, _, _ => false
    | _ => false
  | .eqW _ _ _ _ _, _, _ => false
def chkF : Fr → Cc → Expr → Bool
  | .lst l, c, e => match e with
    | .List es _ => chkEs l c es
    | _ => false
  | .lc t it d e1 vs, c, e => match e with
    | .ListComp elt gs scope _ => match gs with
      | [⟨tg, iter, ifs, asy⟩] => decide (asy = 0) && plainIt iter && chkI it c tg iter && blkC c.N c.sc scope (vs.map fun i => (c.N.getD i Str.empty, i)) && tgOk (c.blk scope) t tg && chkE e1 (c.blk scope) elt && chkT d (c.blk scope) ifs && (t.ix.all fun i => vs.contains i)
      | _ => false
    | _ => false
  | .dct ks l, c, e => match e with
    | .Dict keys values _ => ksOk ks keys && chkEs l c values && decide (ks.length ≤ 15) && decide (l.len = ks.length) && decide (0 < ks.length)
    | _ => false
def chkEs : Es → Cc → List Expr → Bool
  | .nil, _, es => match es with
    | [] => true
    | _ => false
  | .cons a l, c, es => match es with
    | e :: es => notStar e && chkE a c e && chkEs l c es
    | _ => false
def chkO : Eo → Cc → Option Expr → Bool
  | .none, _, e => match e with
    | none => true
    | _ => false
  | .some a, c, e => match e with
    | some e => chkE a c e
    | _ => false
def chkT : Eo → Cc → List Expr → Bool
  | .none, _, e => match e with
    | [] => true
    | _ => false
  | .some a, c, e => match e with
    | [e] => chkE a c e
    | _ => false
def chkI : It → Cc → Expr → Expr → Bool
  | .e a, c, _, e => chkE a c e
  | .rg1 a, c, _, e => match e with
    | .Call fe es ks _ => match fe, ks, es with
      | .Name x _, [], [ea] => decide (x = ("range" : Str)) && c.isGl x && notStar ea && chkE a c ea
      | _, _, _ => false
    | _ => false
  | .rg2 a b, c, _, e => match e with
    | .Call fe es ks _ => match fe, ks, es with
      | .Name x _, [], [ea, eb] => decide (x = ("range" : Str)) && c.isGl x && notStar ea && notStar eb && chkE a c ea && chkE b c eb
      | _, _, _ => false
    | _ => false
  | .en a, c, tg, e => match e with
    | .Call fe es ks _ => match fe, ks, es with
      | .Name x _, [], [ea] => isTup tg && decide (x = ("enumerate" : Str)) && c.isGl x && notStar ea && chkE a c ea
      | _, _, _ => false
    | _ => false
  | .zp l, c, tg, e => match e with
    | .Call fe es ks _ => match fe, ks with
      | .Name x _, [] => isTup tg && decide (x = ("zip" : Str)) && c.isGl x && !es.isEmpty && chkEs l c es
      | _, _ => false
    | _ => false
  | .its _, _, _, _ => false
end
end Rg
set_option Elab.async false
set_option linter.all false
set_option maxRecDepth 100000
set_option maxHeartbeats 4000000
set_option Elab.async false
set_option linter.all false
set_option maxRecDepth 100000
set_option maxHeartbeats 8000000
set_option Elab.async false
set_option linter.all false
set_option maxRecDepth 100000
set_option maxHeartbeats 8000000
set_option Elab.async false
set_option linter.all false
set_option maxRecDepth 100000
set_option maxHeartbeats 8000000
namespace Rg
open PySem PySem.Spec PyProof.Rows L2
def swN (sc : Scope) (ts : List Expr) : List Str :=
  let line := (ts.head?.map (·.pos.line)).getD 0
  ts.filterMap fun
    | .Name id pos => if sc.names.lookup id == some .local && pos.line == line then some id else none
    | _ => none
def lcSw (c : Cc) (y : Str) (py : Pos) : Expr → Bool
  | .ListComp _ _ s pos => (c.sc.names.lookup y == some .local) && py.line == pos.line && !(s.names.any fun (n, k) => n == y && (k == .local || k == .cell))
  | _ => false
end Rg
set_option Elab.async false
set_option linter.all false
set_option maxRecDepth 100000
set_option maxHeartbeats 8000000
namespace Rg
open PySem PySem.Spec PyProof.Rows L2
def ghost : St → Bool
  | .fz _ => true
  | .kl _ => true
  | _ => false
def asgSw (c : Cc) (tg v : Expr) : Bool := notTup tg || notTup v || (match tg, v with
  | .Tuple ts _ _, .Tuple _ _ _ => decide ((swN c.sc ts).length ≠ ts.length)
  | _, _ => false)
def parOk (c : Cc) : List Nat → List Expr → List Expr → Bool
  | [i, j], [.Name x px, .Name y py], [a, b] => decide (c.N[i]? = some x) && decide (c.N[j]? = some y) && decide (i ≠ j) && decide (c.sc.names.lookup x = some .local) && decide (c.sc.names.lookup y = some .local) && (py.line == px.line) &&
      decide (x ≠ y) && notStar a && notStar b && !([a, b].all (foldedForSure 8)) && !([a, b].all (constantsAlone 8))
  | [i, j, k], [.Name x px, .Name y py, .Name z pz], [a, b, d] => decide (c.N[i]? = some x) && decide (c.N[j]? = some y) && decide (c.N[k]? = some z) && decide (i ≠ j) && decide (i ≠ k) && decide (j ≠ k) &&
      decide (c.sc.names.lookup x = some .local) && decide (c.sc.names.lookup y = some .local) && decide (c.sc.names.lookup z = some .local) && (py.line == px.line) && (pz.line == px.line) &&
      decide (x ≠ y) && decide (x ≠ z) && decide (y ≠ z) && notStar a && notStar b && notStar d && !([a, b, d].all (foldedForSure 8)) && !([a, b, d].all (constantsAlone 8))
  | _, _, _ => false
def frOk (c : Cc) (i : Nat) (f : Fr) (st : Stmt) : Bool := match st with
  | .Assign ts v _ => match ts with
    | [.Name y py] => c.isLoc i y && chkF f c v && (if lcSw c y py v = true then true else match v with
      | .ListComp _ _ _ _ => true
      | v => noComp v)
    | _ => false
  | _ => false
def augO : O2 → Operator → Bool
  | .add, .Add => true
  | .sub, .Sub => true
  | _, _ => false
mutual
def chkS : St → Cc → Stmt → Bool
  | .asg t e, c, st => match st with
    | .Assign ts v _ => match ts with
      | [tg] => notStar tg && tgOk c t tg && chkE e c v && noComp v && asgSw c tg v
      | _ => false
    | _ => false
  | .own i f, c, st => frOk c i f st
  | .alc i f, c, st => frOk c i f st
  | .sf k n o e, c, st => match st with
    | .Assign ts v _ => match ts with
      | [.Attribute oe m _] => (c.G.fls.any fun p => decide (p.1 = k) && decide (p.2.1 = n) && decide (p.2.2 = m)) && chkE o c oe && chkE e c v && noComp v
      | _ => false
    | _ => false
  | .sfo _ _ _ _, _, _ => false
  | .si a i e, c, st => match st with
    | .Assign ts v _ => match ts with
      | [.Subscript oe ie _] => plainIx ie && chkE a c oe && chkE i c ie && chkE e c v && noComp v
      | _ => false
    | _ => false
  | .aug i o e, c, st => match st with
    | .AugAssign tg op v _ => match tg with
      | .Name x _ => augO o op && c.isLoc i x && chkE e c v
      | _ => false
    | _ => false
  | .augf _ _ _ _ _, _, _ => false
  | .app a e, c, st => match st with
    | .Expr (.Call (.Attribute oe m apos) [v] [] cpos) _ => decide (m = ("append" : Str)) && notStar v && attrOk oe && (apos.endLine == cpos.line) && chkE a c oe && chkE e c v
    | _ => false
  | .ext a e, c, st => match st with
    | .Expr (.Call (.Attribute oe m apos) [v] [] cpos) _ => decide (m = ("extend" : Str)) && notStar v && attrOk oe && (apos.endLine == cpos.line) && chkE a c oe && chkE e c v
    | _ => false
  | .pop _, _, _ => false
  | .ex e, c, st => match st with
    | .Expr v _ => chkE e c v && noComp v
    | _ => false
  | .ite t a b, c, st => match st with
    | .If e x y _ => chkE t c e && chkSs a c x && chkSs b c y
    | _ => false
  | .fr t it b, c, st => match st with
    | .For tg iter body els _ => plainIt iter && chkI it c tg iter && tgOk c t tg && chkSs b c body && els.isEmpty
    | _ => false
  | .wh t b, c, st => match st with
    | .While e body els _ => chkE t c e && chkSs b c body && els.isEmpty
    | _ => false
  | .ret e, c, st => match st with
    | .Return v _ => match v with
      | some v => chkE e c v
      | none => false
    | _ => false
  | .retn, _, st => match st with
    | .Return v _ => match v with
      | some _ => false
      | none => true
    | _ => false
  | .rais k ns l, c, st => match st with
    | .Raise v w _ => match v, w with
      | some (.Call fe es ks _), none => match fe, ks with
        | .Name x _, [] => c.isGl x && (c.G.xcs.any fun p => decide (p.1 = x) && decide (p.2.1 = k) && decide (p.2.2.1 = ns) && decide (p.2.2.2 + 1 ≤ c.j)) && decide (ns.length ≤ 900) && !es.isEmpty && chkEs l c es
        | _, _ => false
      | _, _ => false
    | _ => false
  | .pass, _, st => match st with
    | .Pass _ => true
    | .Expr (.Constant (.str _) _ _) _ => true
    | _ => false
  | .fz _, _, _ => false
  | .kl _, _, _ => false
  | .par is l, c, st => match st with
    | .Assign ts v _ => match ts, v with
      | [.Tuple ns _ _], .Tuple es _ _ => parOk c is ns es && chkEs l c es
      | _, _ => false
    | _ => false
def chkSs : Sts → Cc → List Stmt → Bool
  | .nil, _, sts => sts.isEmpty
  | .cons s l, c, sts => if ghost s = true then chkSs l c sts else match sts with
    | st :: r => chkS s c st && chkSs l c r
    | [] => false
end
end Rg
set_option Elab.async false
set_option linter.all false
set_option maxRecDepth 100000
set_option maxHeartbeats 8000000
set_option Elab.async false
set_option linter.all false
set_option maxRecDepth 100000
set_option maxHeartbeats 8000000
set_option Elab.async false
set_option linter.all false
set_option maxRecDepth 100000
set_option maxHeartbeats 4000000
namespace Rg
open PySem PySem.Spec PyProof.Rows L2
inductive Kn where
  | fn (x : Str) | mt (c : Nat) (cn m : Str) | pr (c : Nat) (cn m : Str) | kl (c : Nat) (cn : Str)
structure Dx where
  kn : Kn
  ix : Nat
  qual : Str
  ps : List Str
  N : List Str
  j : Nat
  q : Bool
  lq : Bool
  b : Sts
structure Fx where
  cls : List (Nat × Str)
  flds : List (Nat × Str)
  fls : List (Nat × Nat)
  gls : List (Str × D)
  kts : List (Str × List D)
  kds : List (Str × List (D × D))
  xcs : List (Str × Nat × Nat × Str)
  hrd : List Str
  bas : List (Str × Nat × List Str)
def fldOf (l : List (Nat × Str)) (n : Nat) : Str := match l.lookup n with
  | some s => s
  | none => ⟨#[0, n]⟩
def sg0 (F : Fx) : Sg where
  fns := F.bas.map fun p => (p.1, p.2.1, 0)
  mts := []
  prs := []
  kls := []
  fls := F.fls.map fun p => (p.1, p.2, fldOf F.flds p.2)
  gls := F.gls
  kts := F.kts
  kds := F.kds
  cln := F.cls.map fun p => (p.2, p.1)
  xcs := F.xcs.map fun p => (p.1, p.2.1, [p.2.2.1], 1)
  hrd := F.hrd
def Sg.add (G : Sg) (d : Dx) : Sg := match d.kn with
  | .fn x => { G with fns := (x, d.ix, d.j + 1) :: G.fns }
  | .mt c _ m => { G with mts := (c, m, d.ix, d.j + 1) :: G.mts }
  | .pr c _ m => { G with prs := (c, m, d.ix, d.j + 1) :: G.prs }
  | .kl c cn => { G with kls := (cn, c, d.ix, d.j + 1) :: G.kls }
def sgOf (F : Fx) : List Dx → Sg
  | [] => sg0 F
  | d :: l => (sgOf F l).add d
def Dx.cc (d : Dx) (G : Sg) (sc : Scope) : Cc := ⟨G, d.N, sc, sc, d.j, d.q, d.lq⟩
def Dx.chk (d : Dx) (G : Sg) (sc : Scope) (body : List Stmt) : Bool := chkSs d.b (d.cc G sc) body
end Rg
set_option Elab.async false
set_option linter.all false
set_option maxRecDepth 100000
set_option maxHeartbeats 4000000
set_option Elab.async false
set_option linter.all false
set_option maxRecDepth 100000
set_option maxHeartbeats 4000000
namespace Rg
open PySem PySem.Spec PyProof.Rows L2
def parB (ps : List Str) : Arguments → Bool
  | ⟨[], as, none, [], [], none, []⟩ => decide (as.map (·.arg) = ps)
  | _ => false
def isNn : Value → Bool
  | .none => true
  | _ => false
def scB (N ps : List Str) (sc : Scope) : Bool := (match sc.kind with | .function => true | _ => false) && !sc.isCoroutine && !sc.isGenerator && decide N.Nodup && decide (N.take ps.length = ps) &&
  (ps.all fun x => match sc.names.lookup x with | some .local => true | some .cell => true | _ => false) && (sc.names.all fun y => match y.2 with | .free => false | _ => true)
def fnB (K : PySem.W.Frag) (a : Addr) (qual : Str) (ps : List Str) (chk : Scope → List Stmt → Bool) : Bool := match K.lookup a with
  | some ⟨_, _, .func fd, _⟩ => decide (fd.qualname = qual) && PySem.W.codeIn K fd.code qual && PySem.W.keepIn K (.ref a) && decide (fd.globals = mainGlobals) && fd.closure.isEmpty && decide (fd.builtins = builtinsNs) && parB ps fd.params && isNn fd.defaults &&
      (match fd.body with | .stmts b => chk fd.scope b | _ => false)
  | _ => false
def fldB (l : List (Nat × Str)) : Bool := decide (l.map (·.2)).Nodup && l.all fun p => decide (p.2.cps[0]? ≠ some 0)
def notFld (l : List (Nat × Str)) (m : Str) : Bool := (l.all fun p => decide (p.2 ≠ m)) && decide (m.cps[0]? ≠ some 0)
end Rg
set_option Elab.async false
set_option linter.all false
set_option maxRecDepth 100000
set_option maxHeartbeats 4000000
namespace Rg
open PySem PySem.Spec PyProof.Rows L2 He
def Sg.ixs (G : Sg) : List Nat := G.fns.map (·.2.1) ++ (G.mts.map (·.2.2.1) ++ (G.prs.map (·.2.2.1) ++ G.kls.map (·.2.2.1)))
def Kn.path (K : PySem.W.Frag) : Kn → Addr
  | .fn x => ga K x
  | .mt _ cn m => ma K (ga K cn) m
  | .pr _ cn m => match PySem.W.recIn K (ma K (ga K cn) m) "property" with
    | some (.ref g :: _) => g
    | _ => 0
  | .kl _ cn => ma K (ga K cn) "__init__"
def Kn.defn : Kn → Option Defn
  | .fn x => some (x, none)
  | .mt _ cn m => some (cn, some m)
  | _ => none
def clB (F : Fx) (c : Nat) (cn : Str) : Bool := match F.cls.lookup c with
  | some y => decide (y = cn)
  | none => false
def Kn.ok (F : Fx) (K : PySem.W.Frag) : Kn → Bool
  | .fn x => (Fa.glo x).ok K
  | .mt c cn m => (Fa.meth cn m).ok K && (Fa.cls cn).ok K && clB F c cn && notFld F.flds m
  | .pr c cn m => (Fa.cls cn).ok K && clB F c cn && eqO (PySem.W.findIn K (.ref (ga K cn)) m) (some (some (.ref (ma K (ga K cn) m)))) && eqO (PySem.W.specialIn K (.ref (ma K (ga K cn) m)) "__get__") (some (some (.builtin "property.__get__"))) &&
      decide (PySem.W.takesIn K (.ref (ma K (ga K cn) m)) = some true) && (match PySem.W.recIn K (ma K (ga K cn) m) "property" with | some (.ref _ :: _) => true | _ => false)
  | .kl c cn => (Fa.mkr cn).ok K && (Fa.glo cn).ok K && clB F c cn
abbrev lamN (q : Str) : Str := (q ++ ".<locals>." : Str) ++ "<lambda>"
def Dx.ok (F : Fx) (qs : List Defn) (ls : List (Defn × Str)) (d : Dx) (G : Sg) (K : PySem.W.Frag) : Bool := fnB K (d.kn.path K) d.qual d.ps (fun sc b => scB d.N d.ps sc && d.chk G sc b) && decide d.ps.Nodup && decide (d.ps.length ≤ d.N.length) && d.kn.ok F K &&
  (!d.q || (match d.kn.defn with | some p => decide (p ∈ qs) && decide (fAd K p = d.kn.path K) | none => false)) && (!d.lq || (match d.kn.defn with | some p => decide ((p, lamN d.qual) ∈ ls) && decide (fAd K p = d.kn.path K) | none => false)) && decide (d.ix ∉ G.ixs)
def xNames : List (Nat × Str) := [(101, "BadArgument"), (102, "Barred"), (103, "Refused"), (104, "Unread")]
section
variable {P : Program} {w : World} {K : PySem.W.Frag} {mg : Str → Option Value} {base : Heap} {F : Fx} {qs : List Defn} {ls : List (Defn × Str)} {dj : ∀ Q ∈ qs.map (fun p => (cT K p).2), ∀ p ∈ ls.map (fun p => ((cT K p.1).2, p.2)), p.1 ≠ Q}
def dxsOk (F : Fx) (qs : List Defn) (ls : List (Defn × Str)) (K : PySem.W.Frag) : List Dx → Bool
  | [] => true
  | d :: l => d.ok F qs ls (sgOf F l) K && dxsOk F qs ls K l
end
end Rg
set_option Elab.async false
set_option linter.all false
set_option maxRecDepth 100000
set_option maxHeartbeats 4000000
namespace Rg
open PySem PySem.Spec PyProof.Rows L2 He
def glV : D → Option V
  | .non => some .non
  | .bl b => some (.bl b)
  | .int i => some (.int i)
  | .str x => some (.str x)
  | _ => none
def relO (d : D) (u : Value) : Bool := match glV d with
  | some v => relB v u
  | none => false
def glB (K : PySem.W.Frag) (p : Str × D) : Bool := match PySem.W.nsIn K mainGlobals p.1 with
  | some (some u) => relO p.2 u
  | _ => false
def ktB (K : PySem.W.Frag) (p : Str × List D) : Bool := match strsL p.2 with
  | some zs => (Fa.glo p.1).ok K && tupB K p.1 (zs.map Dv.str)
  | none => false
def entB : List DictEntry → List (D × D) → Bool
  | [], [] => true
  | e :: es, p :: l => (match e.key, p.1 with
    | .str x _, .str y => decide (x = y)
    | _, _ => false) && relO p.2 e.val && entB es l
  | _, _ => false
def kdB (K : PySem.W.Frag) (p : Str × List (D × D)) : Bool := (Fa.glo p.1).ok K && (match K.lookup (ga K p.1) with
  | some ⟨_, _, .dict es _, _⟩ => entB es.toList p.2
  | _ => false)
def keysD (l : List (D × D)) : List Str := l.filterMap fun p => match p.1 with | .str x => some x | _ => none
def sampD : List D := [.non, .bl true, .int 0, .str Str.empty, .tp true [], .lst [], .dct false []]
def kitB (F : Fx) (K : PySem.W.Frag) (cl : Cl) (cv : Value) : Bool := (sampD.all fun d => decide (PySem.W.kitOne K (.type (tyD d)) cv = some (isTy d cl))) && F.cls.all fun p => decide (PySem.W.kitOne K (.ref (ga K p.2)) cv = some (isTy (.obj p.1 []) cl))
def insB (K : PySem.W.Frag) (x : Str) : Bool := (Fa.cls x).ok K && eqO (PySem.W.findIn K (.ref (ga K x)) "__class__") (some (some (.builtin "object.__class__"))) && eqO (PySem.W.specialIn K (.builtin "object.__class__") "__get__") (some (some (.builtin "getset_descriptor.__get__"))) &&
  decide (PySem.W.takesIn K (.builtin "object.__class__") = some true) && decide (PySem.W.mroIn K (ga K x) (.type "object") = some true) && decide (PySem.W.kitOne K (.ref (ga K x)) (.ref (ga K x)) = some true)
def tyNames : List String := ["int", "bool", "str", "tuple", "list", "dict"]
def clsOf (F : Fx) (c : Nat) : Str := (F.cls.lookup c).getD Str.empty
def baB (K : PySem.W.Frag) (p : Str × Nat × List Str) : Bool := fnB K (ga K p.1) p.1 p.2.2 (fun _ _ => true) && (Fa.glo p.1).ok K && decide p.2.2.Nodup
def fxB (F : Fx) (K : PySem.W.Frag) : Bool := fldB F.flds && (F.bas.all fun p => baB K p) && (F.fls.all fun p => (F.cls.lookup p.1).isSome && (Fa.cls (clsOf F p.1)).ok K && (Fa.noat (clsOf F p.1) (fldOf F.flds p.2)).ok K) &&
  (F.gls.all fun p => glB K p) && (F.kts.all fun p => ktB K p) && (F.kds.all fun p => kdB K p) && (F.cls.all fun p => decide (F.cls.lookup p.1 = some p.2) && (Fa.glo p.2).ok K && kitB F K (.own p.1) (.ref (ga K p.2)) && insB K p.2) &&
  (tyNames.all fun n => kitB F K (.ty n) (.type n)) && (bltNames.all fun x => (Fa.free x).ok K)
end Rg
set_option Elab.async false
set_option linter.all false
set_option maxRecDepth 100000
set_option maxHeartbeats 4000000
namespace Rg
open PySem PySem.Spec PyProof.Rows L2 He
def xiB (self x fl : Str) : List Stmt → Bool
  | [.Expr (.Call (.Attribute (.Call (.Name s0 p0) [] [] p1) i0 ap) [.JoinedStr [.Constant (.str pre) j q1, .FormattedValue (.Name x1 q2) cv none q3] jp] [] cp) ep, .Assign [.Attribute (.Name s1 q4) f1 q5] (.Name x2 q6) q7] =>
    decide (s0 = ("super" : Str)) && decide (i0 = ("__init__" : Str)) && decide (x1 = x) && decide (cv = -1) && decide (s1 = self) && decide (f1 = fl) && decide (x2 = x) && decide (pre.length ≤ 1000) && (ap.endLine == cp.line)
  | _ => false
def xsB (ps : List Str) (sc : Scope) : Bool := (match sc.kind with | .function => true | _ => false) && !sc.isCoroutine && !sc.isGenerator && decide ps.Nodup && (ps.all fun x => decide (sc.names.lookup x = some .local)) &&
  (sc.names.all fun y => match y.2 with | .cell => false | .free => decide (y.1 = ("__class__" : Str)) | _ => true) && decide (sc.names.lookup ("super" : Str) = some .globalImplicit) && decide (sc.names.lookup ("__class__" : Str) = some .free)
def noDbg (x : Str) : Bool := !(x == ("__debug__" : Str)) && !(x == ("__classdict__" : Str))
def oexB (K : PySem.W.Frag) (C : Addr) : Bool := (match K.lookup C with
  | some ⟨.type t, _, .cls cd, sl⟩ => decide (t = "type") && (match cd.mro, sl.toList with
    | .ref C' :: bm, [_, _, _, _, some (.builtin n), _] => decide (C' = C) && decide (n = "ValueError.__new__") && cd.hasDict && !cd.hasDel && PySem.HandSPX.refsVE bm
    | _, _ => false)
  | _ => false) && eqO (PySem.W.findIn K (.ref C) "__setattr__") (some (some (.builtin "object.__setattr__"))) && decide (PySem.W.subIn K (.ref C) (.type "BaseException") = some true) && decide (PySem.W.typeIn K (.ref C) = some (.type "type")) && PySem.W.keepIn K (.ref C)
def xcKB (P : Program) (K : PySem.W.Frag) (D cda cc : Addr) : Bool := oexB K D && (match K.lookup cda with
  | some ⟨_, _, .fields vs, _⟩ => (match (vs[2]? : Option Value) with
    | some (.str file _) => ((P.main.file : Str) == file)
    | _ => false)
  | _ => false) && (match K.lookup cc with
  | some ⟨_, _, .cell (some (.ref D')), _⟩ => decide (D' = D)
  | _ => false) && (PySem.W.clsIn K D).isSome && decide (PySem.W.mroIn K D (.ref D) = some true) && (Fa.free "super").ok K && eqO (PySem.W.nsIn K cStatics "thirdparty.any") (some none) && eqO (PySem.W.ks_superIn K D D "__init__") (some (some (.builtin "ValueError.__init__"))) &&
  decide (PySem.W.subIn K (.ref D) (.type "ValueError") = some true) && !(P.main.scope.names.lookup ("super" : Str)).isSome
def xcB (P : Program) (F : Fx) (K : PySem.W.Frag) (p : Str × Nat × Nat × Str) : Bool := decide (xNames.lookup p.2.1 = some p.1) && decide (fldOf F.flds p.2.2.1 = p.2.2.2) && (Fa.glo p.1).ok K &&
  eqO (PySem.W.findIn K (.ref (ga K p.1)) "__init__") (some (some (.ref (ma K (ga K p.1) "__init__")))) && decide (PySem.W.typeIn K (.ref (ma K (ga K p.1) "__init__")) = some (.type "function")) && eqO (PySem.W.findIn K (.ref (ga K p.1)) p.2.2.2) (some none) &&
  (match K.lookup (ma K (ga K p.1) "__init__") with
  | some ⟨_, _, .func fd, _⟩ => (match fd.params, fd.closure, fd.code with
    | ⟨[], [a0, a1], none, [], [], none, []⟩, [(cn, cc)], .ref cda => decide (cn = ("__class__" : Str)) && PySem.W.codeIn K fd.code fd.qualname && decide (fd.globals = mainGlobals) && decide (fd.builtins = builtinsNs) && isNn fd.defaults && xcKB P K (ga K p.1) cda cc && xsB [a0.arg, a1.arg] fd.scope &&
        noDbg a0.arg && noDbg a1.arg && (match fd.body with | .stmts b => xiB a0.arg a1.arg p.2.2.2 b | _ => false)
    | _, _, _ => false)
  | _ => false)
end Rg
set_option Elab.async false
set_option linter.all false
set_option maxRecDepth 100000
set_option maxHeartbeats 4000000
namespace Rg
open PySem PySem.Spec PyProof.Rows L2 He
def isRV (n rn : Str) : Expr → Bool
  | .BoolOp .And [.Call (.Name i1 p1) [.Name n2 p2, .Name r1 p3] [] p4, .Call (.Name i2 p5) [.Name n3 p6, .Name v1 p7] [] p8] p9 =>
    decide (i1 = ("isinstance" : Str)) && decide (i2 = ("isinstance" : Str)) && decide (n2 = n) && decide (n3 = n) && decide (r1 = rn) && decide (v1 = ("ValueError" : Str))
  | _ => false
def hdB1 (n rn cn s fl : Str) : ExceptHandler → Bool
  | .ExceptHandler (some (.Name c np)) (some n0) [.Return (some (.Tuple [.Constant (.str s0) j q1, .Attribute (.Name n1 q2) f q3, e] k q4)) q5] p' => decide (c = cn) && decide (n0 = n) && decide (s0 = s) && decide (n1 = n) && decide (f = fl) && isRV n rn e
  | _ => false
def hdB2 (n rn cn s fl gl : Str) : ExceptHandler → Bool
  | .ExceptHandler (some (.Name c np)) (some n0) [.Return (some (.Tuple [.Constant (.str s0) j q1, .Attribute (.Name n1 q2) f q3, .Attribute (.Name n2 q6) f2 q7, e] k q4)) q5] p' => decide (c = cn) && decide (n0 = n) && decide (s0 = s) && decide (n1 = n) && decide (f = fl) && decide (n2 = n) && decide (f2 = gl) && isRV n rn e
  | _ => false
def hxB (K : PySem.W.Frag) (C R : Addr) (fs : List Str) : Bool := xfB K C && (PySem.W.clsIn K C).isSome && eqO (PySem.W.findIn K (.ref C) "__class__") (some (some (.builtin "object.__class__"))) && eqO (PySem.W.specialIn K (.builtin "object.__class__") "__get__") (some (some (.builtin "getset_descriptor.__get__"))) &&
  decide (PySem.W.takesIn K (.builtin "object.__class__") = some true) && decide (PySem.W.mroIn K C (.type "object") = some true) && (fs.all fun f => eqO (PySem.W.findIn K (.ref C) f) (some none)) && decide (PySem.W.kitOne K (.ref C) (.ref R) = some true) && decide (PySem.W.kitOne K (.ref C) (.type "ValueError") = some true)
def glSc (sc : Scope) (x : Str) : Bool := decide (sc.names.lookup x = some .globalImplicit)
def hearB (F : Fx) (a n : Str) : List Stmt → Bool
  | [.Try [.Expr (.Call (.Name a1 p1) [] [] p2) p3] [h1, h2, h3, h4] [] [] p8, .Return (some (.Tuple [] kk p9)) p10] => decide (a1 = a) && hdB1 n "RosterError" "BadArgument" "bad" (fldOf F.flds 101) h1 && hdB1 n "RosterError" "Barred" "barred" (fldOf F.flds 102) h2 &&
    hdB1 n "RosterError" "Refused" "refused" (fldOf F.flds 103) h3 && hdB2 n "RosterError" "Unread" "unread" (fldOf F.flds 104) (fldOf F.flds 103) h4
  | _ => false
def xAdr (K : PySem.W.Frag) : List Addr := [ga K "BadArgument", ga K "Barred", ga K "Refused", ga K "Unread"]
def hrB (F : Fx) (K : PySem.W.Frag) (x : Str) : Bool := (match K.lookup (ga K x) with
  | some ⟨_, _, .func fd, _⟩ => (match fd.params with
    | ⟨[], [a0], none, [], [], none, []⟩ => decide (fd.name = x) && decide (fd.qualname = x) && PySem.W.codeIn K fd.code x && decide (fd.globals = mainGlobals) && fd.closure.isEmpty && decide (fd.builtins = builtinsNs) && isNn fd.defaults && scB [a0.arg, "e"] [a0.arg] fd.scope && noDbg a0.arg &&
        decide (fd.scope.names.lookup a0.arg = some .local) && decide (fd.scope.names.lookup ("e" : Str) = some .local) && (["isinstance", "RosterError", "ValueError", "BadArgument", "Barred", "Refused", "Unread"] : List Str).all (glSc fd.scope) && (match fd.body with | .stmts b => hearB F a0.arg "e" b | _ => false)
    | _ => false)
  | _ => false) && PySem.W.keepIn K (.ref (ga K x)) && (Fa.glo x).ok K && (["RosterError", "BadArgument", "Barred", "Refused", "Unread"] : List Str).all (fun y => (Fa.glo y).ok K) && (Fa.free "isinstance").ok K && (Fa.free "ValueError").ok K &&
  hxB K (ga K "BadArgument") (ga K "RosterError") [fldOf F.flds 101] && hxB K (ga K "Barred") (ga K "RosterError") [fldOf F.flds 102] && hxB K (ga K "Refused") (ga K "RosterError") [fldOf F.flds 103] && hxB K (ga K "Unread") (ga K "RosterError") [fldOf F.flds 104, fldOf F.flds 103] &&
  decide (xAdr K).Nodup && (xAdr K).all fun i => (xAdr K).all fun j => decide (PySem.W.exmOne K (.ref i) (.ref j) = some (decide (i = j)))
end Rg
set_option Elab.async false
set_option linter.all false
set_option maxRecDepth 100000
set_option maxHeartbeats 4000000
namespace Rg
open PySem PySem.Spec PyProof.Rows L2 He
def asR (g : Addr → Option Obj) : Nat → List Addr
  | 0 => [mainGlobals, cStatics]
  | n + 1 => growD g (asR g n)
def qsOf (dxs : List Dx) : List Defn := dxs.filterMap fun d => if d.q = true then d.kn.defn else none
def lsOf (dxs : List Dx) : List (Defn × Str) := dxs.filterMap fun d => if d.lq = true then d.kn.defn.map fun p => (p, lamN d.qual) else none
def djB (qs : List Defn) (ls : List (Defn × Str)) (K : PySem.W.Frag) : Bool := (qs.all fun q => ls.all fun p => !((cT K p.1).2 == (cT K q).2)) && ls.all fun a => ls.all fun b => !((cT K a.1).2 == (cT K b.1).2) || decide (a.2 = b.2)
def noLst (K : PySem.W.Frag) : Bool := K.all fun p => match p.2.cls with
  | .type n => !(n == "list")
  | _ => true
def exB (P : Program) (F : Fx) (dxs : List Dx) (K : PySem.W.Frag) : Bool := fxB F K && (F.xcs.all fun p => xcB P F K p) && (F.hrd.all fun x => hrB F K x) && dxsOk F (qsOf dxs) (lsOf dxs) K dxs && djB (qsOf dxs) (lsOf dxs) K && noLst K
def tfOf (dxs : List Dx) : List Defn := qsOf dxs ++ (lsOf dxs).map (·.1)
structure SaysR (P : Program) (F : Fx) (dxs : List Dx) (w : World) (h : Heap) (K : PySem.W.Frag) : Prop where
  ex : exB P F dxs K = true
  kd : ∀ p ∈ F.kds, dicW K (ga K p.1) = some (keysIn w.params (keysD p.2))
  hd : ∀ p ∈ tfOf dxs, PySem.W.codeHdIn K (cT K p).1 (cT K p).2 = true
  out : ∀ p ∈ tfOf dxs, K.lookup (cT K p).2 = none
  empty : ∀ p ∈ tfOf dxs, h.get? (cT K p).2 = some { cls := .none, data := .fields #[] }
abbrev AlR : Type := Bool × List (Option (List (Option (Str × Int))))
def obsK (P : Program) (F : Fx) (dxs : List Dx) (g : Addr → Option Obj) (K : PySem.W.Frag) : AlR := (exB P F dxs K && tabsB g (tfOf dxs) K, F.kds.map fun p => dicW K (ga K p.1))
def obsR (n : Nat) (P : Program) (F : Fx) (dxs : List Dx) (g : Addr → Option Obj) : AlR := obsK P F dxs g (frT g (asR g n))
def valR (F : Fx) (w : World) : AlR := (true, F.kds.map fun p => some (keysIn w.params (keysD p.2)))
theorem saysR_of {P : Program} {F : Fx} {dxs : List Dx} {w : World} {h : Heap} {as : List Addr} (e : obsK P F dxs h.get? (frT h.get? as) = valR F w) : SaysR P F dxs w h (frT h.get? as) := by
  have e1 : (exB P F dxs (frT h.get? as) && tabsB h.get? (tfOf dxs) (frT h.get? as)) = true := congrArg (fun z : AlR => z.1) e
  have e2 : (F.kds.map fun p => dicW (frT h.get? as) (ga (frT h.get? as) p.1)) = F.kds.map fun p => some (keysIn w.params (keysD p.2)) := congrArg (fun z : AlR => z.2) e
  obtain ⟨h1, h2⟩ := ba e1
  have key : ∀ p ∈ tfOf dxs, PySem.W.codeHdIn (frT h.get? as) (cT (frT h.get? as) p).1 (cT (frT h.get? as) p).2 = true ∧ ∃ o, h.get? (cT (frT h.get? as) p).2 = some o ∧ emptyTab o = true := fun p hp => by
    obtain ⟨h3, h4⟩ := ba (List.all_eq_true.mp h2 p hp)
    refine And.intro h3 ?_
    cases q : h.get? (cT (frT h.get? as) p).2 with
    | none => rw [q] at h4; cases h4
    | some o => rw [q] at h4; exact ⟨o, rfl, h4⟩
  refine ⟨h1, fun p hp => List.map_inj_left.mp e2 p hp, fun p hp => (key p hp).1, fun p hp => ?_, fun p hp => ?_⟩
  · obtain ⟨_, o, q, z⟩ := key p hp
    exact frT_none q z
  · obtain ⟨_, o, q, z⟩ := key p hp
    rw [q, emptyTab_eq z]
def hookR (n : Nat) (P : Program) (F : Fx) (dxs : List Dx) : PySem.W.Hook where
  α := AlR
  obs := fun s => obsR n P F dxs s.heap.get?
  val := fun w => valR F w
  says := fun w h => ∃ K : PySem.W.Frag, K.In h ∧ SaysR P F dxs w h K
  of := fun _ _ e => ⟨_, frT_in, saysR_of e⟩
  keeps := fun _ _ _ ⟨K, hK, c⟩ k => ⟨K, PySem.W.Frag.In.keeps hK k, ⟨c.ex, c.kd, c.hd, c.out, fun p hp => k _ _ (c.empty p hp)⟩⟩
theorem obsR_eq {n : Nat} {P : Program} {F : Fx} {dxs : List Dx} {g : Addr → Option Obj} {s : Shared} (h : ∀ a, g a = s.heap.get? a) : obsR n P F dxs g = (hookR n P F dxs).obs s := by
  rw [show g = s.heap.get? from funext h]
  rfl
end Rg
set_option Elab.async false
set_option linter.all false
set_option maxRecDepth 100000
set_option maxHeartbeats 4000000
namespace Rg
open PySem PySem.Spec PyProof.Rows L2
def b_burden_in : Sts := .cons (.ret (.bi .sum (.cons (.fr (.lc (.nm 2) (.e (.nm 1)) .none (.ix (.pr 2 218 (.nm 0)) (.nm 2)) [2])) .nil))) .nil
def b_unmet_in : Sts := .cons (.asg (.nm 3) (.k (.int 0))) (.cons (.fr (.tp (.cons (.nm 4) (.cons (.nm 5) (.cons (.nm 6) (.cons (.nm 7) (.cons (.nm 8) .nil)))))) (.e (.pr 2 220 (.nm 0))) (.cons (.ite (.bo true (.cons (.o2 .eq (.nm 4) (.nm 1)) (.cons (.o2 .ne (.o2 .eq (.ix (.nm 2) (.o2 .sub (.nm 6) (.k (.int 1)))) (.nm 5)) (.nm 7)) .nil))) (.cons (.aug 3 .add (.nm 8)) .nil) .nil) .nil)) (.cons (.ret (.nm 3)) .nil))
def b_burdens_of : Sts := .cons (.ex (.ca 229 (.cons (.nm 0) (.cons (.nm 1) (.cons (.k (.str ("roster" : Str))) .nil))))) (.cons (.ret (.bi .tuple (.cons (.fr (.lc (.nm 2) (.e (.nm 1)) .none (.ca 254 (.cons (.nm 0) (.cons (.nm 2) .nil))) [2])) .nil))) .nil)
def b_unmet : Sts := .cons (.ex (.ca 229 (.cons (.nm 0) (.cons (.nm 1) (.cons (.k (.str ("roster" : Str))) .nil))))) (.cons (.ret (.bi .tuple (.cons (.fr (.lc (.tp (.cons (.nm 2) (.cons (.nm 3) .nil))) (.en (.nm 1)) .none (.ca 255 (.cons (.nm 0) (.cons (.nm 2) (.cons (.nm 3) .nil)))) [2, 3])) .nil))) .nil)
def b_is_order : Sts := .cons (.ite (.bo false (.cons (.nt (.isi (.nm 0) [.ty "tuple"])) (.cons (.nt (.ch .le .le (.k (.int 1)) (.bi .len (.cons (.nm 0) .nil)) (.lenK ("WORDS" : Str) 4))) .nil))) (.cons (.ret (.k (.bl false))) .nil) .nil) (.cons (.ite (.nt (.qu true (.nm 1) (.e (.nm 0)) (.bo true (.cons (.isi (.nm 1) [.ty "str"]) (.cons (.inK true (.nm 1) ("WORDS" : Str) [.str ("even" : Str), .str ("sum" : Str), .str ("wishes" : Str), .str ("worst" : Str)]) .nil))) [1])) (.cons (.ret (.k (.bl false))) .nil) .nil) (.cons (.ret (.o2 .eq (.bi .lenset (.cons (.nm 0) .nil)) (.bi .len (.cons (.nm 0) .nil)))) .nil))
def b_no_key : Sts := .cons (.ret (.bi .tuple (.cons (.fr (.lc (.nm 1) (.e (.nm 0)) .none (.ite (.o2 .isin (.nm 1) (.tup (.cons (.gl ("EVEN" : Str) (.str ("even" : Str))) (.cons (.gl ("WORST" : Str) (.str ("worst" : Str))) .nil)))) (.tup .nil) (.k (.int 0))) [1])) .nil))) .nil
def b_part_of : Sts := .cons (.ite (.o2 .isin (.nm 1) (.tup (.cons (.gl ("EVEN" : Str) (.str ("even" : Str))) (.cons (.gl ("SUM" : Str) (.str ("sum" : Str))) .nil)))) (.cons (.ret (.ca 254 (.cons (.nm 0) (.cons (.nm 3) .nil)))) .nil) .nil) (.cons (.ite (.o2 .isin (.nm 1) (.tup (.cons (.gl ("WISHES" : Str) (.str ("wishes" : Str))) (.cons (.gl ("WORST" : Str) (.str ("worst" : Str))) .nil)))) (.cons (.ret (.ca 255 (.cons (.nm 0) (.cons (.nm 2) (.cons (.nm 3) .nil))))) .nil) .nil) (.cons (.ret (.bi .len (.cons (.fr (.lc (.nm 5) (.rg1 (.pr 2 215 (.nm 0))) (.some (.o2 .ne (.ix (.nm 3) (.nm 5)) (.ix (.ix (.nm 4) (.nm 2)) (.nm 5)))) (.nm 5) [5])) .nil))) .nil))
def b_parts_of_life : Sts := .cons (.ret (.bi .tuple (.cons (.fr (.lc (.nm 5) (.e (.nm 1)) .none (.ca 259 (.cons (.nm 0) (.cons (.nm 5) (.cons (.nm 2) (.cons (.nm 3) (.cons (.nm 4) .nil)))))) [5])) .nil))) .nil
def b_with_parts : Sts := .cons (.own 3 (.lst .nil)) (.cons (.fr (.tp (.cons (.nm 4) (.cons (.nm 5) (.cons (.nm 6) .nil)))) (.zp (.cons (.nm 0) (.cons (.nm 1) (.cons (.nm 2) .nil)))) (.cons (.app (.nm 3) (.ite (.o2 .isin (.nm 4) (.tup (.cons (.gl ("EVEN" : Str) (.str ("even" : Str))) (.cons (.gl ("WORST" : Str) (.str ("worst" : Str))) .nil)))) (.bi .tuple (.cons (.rev (.bi .sorted (.cons (.o2 .add (.nm 5) (.tup (.cons (.nm 6) .nil))) .nil))) .nil)) (.o2 .add (.nm 5) (.nm 6)))) .nil)) (.cons (.ret (.bi .tuple (.cons (.nm 3) .nil))) .nil))
def b_key_in : Sts := .cons (.asg (.nm 4) (.ca 258 (.cons (.nm 1) .nil))) (.cons (.fr (.tp (.cons (.nm 5) (.cons (.nm 6) .nil))) (.en (.nm 2)) (.cons (.asg (.nm 4) (.ca 261 (.cons (.nm 1) (.cons (.nm 4) (.cons (.ca 260 (.cons (.nm 0) (.cons (.nm 1) (.cons (.nm 5) (.cons (.nm 6) (.cons (.nm 3) .nil)))))) .nil))))) .nil)) (.cons (.ret (.nm 4)) .nil))
def b_check_order_v2 : Sts := .cons (.ex (.ca 202 (.cons (.ca 223 (.cons (.nm 0) .nil)) (.cons (.k (.str ("ward" : Str))) .nil)))) (.cons (.ex (.ca 202 (.cons (.ca 271 (.cons (.nm 1) .nil)) (.cons (.k (.str ("order" : Str))) .nil)))) .nil)
def b_key_of_v2 : Sts := .cons (.ex (.ca 272 (.cons (.nm 0) (.cons (.nm 1) .nil)))) (.cons (.ex (.ca 202 (.cons (.ca 224 (.cons (.nm 0) (.cons (.nm 2) .nil))) (.cons (.k (.str ("roster" : Str))) .nil)))) (.cons (.ret (.ca 262 (.cons (.nm 0) (.cons (.nm 1) (.cons (.nm 2) (.cons (.k (.non)) .nil)))))) .nil))
def b__law_order : Sts := .cons (.par [1, 2] (.cons (.fr (.lst (.cons (.k (.str ("even" : Str))) (.cons (.k (.str ("sum" : Str))) (.cons (.k (.str ("wishes" : Str))) (.cons (.k (.str ("worst" : Str))) .nil)))))) (.cons (.fr (.lst .nil)) .nil))) (.cons (.fr (.nm 3) (.rg1 (.o2 .add (.k (.int 1)) (.ca 233 (.cons (.nm 0) (.cons (.k (.int 4)) .nil))))) (.cons (.asg (.nm 4) (.ca 233 (.cons (.nm 0) (.cons (.bi .len (.cons (.nm 1) .nil)) .nil)))) (.cons (.par [2, 1] (.cons (.o2 .add (.nm 2) (.fr (.lst (.cons (.ix (.nm 1) (.nm 4)) .nil)))) (.cons (.o2 .add (.sl (.nm 1) .none (.some (.nm 4))) (.sl (.nm 1) (.some (.o2 .add (.nm 4) (.k (.int 1)))) .none)) .nil))) .nil))) (.cons (.ret (.bi .tuple (.cons (.nm 2) .nil))) .nil))
def b__law_sum : Sts := .cons (.asg (.nm 1) (.k (.int 0))) (.cons (.fr (.nm 2) (.e (.nm 0)) (.cons (.asg (.nm 1) (.o2 .add (.nm 1) (.nm 2))) .nil)) (.cons (.ret (.nm 1)) .nil))
def b__law_burdens : Sts := .cons (.ret (.bi .tuple (.cons (.fr (.lc (.nm 3) (.e (.nm 1)) .none (.ca 266 (.cons (.fr (.lc (.nm 2) (.e (.nm 3)) .none (.ix (.nm 0) (.nm 2)) [2])) .nil)) [3])) .nil))) .nil
def b__law_unmet : Sts := .cons (.own 2 (.lst .nil)) (.cons (.fr (.nm 3) (.rg1 (.bi .len (.cons (.nm 1) .nil))) (.cons (.own 4 (.lc (.nm 5) (.e (.nm 0)) (.some (.bo true (.cons (.o2 .eq (.ix (.nm 5) (.k (.int 0))) (.nm 3)) (.cons (.o2 .ne (.o2 .eq (.ix (.ix (.nm 1) (.nm 3)) (.o2 .sub (.ix (.nm 5) (.k (.int 2))) (.k (.int 1)))) (.ix (.nm 5) (.k (.int 1)))) (.ix (.nm 5) (.k (.int 3)))) .nil)))) (.nm 5) [5])) (.cons (.fz 4) (.cons (.app (.nm 2) (.ca 266 (.cons (.fr (.lc (.nm 5) (.e (.nm 4)) .none (.ix (.nm 5) (.k (.int 4))) [5])) .nil))) .nil)))) (.cons (.ret (.bi .tuple (.cons (.nm 2) .nil))) .nil))
def b__law_key : Sts := .cons (.par [3, 4] (.cons (.ca 267 (.cons (.ix (.nm 0) (.k (.int 1))) (.cons (.nm 2) .nil))) (.cons (.ca 268 (.cons (.ix (.nm 0) (.k (.int 3))) (.cons (.nm 2) .nil))) .nil))) (.cons (.asg (.nm 5) (.fr (.dct [("even" : Str), ("sum" : Str), ("wishes" : Str), ("worst" : Str)] (.cons (.bi .tuple (.cons (.rev (.bi .sorted (.cons (.nm 3) .nil))) .nil)) (.cons (.ca 266 (.cons (.nm 3) .nil)) (.cons (.ca 266 (.cons (.nm 4) .nil)) (.cons (.bi .tuple (.cons (.rev (.bi .sorted (.cons (.nm 4) .nil))) .nil)) .nil))))))) (.cons (.ret (.bi .tuple (.cons (.fr (.lc (.nm 6) (.e (.nm 1)) .none (.ix (.nm 5) (.nm 6)) [6])) .nil))) .nil))
def b_law_v3 : Sts := .cons (.alc 1 (.lst (.cons (.nm 0) (.cons (.k (.int 0)) (.cons (.k (.int 7402603)) (.cons (.k (.int 0)) .nil)))))) (.cons (.asg (.nm 2) (.ca 239 (.cons (.nm 1) (.cons (.k (.int 1000000000)) (.cons (.k (.int 3)) .nil))))) (.cons (.asg (.tp (.cons (.nm 3) (.cons (.nm 4) (.cons (.nm 5) .nil)))) (.tup (.cons (.ix (.nm 2) (.k (.int 0))) (.cons (.ca 241 (.cons (.nm 2) .nil)) (.cons (.ca 265 (.cons (.nm 1) .nil)) .nil))))) (.cons (.fr (.nm 6) (.rg1 (.k (.int 3))) (.cons (.asg (.nm 7) (.ca 242 (.cons (.nm 1) (.cons (.nm 3) .nil)))) (.cons (.asg (.nm 8) (.fr (.lst (.cons (.ca 256 (.cons (.nm 4) (.cons (.nm 7) .nil))) (.cons (.ca 257 (.cons (.nm 4) (.cons (.nm 7) .nil))) (.cons (.ca 273 (.cons (.nm 4) (.cons (.nm 5) (.cons (.nm 7) .nil)))) .nil)))))) (.cons (.ite (.nt (.ca 250 (.cons (.nm 8) (.cons (.fr (.lst (.cons (.ca 267 (.cons (.ix (.nm 2) (.k (.int 1))) (.cons (.nm 7) .nil))) (.cons (.ca 268 (.cons (.ix (.nm 2) (.k (.int 3))) (.cons (.nm 7) .nil))) (.cons (.ca 269 (.cons (.nm 2) (.cons (.nm 5) (.cons (.nm 7) .nil)))) .nil))))) .nil)))) (.cons (.ret (.k (.bl false))) .nil) .nil) .nil)))) (.cons (.asg (.tp (.cons (.nm 9) (.cons (.nm 10) .nil))) (.tup (.cons (.ca 251 (.cons (.nm 1) (.cons (.nm 3) (.cons (.nm 7) .nil)))) (.cons (.ca 234 (.cons (.nm 1) (.cons (.fr (.lst (.cons (.k (.non)) (.cons (.tup .nil) (.cons (.k (.str ("even" : Str))) (.cons (.fr (.lst (.cons (.k (.str ("even" : Str))) .nil))) (.cons (.tup (.cons (.k (.str ("even" : Str))) (.cons (.k (.str ("even" : Str))) .nil))) (.cons (.tup (.cons (.k (.str ("evens" : Str))) .nil)) (.cons (.o2 .add (.nm 5) (.tup (.cons (.k (.non)) .nil))) (.cons (.o2 .add (.nm 5) (.sl (.nm 5) .none (.some (.k (.int 1))))) (.cons (.tup (.cons (.k (.int 0)) .nil)) .nil))))))))))) .nil))) .nil)))) (.cons (.asg (.nm 11) (.fr (.lst (.cons (.heard (.ca 256 (.cons (.nm 4) (.cons (.nm 9) .nil)))) (.cons (.heard (.ca 257 (.cons (.nm 4) (.cons (.nm 9) .nil)))) (.cons (.heard (.ca 273 (.cons (.nm 4) (.cons (.nm 5) (.cons (.nm 9) .nil))))) (.cons (.heard (.ca 273 (.cons (.nm 4) (.cons (.nm 10) (.cons (.nm 9) .nil))))) .nil))))))) (.cons (.asg (.nm 11) (.o2 .add (.nm 11) (.fr (.lst (.cons (.heard (.ca 273 (.cons (.k (.non)) (.cons (.nm 10) (.cons (.nm 9) .nil))))) (.cons (.heard (.ca 256 (.cons (.k (.int 0)) (.cons (.nm 7) .nil)))) (.cons (.heard (.ca 257 (.cons (.tup .nil) (.cons (.nm 7) .nil)))) .nil))))))) (.cons (.asg (.nm 12) (.o2 .add (.o2 .add (.o2 .mul (.fr (.lst (.cons (.tup (.cons (.k (.str ("bad" : Str))) (.cons (.k (.str ("roster" : Str))) (.cons (.k (.bl true)) .nil)))) .nil))) (.k (.int 3))) (.fr (.lst (.cons (.tup (.cons (.k (.str ("bad" : Str))) (.cons (.k (.str ("order" : Str))) (.cons (.k (.bl true)) .nil)))) .nil)))) (.o2 .mul (.fr (.lst (.cons (.tup (.cons (.k (.str ("bad" : Str))) (.cons (.k (.str ("ward" : Str))) (.cons (.k (.bl true)) .nil)))) .nil))) (.k (.int 3))))) (.cons (.ret (.ca 250 (.cons (.nm 11) (.cons (.nm 12) .nil)))) .nil))))))))
end Rg
set_option Elab.async false
set_option linter.all false
set_option maxRecDepth 100000
set_option maxHeartbeats 0
namespace K03
open PySem PySem.Spec PyProof.Rows L2 Rg
def F : Fx := ⟨[(1, ("Size" : Str)), (2, ("Ward" : Str))], [(1, ("many_days" : Str)), (2, ("many_people" : Str)), (3, ("many_duties" : Str)), (4, ("_size" : Str)), (5, ("_people" : Str)), (6, ("_duties" : Str)), (7, ("_burdens" : Str)), (8, ("_rules" : Str)), (9, ("_wishes" : Str)), (101, ("name" : Str)), (102, ("numbers" : Str)), (103, ("why" : Str)), (104, ("line" : Str))], [(1, 1), (1, 2), (1, 3), (2, 4), (2, 5), (2, 6), (2, 7), (2, 8), (2, 9)], [(("LETTERS" : Str), .str ("abcdefghijklmnopqrstuvwxyz" : Str)), (("MOST_LETTERS" : Str), .int 8), (("MOST_DAYS" : Str), .int 5), (("MOST_PEOPLE" : Str), .int 4), (("MOST_DUTIES" : Str), .int 3), (("MOST_BURDEN" : Str), .int 9), (("MOST_RULES" : Str), .int 12), (("MOST_WISHES" : Str), .int 12), (("MOST_WEIGHT" : Str), .int 9), (("EVERY" : Str), .str ("every" : Str)), (("ON_DAY" : Str), .str ("day" : Str)), (("NEVER" : Str), .str ("never" : Str)), (("IN_ROW" : Str), .str ("in" : Str)), (("HAS" : Str), .str ("has" : Str)), (("HAS_NOT" : Str), .str ("not" : Str)), (("AT_LEAST" : Str), .str ("least" : Str)), (("AT_MOST" : Str), .str ("most" : Str)), (("EVEN" : Str), .str ("even" : Str)), (("SUM" : Str), .str ("sum" : Str)), (("WISHES" : Str), .str ("wishes" : Str)), (("WORST" : Str), .str ("worst" : Str))], [(("KEPT" : Str), [.str ("every" : Str), .str ("day" : Str), .str ("never" : Str), .str ("then" : Str), .str ("at" : Str), .str ("most" : Str), .str ("least" : Str), .str ("in" : Str), .str ("has" : Str), .str ("not" : Str), .str ("on" : Str), .str ("wants" : Str), .str ("off" : Str)]), (("WORDS" : Str), [.str ("even" : Str), .str ("sum" : Str), .str ("wishes" : Str), .str ("worst" : Str)])], [(("SIZES" : Str), [(.str ("every" : Str), .int 3), (.str ("day" : Str), .int 4), (.str ("never" : Str), .int 3), (.str ("in" : Str), .int 4), (.str ("has" : Str), .int 4), (.str ("not" : Str), .int 4), (.str ("least" : Str), .int 4), (.str ("most" : Str), .int 4)])], [(("BadArgument" : Str), 101, 101, ("name" : Str))], [("_law_heard" : Str)], [(("_law_alike" : Str), 244, [("found" : Str), ("due" : Str)])]⟩
def d_is_number : Dx := ⟨.fn ("is_number" : Str), 201, ("is_number" : Str), [("value" : Str), ("low" : Str), ("high" : Str)], [("value" : Str), ("low" : Str), ("high" : Str)], 0, false, false, b_is_number⟩
def d_check : Dx := ⟨.fn ("check" : Str), 202, ("check" : Str), [("is_right" : Str), ("name" : Str)], [("is_right" : Str), ("name" : Str)], 2, false, false, b_check⟩
def d_is_word : Dx := ⟨.fn ("is_word" : Str), 203, ("is_word" : Str), [("value" : Str)], [("value" : Str), ("sign" : Str)], 3, true, false, b_is_word⟩
def d_are_words : Dx := ⟨.fn ("are_words" : Str), 204, ("are_words" : Str), [("value" : Str), ("most" : Str)], [("value" : Str), ("most" : Str), ("own" : Str)], 7, true, false, b_are_words⟩
def d_are_numbers : Dx := ⟨.fn ("are_numbers" : Str), 205, ("are_numbers" : Str), [("value" : Str), ("many" : Str), ("low" : Str), ("high" : Str)], [("value" : Str), ("many" : Str), ("low" : Str), ("high" : Str), ("own" : Str)], 4, true, false, b_are_numbers⟩
def d_Size_init : Dx := ⟨.kl 1 ("Size" : Str), 206, ("Size.__init__" : Str), [("self" : Str), ("days" : Str), ("people" : Str), ("duties" : Str)], [("self" : Str), ("days" : Str), ("people" : Str), ("duties" : Str)], 0, false, false, b_Size_init⟩
def d_Size_is_day : Dx := ⟨.mt 1 ("Size" : Str) ("is_day" : Str), 207, ("Size.is_day" : Str), [("self" : Str), ("value" : Str)], [("self" : Str), ("value" : Str)], 1, false, false, b_Size_is_day⟩
def d_Size_is_person : Dx := ⟨.mt 1 ("Size" : Str) ("is_person" : Str), 208, ("Size.is_person" : Str), [("self" : Str), ("value" : Str)], [("self" : Str), ("value" : Str)], 1, false, false, b_Size_is_person⟩
def d_Size_is_duty : Dx := ⟨.mt 1 ("Size" : Str) ("is_duty" : Str), 209, ("Size.is_duty" : Str), [("self" : Str), ("value" : Str)], [("self" : Str), ("value" : Str)], 1, false, false, b_Size_is_duty⟩
def d_is_rule_in : Dx := ⟨.fn ("is_rule_in" : Str), 210, ("is_rule_in" : Str), [("size" : Str), ("value" : Str)], [("size" : Str), ("value" : Str), ("kind" : Str)], 2, false, false, b_is_rule_in⟩
def d_is_wish_in : Dx := ⟨.fn ("is_wish_in" : Str), 211, ("is_wish_in" : Str), [("size" : Str), ("value" : Str)], [("size" : Str), ("value" : Str), ("is_right" : Str)], 2, false, false, b_is_wish_in⟩
def d_are_rules_in : Dx := ⟨.fn ("are_rules_in" : Str), 212, ("are_rules_in" : Str), [("size" : Str), ("value" : Str)], [("size" : Str), ("value" : Str), ("own" : Str)], 6, true, false, b_are_rules_in⟩
def d_are_wishes_in : Dx := ⟨.fn ("are_wishes_in" : Str), 213, ("are_wishes_in" : Str), [("size" : Str), ("value" : Str)], [("size" : Str), ("value" : Str), ("own" : Str)], 6, true, false, b_are_wishes_in⟩
def d_Ward_init : Dx := ⟨.kl 2 ("Ward" : Str), 214, ("Ward.__init__" : Str), [("self" : Str), ("days" : Str), ("people" : Str), ("duties" : Str), ("burdens" : Str), ("rules" : Str), ("wishes" : Str)], [("self" : Str), ("days" : Str), ("people" : Str), ("duties" : Str), ("burdens" : Str), ("rules" : Str), ("wishes" : Str), ("size" : Str)], 8, false, false, b_Ward_init⟩
def d_Ward_days : Dx := ⟨.pr 2 ("Ward" : Str) ("days" : Str), 215, ("Ward.days" : Str), [("self" : Str)], [("self" : Str)], 0, false, false, b_Ward_days⟩
def d_Ward_people : Dx := ⟨.pr 2 ("Ward" : Str) ("people" : Str), 216, ("Ward.people" : Str), [("self" : Str)], [("self" : Str)], 0, false, false, b_Ward_people⟩
def d_Ward_duties : Dx := ⟨.pr 2 ("Ward" : Str) ("duties" : Str), 217, ("Ward.duties" : Str), [("self" : Str)], [("self" : Str)], 0, false, false, b_Ward_duties⟩
def d_Ward_burdens : Dx := ⟨.pr 2 ("Ward" : Str) ("burdens" : Str), 218, ("Ward.burdens" : Str), [("self" : Str)], [("self" : Str)], 0, false, false, b_Ward_burdens⟩
def d_Ward_rules : Dx := ⟨.pr 2 ("Ward" : Str) ("rules" : Str), 219, ("Ward.rules" : Str), [("self" : Str)], [("self" : Str)], 0, false, false, b_Ward_rules⟩
def d_Ward_wishes : Dx := ⟨.pr 2 ("Ward" : Str) ("wishes" : Str), 220, ("Ward.wishes" : Str), [("self" : Str)], [("self" : Str)], 0, false, false, b_Ward_wishes⟩
def d_Ward_size : Dx := ⟨.mt 2 ("Ward" : Str) ("size" : Str), 221, ("Ward.size" : Str), [("self" : Str)], [("self" : Str)], 0, false, false, b_Ward_size⟩
def d_parts_of : Dx := ⟨.fn ("parts_of" : Str), 222, ("parts_of" : Str), [("ward" : Str)], [("ward" : Str)], 3, false, false, b_parts_of⟩
def d_is_ward : Dx := ⟨.fn ("is_ward" : Str), 223, ("is_ward" : Str), [("value" : Str)], [("value" : Str)], 0, false, false, b_is_ward⟩
def d_is_table : Dx := ⟨.fn ("is_table" : Str), 224, ("is_table" : Str), [("ward" : Str), ("value" : Str)], [("ward" : Str), ("value" : Str), ("own" : Str)], 8, true, false, b_is_table⟩
def d_check_roster : Dx := ⟨.fn ("check_roster" : Str), 229, ("check_roster" : Str), [("ward" : Str), ("roster" : Str), ("name" : Str)], [("ward" : Str), ("roster" : Str), ("name" : Str)], 9, false, false, b_check_roster⟩
def d_burden_in : Dx := ⟨.fn ("burden_in" : Str), 254, ("burden_in" : Str), [("ward" : Str), ("life" : Str)], [("ward" : Str), ("life" : Str), ("duty" : Str)], 3, false, false, b_burden_in⟩
def d_unmet_in : Dx := ⟨.fn ("unmet_in" : Str), 255, ("unmet_in" : Str), [("ward" : Str), ("person" : Str), ("life" : Str)], [("ward" : Str), ("person" : Str), ("life" : Str), ("total" : Str), ("own" : Str), ("duty" : Str), ("day" : Str), ("is_wanted" : Str), ("weight" : Str)], 3, false, false, b_unmet_in⟩
def d_burdens_of : Dx := ⟨.fn ("burdens_of" : Str), 256, ("burdens_of" : Str), [("ward" : Str), ("roster" : Str)], [("ward" : Str), ("roster" : Str), ("life" : Str)], 10, false, false, b_burdens_of⟩
def d_unmet : Dx := ⟨.fn ("unmet" : Str), 257, ("unmet" : Str), [("ward" : Str), ("roster" : Str)], [("ward" : Str), ("roster" : Str), ("person" : Str), ("life" : Str)], 10, false, false, b_unmet⟩
def d_is_order : Dx := ⟨.fn ("is_order" : Str), 271, ("is_order" : Str), [("value" : Str)], [("value" : Str), ("own" : Str)], 3, true, false, b_is_order⟩
def d_no_key : Dx := ⟨.fn ("no_key" : Str), 258, ("no_key" : Str), [("order" : Str)], [("order" : Str), ("own" : Str)], 0, false, false, b_no_key⟩
def d_part_of : Dx := ⟨.fn ("part_of" : Str), 259, ("part_of" : Str), [("ward" : Str), ("word" : Str), ("person" : Str), ("life" : Str), ("base" : Str)], [("ward" : Str), ("word" : Str), ("person" : Str), ("life" : Str), ("base" : Str), ("day" : Str)], 4, false, false, b_part_of⟩
def d_parts_of_life : Dx := ⟨.fn ("parts_of_life" : Str), 260, ("parts_of_life" : Str), [("ward" : Str), ("order" : Str), ("person" : Str), ("life" : Str), ("base" : Str)], [("ward" : Str), ("order" : Str), ("person" : Str), ("life" : Str), ("base" : Str), ("word" : Str)], 5, false, false, b_parts_of_life⟩
def d_with_parts : Dx := ⟨.fn ("with_parts" : Str), 261, ("with_parts" : Str), [("order" : Str), ("key" : Str), ("parts" : Str)], [("order" : Str), ("key" : Str), ("parts" : Str), ("found" : Str), ("word" : Str), ("own" : Str), ("part" : Str)], 0, false, false, b_with_parts⟩
def d_key_in : Dx := ⟨.fn ("key_in" : Str), 262, ("key_in" : Str), [("ward" : Str), ("order" : Str), ("roster" : Str), ("base" : Str)], [("ward" : Str), ("order" : Str), ("roster" : Str), ("base" : Str), ("found" : Str), ("person" : Str), ("life" : Str)], 6, false, false, b_key_in⟩
def d_check_order_v2 : Dx := ⟨.fn ("check_order" : Str), 272, ("check_order" : Str), [("ward" : Str), ("order" : Str)], [("ward" : Str), ("order" : Str)], 4, false, false, b_check_order_v2⟩
def d_key_of_v2 : Dx := ⟨.fn ("key_of" : Str), 273, ("key_of" : Str), [("ward" : Str), ("order" : Str), ("roster" : Str)], [("ward" : Str), ("order" : Str), ("roster" : Str)], 9, false, false, b_key_of_v2⟩
def d__law_taken : Dx := ⟨.fn ("_law_taken" : Str), 233, ("_law_taken" : Str), [("row" : Str), ("many" : Str)], [("row" : Str), ("many" : Str), ("found" : Str), ("cell" : Str)], 0, false, false, b__law_taken⟩
def d__law_pick : Dx := ⟨.fn ("_law_pick" : Str), 234, ("_law_pick" : Str), [("row" : Str), ("some" : Str)], [("row" : Str), ("some" : Str)], 1, false, false, b__law_pick⟩
def d__law_power : Dx := ⟨.fn ("_law_power" : Str), 235, ("_law_power" : Str), [("own" : Str), ("many" : Str)], [("own" : Str), ("many" : Str), ("found" : Str), ("turn" : Str)], 0, false, false, b__law_power⟩
def d__law_size : Dx := ⟨.fn ("_law_size" : Str), 236, ("_law_size" : Str), [("row" : Str), ("most" : Str)], [("row" : Str), ("most" : Str), ("people" : Str), ("duties" : Str), ("days" : Str)], 2, false, false, b__law_size⟩
def d__law_rule : Dx := ⟨.fn ("_law_rule" : Str), 237, ("_law_rule" : Str), [("row" : Str), ("size" : Str)], [("row" : Str), ("size" : Str), ("days" : Str), ("people" : Str), ("duties" : Str), ("kind" : Str), ("day" : Str), ("person" : Str), ("duty" : Str)], 2, false, false, b__law_rule⟩
def d__law_wish : Dx := ⟨.fn ("_law_wish" : Str), 238, ("_law_wish" : Str), [("row" : Str), ("size" : Str)], [("row" : Str), ("size" : Str), ("days" : Str), ("people" : Str), ("duties" : Str)], 2, false, false, b__law_wish⟩
def d__law_parts : Dx := ⟨.fn ("_law_parts" : Str), 239, ("_law_parts" : Str), [("row" : Str), ("most" : Str), ("rules" : Str)], [("row" : Str), ("most" : Str), ("rules" : Str), ("size" : Str), ("burdens" : Str), ("duty" : Str), ("some" : Str), ("turn" : Str)], 3, false, false, b__law_parts⟩
def d__law_names : Dx := ⟨.fn ("_law_names" : Str), 240, ("_law_names" : Str), [("people" : Str), ("duties" : Str)], [("people" : Str), ("duties" : Str)], 0, false, false, b__law_names⟩
def d__law_ward : Dx := ⟨.fn ("_law_ward" : Str), 241, ("_law_ward" : Str), [("parts" : Str)], [("parts" : Str), ("size" : Str), ("burdens" : Str), ("rules" : Str), ("wishes" : Str), ("people" : Str), ("duties" : Str)], 10, false, false, b__law_ward⟩
def d__law_order : Dx := ⟨.fn ("_law_order" : Str), 265, ("_law_order" : Str), [("row" : Str)], [("row" : Str), ("left" : Str), ("found" : Str), ("turn" : Str), ("at" : Str)], 1, false, false, b__law_order⟩
def d__law_table : Dx := ⟨.fn ("_law_table" : Str), 242, ("_law_table" : Str), [("row" : Str), ("size" : Str)], [("row" : Str), ("size" : Str), ("day" : Str), ("person" : Str)], 1, false, false, b__law_table⟩
def d__law_alike1 : Dx := ⟨.fn ("_law_alike" : Str), 245, ("_law_alike" : Str), [("found" : Str), ("due" : Str)], [("found" : Str), ("due" : Str), ("k" : Str), ("key" : Str)], 0, false, false, b__law_alike1⟩
def d__law_alike2 : Dx := ⟨.fn ("_law_alike" : Str), 246, ("_law_alike" : Str), [("found" : Str), ("due" : Str)], [("found" : Str), ("due" : Str), ("k" : Str), ("key" : Str)], 1, false, false, b__law_alike2⟩
def d__law_alike3 : Dx := ⟨.fn ("_law_alike" : Str), 247, ("_law_alike" : Str), [("found" : Str), ("due" : Str)], [("found" : Str), ("due" : Str), ("k" : Str), ("key" : Str)], 2, false, false, b__law_alike3⟩
def d__law_alike4 : Dx := ⟨.fn ("_law_alike" : Str), 248, ("_law_alike" : Str), [("found" : Str), ("due" : Str)], [("found" : Str), ("due" : Str), ("k" : Str), ("key" : Str)], 3, false, false, b__law_alike4⟩
def d__law_alike5 : Dx := ⟨.fn ("_law_alike" : Str), 249, ("_law_alike" : Str), [("found" : Str), ("due" : Str)], [("found" : Str), ("due" : Str), ("k" : Str), ("key" : Str)], 4, false, false, b__law_alike5⟩
def d__law_alike6 : Dx := ⟨.fn ("_law_alike" : Str), 250, ("_law_alike" : Str), [("found" : Str), ("due" : Str)], [("found" : Str), ("due" : Str), ("k" : Str), ("key" : Str)], 5, false, false, b__law_alike6⟩
def d__law_sum : Dx := ⟨.fn ("_law_sum" : Str), 266, ("_law_sum" : Str), [("rows" : Str)], [("rows" : Str), ("found" : Str), ("own" : Str)], 0, false, false, b__law_sum⟩
def d__law_burdens : Dx := ⟨.fn ("_law_burdens" : Str), 267, ("_law_burdens" : Str), [("burdens" : Str), ("roster" : Str)], [("burdens" : Str), ("roster" : Str), ("duty" : Str), ("life" : Str)], 1, false, false, b__law_burdens⟩
def d__law_unmet : Dx := ⟨.fn ("_law_unmet" : Str), 268, ("_law_unmet" : Str), [("wishes" : Str), ("roster" : Str)], [("wishes" : Str), ("roster" : Str), ("found" : Str), ("person" : Str), ("rows" : Str), ("own" : Str)], 1, false, false, b__law_unmet⟩
def d__law_key : Dx := ⟨.fn ("_law_key" : Str), 269, ("_law_key" : Str), [("parts" : Str), ("order" : Str), ("roster" : Str)], [("parts" : Str), ("order" : Str), ("roster" : Str), ("some" : Str), ("weights" : Str), ("rows" : Str), ("word" : Str)], 2, false, false, b__law_key⟩
def d__law_bent_table : Dx := ⟨.fn ("_law_bent_table" : Str), 251, ("_law_bent_table" : Str), [("row" : Str), ("size" : Str), ("table" : Str)], [("row" : Str), ("size" : Str), ("table" : Str), ("some" : Str)], 2, false, false, b__law_bent_table⟩
def d_law_v3 : Dx := ⟨.fn ("law" : Str), 274, ("law" : Str), [("script" : Str)], [("script" : Str), ("row" : Str), ("parts" : Str), ("size" : Str), ("ward" : Str), ("order" : Str), ("turn" : Str), ("table" : Str), ("found" : Str), ("bad" : Str), ("wrong" : Str), ("heard" : Str), ("due" : Str)], 13, false, true, b_law_v3⟩
def dxs : List Dx := [d_law_v3, d__law_bent_table, d__law_key, d__law_unmet, d__law_burdens, d__law_sum, d__law_alike6, d__law_alike5, d__law_alike4, d__law_alike3, d__law_alike2, d__law_alike1, d__law_table, d__law_order, d__law_ward, d__law_names, d__law_parts, d__law_wish, d__law_rule, d__law_size, d__law_power, d__law_pick, d__law_taken, d_key_of_v2, d_check_order_v2, d_key_in, d_with_parts, d_parts_of_life, d_part_of, d_no_key, d_is_order, d_unmet, d_burdens_of, d_unmet_in, d_burden_in, d_check_roster, d_is_table, d_is_ward, d_parts_of, d_Ward_size, d_Ward_wishes, d_Ward_rules, d_Ward_burdens, d_Ward_duties, d_Ward_people, d_Ward_days, d_Ward_init, d_are_wishes_in, d_are_rules_in, d_is_wish_in, d_is_rule_in, d_Size_is_duty, d_Size_is_person, d_Size_is_day, d_Size_init, d_are_numbers, d_are_words, d_is_word, d_check, d_is_number]
def nm0 : List PySem.Str := ["_wall", "RosterError", "BadArgument", "Barred", "Refused", "Unread", "LETTERS", "MOST_LETTERS", "KEPT", "is_number", "check", "is_word", "are_words", "are_numbers", "MOST_DAYS", "MOST_PEOPLE", "MOST_DUTIES", "MOST_BURDEN", "MOST_RULES", "MOST_WISHES", "MOST_WEIGHT", "EVERY", "ON_DAY", "NEVER", "IN_ROW", "HAS", "HAS_NOT", "AT_LEAST", "AT_MOST", "SIZES"]
def nm1 : List PySem.Str := ["Size", "is_rule_in", "is_wish_in", "are_rules_in", "are_wishes_in", "Ward", "parts_of", "is_ward", "is_table", "check_roster", "burden_in", "unmet_in", "burdens_of", "unmet", "EVEN", "SUM", "WISHES", "WORST", "WORDS", "is_order", "no_key", "part_of", "parts_of_life", "with_parts", "key_in", "check_order", "key_of", "_law_taken", "_law_pick", "_law_power"]
def nm2 : List PySem.Str := ["_law_size", "_law_rule", "_law_wish", "_law_parts", "_law_names", "_law_ward", "_law_order", "_law_table", "_law_alike", "_law_sum", "_law_burdens", "_law_unmet", "_law_key", "_law_bent_table", "_law_heard"]
def names : List PySem.Str := nm0 ++ nm1 ++ nm2
abbrev rw : PySem.W.OpenLaw := PySem.Challenge.rw_evenrosters_k03_burdens_and_wishes
abbrev R : PySem.W.OpenRow := PySem.W.OpenLaw.row rw
abbrev hk : PySem.W.Hook := hookR 7 rw.prog F dxs
def ob (s : PySem.W.SharedT) : AlR := obsR 7 rw.prog F dxs (HandSHeadRun.getT s)
theorem ob_eq (s : PySem.W.SharedT) : ob s = hk.obs s.abs := obsR_eq (HandSHeadRun.getT_eq s)
theorem run_f (w : World) : HandSHeadRun.RunEq R (PySem.W.view R.prog [81]) hk ob 6000 names (w.withFollow "special-get-raises" false) := by
  intro os
  kernel_rfl
theorem run_t (w : World) : HandSHeadRun.RunEq R (PySem.W.view R.prog [81]) hk ob 6000 names (w.withFollow "special-get-raises" true) := by
  intro os
  kernel_rfl
theorem run (w : World) : HandSHeadRun.RunEq R (PySem.W.view R.prog [81]) hk ob 6000 names w := PySem.W.byRow2 "special-get-raises" (P := fun w => HandSHeadRun.RunEq R (PySem.W.view R.prog [81]) hk ob 6000 names w) run_f run_t w
end K03
set_option Elab.async false
set_option linter.all false
set_option maxRecDepth 100000
set_option maxHeartbeats 4000000
namespace Rg.M
open PySem PySem.Spec PyProof.Rows L2
class Kt (α : Type) where
  k : α
noncomputable def Res.op {α β : Type} (x : Option α) [c : Kt (α → Res β)] : Res β := Res.opt x c.k
noncomputable def Out.op {α : Type} (x : Option α) [c : Kt (α → Out)] : Out := Out.opt x c.k
end Rg.M
set_option Elab.async false
set_option linter.all false
set_option maxRecDepth 100000
set_option maxHeartbeats 4000000
namespace Rg.M
open PySem PySem.Spec PyProof.Rows L2
def letters : Str := "abcdefghijklmnopqrstuvwxyz"
def kept : List Str := ["every", "day", "never", "then", "at", "most", "least", "in", "has", "not", "on", "wants", "off"]
def isWordS (s : Str) : Bool := decide (1 ≤ s.length) && decide (s.length ≤ 8) && !decide (s ∈ kept) && s.cps.toList.all fun c => decide (c ∈ letters.cps.toList)
def areWords (l : List Str) (most : Int) : Bool := decide (1 ≤ l.length) && decide ((l.length : Int) ≤ most) && l.all isWordS
def nD (n : Nat) : D := .int n
def sizeD (d p u : Nat) : D := .obj 1 [(1, .int d), (2, .int p), (3, .int u)]
end Rg.M
set_option Elab.async false
set_option linter.all false
set_option maxRecDepth 100000
set_option maxHeartbeats 4000000
namespace Rg.M
open PySem PySem.Spec PyProof.Rows L2
inductive Rule where
  | every (a n : Nat) | day (k a n : Nat) | never (a b : Nat) | inr (n a k : Nat) | has (q a k : Nat) | hasnt (q a k : Nat) | least (q n a : Nat) | most (q n a : Nat)
  deriving DecidableEq
def Rule.D : Rule → Rg.D
  | .every a n => .tup [.str (Str.ofString "every"), .int a, .int n]
  | .day k a n => .tup [.str (Str.ofString "day"), .int k, .int a, .int n]
  | .never a b => .tup [.str (Str.ofString "never"), .int a, .int b]
  | .inr n a k => .tup [.str (Str.ofString "in"), .int n, .int a, .int k]
  | .has q a k => .tup [.str (Str.ofString "has"), .int q, .int a, .int k]
  | .hasnt q a k => .tup [.str (Str.ofString "not"), .int q, .int a, .int k]
  | .least q n a => .tup [.str (Str.ofString "least"), .int q, .int n, .int a]
  | .most q n a => .tup [.str (Str.ofString "most"), .int q, .int n, .int a]
def Rule.ok (d p u : Nat) : Rule → Prop
  | .every a n => a < u ∧ n ≤ p
  | .day k a n => 1 ≤ k ∧ k ≤ d ∧ a < u ∧ n ≤ p
  | .never a b => a < u ∧ b < u
  | .inr n a k => n ≤ d ∧ a < u ∧ 1 ≤ k ∧ k ≤ d
  | .has q a k => q < p ∧ a < u ∧ 1 ≤ k ∧ k ≤ d
  | .hasnt q a k => q < p ∧ a < u ∧ 1 ≤ k ∧ k ≤ d
  | .least q n a => q < p ∧ n ≤ d ∧ a < u
  | .most q n a => q < p ∧ n ≤ d ∧ a < u
structure Wish where
  q : Nat
  a : Nat
  k : Nat
  on : Bool
  w : Nat
  deriving DecidableEq
def Wish.D (x : Wish) : Rg.D := .tup [.int x.q, .int x.a, .int x.k, .bl x.on, .int x.w]
def Wish.ok (d p u : Nat) (x : Wish) : Prop := x.q < p ∧ x.a < u ∧ 1 ≤ x.k ∧ x.k ≤ d ∧ 1 ≤ x.w ∧ x.w ≤ 9
structure WardP where
  d : Nat
  people : List Str
  duties : List Str
  burdens : List Nat
  rules : List Rule
  wishes : List Wish
abbrev WardP.p (w : WardP) : Nat := w.people.length
abbrev WardP.u (w : WardP) : Nat := w.duties.length
def wordsD (l : List Str) : D := .tup (l.map D.str)
def numsD (l : List Nat) : D := .tup (l.map nD)
def rulesD (l : List Rule) : D := .tup (l.map Rule.D)
def wishesD (l : List Wish) : D := .tup (l.map Wish.D)
def WardP.fs (w : WardP) : List (Nat × D) := [(4, sizeD w.d w.p w.u), (5, wordsD w.people), (6, wordsD w.duties), (7, numsD w.burdens), (8, rulesD w.rules), (9, wishesD w.wishes)]
def WardP.D (w : WardP) : Rg.D := .obj 2 w.fs
structure WardP.ok (w : WardP) : Prop where
  d1 : 1 ≤ w.d
  d5 : w.d ≤ 5
  pe : areWords w.people 4 = true
  pn : w.people.Nodup
  pl : ∀ s ∈ w.people, s.length ≤ LN
  du : areWords w.duties 3 = true
  dn : w.duties.Nodup
  dl : ∀ s ∈ w.duties, s.length ≤ LN
  bl : w.burdens.length = w.duties.length
  b9 : ∀ b ∈ w.burdens, b ≤ 9
  rn : w.rules.length ≤ 12
  ro : ∀ r ∈ w.rules, r.ok w.d w.p w.u
  wn : w.wishes.length ≤ 12
  wo : ∀ r ∈ w.wishes, r.ok w.d w.p w.u
end Rg.M
set_option Elab.async false
set_option linter.all false
set_option maxRecDepth 100000
set_option maxHeartbeats 4000000
set_option Elab.async false
set_option linter.all false
set_option maxRecDepth 100000
set_option maxHeartbeats 4000000
namespace Rg.M
open PySem PySem.Spec PyProof.Rows L2
def exB (s : Str) : Xc := (101, [(101, .str s)])
end Rg.M
set_option Elab.async false
set_option linter.all false
set_option maxRecDepth 100000
set_option maxHeartbeats 4000000
set_option Elab.async false
set_option linter.all false
set_option maxRecDepth 100000
set_option maxHeartbeats 4000000
set_option Elab.async false
set_option linter.all false
set_option maxRecDepth 100000
set_option maxHeartbeats 4000000
set_option Elab.async false
set_option linter.all false
set_option maxRecDepth 100000
set_option maxHeartbeats 4000000
set_option Elab.async false
set_option linter.all false
set_option maxRecDepth 100000
set_option maxHeartbeats 4000000
set_option Elab.async false
set_option linter.all false
set_option maxRecDepth 100000
set_option maxHeartbeats 4000000
set_option Elab.async false
set_option linter.all false
set_option maxRecDepth 100000
set_option maxHeartbeats 4000000
set_option Elab.async false
set_option linter.all false
set_option maxRecDepth 100000
set_option maxHeartbeats 4000000
namespace Rg.M
open PySem PySem.Spec PyProof.Rows L2
inductive Wd where
  | even | sum | wishes | worst | near
  deriving DecidableEq
def Wd.s : Wd → Str
  | .even => "even"
  | .sum => "sum"
  | .wishes => "wishes"
  | .worst => "worst"
  | .near => "near"
def Wd.D (w : Wd) : Rg.D := .str w.s
def Wd.row : Wd → Bool
  | .even => true
  | .worst => true
  | _ => false
end Rg.M
set_option Elab.async false
set_option linter.all false
set_option maxRecDepth 100000
set_option maxHeartbeats 4000000
set_option Elab.async false
set_option linter.all false
set_option maxRecDepth 100000
set_option maxHeartbeats 4000000
set_option Elab.async false
set_option linter.all false
set_option maxRecDepth 100000
set_option maxHeartbeats 4000000
set_option Elab.async false
set_option linter.all false
set_option maxRecDepth 100000
set_option maxHeartbeats 4000000
set_option Elab.async false
set_option linter.all false
set_option maxRecDepth 100000
set_option maxHeartbeats 0
open PySem PySem.W PySem.Calls PyProof.Rows
set_option Elab.async false
set_option linter.all false
set_option maxRecDepth 100000
set_option maxHeartbeats 4000000
namespace Rg
open PySem PySem.Spec PyProof.Rows L2 GenW GxR
theorem over_comp {A : Around} {elt : Expr} {gens : List Comprehension} {scope : Scope} {pos : Pos} {it acc : Value} {env : Env} :
    A.over (.compLoop (.GeneratorExp elt gens scope pos) 0 it acc env) [] = A.deeper env := by
  first
    | rfl
    | (obtain ⟨hd, d, fr, gs, u⟩ := A; simp [Around.over, Around.deeper, marksOver, frameCount, unitsOf, envsOf, guardsOf, pushEnvs, pushGuards, Code.envs, Code.env?, Code.isFrame, Code.guards, Code.isGuard, Code.weight, Code.frames, Code.isCreation, Code.isCaller, Code.cUnits])
theorem over_start {A : Around} {elt : Expr} {gens : List Comprehension} {scope : Scope} {pos : Pos} {it acc : Value} {env : Env} :
    A.over (.compStart (.GeneratorExp elt gens scope pos) 0 it acc env) [] = A.deeper env := by
  first
    | rfl
    | (obtain ⟨hd, d, fr, gs, u⟩ := A; simp [Around.over, Around.deeper, marksOver, frameCount, unitsOf, envsOf, guardsOf, pushEnvs, pushGuards, Code.envs, Code.env?, Code.isFrame, Code.guards, Code.isGuard, Code.weight, Code.frames, Code.isCreation, Code.isCaller, Code.cUnits])
abbrev genCx (X : Cx) (A : Around) (s : Shared) (H : Hp) (cenv : Env) (fp : List Addr) : Cx :=
  { X with A := A.deeper cenv, s_0 := s, H_0 := H, env := cenv, outer := X.stack, stack := cenv :: X.stack, ex := fp, fn := fun _ => false, pn := [], xe := fun _ _ => False }
section
variable {X : Cx} {pins : List (Addr × Obj)} {σ : L2.St} {H : Hp} {s : Shared}
theorem gen_start {scope : Scope} {own : List (Str × Nat)} {fp : List Addr} {code : Value} {it : Value} {A : Around} {h' : Heap} (I : Inv X pins σ H s) (ok : BlkOk X.N X.env.scope scope own) (hN : X.N.Nodup)
    (hcell : ∀ y ∈ scope.names, y.2 ≠ .cell) (hco : scope.isCoroutine = false) (hA : A.handled = none) (hfr : A.frames = some X.stack)
    (hfp : ∀ b ∈ fp, FpOk X pins H b ∧ b < s.heap.objs.size)
    (hn' : h'.Ns s.heap.objs.size (fun y => if y = ".0" then some it else none)) (hk : ∀ b o, s.heap.get? b = some o → h'.get? b = some o) :
    Inv (genCx X A s H (genEnv scope (cloFrom X.env.cells scope.names []) s.heap.objs.size code builtinsNs X.env) fp) [] (wipe σ (own.map (·.2))) H { s with heap := h' } := by
  have hfree : ∀ y ∈ scope.names, y.2 = .free → ∃ c, X.env.cells.lookup y.1 = some c := fun y hy e => by
    rcases ok.free y hy e with k | k
    · exact I.ok.has _ (.inl k)
    · exact I.ok.has _ (.inr k)
  have cm : ∀ {y c}, (y, c) ∈ cloFrom X.env.cells scope.names [] → X.env.cells.lookup y = some c ∧ c < s.heap.objs.size := fun {y c} hm => by
    rcases cloFrom_mem hm with hm | ⟨h1, rfl⟩
    · cases hm
    · obtain ⟨c, hc⟩ := hfree _ h1 rfl
      rw [hc]
      obtain ⟨w, z⟩ := I.cell _ _ hc
      exact ⟨rfl, z.lt⟩
  have look : ∀ {y}, scope.names.lookup y = some .free → ∃ c, (cloFrom X.env.cells scope.names []).lookup y = some c ∧ X.env.cells.lookup y = some c := fun {y} hl => by
    have hy : (y, NameKind.free) ∈ scope.names := PySem.mem_of_lookup hl
    obtain ⟨c', e'⟩ := mem_lookup (cloFrom_has (cells := X.env.cells) (acc := []) hy)
    exact ⟨c', e', (cm (PySem.mem_of_lookup e')).1⟩
  have okB : (genCx X A s H (genEnv scope (cloFrom X.env.cells scope.names []) s.heap.objs.size code builtinsNs X.env) fp).Ok := by
    refine ⟨I.ok.mod, ok.kind, I.ok.glob, rfl, Nat.le_refl _, fun y z c e1 e2 => I.ok.inj y z c (cm (PySem.mem_of_lookup e1)).1 (cm (PySem.mem_of_lookup e2)).1, fun y hy => ?_, fun y c z e => (nomatch z), fun _ => hA,
      Around.frames_deeper hfr, .inr ⟨rfl, rfl⟩, fun b hb => ⟨Nat.ne_of_lt (hfp b hb).2, fun y c e z => (hfp b hb).1.2.2.2.2.1 y c (cm (PySem.mem_of_lookup e)).1 z⟩, I.bs, Nat.le_trans I.ok.bsz I.sz, fun b o e hb => ?_, fun b hb z => ?_, I.stack, I.stkFree⟩
    · have hy : scope.names.lookup y = some .cell ∨ scope.names.lookup y = some .free := hy
      rcases hy with hy | hy
      · exact absurd rfl (hcell _ (PySem.mem_of_lookup hy))
      · obtain ⟨c, h1, _⟩ := look hy
        exact ⟨c, h1⟩
    · rcases (hfp b hb).1.2.2.2.1 with z | z
      · exact I.ok.noex b o e z
      · exact absurd (Nat.lt_of_lt_of_le (Heap.lt_size e) (Nat.le_trans I.ok.bsz z)) (Nat.lt_irrefl _)
    · rcases List.mem_cons.mp (I.stkSub b z) with z | z
      · exact (hfp b hb).1.2.1 z
      · exact (hfp b hb).1.2.2.1 z
  refine ⟨okB, rfl, I.bare, Un.kept hk, ⟨_, hn', fun i y av e1 e2 e3 => ?_⟩, fun y c e => ?_, I.hok.fresh (Nat.le_refl _), fun y c e => I.freeC y c (cm (PySem.mem_of_lookup e)).1, fun p hp => ?_, I.hok.kept hk, by rw [wipe_length]; exact I.len⟩
  · obtain ⟨e2, hne⟩ := wipe_some e2
    have e3 : Vis scope y := e3
    have hfr : scope.names.lookup y = some .free := by
      have no : ¬ (scope.names.lookup y = some .local ∨ scope.names.lookup y = some .cell) := fun hh => by
        have key : ∀ k, scope.names.lookup y = some k → (k = .local ∨ k = .cell) → False := fun k hk hk' => by
          rcases ok.own _ (PySem.mem_of_lookup hk) hk' with e' | e'
          · obtain ⟨p, hp, hpy⟩ := List.mem_map.mp e'
            have e3 := ok.ix p hp
            have : p.1 = y := hpy
            rw [this] at e3
            exact hne (List.mem_map.mpr ⟨p, hp, nodup_ix hN e3 e1⟩)
          · exact e' (List.mem_of_getElem? e1)
        rcases hh with hh | hh
        · exact key _ hh (.inl rfl)
        · exact key _ hh (.inr rfl)
      rcases e3 with e3 | e3 | e3
      · exact absurd (.inl e3) no
      · exact absurd (.inr e3) no
      · exact e3
    obtain ⟨m, hn, hl⟩ := I.loc
    have hvis : Vis X.env.scope y := (ok.free _ (PySem.mem_of_lookup hfr) rfl).elim (fun k => .inr (.inl k)) (fun k => .inr (.inr k))
    obtain ⟨w, r, q⟩ := hl i y av e1 e2 hvis
    refine ⟨w, r, .inr ⟨.inr hfr, ?_⟩⟩
    obtain ⟨c, h1, h2⟩ := look hfr
    rcases q with ⟨k, _⟩ | ⟨_, c', e', z⟩
    · have k : X.env.scope.names.lookup y = some .local := k
      rcases ok.free _ (PySem.mem_of_lookup hfr) rfl with k' | k' <;> rw [show X.env.scope.names.lookup y = _ from k'] at k <;> cases k
    · rw [h2] at e'; cases e'
      exact ⟨c, h1, z.keeps hk⟩
  · obtain ⟨w, z⟩ := I.cell y c (cm (PySem.mem_of_lookup e)).1
    exact ⟨w, z.keeps hk⟩
  · exact absurd (show p ∈ ([] : List (Addr × Obj)) ++ [] from hp) (by simp)
end
structure Awake (s s' : Shared) : Prop where
  heap : s'.heap = s.heap
  os : s'.os = s.os
  bare : AllBare s'.gens
section
variable {X : Cx} {σ : L2.St} {A : Around} {s0 : Shared} {H0 : Hp} {cenv : Env} {fp : List Addr} {go : Addr × Obj}
theorem inv_awake {pins : List (Addr × Obj)} {H : Hp} {s s' : Shared} (I : Inv X pins σ H s) (a : Awake s s') : Inv X pins σ H s' := by
  obtain ⟨h1, h2, h3⟩ := a
  refine I.call' (ch := []) h2 (Un.kept fun b o e => ?_) (I.hok.kept fun b o e => ?_) h3 fun b z => by simp at z
  · rw [h1]; exact e
  · rw [h1]; exact e
def RA (X : Cx) (A : Around) (s0 : Shared) (H0 : Hp) (cenv : Env) (fp : List Addr) (go : Addr × Obj) (σ : L2.St) (isAll : Bool) (Q : VK) : GenEnd := fun _ _ r s1 =>
  r = .ok .next ∧ ∃ H, Inv (genCx X A s0 H0 cenv fp) [go] σ H s1 ∧ Q (.bl isAll) H
def YA (X : Cx) (A : Around) (s0 : Shared) (H0 : Hp) (cenv : Env) (fp : List Addr) (go : Addr × Obj) (σ : L2.St) (isAll : Bool) (Q : VK) : Protocol := fun _ _ v s1 kap =>
  ∃ b H, v = .bool b ∧ Inv (genCx X A s0 H0 cenv fp) [go] σ H s1 ∧ ((b = isAll ∧ ∀ s'', Awake s1 s'' → kap (.send .none) s'') ∨ (b = !isAll ∧ Q (.bl (!isAll)) H))
theorem seg_allLoop {elt tg iter : Expr} {scope : Scope} {pos : Pos} {it : Addr} {J : L2.It} {tn : Nat → Heap → Prop} {g : TG} {te : TE} {vs : List Nat} {isAll : Bool} {Q : VK} {W : Nat → Nat → Hp → Prop}
    (hco : cenv.scope.isCoroutine = false) (hcalm : X.calm = true) (T : Turn X.prog X.w X.K tg J fp it tn)
    (hg : PG (genCx X A s0 H0 cenv fp) tg g) (he : PE (genCx X A s0 H0 cenv fp) elt te)
    (turn : ∀ i m H, W i m H → (J.stop i H ∧ Q (.bl isAll) H) ∨ (J.go i H ∧ ∃ Nx : Hp → Prop, (∀ H', Nx H' → ∃ m', m' < m ∧ W (i + 1) m' H') ∧
      ∀ x H', J.yld i H x H' → g x (wipe σ vs) H' fun σ2 H2 => wipe σ2 vs = wipe σ vs ∧ te σ2 H2 fun y H3 => ∃ b, y = .bl b ∧ if b = isAll then Nx H3 else Q (.bl (!isAll)) H3)) :
    ∀ (m n i : Nat) (s₀ s : Shared) (H : Hp), m < n → Inv (genCx X A s0 H0 cenv fp) [go] (wipe σ vs) H s → tn i s.heap → (∀ b ∈ fp, H b = none ∧ b ≠ go.1) → W i m H →
      Seg (model X.prog X.w) A (RA X A s0 H0 cenv fp go (wipe σ vs) isAll Q) (YA X A s0 H0 cenv fp go (wipe σ vs) isAll Q) n s₀ (.compLoop (.GeneratorExp elt [⟨tg, iter, [], 0⟩] scope pos) 0 (.ref it) .none cenv)
        ((model X.prog X.w).den (.compLoop (.GeneratorExp elt [⟨tg, iter, [], 0⟩] scope pos) 0 (.ref it) .none cenv)) [] s := by
  have stat : ∀ {σ' : L2.St} {H' : Hp} {s' : Shared}, Inv (genCx X A s0 H0 cenv fp) [go] σ' H' s' → (∀ b ∈ fp, H' b = none ∧ b ≠ go.1) → ∀ b ∈ fp, FpOk (genCx X A s0 H0 cenv fp) [go] H' b := fun {σ' H' s'} I' hn b hb =>
    ⟨(hn b hb).1, (I'.ok.exf b hb).1, I'.ok.exfs b hb, .inl hb, fun x c e => (I'.ok.exf b hb).2 x c e, fun p hp z => by
      rcases List.mem_append.mp hp with hp | hp
      · exact absurd (show p ∈ ([] : List (Addr × Obj)) from hp) (by simp)
      · rw [List.mem_singleton.mp hp] at z
        exact (hn b hb).2 z.symm⟩
  intro m
  induction m using Nat.strongRecOn with
  | ind m ih =>
    intro n i s₀ s H hmn I st nf w
    show Seg _ A _ _ _ s₀ _ ((compTurn (.GeneratorExp elt [⟨tg, iter, [], 0⟩] scope pos) 0 (.ref it) .none cenv).onRaise (leaving cenv)) [] s
    rw [compTurn_gen, Sem.onRaise_eq_wrap]
    refine seg_bind_wrap (wpAny_standAt ?_)
    rcases turn i m H w with ⟨stop, qq⟩ | ⟨go', Nx, hNx, step⟩
    · refine seg_bind_wrap ?_
      rw [over_comp]
      have td := T.done (genCx X A s0 H0 cenv fp) rfl rfl rfl hcalm i [go] s _ H (fun _ _ => False) I (stat I nf) st stop
      refine thnF td fun r s6 ⟨hr, I6⟩ => ?_
      subst hr
      exact seg_end (.ok .next) ⟨rfl, H, I6, qq⟩
    · refine seg_bind_wrap ?_
      rw [over_comp]
      have ti := T.item (genCx X A s0 H0 cenv fp) rfl rfl rfl hcalm i [go] s _ H (fun _ _ => False) I (stat I nf) st go'
      refine thnF ti fun r s6 ⟨u, hr, h6⟩ => ?_
      subst hr
      refine seg_bind_wrap ?_
      rw [over_comp]
      refine thnF h6 fun _ s7 ⟨x, H7, I7, r7, y7, st7, n7⟩ => ?_
      have nf7 : ∀ b ∈ fp, H7 b = none ∧ b ≠ go.1 := fun b hb => ⟨n7 b hb, (nf b hb).2⟩
      have I7' := I7.pinned (stat I7 nf7) (T.obj _ _ st7)
      refine seg_bind_wrap ?_
      rw [over_comp]
      refine thnF (hg.run _ s7 _ H7 x u _ I7' r7 (step x H7 y7)) fun _ s8 ⟨σ8, H8, I8, hw8, q8⟩ => ?_
      simp only [List.forIn_nil]
      refine seg_bind_wrap (wpAny_pure ?_)
      simp only [if_true]
      have hy : ∀ v, yieldOut cenv v = yieldValue v := fun v => by simp only [yieldOut, hco, Bool.false_eq_true, if_false]
      simp only [hy]
      rw [Sem.bind_eq_wrap', Sem.bind_eq_wrap', Sem.wrap_wrap, Sem.wrap_wrap]
      refine seg_wrap ?_
      rw [over_comp]
      refine thnF (he.run _ s8 σ8 H8 _ I8 q8) fun z s10 ⟨yv, H10, I10, r10, b, eb, nx⟩ => ?_
      subst eb
      have ez : z = .bool b := r10
      subst ez
      -- the turn's end
      have hl : (wipe σ vs).length = σ8.length := by rw [← hw8, wipe_length]
      have I11 : Inv (genCx X A s0 H0 cenv fp) [go] (wipe σ vs) H10 s10 := (I10.unpinned (pins := [go])).weak hl (fun j v e => by
        rw [← hw8] at e
        exact (wipe_some e).1)
      have pin' : ∀ b ∈ fp, ∀ o, s7.heap.get? b = some o → s10.heap.get? b = some o ∧ H10 b = none := fun b hb o e =>
        let z := I10.pin (b, o) (List.mem_append_right _ (List.mem_append_right _ (mem_pinsAt hb e)))
        ⟨z.1, z.2.1⟩
      by_cases hb : b = isAll
      · rw [if_pos hb] at nx
        obtain ⟨m', hm, w'⟩ := hNx H10 nx
        obtain ⟨n, rfl⟩ : ∃ k, n = k + 1 := ⟨n - 1, by omega⟩
        refine seg_at (seg_yield rfl rfl rfl ⟨b, H10, rfl, I11, .inl ⟨hb, fun s'' hal => ?_⟩⟩)
        refine seg_again rfl (ih m' hm n (i + 1) s'' s'' H10 (by omega) (inv_awake I11 hal) ?_ (fun b hb => ?_) w')
        · rw [hal.heap]
          exact T.keep _ _ _ st7 fun b hb o e => (pin' b hb o e).1
        · obtain ⟨o, e, _⟩ := T.obj _ _ st7 b hb
          exact ⟨(pin' b hb o e).2, (nf b hb).2⟩
      · rw [if_neg hb] at nx
        obtain ⟨n, rfl⟩ : ∃ k, n = k + 1 := ⟨n - 1, by omega⟩
        have eb : b = !isAll := by
          cases b <;> cases isAll <;> first | rfl | exact absurd rfl hb
        exact seg_at (seg_yield rfl rfl rfl ⟨b, H10, rfl, I11, .inr ⟨eb, nx⟩⟩)
end
section
variable {X : Cx} {σ : L2.St} {A : Around} {s0 : Shared} {H0 : Hp} {cenv : Env} {fp : List Addr} {go : Addr × Obj}
theorem seg_allStart {elt tg iter : Expr} {scope : Scope} {pos : Pos} {it : Addr} {J : L2.It} {tn : Nat → Heap → Prop} {g : TG} {te : TE} {vs : List Nat} {isAll : Bool} {Q : VK} {W : Nat → Nat → Hp → Prop}
    (hco : cenv.scope.isCoroutine = false) (hcalm : X.calm = true) (T : Turn X.prog X.w X.K tg J fp it tn)
    (hg : PG (genCx X A s0 H0 cenv fp) tg g) (he : PE (genCx X A s0 H0 cenv fp) elt te)
    (turn : ∀ i m H, W i m H → (J.stop i H ∧ Q (.bl isAll) H) ∨ (J.go i H ∧ ∃ Nx : Hp → Prop, (∀ H', Nx H' → ∃ m', m' < m ∧ W (i + 1) m' H') ∧
      ∀ x H', J.yld i H x H' → g x (wipe σ vs) H' fun σ2 H2 => wipe σ2 vs = wipe σ vs ∧ te σ2 H2 fun y H3 => ∃ b, y = .bl b ∧ if b = isAll then Nx H3 else Q (.bl (!isAll)) H3))
    (m n : Nat) (s₀ s : Shared) (H : Hp) (hmn : m < n) (I : Inv (genCx X A s0 H0 cenv fp) [go] (wipe σ vs) H s) (st : tn 0 s.heap) (nf : ∀ b ∈ fp, H b = none ∧ b ≠ go.1) (w : W 0 m H) :
      Seg (model X.prog X.w) A (RA X A s0 H0 cenv fp go (wipe σ vs) isAll Q) (YA X A s0 H0 cenv fp go (wipe σ vs) isAll Q) n s₀ (.compStart (.GeneratorExp elt [⟨tg, iter, [], 0⟩] scope pos) 0 (.ref it) .none cenv)
        ((model X.prog X.w).den (.compStart (.GeneratorExp elt [⟨tg, iter, [], 0⟩] scope pos) 0 (.ref it) .none cenv)) [] s := by
  have loop := seg_allLoop (iter := iter) (scope := scope) (pos := pos) (go := go) hco hcalm T hg he turn m n 0 s₀ s H hmn I st nf w
  show Seg _ A _ _ _ s₀ _ ((compStart (.GeneratorExp elt [⟨tg, iter, [], 0⟩] scope pos) 0 (.ref it) .none cenv).onRaise (leaving cenv)) [] s
  unfold compStart
  rw [Sem.onRaise_eq_wrap]
  show Seg _ A _ _ _ s₀ _ ((ask >>= _).wrap _ _ _ _) [] s
  refine seg_bind_wrap (wpAny_askSetting ?_)
  split
  · exact seg_again rfl loop
  · first
      | exact seg_bind_wrap (wpAny_rule (seg_bind_wrap (wpAny_standAt (seg_bind_wrap (T.self _ 0 s _ _ st (seg_again rfl loop))))))
      | (refine seg_bind_wrap (wpAny_rule ?_); show Seg _ A _ _ _ s₀ _ ((standAt iter.pos >>= _).wrap _ _ _ _) [] s; exact seg_bind_wrap (wpAny_standAt (seg_bind_wrap (T.self _ 0 s _ _ st (seg_again rfl loop)))))
def qid (isAll : Bool) : String := if isAll then "all.loop" else "any.loop"
theorem all_loop {vs : List Nat} {isAll : Bool} {Q : VK} {a : Addr} {g : Nat} {R : Result → Shared → Prop} {B : Around} (hB : A = B.in1.in1) (hh : B.handled = none) (hroom : B.depth < recursionLimit) (hgo : ∀ h : Heap, h.get? go.1 = some go.2 → h.IsGen a g)
    (hend : ∀ r s' s'' H, Inv (genCx X A s0 H0 cenv fp) [go] (wipe σ vs) H s' → Q (.bl r) H → (∀ b o, s'.heap.get? b = some o → s''.heap.get? b = some o) → s''.os = s'.os → AllBare s''.gens → R (.ok (.ret (.bool r))) s'') :
    ∀ (n : Nat) (s : Shared) (gs : GenState), s.heap.IsGen a g → s.heap.NoLimit → s.gens[g]? = some gs →
      gs.Goes (model X.prog X.w) A (RA X A s0 H0 cenv fp go (wipe σ vs) isAll Q) (YA X A s0 H0 cenv fp go (wipe σ vs) isAll Q) n (.send .none) (s.setGen g .running) →
      codeAny (model X.prog X.w) B (.builtin (qid isAll) ⟨[.ref a], []⟩) R s := by
  subst hB
  have goes : ∀ {gs : GenState} {n : Nat} {r : Resume} {s : Shared}, gs.Goes (model X.prog X.w) B.in1.in1 (RA X B.in1.in1 s0 H0 cenv fp go (wipe σ vs) isAll Q) (YA X B.in1.in1 s0 H0 cenv fp go (wipe σ vs) isAll Q) n r s →
      gs.Goes (model X.prog X.w) B.in1.in1 (fun n s₀ r s₁ => r = .ok .next ∧ (fun (_ : Nat) (_ s₁ : Shared) => ∃ H, Inv (genCx X B.in1.in1 s0 H0 cenv fp) [go] (wipe σ vs) H s₁ ∧ Q (.bl isAll) H) n s₀ s₁) (YA X B.in1.in1 s0 H0 cenv fp go (wipe σ vs) isAll Q) n r s := fun h => h
  have pinned : ∀ {s' : Shared} {H' : Hp}, Inv (genCx X B.in1.in1 s0 H0 cenv fp) [go] (wipe σ vs) H' s' → s'.heap.IsGen a g := fun {s' H'} J =>
    hgo _ (J.pin go (List.mem_append_right _ (List.mem_singleton.mpr rfl))).1
  intro n
  induction n with
  | zero =>
    intro s gs hg hl hgs hgo'
    cases isAll with
    | true =>
      show codeAny _ B (.builtin "all.loop" _) R s
      refine codeAny_builtin F.entry_all_loop ?_
      rw [Around.under_plainId F.plain_all_loop _]
      show wpAny _ B.in1 (pyNext (.ref a) >>= _) _ _ s
      refine wpAny_bind (wpAny_pyNext_genexpQ (A := B.in1) hh hl hroom hg hgs (goes hgo') (fun v s₁ gs' hb hv => ?_) (fun s₁ hp h' hk => ?_))
      · obtain ⟨b, H, rfl, I, hv⟩ := hv
        refine wpAny_bind (wpAny_holding (wpAny_truthy_bool (wpAny_bind (wpAny_letGo ?_))))
        rcases hv with ⟨rfl, hk⟩ | ⟨rfl, hq⟩
        · exact False.elim (hk s₁ ⟨rfl, rfl, I.bare⟩)
        · simp only [Bool.not_true, Bool.false_eq_true, if_false]
          exact wpAny_bind (wpAny_rule (wpAny_pure (hend _ s₁ _ H I hq (fun _ _ e => e) rfl (allBare_setGen I.bare hb))))
      · obtain ⟨H, I, hq⟩ := hp
        exact wpAny_bind (wpAny_rule (wpAny_pure (hend _ s₁ _ H I hq hk rfl (allBare_setGen I.bare rfl))))
    | false =>
      show codeAny _ B (.builtin "any.loop" _) R s
      refine codeAny_builtin F.entry_any_loop ?_
      rw [Around.under_plainId F.plain_any_loop _]
      show wpAny _ B.in1 (pyNext (.ref a) >>= _) _ _ s
      refine wpAny_bind (wpAny_pyNext_genexpQ (A := B.in1) hh hl hroom hg hgs (goes hgo') (fun v s₁ gs' hb hv => ?_) (fun s₁ hp h' hk => ?_))
      · obtain ⟨b, H, rfl, I, hv⟩ := hv
        refine wpAny_bind (wpAny_holding (wpAny_truthy_bool (wpAny_bind (wpAny_letGo ?_))))
        rcases hv with ⟨rfl, hk⟩ | ⟨rfl, hq⟩
        · exact False.elim (hk s₁ ⟨rfl, rfl, I.bare⟩)
        · simp only [Bool.not_false, if_true]
          exact wpAny_bind (wpAny_rule (wpAny_pure (hend _ s₁ _ H I hq (fun _ _ e => e) rfl (allBare_setGen I.bare hb))))
      · obtain ⟨H, I, hq⟩ := hp
        exact wpAny_bind (wpAny_rule (wpAny_pure (hend _ s₁ _ H I hq hk rfl (allBare_setGen I.bare rfl))))
  | succ n ih =>
    intro s gs hg hl hgs hgo'
    have hgl : g < s.gens.size := (Array.getElem?_eq_some_iff.mp hgs).1
    have again : ∀ {s₁ : Shared} {gs' : GenState} {H : Hp}, g < s₁.gens.size → gs'.bare = true → Inv (genCx X B.in1.in1 s0 H0 cenv fp) [go] (wipe σ vs) H s₁ →
        (∀ s'', Awake s₁ s'' → gs'.Goes (model X.prog X.w) B.in1.in1 (RA X B.in1.in1 s0 H0 cenv fp go (wipe σ vs) isAll Q) (YA X B.in1.in1 s0 H0 cenv fp go (wipe σ vs) isAll Q) n (.send .none) s'') →
        codeAny (model X.prog X.w) B (.builtin (qid isAll) ⟨[.ref a], []⟩) R (s₁.setGen g gs') := fun {s₁ gs' H} hsz hb I hk =>
      ih (s₁.setGen g gs') gs' (show s₁.heap.IsGen a g from pinned I) (show s₁.heap.NoLimit from I.nolimit) (setGen_at hsz) (hk _ ⟨rfl, rfl, allBare_setGen (s := s₁.setGen g gs') (allBare_setGen I.bare hb) rfl⟩)
    cases isAll with
    | true =>
      show codeAny _ B (.builtin "all.loop" _) R s
      refine codeAny_builtin F.entry_all_loop ?_
      rw [Around.under_plainId F.plain_all_loop _]
      show wpAny _ B.in1 (pyNext (.ref a) >>= _) _ _ s
      refine wpAny_bind (wpAny_gsz (n := g + 1) hgl (wpAny_pyNext_genexpQ (A := B.in1) hh hl hroom hg hgs (goes hgo') (fun v s₁ gs' hb hv => ?_) (fun s₁ hp h' hk => ?_)))
      · intro hsz
        have hsz1 : g < s₁.gens.size := by
          have q : (s₁.setGen g gs').gens.size = s₁.gens.size := setGen_size _ _ _
          have hsz' : g + 1 ≤ (s₁.setGen g gs').gens.size := hsz
          omega
        obtain ⟨b, H, rfl, I, hv⟩ := hv
        refine wpAny_bind (wpAny_holding (wpAny_truthy_bool (wpAny_bind (wpAny_letGo ?_))))
        rcases hv with ⟨rfl, hk⟩ | ⟨rfl, hq⟩
        · simp only [if_true]
          exact wpAny_pure ⟨plainId_quiet F.plain_all_loop _, again hsz1 hb I hk⟩
        · simp only [Bool.not_true, Bool.false_eq_true, if_false]
          exact wpAny_bind (wpAny_rule (wpAny_pure (hend _ s₁ _ H I hq (fun _ _ e => e) rfl (allBare_setGen I.bare hb))))
      · intro hsz
        obtain ⟨H, I, hq⟩ := hp
        exact wpAny_bind (wpAny_rule (wpAny_pure (hend _ s₁ _ H I hq hk rfl (allBare_setGen I.bare rfl))))
    | false =>
      show codeAny _ B (.builtin "any.loop" _) R s
      refine codeAny_builtin F.entry_any_loop ?_
      rw [Around.under_plainId F.plain_any_loop _]
      show wpAny _ B.in1 (pyNext (.ref a) >>= _) _ _ s
      refine wpAny_bind (wpAny_gsz (n := g + 1) hgl (wpAny_pyNext_genexpQ (A := B.in1) hh hl hroom hg hgs (goes hgo') (fun v s₁ gs' hb hv => ?_) (fun s₁ hp h' hk => ?_)))
      · intro hsz
        have hsz1 : g < s₁.gens.size := by
          have q : (s₁.setGen g gs').gens.size = s₁.gens.size := setGen_size _ _ _
          have hsz' : g + 1 ≤ (s₁.setGen g gs').gens.size := hsz
          omega
        obtain ⟨b, H, rfl, I, hv⟩ := hv
        refine wpAny_bind (wpAny_holding (wpAny_truthy_bool (wpAny_bind (wpAny_letGo ?_))))
        rcases hv with ⟨rfl, hk⟩ | ⟨rfl, hq⟩
        · simp only [Bool.false_eq_true, if_false]
          exact wpAny_pure ⟨plainId_quiet F.plain_any_loop _, again hsz1 hb I hk⟩
        · simp only [Bool.not_false, if_true]
          exact wpAny_bind (wpAny_rule (wpAny_pure (hend _ s₁ _ H I hq (fun _ _ e => e) rfl (allBare_setGen I.bare hb))))
      · intro hsz
        obtain ⟨H, I, hq⟩ := hp
        exact wpAny_bind (wpAny_rule (wpAny_pure (hend _ s₁ _ H I hq hk rfl (allBare_setGen I.bare rfl))))
end
def tQ (isAll : Bool) (P : Addr) (wi : TI) (g : TG) (te : TE) (vs : List Nat) : TE := fun σ H Q => wi σ H fun J H1 => TabG H1 P ∧ ∀ H2, Tabbed P H1 H2 → ∃ W : Nat → Nat → Hp → Prop, (∃ m, W 0 m H2) ∧
  ∀ i m H, W i m H → (J.stop i H ∧ Q (.bl isAll) H) ∨ (J.go i H ∧ ∃ Nx : Hp → Prop, (∀ H', Nx H' → ∃ m', m' < m ∧ W (i + 1) m' H') ∧
    ∀ x H', J.yld i H x H' → g x (wipe σ vs) H' fun σ2 H2 => wipe σ2 vs = wipe σ vs ∧ te σ2 H2 fun y H3 => ∃ b, y = .bl b ∧ if b = isAll then Nx H3 else Q (.bl (!isAll)) H3)
theorem call_qgen {X : Cx} {isAll : Bool} {a : Addr} {g : Nat} {Q : Value → Shared → Prop} {s : Shared} {E : Value → Shared → Prop} (hg : s.heap.IsGen a g)
    (h : codeAny (model X.prog X.w) X.A (.builtin (qid isAll) ⟨[.ref a], []⟩) (fun r s' => match r with | .ok (.ret u) => Q u s' | .ok _ => False | .error e => E e s') s) :
    wpAny (model X.prog X.w) X.A (call (.builtin (if isAll then "all" else "any")) [.ref a]) Q E s := by
  cases isAll with
  | true =>
    refine call_function_tree F.kind_all F.plain_all F.entry_all (F.args_all1 _) ?_
    unfold Builtin.«all»
    refine wpAny_bind (m := oneArg "all" _) (wpAny_pure ?_)
    refine wpAny_bind (wpAny_pyIter_gen hg ?_)
    exact wpAny_pure ⟨plainId_quiet F.plain_all_loop _, h⟩
  | false =>
    refine call_function_tree F.kind_any F.plain_any F.entry_any (F.args_any1 _) ?_
    unfold Builtin.«any»
    refine wpAny_bind (m := oneArg "any" _) (wpAny_pure ?_)
    refine wpAny_bind (wpAny_pyIter_gen hg ?_)
    exact wpAny_pure ⟨plainId_quiet F.plain_any_loop _, h⟩
theorem qname_boot (isAll : Bool) : bootBuiltins (qname isAll) = some (.builtin (if isAll then "all" else "any")) := by
  cases isAll
  · exact boot_any
  · show bootBuiltins "all" = _
    decide +kernel
theorem qname_ne (isAll : Bool) : qname isAll ≠ "__name__" ∧ (qname isAll == ("__debug__" : Str)) = false := by
  cases isAll <;> exact ⟨by decide, by decide⟩
theorem pe_quant {X : Cx} (isAll : Bool) {c P : Addr} {elt tg iter : Expr} {scope : Scope} {own : List (Str × Nat)} {p pos gpos : Pos} {wi : TI} {g : TG} {te : TE} {k : Nat}
    (hr : Room k X.A) (hgl : Gl X (qname isAll)) (hm : X.mg (qname isAll) = none) (TB : TabB X.base X.mg c P) (hcode : X.env.code = .ref c)
    (hc : X.calm = true) (hN : X.N.Nodup) (hi : PI X tg iter wi) (ok : BlkOk X.N X.env.scope scope own)
    (hcell : ∀ y ∈ scope.names, y.2 ≠ .cell) (hdot : scope.names.lookup (".0" : Str) = some NameKind.local) (hco : scope.isCoroutine = false)
    (hg : ∀ (s : Shared) (H : Hp) (C : Addr) (code : Value) (fp : List Addr), PG (genCx X X.A.in1.in1 s H (genEnv scope (cloFrom X.env.cells scope.names []) C code builtinsNs X.env) fp) tg g)
    (he : ∀ (s : Shared) (H : Hp) (C : Addr) (code : Value) (fp : List Addr), PE (genCx X X.A.in1.in1 s H (genEnv scope (cloFrom X.env.cells scope.names []) C code builtinsNs X.env) fp) elt te)
    (hs : ∀ v, genFold iter X.env v = pure v)
    (hst : starEach [.GeneratorExp elt [⟨tg, iter, [], 0⟩] scope gpos] X.env = (false, eval (.GeneratorExp elt [⟨tg, iter, [], 0⟩] scope gpos) X.env) :: starEach [] X.env := by rfl) :
    PE X (.Call (.Name (qname isAll) p) [.GeneratorExp elt [⟨tg, iter, [], 0⟩] scope gpos] [] pos) (tQ isAll P wi g te (own.map (·.2))) := by
  have hfree : ∀ {pins : List (Addr × Obj)} {σ : L2.St} {H : Hp} {s : Shared}, L2.Inv X pins σ H s → ∀ y ∈ scope.names, y.2 = .free → ∃ c, X.env.cells.lookup y.1 = some c := fun {pins σ H s} I y hy e => by
    rcases ok.free y hy e with k | k
    · exact I.ok.has _ (.inl k)
    · exact I.ok.has _ (.inr k)
  refine ⟨fun pins s σ H Q I h => ?_⟩
  refine wpAny_Call_Name_kw (ld_blt I hgl hm (qname_boot isAll) ?_ (qname_ne isAll).1 (qname_ne isAll).2)
  refine PyProof.Rows.callWith_builtin1 ?_ hst (by rfl)
  rw [hst]
  show wpAny _ _ (spliced ((false, eval (.GeneratorExp elt [⟨tg, iter, [], 0⟩] scope gpos) X.env) :: backTo pos (starEach [] X.env))) _ _ s
  refine Calls.spliced_cons ?_
  refine wpAny_GeneratorExp_make hco (closure_ok (hfree I)) hcell hdot ok.kind (by have := hr.dp; omega) ?_ hs
  refine thn (hi.run pins s σ H _ I h) fun xv s1 hx => thn hx fun itv s2 h2 => ?_
  obtain ⟨it, fp, tn, J, H1, e, I2, T, st2, f2, ⟨ps, hP, ht⟩, q⟩ := h2
  subst e
  refine ⟨I2.nolimit, ?_⟩
  have hPs : s2.heap.get? P = some { cls := .none, data := .fields ps } := I2.hok P _ hP
  have cd : PySem.W.CodeHd s2.heap c P := TB.code.keeps fun b u e => I2.bk b u e
  have cont : ∀ (code : Value) (h3 : Heap) (tk : Nat) (ps' : Array Value), Heap.ExtBut P s2.heap h3 → h3.get? P = some { cls := .none, data := .fields ps' } → (∃ more, ps' = ps ++ more) → TriplesOk ps'.toList →
      wpAny (model X.prog X.w) X.A (builtinsFor X.env.globals X.env.builtins) (fun bi s₄ =>
        ∀ h', h'.Ns s₄.heap.objs.size (fun y => if y = ".0" then some (.ref it) else none) → Heap.SameBut s₄.heap.objs.size (s₄.heap.push { cls := .type "frame", data := .dict #[] }) h' →
          wpAny (model X.prog X.w) X.A (spliced (backTo pos (starEach [] X.env))) (fun us s' => wpAny (model X.prog X.w) X.A (call (.builtin (if isAll then "all" else "any")) (.ref h'.objs.size :: us)) (EP X pins σ Q) X.xe s') X.xe { s₄ with
            gens := s₄.gens.push (.fresh (.compStart (.GeneratorExp elt [⟨tg, iter, [], 0⟩] scope gpos) 0 (.ref it) .none (genEnv scope (cloFrom X.env.cells scope.names []) s₄.heap.objs.size code bi X.env))),
            toks := s₄.toks + 1 + 1 + 1,
            heap := h'.push { cls := .type "generator", data := .fields #[.int s₄.gens.size 0, .str "<genexpr>" (s₄.toks + 1), .str (X.env.qual ++ "<genexpr>") (s₄.toks + 1 + 1)] } }) X.xe { s2 with heap := h3, toks := tk } := by
    intro code h3 tk ps' hx hP3 ⟨more, em⟩ ht3
    subst em
    obtain ⟨bm, ob, e1, e2, e3, e4, e5, e6, e7, e8⟩ := TB.bm
    have I3 : L2.Inv X pins σ (upd H1 P (.tbl (ps ++ more))) { s2 with heap := h3, toks := tk } := inv_tab (g' := s2.gens) (d' := s2.drawn) I2 hP (fun b o hb e => hx b o hb e) hP3 I2.bare
    refine wpAny_builtinsFor (m := X.mg) (by rw [I3.ok.glob]; exact I3.ok.mod.glob.keeps I3.bk) e1 e2 (I3.bk _ _ e5) e6 e7 e8 ?_
    intro h' hn' hs'
    have hT : Tabbed P H1 (upd H1 P (.tbl (ps ++ more))) := ⟨⟨ps ++ more, upd_same, ht3⟩, fun b hb => upd_ne hb⟩
    obtain ⟨W, ⟨m0, w0⟩, turn⟩ := q _ hT
    generalize hs3 : ({ s2 with heap := h3, toks := tk } : Shared) = s3 at I3 hn' hs' ⊢
    generalize hH3 : upd H1 P (.tbl (ps ++ more)) = H3 at I3 hT w0
    have e3h : s3.heap = h3 := by rw [← hs3]
    have k4 : ∀ b o, s3.heap.get? b = some o → h'.get? b = some o := fun b o e => hs'.extBut b o (Nat.ne_of_lt (Heap.lt_size e)) (Heap.get?_push_of_some _ e)
    have sz4 : h'.objs.size = s3.heap.objs.size + 1 := by rw [hs'.1, Heap.size_push]
    generalize hgo : ({ cls := .type "generator", data := .fields #[.int s3.gens.size 0, .str "<genexpr>" (s3.toks + 1), .str (X.env.qual ++ "<genexpr>") (s3.toks + 1 + 1)] } : Obj) = go
    have k5 : ∀ b o, s3.heap.get? b = some o → (h'.push go).get? b = some o := fun b o e => Heap.get?_push_of_some _ (k4 b o e)
    have ga : (h'.push go).get? h'.objs.size = some go := by rw [← hgo]; exact Heap.get?_push_size _ rfl
    have fP : ∀ b ∈ fp, b ≠ P := fun b hb z => by
      have := (f2 b hb).1
      rw [z, hP] at this
      cases this
    have fpl : ∀ b ∈ fp, b < s2.heap.objs.size := fun b hb => by
      obtain ⟨o, e, _⟩ := T.obj _ _ st2 b hb
      exact Heap.lt_size e
    have keep3 : ∀ b ∈ fp, ∀ o, s2.heap.get? b = some o → s3.heap.get? b = some o := fun b hb o e => by rw [e3h]; exact hx b o (fP b hb) e
    have f3 : ∀ b ∈ fp, FpOk X pins H3 b ∧ b < s3.heap.objs.size := fun b hb => by
      refine ⟨⟨?_, (f2 b hb).2⟩, ?_⟩
      · rw [← hH3, upd_ne (fP b hb)]
        exact (f2 b hb).1
      · obtain ⟨o, e, _⟩ := T.obj _ _ st2 b hb
        exact Heap.lt_size (keep3 b hb o e)
    have I4 := gen_start (code := code) (it := .ref it) (A := X.A.in1.in1) (h' := h'.push go) I3 ok hN hcell hco (I3.ok.hd hc) I3.ok.frames f3 (hn'.push _) k5
    generalize hce : genEnv scope (cloFrom X.env.cells scope.names []) s3.heap.objs.size code builtinsNs X.env = cenv at I4 ⊢
    have cL : cenv.locals = s3.heap.objs.size := by rw [← hce]; rfl
    have csc : cenv.scope = scope := by rw [← hce]; rfl
    refine Calls.spliced_nil ?_
    -- the state ahead of the call
    generalize hs5 : ({ s3 with gens := s3.gens.push (.fresh (.compStart (.GeneratorExp elt [⟨tg, iter, [], 0⟩] scope gpos) 0 (.ref it) .none cenv)), toks := s3.toks + 1 + 1 + 1, heap := h'.push go } : Shared) = s5
    have e5h : s5.heap = h'.push go := by rw [← hs5]
    have e5g : s5.gens = s3.gens.push (.fresh (.compStart (.GeneratorExp elt [⟨tg, iter, [], 0⟩] scope gpos) 0 (.ref it) .none cenv)) := by rw [← hs5]
    have e5o : s5.os = s3.os := by rw [← hs5]
    have b5 : AllBare s5.gens := by
      rw [e5g]
      exact AllBare.push I3.bare rfl
    have hgen : ∀ h : Heap, h.get? h'.objs.size = some go → h.IsGen h'.objs.size s3.gens.size := fun h e => by
      rw [← hgo] at e
      exact ⟨_, _, _, e, rfl, rfl, rfl⟩
    have young : s3.heap.objs.size ≤ h'.objs.size := by omega
    have aF : H3 h'.objs.size = none := I3.hok.fresh young
    have anF : h'.objs.size ∉ frs X.stack := fun hm => by
      rcases List.mem_cons.mp (I3.stkSub _ hm) with z | z
      · have := I3.lt
        rw [← z] at this
        exact absurd (Nat.lt_of_lt_of_le this young) (Nat.lt_irrefl _)
      · exact I3.nofs young z
    have I5 : L2.Inv (genCx X X.A.in1.in1 s3 H3 cenv fp) [(h'.objs.size, go)] (wipe σ (own.map (·.2))) H3 s5 := by
      have J : L2.Inv (genCx X X.A.in1.in1 s3 H3 cenv fp) [] (wipe σ (own.map (·.2))) H3 s5 :=
        I4.call' (ch := []) (by rw [e5o]) (Un.kept fun b o e => by rw [e5h]; exact e) (I4.hok.kept fun b o e => by rw [e5h]; exact e) b5 fun b z => by simp at z
      refine J.pins_of fun p hp => ?_
      have ep : p = (h'.objs.size, go) := List.mem_singleton.mp hp
      subst ep
      refine ⟨by rw [e5h]; exact ga, aF, ?_, anF, fun v z => by rw [← hgo] at z; cases z⟩
      show h'.objs.size ≠ cenv.locals
      rw [cL]
      omega
    have st5 : tn 0 s5.heap := T.keep _ _ _ st2 fun b hb o e => by rw [e5h]; exact k5 b o (keep3 b hb o e)
    have nf5 : ∀ b ∈ fp, H3 b = none ∧ b ≠ h'.objs.size := fun b hb => ⟨(f3 b hb).1.1, Nat.ne_of_lt (Nat.lt_of_lt_of_le (f3 b hb).2 young)⟩
    have g5 : s5.heap.IsGen h'.objs.size s3.gens.size := by rw [e5h]; exact hgen _ ga
    refine call_qgen (X := X) g5 ?_
    refine all_loop (X := X) (σ := σ) (s0 := s3) (H0 := H3) (cenv := cenv) (fp := fp) (go := (h'.objs.size, go)) (vs := own.map (·.2)) (Q := Q) (B := X.A) rfl (I3.ok.hd hc) (by have := hr.dp; omega) hgen ?_ (m0 + 1) s5 _ g5 I5.nolimit (by rw [e5g]; exact Array.getElem?_push_size ..) ?_
    · intro r s' s'' Hf If hq kf of bf
      have J : L2.Inv X pins σ Hf s'' := I3.call' (ch := fp) (of.trans If.os) (If.base.trans (Un.kept kf)) (If.hok.kept kf) bf fun b hb => ⟨(f3 b hb).1.2.2.2.1, (f3 b hb).1.2.1, (f3 b hb).1.2.2.2.2.1, (f3 b hb).1.2.2.2.2.2⟩
      exact ⟨.bl r, Hf, J, rfl, hq⟩
    · refine ⟨rfl, ?_⟩
      have pg := hg s3 H3 s3.heap.objs.size code fp
      have pe := he s3 H3 s3.heap.objs.size code fp
      rw [hce] at pg pe
      exact seg_allStart (go := (h'.objs.size, go)) (by rw [csc]; exact hco) hc T pg pe turn m0 (m0 + 1) _ _ H3 (Nat.lt_succ_self _) (inv_awake I5 ⟨rfl, rfl, allBare_setGen b5 rfl⟩) st5 nf5 w0
  cases hf : codeAmong gpos ps.toList with
  | none =>
    refine wpAny_genexprCodeX hcode (cd.code hPs ht) (cd.tab hPs) hf fun c' h' tk hx hge hlt hco' _ htab' _ => ?_
    obtain ⟨o1, vs, f1, tf, fl, tg', inF, tx, tt, op, _, _, _, _, _, _, _, _, _, htr, _⟩ := hco'
    exact cont _ h' tk _ hx htab'.2 ⟨_, rfl⟩ htr
  | some cv =>
    refine wpAny_genexprCode_hit hcode (cd.code hPs ht) hf ?_
    exact cont cv s2.heap s2.toks ps (Heap.ExtBut.refl _ _) hPs ⟨#[], by simp⟩ ht
end Rg
set_option Elab.async false
set_option linter.all false
set_option maxRecDepth 100000
set_option maxHeartbeats 4000000
namespace Rg
open PySem PySem.Spec PyProof.Rows L2
theorem D.pys_map : ∀ l : List D, D.pys l = l.map D.py
  | [] => rfl
  | a :: l => by rw [D.pys, D.pys_map l]; rfl
theorem D.pls_all : ∀ l : List D, D.pls l = l.all D.pl
  | [] => rfl
  | a :: l => by rw [D.pls, D.pls_all l]; rfl
structure Tab where
  P : Program
  w : World
  K : PySem.W.Frag
  cls : Nat → Option Addr
  xcl : Nat → Option Addr
  fld : Nat → Str
  tabs : List Addr
  lams : List (Addr × Str)
  dj : ∀ P ∈ tabs, ∀ p ∈ lams, p.1 ≠ P
def kD : Key → D
  | .inl i => .int i
  | .inr x => .str x
mutual
inductive Rp (T : Tab) (H : Hp) : D → V → Prop
  | non : Rp T H .non .non
  | bl (b) : Rp T H (.bl b) (.bl b)
  | int (i) : Rp T H (.int i) (.int i)
  | str (s) : Rp T H (.str s) (.str s)
  | tup {a vs ds o} : H a = some (.frz o (.tup vs)) → o.dict = none → RpL T H ds vs → Rp T H (.tp true ds) (.ref a)
  | tup0 {a vs ds} : H a = some (.tup vs) → RpL T H ds vs → Rp T H (.tp false ds) (.ref a)
  | lst {a vs ds} : Rd H a (.lst vs) → RpL T H ds vs → Rp T H (.lst ds) (.ref a)
  | dK {a kvs l} : Rd H a (.dK kvs) → RpK T H l kvs → Rp T H (.dct false l) (.ref a)
  | obj {a C dx us c fs} : H a = some (.ins C dx us) → T.cls c = some C → RpF T H fs us → Rp T H (.obj c fs) (.ref a)
inductive RpL (T : Tab) (H : Hp) : List D → List V → Prop
  | nil : RpL T H [] []
  | cons {d v ds vs} : Rp T H d v → RpL T H ds vs → RpL T H (d :: ds) (v :: vs)
inductive RpK (T : Tab) (H : Hp) : List (D × D) → List (Key × V) → Prop
  | nil : RpK T H [] []
  | cons {k : Key} {d v l kvs} : Rp T H d v → RpK T H l kvs → RpK T H ((kD k, d) :: l) ((k, v) :: kvs)
inductive RpF (T : Tab) (H : Hp) : List (Nat × D) → List (Str × V) → Prop
  | nil : RpF T H [] []
  | cons {n d v l us} : Rp T H d v → RpF T H l us → RpF T H ((n, d) :: l) ((T.fld n, v) :: us)
end
structure Ext (H H' : Hp) : Prop where
  lst : ∀ a xs, Rd H a (.lst xs) → Rd H' a (.lst xs)
  tup : ∀ a xs, H a = some (.tup xs) → H' a = some (.tup xs)
  dK : ∀ a kvs, Rd H a (.dK kvs) → Rd H' a (.dK kvs)
  frz : ∀ a o u, H a = some (.frz o u) → H' a = some (.frz o u)
  ins : ∀ a C dx us, H a = some (.ins C dx us) → H' a = some (.ins C dx us)
theorem Ext.refl (H : Hp) : Ext H H := ⟨fun _ _ h => h, fun _ _ h => h, fun _ _ h => h, fun _ _ _ h => h, fun _ _ _ _ h => h⟩
theorem Ext.trans {H H1 H2 : Hp} (a : Ext H H1) (b : Ext H1 H2) : Ext H H2 :=
  ⟨fun x y h => b.lst x y (a.lst x y h), fun x y h => b.tup x y (a.tup x y h), fun x y h => b.dK x y (a.dK x y h), fun x y u h => b.frz x y u (a.frz x y u h), fun x y z w h => b.ins x y z w (a.ins x y z w h)⟩
theorem Ext.seqL {K : PySem.W.Frag} {H H' : Hp} {a : Addr} {xs : List V} (e : Ext H H') (h : SqL K H a xs) : SqL K H' a xs := h.imp (e.lst a xs) id
def Stp (H H' : Hp) : Prop := ∀ a o, H a = some o → (∀ ps, o ≠ .tbl ps) → H' a = some o
theorem Stp.refl (H : Hp) : Stp H H := fun _ _ h _ => h
theorem Stp.trans {H H1 H2 : Hp} (a : Stp H H1) (b : Stp H1 H2) : Stp H H2 := fun c o h n => b c o (a c o h n) n
theorem Same.stp {H H' : Hp} (h : Same H H') : Stp H H' := fun a o e _ => h a o e
theorem Stp.rd {H H' : Hp} (h : Stp H H') {a : Addr} {u : HO} (n : ∀ ps, u ≠ .tbl ps) (r : Rd H a u) : Rd H' a u := by
  rcases r with r | ⟨o, r⟩
  · exact .inl (h a _ r n)
  · exact .inr ⟨o, h a _ r fun ps z => by cases z⟩
theorem Stp.ext {H H' : Hp} (h : Stp H H') : Ext H H' :=
  ⟨fun _ _ r => h.rd (fun _ z => by cases z) r, fun _ _ e => h _ _ e (fun _ z => by cases z), fun _ _ r => h.rd (fun _ z => by cases z) r, fun _ _ _ e => h _ _ e (fun _ z => by cases z), fun _ _ _ _ e => h _ _ e fun _ z => by cases z⟩
section
variable {T : Tab} {H H' : Hp}
mutual
theorem Rp.mono (e : Ext H H') : ∀ {d : D} {v : V}, Rp T H d v → Rp T H' d v
  | _, _, .non => .non
  | _, _, .bl b => .bl b
  | _, _, .int i => .int i
  | _, _, .str s => .str s
  | _, _, .tup h n r => .tup (e.frz _ _ _ h) n (RpL.mono e r)
  | _, _, .tup0 h r => .tup0 (e.tup _ _ h) (RpL.mono e r)
  | _, _, .lst h r => .lst (e.lst _ _ h) (RpL.mono e r)
  | _, _, .dK h r => .dK (e.dK _ _ h) (RpK.mono e r)
  | _, _, .obj h c r => .obj (e.ins _ _ _ _ h) c (RpF.mono e r)
theorem RpL.mono (e : Ext H H') : ∀ {d : List D} {v : List V}, RpL T H d v → RpL T H' d v
  | _, _, .nil => .nil
  | _, _, .cons h r => .cons (Rp.mono e h) (RpL.mono e r)
theorem RpK.mono (e : Ext H H') : ∀ {d : List (D × D)} {v : List (Key × V)}, RpK T H d v → RpK T H' d v
  | _, _, .nil => .nil
  | _, _, .cons h r => .cons (Rp.mono e h) (RpK.mono e r)
theorem RpF.mono (e : Ext H H') : ∀ {d : List (Nat × D)} {v : List (Str × V)}, RpF T H d v → RpF T H' d v
  | _, _, .nil => .nil
  | _, _, .cons h r => .cons (Rp.mono e h) (RpF.mono e r)
end
theorem RpL.length : ∀ {ds : List D} {vs : List V}, RpL T H ds vs → ds.length = vs.length
  | _, _, .nil => rfl
  | _, _, .cons _ r => by rw [List.length_cons, List.length_cons, r.length]
theorem RpL.get : ∀ {ds : List D} {vs : List V} {i : Nat} {d : D}, RpL T H ds vs → ds[i]? = some d → ∃ v, vs[i]? = some v ∧ Rp T H d v
  | _, _, _, _, .nil, e => by simp at e
  | _, _, 0, _, .cons h _, e => by simp at e; subst e; exact ⟨_, rfl, h⟩
  | _, _, i + 1, _, .cons _ r, e => by
    obtain ⟨v, h1, h2⟩ := r.get (i := i) (by simpa using e)
    exact ⟨v, by simpa using h1, h2⟩
theorem RpL.getV : ∀ {ds : List D} {vs : List V} {i : Nat} {v : V}, RpL T H ds vs → vs[i]? = some v → ∃ d, ds[i]? = some d ∧ Rp T H d v
  | _, _, _, _, .nil, e => by simp at e
  | _, _, 0, _, .cons h _, e => by simp at e; subst e; exact ⟨_, rfl, h⟩
  | _, _, i + 1, _, .cons _ r, e => by
    obtain ⟨v, h1, h2⟩ := r.getV (i := i) (by simpa using e)
    exact ⟨v, by simpa using h1, h2⟩
theorem RpL.append : ∀ {ds es : List D} {vs us : List V}, RpL T H ds vs → RpL T H es us → RpL T H (ds ++ es) (vs ++ us)
  | _, _, _, _, .nil, s => s
  | _, _, _, _, .cons h r, s => .cons h (r.append s)
theorem RpL.take : ∀ {ds : List D} {vs : List V} (n : Nat), RpL T H ds vs → RpL T H (ds.take n) (vs.take n)
  | _, _, 0, _ => .nil
  | _, _, _ + 1, .nil => .nil
  | _, _, n + 1, .cons h r => .cons h (r.take n)
theorem RpL.drop : ∀ {ds : List D} {vs : List V} (n : Nat), RpL T H ds vs → RpL T H (ds.drop n) (vs.drop n)
  | _, _, 0, r => r
  | _, _, _ + 1, .nil => .nil
  | _, _, n + 1, .cons _ r => r.drop n
theorem RpL.set {d : D} {v : V} (h : Rp T H d v) : ∀ {ds : List D} {vs : List V} (n : Nat), RpL T H ds vs → RpL T H (ds.set n d) (vs.set n v)
  | _, _, _, .nil => .nil
  | _, _, 0, .cons _ r => .cons h r
  | _, _, n + 1, .cons q r => .cons q (r.set h n)
theorem RpL.reverse : ∀ {ds : List D} {vs : List V}, RpL T H ds vs → RpL T H ds.reverse vs.reverse
  | _, _, .nil => .nil
  | _, _, .cons h r => by
    rw [List.reverse_cons, List.reverse_cons]
    exact r.reverse.append (.cons h .nil)
mutual
theorem Rp.dp : ∀ {d : D} {v : V}, Rp T H d v → d.pl = true → Dp T.K H v d.py
  | _, _, .non, _ => .non
  | _, _, .bl b, _ => .bl b
  | _, _, .int i, _ => .int i
  | _, _, .str s, _ => .str s
  | _, _, .tup h n r, p => .tup (.inl (.inr ⟨_, h⟩)) (RpL.dp r (by simpa [D.pl] using p))
  | _, _, .tup0 h r, p => .tup (.inl (.inl h)) (RpL.dp r (by simpa [D.pl] using p))
  | _, _, .lst h r, p => .lst (.inl h) (RpL.dp r (by simpa [D.pl] using p))
  | _, _, .dK h r, p => by simp [D.pl] at p
  | _, _, .obj h c r, p => by simp [D.pl] at p
theorem RpL.dp : ∀ {d : List D} {v : List V}, RpL T H d v → D.pls d = true → DpAll T.K H v (D.pys d)
  | _, _, .nil, _ => .nil
  | _, _, .cons h r, p => by
    rw [D.pls, Bool.and_eq_true] at p
    exact .cons (Rp.dp h p.1) (RpL.dp r p.2)
end
end
abbrev AS := Addr → Prop
open Classical in
noncomputable def hide (l : AS) (H : Hp) : Hp := fun a => if l a then none else H a
theorem hide_in {l : AS} {H : Hp} {a : Addr} (h : l a) : hide l H a = none := if_pos h
theorem hide_out {l : AS} {H : Hp} {a : Addr} (h : ¬ l a) : hide l H a = H a := if_neg h
theorem hide_some {l : AS} {H : Hp} {a : Addr} {o : HO} (h : hide l H a = some o) : ¬ l a ∧ H a = some o := by
  by_cases q : l a
  · rw [hide_in q] at h; cases h
  · rw [hide_out q] at h; exact ⟨q, h⟩
theorem hide_stp {l l' : AS} {H H' : Hp} (h : ∀ a o, ¬ l a → H a = some o → (∀ ps, o ≠ .tbl ps) → ¬ l' a ∧ H' a = some o) : Stp (hide l H) (hide l' H') := fun a o e n => by
  obtain ⟨h1, h2⟩ := hide_some e
  obtain ⟨h3, h4⟩ := h a o h1 h2 n
  rw [hide_out h3]; exact h4
theorem hide_ext (l : AS) (H : Hp) : Ext (hide l H) H := (show Stp (hide l H) H from fun a o e _ => (hide_some e).2).ext
theorem hide_sub {l l' : AS} {H : Hp} (h : ∀ a, l' a → l a) : Ext (hide l H) (hide l' H) := (hide_stp fun a o n e _ => ⟨fun z => n (h a z), e⟩).ext
theorem hide_mono {l : AS} {H H' : Hp} (h : Stp H H') : Stp (hide l H) (hide l H') := hide_stp fun a o n e t => ⟨n, h a o e t⟩
inductive Vw (T : Tab) (l : AS) (H : Hp) : D → V → Prop
  | dat {d v} : Rp T (hide l H) d v → Vw T l H d v
  | lst {a vs ds} : Rd H a (.lst vs) → RpL T (hide l H) ds vs → Vw T l H (.lst ds) (.ref a)
  | dK {a kvs m} : Rd H a (.dK kvs) → RpK T (hide l H) m kvs → Vw T l H (.dct false m) (.ref a)
section
variable {T : Tab} {l : AS} {H : Hp} {d : D} {v : V}
theorem Vw.rp (h : Vw T l H d v) : Rp T H d v := by
  cases h with
  | dat h => exact h.mono (hide_ext l H)
  | lst h r => exact .lst h (r.mono (hide_ext l H))
  | dK h r => exact .dK h (r.mono (hide_ext l H))
theorem Vw.tp {c : Bool} {ds : List D} (h : Vw T l H (.tp c ds) v) : ∃ a vs, v = .ref a ∧ Rd H a (.tup vs) ∧ ¬ l a ∧ RpL T (hide l H) ds vs := by
  cases h with
  | dat h =>
    cases h with
    | tup q n r => exact ⟨_, _, rfl, .inr ⟨_, (hide_some q).2⟩, (hide_some q).1, r⟩
    | tup0 q r => exact ⟨_, _, rfl, .inl (hide_some q).2, (hide_some q).1, r⟩
theorem Vw.tup {ds : List D} (h : Vw T l H (.tup ds) v) : ∃ a vs o, v = .ref a ∧ H a = some (.frz o (.tup vs)) ∧ o.dict = none ∧ hide l H a = some (.frz o (.tup vs)) ∧ RpL T (hide l H) ds vs := by
  cases h with
  | dat h =>
    cases h with
    | tup q n r => exact ⟨_, _, _, rfl, (hide_some q).2, n, q, r⟩
theorem Vw.lst' {ds : List D} (h : Vw T l H (.lst ds) v) : ∃ a vs, v = .ref a ∧ Rd H a (.lst vs) ∧ RpL T (hide l H) ds vs := by
  cases h with
  | dat h =>
    cases h with
    | lst q r => exact ⟨_, _, rfl, (hide_ext l H).lst _ _ q, r⟩
  | lst q r => exact ⟨_, _, rfl, q, r⟩
theorem Vw.int {i : Int} (h : Vw T l H (.int i) v) : v = .int i := by cases h with | dat h => cases h; rfl
theorem Vw.str {s : Str} (h : Vw T l H (.str s) v) : v = .str s := by cases h with | dat h => cases h; rfl
theorem Vw.bl {b : Bool} (h : Vw T l H (.bl b) v) : v = .bl b := by cases h with | dat h => cases h; rfl
theorem Vw.non (h : Vw T l H .non v) : v = .non := by cases h with | dat h => cases h; rfl
theorem Vw.dK' {m : List (D × D)} (h : Vw T l H (.dct false m) v) : ∃ a kvs, v = .ref a ∧ Rd H a (.dK kvs) ∧ RpK T (hide l H) m kvs := by
  cases h with
  | dat h =>
    cases h with
    | dK q r => exact ⟨_, _, rfl, (hide_ext l H).dK _ _ q, r⟩
  | dK q r => exact ⟨_, _, rfl, q, r⟩
end
theorem kD_inj : ∀ {a b : Key}, kD a = kD b → a = b
  | .inl _, .inl _, h => by cases h; rfl
  | .inr _, .inr _, h => by cases h; rfl
  | .inl _, .inr _, h => by cases h
  | .inr _, .inl _, h => by cases h
theorem Rp.kd {T : Tab} {H : Hp} {k : Key} {v : V} (h : Rp T H (kD k) v) : v = kV k := by
  cases k with
  | inl i => cases h; rfl
  | inr s => cases h; rfl
def dput (l : List (D × D)) (k v : D) : List (D × D) :=
  if (l.any fun p => decide (p.1 = k)) = true then l.map (fun p => if p.1 = k then (p.1, v) else p) else l ++ [(k, v)]
def RpO (T : Tab) (H : Hp) : Option D → Option V → Prop
  | some d, some v => Rp T H d v
  | none, none => True
  | _, _ => False
theorem RpO.isSome {T : Tab} {H : Hp} {d : Option D} {v : Option V} (h : RpO T H d v) : v.isSome = d.isSome := by
  cases d <;> cases v <;> first | rfl | exact h.elim
theorem RpK.find {T : Tab} {H : Hp} (k : Key) : ∀ {l : List (D × D)} {kvs : List (Key × V)}, RpK T H l kvs → RpO T H (dfind l (kD k)) (valV kvs k)
  | _, _, .nil => trivial
  | _, _, .cons (k := j) (d := d) (v := v) h r => by
    by_cases e : j = k
    · subst e
      rw [valV_pos rfl]
      unfold dfind
      rw [List.find?_cons, decide_eq_true (show kD j = kD j from rfl)]
      exact h
    · rw [valV_neg e]
      have q := RpK.find k r
      unfold dfind at q ⊢
      rw [List.find?_cons, decide_eq_false (show ¬ kD j = kD k from fun z => e (kD_inj z))]
      exact q
theorem RpK.length {T : Tab} {H : Hp} : ∀ {l : List (D × D)} {kvs : List (Key × V)}, RpK T H l kvs → l.length = kvs.length
  | _, _, .nil => rfl
  | _, _, .cons _ r => by rw [List.length_cons, List.length_cons, r.length]
theorem RpK.append {T : Tab} {H : Hp} : ∀ {l m : List (D × D)} {kvs kws : List (Key × V)}, RpK T H l kvs → RpK T H m kws → RpK T H (l ++ m) (kvs ++ kws)
  | _, _, _, _, .nil, s => s
  | _, _, _, _, .cons h r, s => .cons h (r.append s)
theorem RpK.anyk {T : Tab} {H : Hp} (k : Key) : ∀ {l : List (D × D)} {kvs : List (Key × V)}, RpK T H l kvs → (l.any fun p => decide (p.1 = kD k)) = kvs.any fun p => decide (p.1 = k)
  | _, _, .nil => rfl
  | _, _, .cons (k := j) h r => by
    rw [List.any_cons, List.any_cons, r.anyk k]
    by_cases e : j = k
    · subst e; simp
    · have e' : ¬ kD j = kD k := fun z => e (kD_inj z)
      simp [e, e']
theorem RpK.upd {T : Tab} {H : Hp} {d : D} {v : V} (k : Key) (h : Rp T H d v) : ∀ {l : List (D × D)} {kvs : List (Key × V)}, RpK T H l kvs → RpK T H (l.map fun p => if p.1 = kD k then (p.1, d) else p) (kvs.map fun p => if p.1 = k then (p.1, v) else p)
  | _, _, .nil => .nil
  | _, _, .cons (k := j) q r => by
    rw [List.map_cons, List.map_cons]
    by_cases e : j = k
    · subst e
      rw [if_pos rfl, if_pos rfl]
      exact .cons h (r.upd j h)
    · rw [if_neg (show ¬ kD j = kD k from fun z => e (kD_inj z)), if_neg e]
      exact .cons q (r.upd k h)
theorem RpK.put {T : Tab} {H : Hp} {d : D} {v : V} {l : List (D × D)} {kvs : List (Key × V)} (k : Key) (h : Rp T H d v) (r : RpK T H l kvs) : RpK T H (dput l (kD k) d) (putK kvs k v) := by
  unfold dput putK
  rw [r.anyk k]
  split
  · exact r.upd k h
  · exact r.append (.cons h .nil)
theorem asKey_eq : ∀ {d : D} {k : Key}, asKey d = some k → d = kD k
  | .int _, _, h => by cases h; rfl
  | .str _, _, h => by cases h; rfl
  | .non, _, h => by cases h
  | .bl _, _, h => by cases h
  | .tp _ _, _, h => by cases h
  | .lst _, _, h => by cases h
  | .dct _ _, _, h => by cases h
  | .obj _ _, _, h => by cases h
end Rg
set_option Elab.async false
set_option linter.all false
set_option maxRecDepth 100000
set_option maxHeartbeats 4000000
namespace Rg
open PySem PySem.Spec PyProof.Rows L2
theorem OpR.imp {X : Cx} {f : Value → Value → Sem Value} {r r' : R2} (h : OpR X f r) (i : ∀ x y H Q, r' x y H Q → r x y H Q) : OpR X f r' :=
  fun pins s σ H x y v u Q I rx ry q => h pins s σ H x y v u Q I rx ry (i _ _ _ _ q)
def Mkd (T : Tab) (l : AS) (H : Hp) (d : D) (Q : VK) : Prop := ∀ v H', Same H H' → Rp T (hide l H') d v → Q v H'
def rD2 (T : Tab) (f : D → D → Option D) : R2 := fun x y H Q => ∃ l da db d, (∀ a, l a → H a ≠ none) ∧ Vw T l H da x ∧ Vw T l H db y ∧ f da db = some d ∧ Mkd T l H d Q
theorem Mkd.same {T : Tab} {l : AS} {H : Hp} {d : D} {Q : VK} {v : V} (h : Mkd T l H d Q) (r : Rp T (hide l H) d v) : Q v H := h v H (Same.refl H) r
theorem Mkd.sc {T : Tab} {l : AS} {H : Hp} {d : D} {Q : VK} {v : V} (h : Mkd T l H d Q) (r : ∀ H', Rp T H' d v) : Q v H := h v H (Same.refl H) (r _)
theorem same_new {H : Hp} {p : Addr} {o : HO} (h : H p = none) : Same H (upd H p o) := fun b x e => by
  rw [upd_ne (ne_of_none e h)]
  exact e
theorem hide_new {l : AS} {H : Hp} {p : Addr} {o : HO} (n : ∀ a, l a → H a ≠ none) (h : H p = none) : hide l (upd H p o) p = some o := by
  rw [hide_out fun z => n p z h, upd_same]
theorem Mkd.lst {T : Tab} {l : AS} {H : Hp} {ds : List D} {vs : List V} {Q : VK} {p : Addr} (h : Mkd T l H (.lst ds) Q) (n : ∀ a, l a → H a ≠ none) (r : RpL T (hide l H) ds vs) (hp : H p = none) : Q (.ref p) (upd H p (.lst vs)) :=
  h _ _ (same_new hp) (.lst (.inl (hide_new n hp)) (r.mono (hide_mono (Same.stp (same_new hp))).ext))
def tupO (its : List Value) : Obj := { cls := .type "tuple", data := .seq its.toArray }
theorem tupO_dict (its : List Value) : (tupO its).dict = none := rfl
theorem Mkd.tup {T : Tab} {l : AS} {H : Hp} {ds : List D} {vs : List V} {Q : VK} {p : Addr} {o : Obj} (h : Mkd T l H (.tup ds) Q) (n : ∀ a, l a → H a ≠ none) (r : RpL T (hide l H) ds vs) (hp : H p = none) (ho : o.dict = none) : Q (.ref p) (upd H p (.frz o (.tup vs))) :=
  h _ _ (same_new hp) (.tup (hide_new n hp) ho (r.mono (hide_mono (Same.stp (same_new hp))).ext))
theorem Inv.fnew {X : Cx} {pins : List (Addr × Obj)} {σ : L2.St} {H : Hp} {s : Shared} {its : List Value} {ys : List V} {t' : Nat} (I : L2.Inv X pins σ H s) (hv : Vals ys its) (hz : ys.length ≤ sizeLine) :
    L2.Inv X pins σ (upd H s.heap.objs.size (.frz (tupO its) (.tup ys))) { s with heap := s.heap.push (tupO its), toks := t' } :=
  I.laid (fun _ _ q => Heap.get?_push_of_some _ q) (Nat.le_refl _) ⟨Heap.get?_push_size _ rfl, hz, its, hv, IsTup.new _ _⟩
theorem reads_rp {X : Cx} {pins : List (Addr × Obj)} {σ : L2.St} {H : Hp} {s : Shared} {T : Tab} {d : D} {v : V} {u : Value} (hK : T.K = X.K) (I : L2.Inv X pins σ H s) (h : Rp T H d v) (p : d.pl = true) (r : RelV v u) : ∃ as, Reads s.heap u d.py as :=
  Dp.reads I d.py v u (by rw [← hK]; exact h.dp p) r
theorem LN_eq : LN = sizeLine := rfl
theorem LN_val : LN = 16777216 := by
  unfold LN
  first | rfl | decide | exact sizeLine_eq
mutual
theorem D.plain_py : ∀ d : D, d.pl = true → d.py.plain = true
  | .non, _ => rfl
  | .bl _, _ => rfl
  | .int _, _ => rfl
  | .str _, _ => rfl
  | .tp _ l, h => by
    show PyData.plainAll (D.pys l) = true
    exact D.plain_pys l (by simpa [D.pl] using h)
  | .lst l, h => by
    show PyData.plainAll (D.pys l) = true
    exact D.plain_pys l (by simpa [D.pl] using h)
  | .dct _ _, h => by simp [D.pl] at h
  | .obj _ _, h => by simp [D.pl] at h
theorem D.plain_pys : ∀ l : List D, D.pls l = true → PyData.plainAll (D.pys l) = true
  | [], _ => rfl
  | a :: l, h => by
    rw [D.pls, Bool.and_eq_true] at h
    show (a.py.plain && PyData.plainAll (D.pys l)) = true
    rw [D.plain_py a h.1, D.plain_pys l h.2]
    rfl
end
def O2.sem : O2 → Value → Value → Sem Value
  | .add => binaryOp .Add
  | .sub => binaryOp .Sub
  | .mul => binaryOp .Mult
  | .fdiv => binaryOp .FloorDiv
  | .mod => binaryOp .Mod
  | .pow => binaryOp .Pow
  | .shl => binaryOp .LShift
  | .shr => binaryOp .RShift
  | .band => binaryOp .BitAnd
  | .eq => compareOp .Eq
  | .ne => compareOp .NotEq
  | .lt => compareOp .Lt
  | .le => compareOp .LtE
  | .gt => compareOp .Gt
  | .ge => compareOp .GtE
  | .isin => compareOp .In
  | .notin => compareOp .NotIn
  | .isx => compareOp .Is
  | .isnot => compareOp .IsNot
section
variable {X : Cx} {T : Tab}
theorem opII {f : Value → Value → Sem Value} {o : O2} {C : Int → Int → Prop} {g : Int → Int → V} {r : R2} (h : OpR X f (rI C g)) (hf : ∀ a b d, o.f a b = some d → (∃ i j, a = .int i ∧ b = .int j ∧ C i j ∧ ∀ H', Rp T H' d (g i j)) ∨ False) :
    OpR X f (rD2 T o.f) := OpR.imp h fun x y H Q ⟨l, da, db, d, n, va, vb, e, q⟩ => by
  rcases hf _ _ _ e with ⟨i, j, rfl, rfl, c, r⟩ | z
  · exact ⟨i, j, va.int, vb.int, c, q.sc r⟩
  · exact z.elim
theorem op2_sub : OpR X (binaryOp .Sub) (rD2 T O2.sub.f) := by
  refine opII (r := rD2 T O2.sub.f) (C := fun _ _ => True) (g := fun i j => .int (i - j)) (OpR.imp op_sub fun x y H Q ⟨i, j, a, b, _, q⟩ => ⟨i, j, a, b, q⟩) fun a b d e => ?_
  cases a <;> cases b <;> simp only [O2.f] at e <;> cases e
  exact .inl ⟨_, _, rfl, rfl, trivial, fun _ => .int _⟩
theorem op2_band : OpR X (binaryOp .BitAnd) (rD2 T O2.band.f) := by
  refine opII (r := rD2 T O2.band.f) (C := fun _ _ => True) (g := fun i j => .int (Builtin.bitAnd i j)) (OpR.imp op_and fun x y H Q ⟨i, j, a, b, _, q⟩ => ⟨i, j, a, b, q⟩) fun a b d e => ?_
  cases a <;> cases b <;> simp only [O2.f] at e <;> cases e
  exact .inl ⟨_, _, rfl, rfl, trivial, fun _ => .int _⟩
theorem op2_fdiv : OpR X (binaryOp .FloorDiv) (rD2 T O2.fdiv.f) := by
  refine opII (r := rD2 T O2.fdiv.f) op_fdivN fun a b d e => ?_
  cases a <;> cases b <;> simp only [O2.f] at e <;> first | cases e | skip
  split at e
  · cases e
    exact .inl ⟨_, _, rfl, rfl, by assumption, fun _ => .int _⟩
  · cases e
theorem op2_mod : OpR X (binaryOp .Mod) (rD2 T O2.mod.f) := by
  refine opII (r := rD2 T O2.mod.f) op_modN fun a b d e => ?_
  cases a <;> cases b <;> simp only [O2.f] at e <;> first | cases e | skip
  split at e
  · cases e
    exact .inl ⟨_, _, rfl, rfl, by assumption, fun _ => .int _⟩
  · cases e
theorem op2_pow : OpR X (binaryOp .Pow) (rD2 T O2.pow.f) := by
  refine opII (r := rD2 T O2.pow.f) op_pow fun a b d e => ?_
  cases a <;> cases b <;> simp only [O2.f] at e <;> first | cases e | skip
  split at e
  · cases e
    exact .inl ⟨_, _, rfl, rfl, by assumption, fun _ => .int _⟩
  · cases e
theorem op2_shl : OpR X (binaryOp .LShift) (rD2 T O2.shl.f) := by
  refine opII (r := rD2 T O2.shl.f) op_shl fun a b d e => ?_
  cases a <;> cases b <;> simp only [O2.f] at e <;> first | cases e | skip
  split at e
  · cases e
    exact .inl ⟨_, _, rfl, rfl, by assumption, fun _ => .int _⟩
  · cases e
theorem op2_shr : OpR X (binaryOp .RShift) (rD2 T O2.shr.f) := by
  refine opII (r := rD2 T O2.shr.f) op_shr fun a b d e => ?_
  cases a <;> cases b <;> simp only [O2.f] at e <;> first | cases e | skip
  split at e
  · cases e
    exact .inl ⟨_, _, rfl, rfl, by assumption, fun _ => .int _⟩
  · cases e
theorem op_catRd : OpR X (binaryOp .Add) (fun x y H Q => ∃ l b xs zs, x = .ref l ∧ y = .ref b ∧ Rd H l (.lst xs) ∧ Rd H b (.lst zs) ∧ xs.length + zs.length ≤ sizeLine ∧ ∀ p, H p = none → Q (.ref p) (upd H p (.lst (xs ++ zs)))) := by
  intro pins s σ H x y v u Q I rx ry h
  obtain ⟨l, b, xs, zs, rfl, rfl, hH, hB, hz, q⟩ := h
  cases rx
  cases ry
  obtain ⟨z, its, n, r, e⟩ := hH.ok I.hok
  obtain ⟨z2, its2, n2, r2, e2⟩ := hB.ok I.hok
  have hl := r.length
  have hl2 := r2.length
  refine PySem.P.add_list e e2 ?_ (by rw [List.size_toArray, List.size_toArray]; omega)
  have ea : its.toArray ++ its2.toArray = (its ++ its2).toArray := by simp
  rw [ea]
  exact ⟨.ref _, _, I.lnew (t' := s.toks) (r.append r2) (by rw [List.length_append]; omega), rfl, q _ I.fresh⟩
theorem op_catF : OpR X (binaryOp .Add) (fun x y H Q => ∃ a b xs ys, x = .ref a ∧ y = .ref b ∧ Rd H a (.tup xs) ∧ Rd H b (.tup ys) ∧ xs.length + ys.length ≤ sizeLine ∧
    (xs = [] → Q (.ref b) H) ∧ (ys = [] → Q (.ref a) H) ∧ ∀ p o, H p = none → o.dict = none → Q (.ref p) (upd H p (.frz o (.tup (xs ++ ys))))) := by
  intro pins s σ H x y v u Q I rx ry h
  obtain ⟨a, b, xs, ys, rfl, rfl, ha, hb, hz, q0, q1, q2⟩ := h
  cases rx
  cases ry
  obtain ⟨its, r1, p1, _⟩ := I.tuple (.inl ha)
  obtain ⟨its2, r2, p2, _⟩ := I.tuple (.inl hb)
  by_cases hx : xs = []
  · subst hx
    cases r1
    exact cat_tup0 p1 p2 ⟨.ref b, H, I, rfl, q0 rfl⟩
  · refine HT.cat_tup p1 p2 (fun z => hx (r1.nil_iff.mp z)) (fun z => ⟨.ref a, H, I, rfl, q1 (r2.nil_iff.mp z)⟩) (fun z => ?_) (by rw [← r1.length, ← r2.length]; exact hz)
    exact ⟨.ref s.heap.objs.size, _, Inv.fnew (t' := s.toks) I (r1.append r2) (by rw [List.length_append]; exact hz), rfl, q2 _ _ (I.hok.fresh (Nat.le_refl _)) rfl⟩
theorem op2_add (hK : T.K = X.K) : OpR X (binaryOp .Add) (rD2 T O2.add.f) := by
  refine OpR.imp (OpR.or op_add (OpR.or op_catF (OpR.or op_catRd op_add_str))) fun x y H Q ⟨l, da, db, d, n, va, vb, e, q⟩ => ?_
  cases da <;> cases db <;> simp only [O2.f] at e <;> first | cases e | skip
  · exact .inl ⟨_, _, va.int, vb.int, q.sc fun _ => .int _⟩
  · split at e
    · cases e
      rename_i h
      exact .inr (.inr (.inr ⟨_, _, va.str, vb.str, h, q.sc fun _ => .str _⟩))
    · cases e
  · split at e
    · cases e
      rename_i c ds c' es h
      obtain ⟨hc, h⟩ := h
      rw [Bool.and_eq_true] at hc
      obtain ⟨rfl, rfl⟩ := hc
      obtain ⟨a, vs, o, rfl, h1, n1, h1', r1⟩ := va.tup
      obtain ⟨b, us, o2, rfl, h2, n2, h2', r2⟩ := vb.tup
      refine .inr (.inl ⟨a, b, vs, us, rfl, rfl, .inr ⟨_, h1⟩, .inr ⟨_, h2⟩, by rw [← r1.length, ← r2.length]; exact h, fun e => ?_, fun e => ?_, fun p o hp ho => q.tup n (r1.append r2) hp ho⟩)
      · subst e
        cases r1
        exact q.same (.tup h2' n2 r2)
      · subst e
        cases r2
        rw [List.append_nil] at q
        exact q.same (.tup h1' n1 r1)
    · cases e
  · split at e
    · cases e
      rename_i ds es h
      obtain ⟨a, vs, rfl, h1, r1⟩ := va.lst'
      obtain ⟨b, us, rfl, h2, r2⟩ := vb.lst'
      exact .inr (.inr (.inl ⟨a, b, vs, us, rfl, rfl, h1, h2, by rw [← r1.length, ← r2.length]; exact h, fun p hp => q.lst n (r1.append r2) hp⟩))
    · cases e
theorem RpL.rep {T : Tab} {H : Hp} {ds : List D} {vs : List V} (r : RpL T H ds vs) : ∀ k : Nat, RpL T H (List.replicate k ds).flatten (List.replicate k vs).flatten
  | 0 => .nil
  | k + 1 => by
    rw [List.replicate_succ, List.replicate_succ, List.flatten_cons, List.flatten_cons]
    exact r.append (RpL.rep r k)
theorem op_repRd : OpR X (binaryOp .Mult) (fun x y H Q => ∃ l k xs, x = .ref l ∧ y = .int k ∧ Rd H l (.lst xs) ∧ 0 ≤ k ∧ k ≤ 1000000 ∧ xs.length * k.toNat ≤ sizeLine ∧
    ∀ p, H p = none → Q (.ref p) (upd H p (.lst (List.replicate k.toNat xs).flatten))) := by
  intro pins s σ H x y v u Q I rx ry ⟨l, k, xs, e1, e2, hH, h1, h2, hz, q⟩
  subst e1
  subst e2
  cases rx
  obtain ⟨t, rfl⟩ := ry
  obtain ⟨z, its, n, r, e⟩ := hH.ok I.hok
  have lx : xs.length = its.length := r.length
  have a1 : its.toArray.size * k.toNat ≤ sizeLine := by
    rw [List.size_toArray, ← lx]
    exact hz
  have a2 : ¬ its.toArray.size * k.toNat > (2 ^ 63 - 1) / 8 := by
    have big : (sizeLine : Nat) ≤ (2 ^ 63 - 1) / 8 := by decide
    exact fun w => absurd (Nat.le_trans a1 big) (Nat.not_le.mpr w)
  have a3 : ¬ (!Builtin.List.listFitsIndex k) = true := by
    rw [fitsIndex_both (by omega) (by omega)]
    decide
  have a4 : ¬ Builtin.List.listTooLong (its.toArray.size * k.toNat) = true := by
    rw [notLongL a1]
    decide
  have a5 : ∀ m : Nat, List.foldl (fun x1 x2 => x1 ++ x2) #[] (List.replicate (if its.toArray.isEmpty = true then 0 else m) its.toArray) = (List.replicate m its).flatten.toArray := by
    intro m
    cases its with
    | nil => simp
    | cons b c =>
      have w := foldl_rep (b :: c) m []
      rw [List.nil_append] at w
      exact w
  refine wpAny_binaryOp_repeat_ref (T := "list") (U := "int") (by decide) ⟨_, e, rfl⟩ (fun s' => typeIs_int s' k t) noFill_list_mul F.fills_int_mul F.slot_int_rmul repeat_list F.slot_int_index.lookup ?_
  refine call_meets F.slot_int_rmul (typeIs_int s k t) F.entry_int_rmul (F.args_int_rmul_2 _ _) (int___rmul___int_list k t l its.toArray n) ⟨e, rfl, ⟨_, e, rfl⟩, ?_⟩
  refine call_meets F.slot_list_mul ⟨_, e, rfl⟩ F.entry_list_mul (F.args_list_mul_2 _ _) (AutoListH.list___mul___list_int_3 l its.toArray n k t a3 a2 a4) ⟨e, ?_⟩
  rw [a5]
  refine ⟨.ref _, _, I.lnew (t' := s.toks) (r.rep k.toNat) ?_, rfl, q _ I.fresh⟩
  rw [PyProof.Rows.lm_len_rep_flat, Nat.mul_comm]
  exact hz
theorem op2_mul : OpR X (binaryOp .Mult) (rD2 T O2.mul.f) := by
  refine OpR.imp (OpR.or op_mul op_repRd) fun x y H Q ⟨l, da, db, d, n, va, vb, e, q⟩ => ?_
  cases da <;> cases db <;> simp only [O2.f] at e <;> first | cases e | skip
  · split at e
    · cases e
      rename_i h
      refine .inl ⟨_, _, va.int, vb.int, ?_, q.sc fun _ => .int _⟩
      simpa [mulOk, CMul] using h
    · cases e
  · split at e
    · cases e
      rename_i ds k h
      obtain ⟨a, vs, rfl, h1, r1⟩ := va.lst'
      exact .inr ⟨a, k, vs, rfl, vb.int, h1, h.1, h.2.1, by rw [← r1.length]; exact h.2.2, fun p hp => q.lst n (r1.rep _) hp⟩
    · cases e
theorem op2_eq (hK : T.K = X.K) (hu : X.A.units + 64 < cLine) : OpR X (compareOp .Eq) (rD2 T O2.eq.f) := by
  intro pins s σ H x y v u Q I rx ry ⟨l, da, db, d, n, va, vb, e, q⟩
  simp only [O2.f] at e
  split at e
  · cases e
    rename_i h
    simp only [eqOk, Bool.and_eq_true, decide_eq_true_eq] at h
    obtain ⟨⟨ha, hb⟩, hd⟩ := h
    obtain ⟨as, r1⟩ := reads_rp hK I va.rp ha rx
    obtain ⟨bs, r2⟩ := reads_rp hK I vb.rp hb ry
    refine SeqAt.eq_plain r1 r2 (D.plain_py _ ha) (D.plain_py _ hb) ?_ ⟨.bl _, H, I, rfl, q.sc fun _ => .bl _⟩
    have : dLine = 60 := rfl
    have := Nat.min_le_left da.py.depth db.py.depth
    omega
  · cases e
theorem op2_ne (hK : T.K = X.K) (hu : X.A.units + 64 < cLine) : OpR X (compareOp .NotEq) (rD2 T O2.ne.f) := by
  intro pins s σ H x y v u Q I rx ry ⟨l, da, db, d, n, va, vb, e, q⟩
  simp only [O2.f] at e
  split at e
  · cases e
    rename_i h
    simp only [eqOk, Bool.and_eq_true, decide_eq_true_eq] at h
    obtain ⟨⟨ha, hb⟩, hd⟩ := h
    obtain ⟨as, r1⟩ := reads_rp hK I va.rp ha rx
    obtain ⟨bs, r2⟩ := reads_rp hK I vb.rp hb ry
    refine SeqAt.ne_plain r1 r2 (D.plain_py _ ha) (D.plain_py _ hb) ?_ ⟨.bl _, H, I, rfl, q.sc fun _ => .bl _⟩
    have : dLine = 60 := rfl
    have := Nat.min_le_left da.py.depth db.py.depth
    omega
  · cases e
theorem py_ne_none {d : D} (h : d ≠ .non) : d.py ≠ .none := by
  cases d <;> first | exact absurd rfl h | (intro z; cases z)
theorem op2_ord (hK : T.K = X.K) (hu : X.A.units + 64 < cLine) {o : O2} {op : CmpOp} {g : D → D → Bool} (hf : ∀ a b, o.f a b = if ordOk a b then some (.bl (g a b)) else none)
    (hop : ∀ {A : Around} {E : Value → Shared → Prop} {s : Shared} {a b : Value} {da db : D} {as bs : List Addr} {Q : Value → Shared → Prop}, Reads s.heap a da.py as → Reads s.heap b db.py bs → PySem.W.alike da.py db.py = true → da.py ≠ .none →
      A.units + min da.py.depth db.py.depth < cLine → Q (.bool (g da db)) s → wpAny (model X.prog X.w) A (compareOp op a b) Q E s) : OpR X (compareOp op) (rD2 T o.f) := by
  intro pins s σ H x y v u Q I rx ry ⟨l, da, db, d, n, va, vb, e, q⟩
  rw [hf] at e
  split at e
  · cases e
    rename_i h
    simp only [ordOk, Bool.and_eq_true, decide_eq_true_eq] at h
    obtain ⟨⟨⟨⟨ha, hb⟩, hal⟩, hn⟩, hd⟩ := h
    obtain ⟨as, r1⟩ := reads_rp hK I va.rp ha rx
    obtain ⟨bs, r2⟩ := reads_rp hK I vb.rp hb ry
    refine hop r1 r2 hal (py_ne_none hn) ?_ ⟨.bl _, H, I, rfl, q.sc fun _ => .bl _⟩
    have : dLine = 60 := rfl
    have := Nat.min_le_left da.py.depth db.py.depth
    omega
  · cases e
theorem op2_lt (hK : T.K = X.K) (hu : X.A.units + 64 < cLine) : OpR X (compareOp .Lt) (rD2 T O2.lt.f) :=
  op2_ord hK hu (o := .lt) (g := dLt) (fun _ _ => rfl) fun r1 r2 h hn hd hq => PySem.W.lt_data r1 r2 h hn hd hq
theorem op2_gt (hK : T.K = X.K) (hu : X.A.units + 64 < cLine) : OpR X (compareOp .Gt) (rD2 T O2.gt.f) :=
  op2_ord hK hu (o := .gt) (g := fun a b => dLt b a) (fun _ _ => rfl) fun r1 r2 h hn hd hq => PySem.W.gt_data r1 r2 h hn hd hq
theorem op2_le (hK : T.K = X.K) (hu : X.A.units + 64 < cLine) : OpR X (compareOp .LtE) (rD2 T O2.le.f) :=
  op2_ord hK hu (o := .le) (g := fun a b => !dLt b a) (fun _ _ => rfl) fun r1 r2 h hn hd hq => PySem.W.le_data r1 r2 h hn hd hq
theorem op2_ge (hK : T.K = X.K) (hu : X.A.units + 64 < cLine) : OpR X (compareOp .GtE) (rD2 T O2.ge.f) :=
  op2_ord hK hu (o := .ge) (g := fun a b => !dLt a b) (fun _ _ => rfl) fun r1 r2 h hn hd hq => PySem.W.ge_data r1 r2 h hn hd hq
theorem depth_lst (xs : List D) : (D.lst xs).py.depth = PyData.depthAll (D.pys xs) + 1 := by
  show (PyData.list (D.pys xs)).depth = _
  first | rfl | rw [PyData.depth] | simp [PyData.depth]
theorem depth_tup (c : Bool) (xs : List D) : (D.tp c xs).py.depth = PyData.depthAll (D.pys xs) + 1 := by
  show (PyData.tuple (D.pys xs)).depth = _
  first | rfl | rw [PyData.depth] | simp [PyData.depth]
theorem dget_of {l : AS} {H : Hp} {t : Bool} {m : List (D × D)} {k : D} {x y : V} (ho : keyOk t k = true) (hx : Vw T l H (.dct t m) x) (hk : Vw T l H k y) : ∃ a r, x = .ref a ∧ DGet H a y r ∧ RpO T (hide l H) (dfind m k) r := by
  cases t with
  | false =>
    obtain ⟨a, kvs, rfl, hr, rk⟩ := hx.dK'
    cases e : asKey k with
    | none => simp [keyOk, e] at ho
    | some key =>
      obtain rfl := asKey_eq e
      exact ⟨a, _, rfl, .inl ⟨kvs, key, hr, hk.rp.kd, rfl⟩, rk.find key⟩
  | true => simp [keyOk] at ho
theorem str_one {a : Str} (h : a.cps.size = 1) : a = ⟨#[a.cps.getD 0 0]⟩ := by
  obtain ⟨⟨l⟩⟩ := a
  match l, h with
  | [c], _ => rfl
theorem op2_in (hK : T.K = X.K) (hu : X.A.units + 65 < cLine) : OpR X (compareOp .In) (rD2 T O2.isin.f) := by
  intro pins s σ H x y v u Q I rx ry ⟨l, da, db, d, n, va, vb, e, q⟩
  have dl : dLine = 60 := rfl
  cases db with
  | lst xs =>
    have e' : (if eqOk (.lst xs) da then some (D.bl (xs.any fun y => dEq y da)) else none) = some d := by cases da <;> exact e
    split at e'
    · cases e'
      rename_i h
      simp only [eqOk, Bool.and_eq_true, decide_eq_true_eq] at h
      obtain ⟨⟨hb, ha⟩, hd⟩ := h
      obtain ⟨as, r1⟩ := reads_rp hK I va.rp ha rx
      obtain ⟨bs, r2⟩ := reads_rp hK I vb.rp hb ry
      rw [depth_lst] at hd
      refine SeqAt.in_list_data r2 r1 (D.plain_pys _ (by simpa [D.pl] using hb)) (D.plain_py _ ha) ?_ ⟨.bl _, H, I, ?_, q.sc fun _ => .bl _⟩
      · have := Nat.min_le_left (PyData.depthAll (D.pys xs)) da.py.depth
        omega
      · rw [D.pys_map, List.any_map]
        rfl
    · cases e'
  | tp c xs =>
    have e' : (if eqOk (.tp c xs) da then some (D.bl (xs.any fun y => dEq y da)) else none) = some d := by cases da <;> exact e
    split at e'
    · cases e'
      rename_i h
      simp only [eqOk, Bool.and_eq_true, decide_eq_true_eq] at h
      obtain ⟨⟨hb, ha⟩, hd⟩ := h
      obtain ⟨as, r1⟩ := reads_rp hK I va.rp ha rx
      obtain ⟨bs, r2⟩ := reads_rp hK I vb.rp hb ry
      rw [depth_tup] at hd
      refine SeqAt.in_tuple_data r2 r1 (D.plain_pys _ (by simpa [D.pl] using hb)) (D.plain_py _ ha) ?_ ⟨.bl _, H, I, ?_, q.sc fun _ => .bl _⟩
      · have := Nat.min_le_left (PyData.depthAll (D.pys xs)) da.py.depth
        omega
      · rw [D.pys_map, List.any_map]
        rfl
    · cases e'
  | str b =>
    cases da with
    | str a =>
      have e' : (if a.cps.size = 1 then some (D.bl (decide (a.cps.getD 0 0 ∈ b.cps.toList))) else none) = some d := e
      split at e'
      · cases e'
        rename_i h
        exact op_in_sign pins s σ H x y v u Q I rx ry ⟨a.cps.getD 0 0, b, by rw [va.str]; exact congrArg V.str (str_one h), vb.str, q.sc fun _ => .bl _⟩
      · cases e'
    | _ => cases e
  | dct t m =>
    have e' : (if keyOk t da then some (D.bl (dfind m da).isSome) else none) = some d := by cases da <;> exact e
    split at e'
    · cases e'
      rename_i h
      obtain ⟨a, r, rfl, hg, ho⟩ := dget_of h vb va
      cases ry
      refine d_in (by omega) I hg rx fun s' I' => ⟨.bl _, H, I', rfl, ?_⟩
      rw [ho.isSome]
      exact q.sc fun _ => .bl _
    · cases e'
  | _ => cases da <;> cases e
theorem op2_notin (hK : T.K = X.K) (hu : X.A.units + 65 < cLine) : OpR X (compareOp .NotIn) (rD2 T O2.notin.f) := by
  intro pins s σ H x y v u Q I rx ry ⟨l, da, db, d, n, va, vb, e, q⟩
  have dl : dLine = 60 := rfl
  cases db with
  | lst xs =>
    have e' : (if eqOk (.lst xs) da then some (D.bl (!xs.any fun y => dEq y da)) else none) = some d := by cases da <;> exact e
    split at e'
    · cases e'
      rename_i h
      simp only [eqOk, Bool.and_eq_true, decide_eq_true_eq] at h
      obtain ⟨⟨hb, ha⟩, hd⟩ := h
      obtain ⟨as, r1⟩ := reads_rp hK I va.rp ha rx
      obtain ⟨bs, r2⟩ := reads_rp hK I vb.rp hb ry
      rw [depth_lst] at hd
      refine SeqAt.notIn_list_data r2 r1 (D.plain_pys _ (by simpa [D.pl] using hb)) (D.plain_py _ ha) ?_ ⟨.bl _, H, I, ?_, q.sc fun _ => .bl _⟩
      · have := Nat.min_le_left (PyData.depthAll (D.pys xs)) da.py.depth
        omega
      · rw [D.pys_map, List.any_map]
        rfl
    · cases e'
  | tp c xs =>
    have e' : (if eqOk (.tp c xs) da then some (D.bl (!xs.any fun y => dEq y da)) else none) = some d := by cases da <;> exact e
    split at e'
    · cases e'
      rename_i h
      simp only [eqOk, Bool.and_eq_true, decide_eq_true_eq] at h
      obtain ⟨⟨hb, ha⟩, hd⟩ := h
      obtain ⟨as, r1⟩ := reads_rp hK I va.rp ha rx
      obtain ⟨bs, r2⟩ := reads_rp hK I vb.rp hb ry
      rw [depth_tup] at hd
      refine SeqAt.notIn_tuple_data r2 r1 (D.plain_pys _ (by simpa [D.pl] using hb)) (D.plain_py _ ha) ?_ ⟨.bl _, H, I, ?_, q.sc fun _ => .bl _⟩
      · have := Nat.min_le_left (PyData.depthAll (D.pys xs)) da.py.depth
        omega
      · rw [D.pys_map, List.any_map]
        rfl
    · cases e'
  | str b =>
    cases da with
    | str a =>
      have e' : (if a.cps.size = 1 then some (D.bl (!decide (a.cps.getD 0 0 ∈ b.cps.toList))) else none) = some d := e
      split at e'
      · cases e'
        rename_i h
        exact op_notIn_sign pins s σ H x y v u Q I rx ry ⟨a.cps.getD 0 0, b, by rw [va.str]; exact congrArg V.str (str_one h), vb.str, q.sc fun _ => .bl _⟩
      · cases e'
    | _ => cases e
  | dct t m =>
    have e' : (if keyOk t da then some (D.bl (!(dfind m da).isSome)) else none) = some d := by cases da <;> exact e
    split at e'
    · cases e'
      rename_i h
      obtain ⟨a, r, rfl, hg, ho⟩ := dget_of h vb va
      cases ry
      refine d_notIn (by omega) I hg rx fun s' I' => ⟨.bl _, H, I', rfl, ?_⟩
      rw [ho.isSome]
      exact q.sc fun _ => .bl _
    · cases e'
  | _ => cases da <;> cases e
theorem Vw.isnon {l : AS} {H : Hp} {d : D} {v : V} (h : Vw T l H d v) : decide (v = .non) = decide (d = .non) := by
  have r := h.rp
  cases r <;> simp
theorem op2_is : OpR X (compareOp .Is) (rD2 T O2.isx.f) := by
  refine OpR.imp (OpR.or op_isN op_is_bl) fun x y H Q ⟨l, da, db, d, n, va, vb, e, q⟩ => ?_
  cases db with
  | non =>
    have e' : some (D.bl (decide (da = .non))) = some d := by cases da <;> exact e
    cases e'
    refine .inl ⟨vb.non, ?_⟩
    rw [va.isnon]
    exact q.sc fun _ => .bl _
  | bl b =>
    cases da with
    | bl a =>
      cases e
      exact .inr ⟨a, b, va.bl, vb.bl, q.sc fun _ => .bl _⟩
    | _ => cases e
  | _ => cases da <;> cases e
theorem op2_isnot : OpR X (compareOp .IsNot) (rD2 T O2.isnot.f) := by
  refine OpR.imp (OpR.or op_notN op_isnot_bl) fun x y H Q ⟨l, da, db, d, n, va, vb, e, q⟩ => ?_
  cases db with
  | non =>
    have e' : some (D.bl (!decide (da = .non))) = some d := by cases da <;> exact e
    cases e'
    refine .inl ⟨vb.non, ?_⟩
    rw [va.isnon]
    exact q.sc fun _ => .bl _
  | bl b =>
    cases da with
    | bl a =>
      cases e
      exact .inr ⟨a, b, va.bl, vb.bl, q.sc fun _ => .bl _⟩
    | _ => cases e
  | _ => cases da <;> cases e
theorem op2_ok (hK : T.K = X.K) (hu : X.A.units + 65 < cLine) : ∀ o : O2, OpR X o.sem (rD2 T o.f)
  | .add => op2_add hK
  | .sub => op2_sub
  | .mul => op2_mul
  | .fdiv => op2_fdiv
  | .mod => op2_mod
  | .pow => op2_pow
  | .shl => op2_shl
  | .shr => op2_shr
  | .band => op2_band
  | .eq => op2_eq hK (by omega)
  | .ne => op2_ne hK (by omega)
  | .lt => op2_lt hK (by omega)
  | .le => op2_le hK (by omega)
  | .gt => op2_gt hK (by omega)
  | .ge => op2_ge hK (by omega)
  | .isin => op2_in hK hu
  | .notin => op2_notin hK hu
  | .isx => op2_is
  | .isnot => op2_isnot
end
end Rg
set_option Elab.async false
set_option linter.all false
set_option maxRecDepth 100000
set_option maxHeartbeats 4000000
namespace Rg
open PySem PySem.Spec PyProof.Rows L2
abbrev Ow := Loc → Option Addr
def hid (hr : AS) (ow : Ow) : AS := fun a => hr a ∨ ∃ p, ow p = some a
def TabsAt (T : Tab) (H : Hp) : Prop := (∀ P ∈ T.tabs, GxR.TabG H P) ∧ LamX.Tabs T.lams H
def Nfx (o : Option HO) : Prop := (∀ ps, o ≠ some (.tbl ps)) ∧ ∀ φ, o ≠ some (.ext φ)
theorem nfx {o : HO} (h1 : ∀ ps, o ≠ .tbl ps := by intro _ z; cases z) (h2 : ∀ φ, o ≠ .ext φ := by intro _ z; cases z) : Nfx (some o) := ⟨fun ps z => h1 ps (Option.some.inj z), fun φ z => h2 φ (Option.some.inj z)⟩
theorem TabsAt.keep {T : Tab} {H H' : Hp} (h : TabsAt T H) (k : ∀ b, ¬ Nfx (H b) → H' b = H b) : TabsAt T H' := by
  have kt : ∀ {b : Addr} {ps : Array Value}, H b = some (.tbl ps) → H' b = some (.tbl ps) := fun {b ps} e => (k b fun n => n.1 ps e).trans e
  have kc : ∀ {c : Addr} {q : Str}, H c = some (LamX.CodeO c q) → H' c = some (LamX.CodeO c q) := fun {c q} e => (k c fun n => n.2 _ e).trans e
  refine ⟨fun P hP => ?_, fun p hp => ?_⟩
  · obtain ⟨ps, h1, h2⟩ := h.1 P hP
    exact ⟨ps, kt h1, h2⟩
  · obtain ⟨ps, h1, h2, h3⟩ := h.2 p hp
    refine ⟨ps, kt h1, h2, fun pos cv hc => ?_⟩
    obtain ⟨c, e1, e2⟩ := h3 pos cv hc
    exact ⟨c, e1, kc e2⟩
theorem TabsAt.upd {T : Tab} {H : Hp} {a : Addr} {o : HO} (h : TabsAt T H) (n : Nfx (H a)) : TabsAt T (upd H a o) := h.keep fun b hb => upd_ne fun e => hb (by rw [e]; exact n)
theorem nfx_none {o : Option HO} (h : o = none) : Nfx o := ⟨fun _ z => (by rw [h] at z; cases z), fun _ z => (by rw [h] at z; cases z)⟩
def noSlot : W → Prop
  | .l (.inl _) => False
  | _ => True
section
variable (T : Tab) (hr : AS) (ow : Ow) (H : Hp)
def WR : W → V → Prop
  | .d x, v => Rp T (hide (hid hr ow) H) x v
  | .l p, v => ∃ a, ow p = some a ∧ v = .ref a
inductive WL : List W → List V → Prop
  | nil : WL [] []
  | cons {w v ws vs} : WR T hr ow H w v → WL ws vs → WL (w :: ws) (v :: vs)
inductive FR : List (Nat × W) → List (Str × V) → Prop
  | nil : FR [] []
  | cons {n w v l us} : WR T hr ow H w v → noSlot w → FR l us → FR ((n, w) :: l) ((T.fld n, v) :: us)
def CellR : Cell → Addr → Prop
  | .lst l, a => ∃ vs, H a = some (.lst vs) ∧ RpL T (hide (hid hr ow) H) l vs
  | .dct t l, a => t = false ∧ ∃ kvs, H a = some (.dK kvs) ∧ RpK T (hide (hid hr ow) H) l kvs
  | .ob c fs, a => ∃ C dx us, H a = some (.ins C dx us) ∧ T.cls c = some C ∧ FR T hr ow H fs us
def SlotR (i : Nat) : Slot → Option (Option V) → Prop
  | .un, _ => ow (.inl i) = none
  | .w x, o => ow (.inl i) = none ∧ noSlot x ∧ ∃ v, o = some (some v) ∧ WR T hr ow H x v
  | .own c, o => ∃ a, ow (.inl i) = some a ∧ o = some (some (.ref a)) ∧ CellR T hr ow H c a
structure Rel (env : List Slot) (S : List Cell) (σ : L2.St) : Prop where
  sl : ∀ i, SlotR T hr ow H i (env.getD i .un) σ[i]?
  st : ∀ n c, S[n]? = some c → ∃ a, ow (.inr n) = some a ∧ CellR T hr ow H c a
  so : ∀ n, S.length ≤ n → ow (.inr n) = none
  inj : ∀ p q a, ow p = some a → ow q = some a → p = q
  dis : ∀ p a, ow p = some a → ¬ hr a
  hrt : ∀ a, hr a → H a ≠ none
  tab : TabsAt T H
  ln : env.length ≤ σ.length
  hnt : ∀ a, hr a → Nfx (H a)
end
structure Gr (hr : AS) (ow : Ow) (H : Hp) (ow' : Ow) (H' : Hp) : Prop where
  ext : Ext (hide (hid hr ow) H) (hide (hid hr ow') H')
  cel : ∀ n a, ow (.inr n) = some a → ow' (.inr n) = some a
  hrq : ∀ a, hr a → H' a = H a
theorem Gr.refl (hr : AS) (ow : Ow) (H : Hp) : Gr hr ow H ow H := ⟨Ext.refl _, fun _ _ h => h, fun _ _ => rfl⟩
theorem Gr.trans {hr : AS} {ow ow1 ow2 : Ow} {H H1 H2 : Hp} (a : Gr hr ow H ow1 H1) (b : Gr hr ow1 H1 ow2 H2) : Gr hr ow H ow2 H2 :=
  ⟨a.ext.trans b.ext, fun n x h => b.cel n x (a.cel n x h), fun x h => (b.hrq x h).trans (a.hrq x h)⟩
structure Slo (ow : Ow) (H : Hp) (ow' : Ow) (H' : Hp) : Prop where
  own : ∀ i, ow' (.inl i) = ow (.inl i)
  cont : ∀ i a, ow (.inl i) = some a → H' a = H a
theorem Slo.refl (ow : Ow) (H : Hp) : Slo ow H ow H := ⟨fun _ => rfl, fun _ _ _ => rfl⟩
theorem Slo.trans {ow ow1 ow2 : Ow} {H H1 H2 : Hp} (a : Slo ow H ow1 H1) (b : Slo ow1 H1 ow2 H2) : Slo ow H ow2 H2 :=
  ⟨fun i => (b.own i).trans (a.own i), fun i x h => (b.cont i x ((a.own i).trans h)).trans (a.cont i x h)⟩
section
variable {T : Tab} {hr : AS} {ow ow' : Ow} {H H' : Hp}
theorem WR.mono (g : Gr hr ow H ow' H') (s : Slo ow H ow' H') : ∀ {w : W} {v : V}, WR T hr ow H w v → WR T hr ow' H' w v
  | .d _, _, h => Rp.mono g.ext h
  | .l (.inl i), _, ⟨a, h, e⟩ => ⟨a, (s.own i).trans h, e⟩
  | .l (.inr n), _, ⟨a, h, e⟩ => ⟨a, g.cel n a h, e⟩
theorem WR.mono' (g : Gr hr ow H ow' H') : ∀ {w : W} {v : V}, noSlot w → WR T hr ow H w v → WR T hr ow' H' w v
  | .d _, _, _, h => Rp.mono g.ext h
  | .l (.inl i), _, n, _ => n.elim
  | .l (.inr n), _, _, ⟨a, h, e⟩ => ⟨a, g.cel n a h, e⟩
theorem WL.mono (g : Gr hr ow H ow' H') (s : Slo ow H ow' H') : ∀ {w : List W} {v : List V}, WL T hr ow H w v → WL T hr ow' H' w v
  | _, _, .nil => .nil
  | _, _, .cons h r => .cons (h.mono g s) (WL.mono g s r)
theorem FR.mono (g : Gr hr ow H ow' H') : ∀ {l : List (Nat × W)} {us : List (Str × V)}, FR T hr ow H l us → FR T hr ow' H' l us
  | _, _, .nil => .nil
  | _, _, .cons h n r => .cons (h.mono' g n) n (FR.mono g r)
theorem CellR.mono (g : Gr hr ow H ow' H') {a : Addr} (e : H' a = H a) : ∀ {c : Cell}, CellR T hr ow H c a → CellR T hr ow' H' c a
  | .lst l, ⟨vs, h, r⟩ => ⟨vs, e.trans h, r.mono g.ext⟩
  | .dct t l, ⟨z, kvs, h, r⟩ => ⟨z, kvs, e.trans h, r.mono g.ext⟩
  | .ob c fs, ⟨C, dx, us, h, hc, r⟩ => ⟨C, dx, us, e.trans h, hc, r.mono g⟩
theorem CellR.some {c : Cell} {a : Addr} (h : CellR T hr ow H c a) : H a ≠ none := by
  cases c with
  | lst l => obtain ⟨_, h, _⟩ := h; rw [h]; simp
  | dct t l => obtain ⟨_, _, h, _⟩ := h; rw [h]; simp
  | ob c fs => obtain ⟨_, _, _, h, _⟩ := h; rw [h]; simp
theorem CellR.mut {c : Cell} {a : Addr} (h : CellR T hr ow H c a) : Mut (H a) := by
  cases c with
  | lst l => obtain ⟨_, h, _⟩ := h; rw [h]; trivial
  | dct t l => obtain ⟨_, _, h, _⟩ := h; rw [h]; trivial
  | ob c fs => obtain ⟨_, _, _, h, _⟩ := h; rw [h]; trivial
theorem CellR.vw {c : Cell} {a : Addr} {d : D} (h : CellR T hr ow H c a) (e : c.data = Option.some d) : Vw T (hid hr ow) H d (.ref a) := by
  cases c with
  | lst l => obtain ⟨vs, h, r⟩ := h; cases e; exact .lst (.inl h) r
  | dct t l => obtain ⟨rfl, kvs, h, r⟩ := h; cases e; exact .dK (.inl h) r
  | ob c fs => cases e
variable {env : List Slot} {S : List Cell} {σ : L2.St}
theorem Rel.track (R : Rel T hr ow H env S σ) : ∀ a, hid hr ow a → H a ≠ none := by
  rintro a (h | ⟨p, h⟩)
  · exact R.hrt a h
  · cases p with
    | inl i =>
      have q := R.sl i
      cases e : env.getD i .un with
      | un => rw [e] at q; rw [show ow (.inl i) = none from q] at h; cases h
      | w x => rw [e] at q; rw [q.1] at h; cases h
      | own c =>
        rw [e] at q
        obtain ⟨b, q1, _, q2⟩ := q
        rw [q1] at h; cases h
        exact q2.some
    | inr n =>
      by_cases l : n < S.length
      · obtain ⟨b, q1, q2⟩ := R.st n S[n] (by simp [l])
        rw [q1] at h; cases h
        exact q2.some
      · rw [R.so n (by omega)] at h; cases h
theorem Gr.same (R : Rel T hr ow H env S σ) (s : Same H H') : Gr hr ow H ow H' :=
  ⟨(hide_mono (Same.stp s)).ext, fun _ _ h => h, fun a h => by
    cases e : H a with
    | none => exact absurd e (R.hrt a h)
    | some o => exact s a o e⟩
theorem same_at (s : Same H H') {a : Addr} (h : H a ≠ none) : H' a = H a := by
  cases e : H a with
  | none => exact absurd e h
  | some o => exact s a o e
theorem Rel.keep (R : Rel T hr ow H env S σ) (g : Gr hr ow H ow H') (o : ∀ p a, ow p = some a → H' a = H a) (t : TabsAt T H') : Rel T hr ow H' env S σ := by
  refine ⟨fun i => ?_, fun n c e => ?_, R.so, R.inj, R.dis, fun a h => by rw [g.hrq a h]; exact R.hrt a h, t, R.ln, fun a h => by rw [g.hrq a h]; exact R.hnt a h⟩
  · have q := R.sl i
    cases e : env.getD i .un with
    | un => rw [e] at q; exact q
    | w x =>
      rw [e] at q
      obtain ⟨q1, q2, v, q3, q4⟩ := q
      exact ⟨q1, q2, v, q3, q4.mono' g q2⟩
    | own c =>
      rw [e] at q
      obtain ⟨a, q1, q2, q3⟩ := q
      exact ⟨a, q1, q2, q3.mono g (o _ a q1)⟩
  · obtain ⟨a, q1, q2⟩ := R.st n c e
    exact ⟨a, q1, q2.mono g (o _ a q1)⟩
theorem TabsAt.same (h : TabsAt T H) (s : Same H H') : TabsAt T H' := h.keep fun b n => by
  cases e : H b with
  | none => exact absurd (nfx_none e) n
  | some o => exact s b o e
theorem Slo.same (R : Rel T hr ow H env S σ) (s : Same H H') : Slo ow H ow H' := ⟨fun _ => rfl, fun i a h => same_at s (R.track a (.inr ⟨_, h⟩))⟩
theorem Rel.same (R : Rel T hr ow H env S σ) (s : Same H H') : Rel T hr ow H' env S σ :=
  R.keep (Gr.same R s) (fun p a h => same_at s (R.track a (.inr ⟨p, h⟩))) (R.tab.same s)
def look (env : List Slot) (S : List Cell) : W → Option D
  | .d x => some x
  | .l (.inl i) => match env.getD i .un with
    | .own c => c.data
    | _ => none
  | .l (.inr n) => match S[n]? with
    | some c => c.data
    | none => none
theorem look_vw (R : Rel T hr ow H env S σ) : ∀ {w : W} {v : V} {d : D}, WR T hr ow H w v → look env S w = some d → Vw T (hid hr ow) H d v
  | .d x, v, d, h, e => by cases e; exact .dat h
  | .l (.inl i), v, d, ⟨a, h, z⟩, e => by
    subst z
    dsimp only [look] at e
    have q := R.sl i
    cases k : env.getD i .un with
    | un => rw [k] at e; cases e
    | w x => rw [k] at e; cases e
    | own c =>
      rw [k] at e q
      obtain ⟨b, q1, q2, q3⟩ := q
      rw [q1] at h; cases h
      exact q3.vw e
  | .l (.inr n), v, d, ⟨a, h, z⟩, e => by
    subst z
    dsimp only [look] at e
    cases k : S[n]? with
    | none => rw [k] at e; cases e
    | some c =>
      rw [k] at e
      obtain ⟨b, q1, q2⟩ := R.st n c k
      rw [q1] at h; cases h
      exact q2.vw e
end
def Res.bind {α β : Type} : Res α → (α → List Cell → Res β) → Res β
  | .ok x S, k => k x S
  | .ex x S, _ => .ex x S
  | .bad, _ => .bad
@[simp] theorem Res.bind_ok {α β : Type} (x : α) (S : List Cell) (k : α → List Cell → Res β) : (Res.ok x S).bind k = k x S := rfl
@[simp] theorem Res.bind_ex {α β : Type} (x : Xc) (S : List Cell) (k : α → List Cell → Res β) : (Res.ex x S : Res α).bind k = .ex x S := rfl
@[simp] theorem Res.bind_bad {α β : Type} (k : α → List Cell → Res β) : (Res.bad : Res α).bind k = .bad := rfl
def XR (T : Tab) (hr : AS) (ow : Ow) (H : Hp) (x : Xc) (cls : Value) (d : Option Addr) : Prop :=
  ∃ C a us, cls = .ref C ∧ T.xcl x.1 = some C ∧ d = some a ∧ ¬ hid hr ow a ∧ H a = some (.xd us) ∧ RpF T (hide (hid hr ow) H) x.2 us
def Post {α β : Type} (T : Tab) (Wq : AS → Ow → Hp → α → β → Prop) (hr : AS) (ow : Ow) (env : List Slot) (σ : L2.St) (H : Hp) (R : Res α) (Q : β → Hp → Prop) (W : WX) : Prop :=
  match R with
  | .ok w S' => ∀ v ow' H', Gr hr ow H ow' H' → Slo ow H ow' H' → Rel T hr ow' H' env S' σ → Wq hr ow' H' w v → Q v H'
  | .ex x S' => ∀ cls d ow' H', Gr hr ow H ow' H' → Slo ow H ow' H' → Rel T hr ow' H' env S' σ → XR T hr ow' H' x cls d → ∀ σ', W cls d σ' H'
  | .bad => False
section
variable {α α' β β' : Type} {T : Tab} {Wq : AS → Ow → Hp → α → β → Prop} {Wq' : AS → Ow → Hp → α' → β' → Prop} {hr : AS} {ow ow1 : Ow} {env : List Slot} {σ : L2.St} {H H1 : Hp} {R : Res α} {Q Q' : β → Hp → Prop} {Q2 : β' → Hp → Prop} {W : WX}
theorem Post.imp (h : Post T Wq hr ow env σ H R Q W) (i : ∀ v H', Q v H' → Q' v H') : Post T Wq hr ow env σ H R Q' W := by
  cases R with
  | ok w S => exact fun v ow' H' g s r q => i _ _ (h v ow' H' g s r q)
  | ex x S => exact h
  | bad => exact h
theorem Post.bind {k : α → List Cell → Res α'} (h : Post T Wq' hr ow env σ H (R.bind k) Q2 W) :
    Post T Wq hr ow env σ H R (fun v H1 => ∃ w S1 ow1, R = .ok w S1 ∧ Gr hr ow H ow1 H1 ∧ Slo ow H ow1 H1 ∧ Rel T hr ow1 H1 env S1 σ ∧ Wq hr ow1 H1 w v ∧ Post T Wq' hr ow1 env σ H1 (k w S1) Q2 W) W := by
  cases R with
  | ok w S1 =>
    intro v ow1 H1 g s r q
    refine ⟨w, S1, ow1, rfl, g, s, r, q, ?_⟩
    rw [Res.bind_ok] at h
    cases e : k w S1 with
    | ok w2 S2 => rw [e] at h; exact fun v2 ow2 H2 g2 s2 r2 q2 => h v2 ow2 H2 (g.trans g2) (s.trans s2) r2 q2
    | ex x S2 => rw [e] at h; exact fun c d ow2 H2 g2 s2 r2 q2 => h c d ow2 H2 (g.trans g2) (s.trans s2) r2 q2
    | bad => rw [e] at h; exact h
  | ex x S1 => exact h
  | bad => exact h
theorem Post.opt {o : Option α'} {k : α' → Res α} (h : Post T Wq hr ow env σ H (Res.opt o k) Q W) : ∃ x, o = some x ∧ Post T Wq hr ow env σ H (k x) Q W := by
  cases o with
  | none => exact h.elim
  | some x => exact ⟨x, rfl, h⟩
theorem Post.mkd {S : List Cell} {d : D} {Q : VK} (h : Post T (WR T) hr ow env σ H (.ok (.d d) S) Q W) (r : Rel T hr ow H env S σ) : Mkd T (hid hr ow) H d Q :=
  fun v H' s q => h v ow H' (Gr.same r s) (Slo.same r s) (r.same s) q
theorem Post.same {S : List Cell} {w : α} (h : Post T Wq hr ow env σ H (.ok w S) Q W) (r : Rel T hr ow H env S σ) {v : β} (q : Wq hr ow H w v) : Q v H :=
  h v ow H (Gr.refl _ _ _) (Slo.refl _ _) r q
end
end Rg
set_option Elab.async false
set_option linter.all false
set_option maxRecDepth 100000
set_option maxHeartbeats 4000000
namespace Rg
open PySem PySem.Spec PyProof.Rows L2
abbrev Fn := List W → List Cell → Res W
def seqD : D → Option (List D)
  | .lst l => some l
  | .tp _ l => some l
  | _ => none
def chars (x : Str) : List D := x.cps.toList.map fun c => .str ⟨#[c]⟩
def seqsD : List D → Option (List (List D))
  | [] => some []
  | d :: l => match seqD d, seqsD l with
    | some x, some xs => some (x :: xs)
    | _, _ => none
def itemsD : D → Option (List D)
  | .lst l => some l
  | .tp _ l => some l
  | .str x => some (chars x)
  | _ => none
def itemsI : D → Option (List D)
  | .dct true l => some (l.map fun p => .tp false [p.1, p.2])
  | _ => none
def rangeD (lo : Int) (n : Nat) : List D := (List.range n).map fun (i : Nat) => .int (lo + (i : Int))
def enumD (l : List D) : List D := l.zipIdx.map fun p => .tp false [.int (p.2 : Int), p.1]
def zip2D (a b : List D) : List D := (a.zip b).map fun p => .tp false [p.1, p.2]
def zip3D (a b c : List D) : List D := (a.zip (b.zip c)).map fun p => .tp false [p.1, p.2.1, p.2.2]
def zipD : List (List D) → Option (List D)
  | [a, b] => some (zip2D a b)
  | [a, b, c] => some (zip3D a b c)
  | _ => none
def rgOk (i : Int) : Bool := decide (-(2 ^ 62) ≤ i) && decide (i < 2 ^ 62)
def ixD : D → D → Option D
  | .lst l, .int i => atI l i
  | .tp _ l, .int i => atI l i
  | .str x, .int i => if x.length ≤ LN then (atI x.cps.toList i).map fun c => .str ⟨#[c]⟩ else none
  | .dct t l, k => if keyOk t k then dfind l k else none
  | _, _ => none
def cutD (l : List D) (lo hi : Option Int) : List D := (l.drop (HT.sIx l.length 0 lo)).take (HT.sIx l.length l.length hi - HT.sIx l.length 0 lo)
def slD : D → Option Int → Option Int → Option D
  | .lst l, lo, hi => some (.lst (cutD l lo hi))
  | .tp true l, lo, hi => some (.tup (cutD l lo hi))
  | .str x, lo, hi => if x.length ≤ LN then some (.str (cutS x lo hi)) else none
  | _, _, _ => none
def revD : D → Option D
  | .lst l => some (.lst l.reverse)
  | _ => none
def isBl : W → Option Bool
  | .d (.bl b) => some b
  | _ => none
def isDat : W → Option D
  | .d x => some x
  | _ => none
def allDat : List W → Option (List D)
  | [] => some []
  | .d x :: l => match allDat l with
    | some xs => some (x :: xs)
    | none => none
  | _ => none
def noSlots : List W → Bool
  | [] => true
  | .l (.inl _) :: _ => false
  | _ :: l => noSlots l
def looks (env : List Slot) (S : List Cell) : List W → Option (List D)
  | [] => some []
  | w :: l => match look env S w, looks env S l with
    | some x, some xs => some (x :: xs)
    | _, _ => none
def lookI (m : Bool) (env : List Slot) : W → Option D
  | .d x => some x
  | .l (.inl i) => if m = true then none else match env.getD i .un with
    | .own c => c.data
    | _ => none
  | .l (.inr _) => none
def looksI (m : Bool) (env : List Slot) : List W → Option (List D)
  | [] => some []
  | w :: l => match lookI m env w, looksI m env l with
    | some x, some xs => some (x :: xs)
    | _, _ => none
def flD (fs : List (Nat × D)) (n : Nat) : Option D := fs.lookup n
def flW (S : List Cell) (c n : Nat) : W → Option W
  | .d (.obj c' fs) => if c' = c then (fs.lookup n).map .d else none
  | .l (.inr m) => match S[m]? with
    | some (.ob c' fs) => if c' = c then fs.lookup n else none
    | _ => none
  | _ => none
def isOb (S : List Cell) (c : Nat) : W → Bool
  | .d (.obj c' _) => decide (c' = c)
  | .l (.inr m) => match S[m]? with
    | some (.ob c' _) => decide (c' = c)
    | _ => false
  | _ => false
def datFs : List (Nat × W) → Option (List (Nat × D))
  | [] => some []
  | (n, .d x) :: l => match datFs l with
    | some r => some ((n, x) :: r)
    | none => none
  | _ => none
def putFs (n : Nat) (w : W) : List (Nat × W) → List (Nat × W)
  | [] => [(n, w)]
  | (m, u) :: l => if m = n then (n, w) :: l else (m, u) :: putFs n w l
def dMin : D → List D → D
  | a, [] => a
  | a, b :: l => dMin (if dLt b a then b else a) l
def dMax : D → List D → D
  | a, [] => a
  | a, b :: l => dMax (if dLt a b then b else a) l
def dIns (x : D) : List D → List D
  | [] => [x]
  | y :: l => if dLt x y then x :: y :: l else y :: dIns x l
def dSort (l : List D) : List D := l.foldl (fun acc x => dIns x acc) []
def plainL (l : List D) : Bool := l.all fun d => d.pl && decide (d.py.depth ≤ dLine)
def ordL (l : List D) : Bool := l.all fun a => l.all fun b => ordOk a b
def nubD : List D → List D
  | [] => []
  | a :: l => a :: (nubD l).filter fun b => !dEq b a
def hashOk : D → Bool
  | .int _ => true
  | .str _ => true
  | _ => false
def sameTy : D → D → Bool
  | .lst _, .lst _ => true
  | .tp a _, .tp b _ => a && b
  | .str _, .str _ => true
  | _, _ => false
def Mt.rc : Mt → D → Bool
  | .count, .lst _ => true
  | .count, .tp c _ => c
  | _, _ => false
def lcL (f : D → List Cell → Option (Option D × List Cell)) : List D → List Cell → Option (List D × List Cell)
  | [], S => some ([], S)
  | x :: r, S => match f x S with
    | some (some y, S1) => match lcL f r S1 with
      | some (ys, S2) => some (y :: ys, S2)
      | none => none
    | some (none, S1) => lcL f r S1
    | none => none
def quL (isAll : Bool) (f : D → List Cell → Option (Bool × List Cell)) : List D → List Cell → Option (Bool × List Cell)
  | [], S => some (isAll, S)
  | x :: r, S => match f x S with
    | some (b, S1) => if b = isAll then quL isAll f r S1 else some (b, S1)
    | none => none
def wipeS (env : List Slot) : List Nat → List Slot
  | [] => env
  | i :: r => (wipeS env r).set i .un
def noOwn (env : List Slot) : List Nat → Bool
  | [] => true
  | i :: r => (match env.getD i .un with | .own _ => false | _ => true) && noOwn env r
def Res.pure? {α : Type} : Res α → Option (α × List Cell)
  | .ok x S => some (x, S)
  | _ => none
def Res.noex : Res W → Res W
  | .ok w S => .ok w S
  | _ => .bad
open Classical in
noncomputable def madeD (S1 S2 : List Cell) (c : Nat) : Option (List (Nat × D)) := match S2[S1.length]? with
  | some (.ob c' fs) => if c' = c ∧ S2 = S1 ++ [.ob c' fs] then datFs fs else none
  | _ => none
def Res.tst : Res W → Option (Bool × List Cell)
  | .ok w S => match isBl w with
    | some b => some (b, S)
    | none => none
  | _ => none
def forL (f : D → List Slot → List Cell → Out) : List D → List Slot → List Cell → Out
  | [], env, S => .nx env S
  | x :: r, env, S => match f x env S with
    | .nx env1 S1 => forL f r env1 S1
    | .ct env1 S1 => forL f r env1 S1
    | .bk env1 S1 => .nx env1 S1
    | .rt w S1 => .rt w S1
    | .ex x S1 => .ex x S1
    | .bad => .bad
def fuel : Nat := 4294967296
def whL (c : List Slot → List Cell → Res W) (f : List Slot → List Cell → Out) : Nat → List Slot → List Cell → Out
  | 0, _, _ => .bad
  | n + 1, env, S => (c env S).out fun w S1 => Out.opt (isBl w) fun b =>
    if b = true then match f env S1 with
      | .nx env1 S2 => whL c f n env1 S2
      | .ct env1 S2 => whL c f n env1 S2
      | .bk env1 S2 => .nx env1 S2
      | .rt w S2 => .rt w S2
      | .ex x S2 => .ex x S2
      | .bad => .bad
    else .nx env S1
def putLoc (env : List Slot) (S : List Cell) : W → Cell → Option (List Slot × List Cell)
  | .l (.inl i), c => some (env.set i (.own c), S)
  | .l (.inr n), c => some (env, S.set n c)
  | _, _ => none
def cellAt (env : List Slot) (S : List Cell) : W → Option Cell
  | .l (.inl i) => match env.getD i .un with
    | .own c => some c
    | _ => none
  | .l (.inr n) => S[n]?
  | _ => none
def pair2 : List W → Option (W × W)
  | [a, b] => some (a, b)
  | _ => none
def heardOf (x : Xc) : Option D :=
  if x.1 = 101 then match x.2 with
    | [(101, d)] => some (.tup [.str ("bad" : Str), d, .bl true])
    | _ => none
  else if x.1 = 102 then match x.2 with
    | [(102, d)] => some (.tup [.str ("barred" : Str), d, .bl true])
    | _ => none
  else if x.1 = 103 then match x.2 with
    | [(103, d)] => some (.tup [.str ("refused" : Str), d, .bl true])
    | _ => none
  else if x.1 = 104 then match x.2 with
    | [(103, y), (104, d)] => some (.tup [.str ("unread" : Str), d, y, .bl true])
    | _ => none
  else none
def fmD : D → Bool
  | .str z => decide (z.length ≤ 1000)
  | .int i => decide (i.natAbs.log2 < 100)
  | _ => false
mutual
noncomputable def E.den (phi : Nat → Fn) : E → List Slot → List Cell → Res W
  | .nm i, env, S => match env.getD i .un with
    | .un => .bad
    | .w x => .ok x S
    | .own _ => .ok (.l (.inl i)) S
  | .k c, _, S => .ok (.d c) S
  | .gl _ c, _, S => .ok (.d c) S
  | .o2 o a b, env, S => (a.den phi env S).bind fun x S1 => (b.den phi env S1).bind fun y S2 => Res.opt (look env S2 x) fun dx => Res.opt (look env S2 y) fun dy => Res.opt (o.f dx dy) fun d => .ok (.d d) S2
  | .ch o o' a b c, env, S => (a.den phi env S).bind fun x S1 => (b.den phi env S1).bind fun y S2 => Res.opt (look env S2 x) fun dx => Res.opt (look env S2 y) fun dy => Res.opt (o.f dx dy) fun d => Res.opt (isBl (.d d)) fun t =>
      if t = true then (c.den phi env S2).bind fun z S3 => Res.opt (look env S3 y) fun dy' => Res.opt (look env S3 z) fun dz => Res.opt (o'.f dy' dz) fun d' => .ok (.d d') S3
      else .ok (.d (.bl false)) S2
  | .neg a, env, S => (a.den phi env S).bind fun x S1 => match x with
    | .d (.int i) => .ok (.d (.int (-i))) S1
    | _ => .bad
  | .nt a, env, S => (a.den phi env S).bind fun x S1 => Res.opt (isBl x) fun b => .ok (.d (.bl (!b))) S1
  | .bo isAnd l, env, S => l.denB phi isAnd env S
  | .ite c a b, env, S => (c.den phi env S).bind fun x S1 => Res.opt (isBl x) fun t => if t = true then a.den phi env S1 else b.den phi env S1
  | .tup l, env, S => (l.den phi env S).bind fun ws S1 => Res.opt (allDat ws) fun ds => if ds.length ≤ LN then .ok (.d (.tup ds)) S1 else .bad
  | .fr f, env, S => (f.den phi env S).bind fun c S1 => Res.opt c.data fun d => .ok (.d d) S1
  | .ix a b, env, S => (a.den phi env S).bind fun x S1 => (b.den phi env S1).bind fun y S2 => Res.opt (look env S2 x) fun dx => Res.opt (look env S2 y) fun dy => Res.opt (ixD dx dy) fun d => .ok (.d d) S2
  | .sl a lo hi, env, S => (a.den phi env S).bind fun x S1 => (lo.den phi env S1).bind fun y S2 => (hi.den phi env S2).bind fun z S3 =>
      Res.opt (look env S3 x) fun dx => Res.opt (slD dx y z) fun d => .ok (.d d) S3
  | .rev a, env, S => (a.den phi env S).bind fun x S1 => Res.opt (look env S1 x) fun dx => Res.opt (revD dx) fun d => .ok (.d d) S1
  | .fl c n a, env, S => (a.den phi env S).bind fun x S1 => Res.opt (flW S1 c n x) fun w => .ok w S1
  | .pr c f a, env, S => (a.den phi env S).bind fun x S1 => if isOb S1 c x = true then (phi f [x] S1).noex else .bad
  | .me c f a l, env, S => (a.den phi env S).bind fun x S1 => if isOb S1 c x = true then (l.den phi env S1).bind fun ws S2 => if noSlots ws = true then phi f (x :: ws) S2 else .bad else .bad
  | .mk c f data l, env, S => (l.den phi env S).bind fun ws S1 => if noSlots ws = true then
      (phi f (.l (.inr S1.length) :: ws) (S1 ++ [.ob c []])).bind fun w S2 =>
        match w with
        | .d .non => if data = true then Res.opt (madeD S1 S2 c) fun ds => .ok (.d (.obj c ds)) S1 else .ok (.l (.inr S1.length)) S2
        | _ => .bad
      else .bad
  | .ca f l, env, S => (l.den phi env S).bind fun ws S1 => if noSlots ws = true then phi f ws S1 else .bad
  | .bi b l, env, S => (l.den phi env S).bind fun ws S1 => Res.opt (looks env S1 ws) fun ds => Res.opt (b.f ds) fun d => .ok (.d d) S1
  | .mt m a l, env, S => (a.den phi env S).bind fun x S1 => Res.opt (look env S1 x) fun d0 => if m.rc d0 = true then (l.den phi env S1).bind fun ws S2 => Res.opt (look env S2 x) fun dx => Res.opt (looks env S2 ws) fun ds =>
      if sameTy d0 dx = true then Res.opt (m.f dx ds) fun d => .ok (.d d) S2 else .bad
      else .bad
  | .col isT it, env, S => (it.den phi false env S).bind fun ds S1 => if ds.length ≤ 16777216 then .ok (.d (if isT = true then .tp false ds else .lst ds)) S1 else .bad
  | .qu isAll t it e vs, env, S => (it.den phi false env S).bind fun ds S1 => if noOwn env vs = true then
      Res.opt (quL isAll (fun x S2 => match t.set x (wipeS env vs) with
        | some env1 => (e.den phi env1 S2).tst
        | none => none) ds S1) fun r => .ok (.d (.bl r.1)) r.2
      else .bad
  | .isi a l, env, S => (a.den phi env S).bind fun x S1 => Res.opt (look env S1 x) fun d => .ok (.d (.bl (l.any (isTy d)))) S1
  | .inK isIn a _ l, env, S => (a.den phi env S).bind fun x S1 => match x with
    | .d (.str t) => .ok (.d (.bl ((l.any fun y => decide (y = .str t)) == isIn))) S1
    | _ => .bad
  | .lenK _ n, _, S => .ok (.d (.int n)) S
  | .ixK a _ l, env, S => (a.den phi env S).bind fun x S1 => match x with
    | .d (.str t) => Res.opt (dfind l (.str t)) fun d => .ok (.d d) S1
    | _ => .bad
  | .fs _, _, _ => .bad
  | .heard e, env, S => match e.den phi env S with
    | .ok _ S1 => .ok (.d (.tup [])) S1
    | .ex x S1 => Res.opt (heardOf x) fun d => .ok (.d d) S1
    | .bad => .bad
  | .eqW _ _ _ _ _, _, _ => .bad
noncomputable def Fr.den (phi : Nat → Fn) : Fr → List Slot → List Cell → Res Cell
  | .lst l, env, S => (l.den phi env S).bind fun ws S1 => Res.opt (allDat ws) fun ds => if ds.length ≤ LN then .ok (.lst ds) S1 else .bad
  | .lc t it c e vs, env, S => (it.den phi false env S).bind fun ds S1 => if noOwn env vs = true ∧ ds.length ≤ LN then
      Res.opt (lcL (fun x S2 => match t.set x (wipeS env vs) with
        | some env1 => match c.denT phi env1 S2 with
          | some (true, S3) => match (e.den phi env1 S3).pure? with
            | some (.d y, S4) => some (some y, S4)
            | _ => none
          | some (false, S3) => some (none, S3)
          | none => none
        | none => none) ds S1) fun r => .ok (.lst r.1) r.2
      else .bad
  | .dct ks l, env, S => match l.den phi env S with
    | .ok ws S1 => Res.opt (allDat ws) fun ds => if ks.length = ds.length ∧ ks.Nodup then .ok (.dct false ((ks.map D.str).zip ds)) S1 else .bad
    | _ => .bad
noncomputable def Es.den (phi : Nat → Fn) : Es → List Slot → List Cell → Res (List W)
  | .nil, _, S => .ok [] S
  | .cons a l, env, S => (a.den phi env S).bind fun x S1 => (l.den phi env S1).bind fun xs S2 => .ok (x :: xs) S2
noncomputable def Es.denB (phi : Nat → Fn) (isAnd : Bool) : Es → List Slot → List Cell → Res W
  | .nil, _, _ => .bad
  | .cons a .nil, env, S => a.den phi env S
  | .cons a (.cons b l), env, S => (a.den phi env S).bind fun x S1 => Res.opt (isBl x) fun t => if t = isAnd then (Es.cons b l).denB phi isAnd env S1 else .ok (.d (.bl t)) S1
noncomputable def Eo.den (phi : Nat → Fn) : Eo → List Slot → List Cell → Res (Option Int)
  | .none, _, S => .ok none S
  | .some a, env, S => (a.den phi env S).bind fun x S1 => match x with
    | .d (.int i) => .ok (some i) S1
    | _ => .bad
noncomputable def Eo.denT (phi : Nat → Fn) : Eo → List Slot → List Cell → Option (Bool × List Cell)
  | .none, _, S => some (true, S)
  | .some a, env, S => (a.den phi env S).tst
noncomputable def It.den (phi : Nat → Fn) (m : Bool) : It → List Slot → List Cell → Res (List D)
  | .e a, env, S => (a.den phi env S).bind fun x S1 => Res.opt (lookI m env x) fun d => Res.opt (itemsD d) fun ds => .ok ds S1
  | .rg1 a, env, S => (a.den phi env S).bind fun x S1 => match x with
    | .d (.int j) => if rgOk j = true then .ok (rangeD 0 j.toNat) S1 else .bad
    | _ => .bad
  | .rg2 a b, env, S => (a.den phi env S).bind fun x S1 => (b.den phi env S1).bind fun y S2 => match x, y with
    | .d (.int i), .d (.int j) => if rgOk i = true ∧ rgOk j = true then .ok (rangeD i (j - i).toNat) S2 else .bad
    | _, _ => .bad
  | .en a, env, S => (a.den phi env S).bind fun x S1 => Res.opt (lookI m env x) fun d => Res.opt (seqD d) fun ds => .ok (enumD ds) S1
  | .zp l, env, S => (l.den phi env S).bind fun xs S1 => Res.opt (looksI m env xs) fun ds => Res.opt (seqsD ds) fun ls => Res.opt (zipD ls) fun r => .ok r S1
  | .its a, env, S => (a.den phi env S).bind fun x S1 => Res.opt (lookI m env x) fun d => Res.opt (itemsI d) fun ds => .ok ds S1
end
def asgW (t : Tg) (w : W) (env : List Slot) (S : List Cell) : Out := match w with
  | .d x => Out.opt (t.set x env) fun env1 => .nx env1 S
  | .l (.inl j) => match t, env.getD j .un with
    | .nm i, .own c => Out.opt c.data fun d => .nx ((env.set j .un).set i (.w (.d d))) S
    | _, _ => .bad
  | .l (.inr n) => match t with
    | .nm i => .nx (env.set i (.w (.l (.inr n)))) S
    | _ => .bad
def setAll (env : List Slot) : List Nat → List W → List Slot
  | i :: is, w :: ws => setAll (env.set i (.w w)) is ws
  | _, _ => env
def siC : Cell → D → D → Option Cell
  | .lst l, .int i, x => match ixN l.length i with
    | some j => some (.lst (l.set j x))
    | none => none
  | .dct t l, k, x => if keyOk t k = true ∧ l.length < LN then some (.dct t (dput l k x)) else none
  | _, _, _ => none
def appC (x : D) : Cell → Option Cell
  | .lst l => if l.length < LN then some (.lst (l ++ [x])) else none
  | _ => none
def extC : D → Cell → Option Cell
  | .lst xs, .lst l => if l.length + xs.length ≤ LN then some (.lst (l ++ xs)) else none
  | _, _ => none
def lstC : Cell → Option (List D)
  | .lst l => some l
  | _ => none
def popC : Cell → Option Cell
  | .lst l => if l = [] then none else some (.lst l.dropLast)
  | _ => none
mutual
noncomputable def St.den (phi : Nat → Fn) : St → List Slot → List Cell → Out
  | .asg t e, env, S => (e.den phi env S).out fun w S1 => asgW t w env S1
  | .own i f, env, S => (f.den phi env S).out fun c S1 => .nx (env.set i (.own c)) S1
  | .alc i f, env, S => (f.den phi env S).out fun c S1 => .nx (env.set i (.w (.l (.inr S1.length)))) (S1 ++ [c])
  | .sf c n o e, env, S => (e.den phi env S).out fun v S1 => (o.den phi env S1).out fun w S2 => match w, noSlots [v] with
    | .l (.inr m), true => match S2[m]? with
      | some (.ob c' fs) => if c' = c ∧ fs.length < 900 then .nx env (S2.set m (.ob c (putFs n v fs))) else .bad
      | _ => .bad
    | _, _ => .bad
  | .sfo c n o f, env, S => (f.den phi env S).out fun u S1 => (o.den phi env S1).out fun w S2 => match w with
    | .l (.inr m) => match S2[m]? with
      | some (.ob c' fs) => if c' = c ∧ fs.length < 900 then .nx env ((S2.set m (.ob c (putFs n (.l (.inr S2.length)) fs))) ++ [u]) else .bad
      | _ => .bad
    | _ => .bad
  | .si a i e, env, S => (e.den phi env S).out fun v S1 => (a.den phi env S1).out fun w S2 => (i.den phi env S2).out fun k S3 =>
      Out.opt (isDat v) fun x => Out.opt (isDat k) fun kd => Out.opt (cellAt env S3 w) fun c => Out.opt (siC c kd x) fun c' => Out.opt (putLoc env S3 w c') fun p => .nx p.1 p.2
  | .aug i o e, env, S => match env.getD i .un with
    | .w (.d (.int x)) => (e.den phi env S).out fun w S1 => match w with
      | .d (.int y) => Out.opt (o.f (.int x) (.int y)) fun d => .nx (env.set i (.w (.d d))) S1
      | _ => .bad
    | _ => .bad
  | .augf c n i o e, env, S => match env.getD i .un with
    | .w (.l (.inr m)) => Out.opt ((flW S c n (.l (.inr m))).bind isDat) fun x => (e.den phi env S).out fun w S1 => Out.opt (look env S1 w) fun y => Out.opt (o.f x y) fun d => match S1[m]? with
      | some (.ob c' fs) => if c' = c ∧ fs.length < 900 then .nx env (S1.set m (.ob c (putFs n (.d d) fs))) else .bad
      | _ => .bad
    | _ => .bad
  | .app a e, env, S => (a.den phi env S).out fun w S1 => Out.opt ((cellAt env S1 w).bind lstC) fun _ => (e.den phi env S1).out fun v S2 => Out.opt (isDat v) fun x => Out.opt ((cellAt env S2 w).bind (appC x)) fun c => Out.opt (putLoc env S2 w c) fun p => .nx p.1 p.2
  | .ext a e, env, S => (a.den phi env S).out fun w S1 => Out.opt ((cellAt env S1 w).bind lstC) fun _ => (e.den phi env S1).out fun v S2 => Out.opt (isDat v) fun x => Out.opt ((cellAt env S2 w).bind (extC x)) fun c => Out.opt (putLoc env S2 w c) fun p => .nx p.1 p.2
  | .pop a, env, S => (a.den phi env S).out fun w S1 => Out.opt ((cellAt env S1 w).bind popC) fun c => Out.opt (putLoc env S1 w c) fun p => .nx p.1 p.2
  | .ex e, env, S => (e.den phi env S).out fun _ S1 => .nx env S1
  | .ite c a b, env, S => (c.den phi env S).out fun w S1 => Out.opt (isBl w) fun t => if t = true then a.den phi env S1 else b.den phi env S1
  | .fr t it b, env, S => (it.den phi true env S).out fun ds S1 => forL (fun x env2 S2 => Out.opt (t.set x env2) fun env3 => b.den phi env3 S2) ds env S1
  | .wh c b, env, S => whL (fun env2 S2 => c.den phi env2 S2) (fun env2 S2 => b.den phi env2 S2) fuel env S
  | .ret e, env, S => (e.den phi env S).out fun w S1 => match w with
    | .l (.inr n) => .rt (.l (.inr n)) S1
    | w => Out.opt (look env S1 w) fun d => .rt (.d d) S1
  | .retn, _, S => .rt (.d .non) S
  | .rais c ns l, env, S => (l.den phi env S).out fun ws S1 => Out.opt (allDat ws) fun ds => if ns.length = ds.length ∧ ds.all fmD = true then .ex (c, (ns.zip ds).reverse) S1 else .bad
  | .pass, env, S => .nx env S
  | .fz i, env, S => match env.getD i .un with
    | .own c => Out.opt c.data fun d => .nx (env.set i (.w (.d d))) S
    | _ => .bad
  | .kl l, env, S => .nx (wipeS env l) S
  | .par is l, env, S => (l.den phi env S).out fun ws S1 => if noSlots ws = true ∧ is.length = ws.length then .nx (setAll env is ws) S1 else .bad
noncomputable def Sts.den (phi : Nat → Fn) : Sts → List Slot → List Cell → Out
  | .nil, env, S => .nx env S
  | .cons s l, env, S => match s.den phi env S with
    | .nx env1 S1 => l.den phi env1 S1
    | .rt w S1 => .rt w S1
    | .bk env1 S1 => .bk env1 S1
    | .ct env1 S1 => .ct env1 S1
    | .ex x S1 => .ex x S1
    | .bad => .bad
end
open Classical in
noncomputable def trunc (S S1 : List Cell) : List Cell := if S1.take S.length = S then S else S1
noncomputable def mkFn (np nN : Nat) (b : (List Slot → List Cell → Out)) : Fn := fun ws S =>
  if ws.length = np then match b (ws.map .w ++ List.replicate (nN - np) .un) S with
    | .nx _ S1 => .ok (.d .non) (trunc S S1)
    | .rt (.d x) S1 => .ok (.d x) (trunc S S1)
    | .rt w S1 => .ok w S1
    | .ex x S1 => .ex x (trunc S S1)
    | _ => .bad
  else .bad
end Rg
set_option Elab.async false
set_option linter.all false
set_option maxRecDepth 100000
set_option maxHeartbeats 4000000
namespace Rg
open PySem PySem.Spec PyProof.Rows L2
def b_life_keeps : Sts := .cons (.asg (.nm 3) (.ix (.nm 0) (.k (.int 0)))) (.cons (.ite (.o2 .eq (.nm 3) (.gl ("NEVER" : Str) (.str ("never" : Str)))) (.cons (.ret (.o2 .notin (.tup (.cons (.ix (.nm 0) (.k (.int 1))) (.cons (.ix (.nm 0) (.k (.int 2))) .nil))) (.col false (.zp (.cons (.nm 2) (.cons (.sl (.nm 2) (.some (.k (.int 1))) .none) .nil)))))) .nil) .nil) (.cons (.ite (.o2 .eq (.nm 3) (.gl ("IN_ROW" : Str) (.str ("in" : Str)))) (.cons (.asg (.nm 4) (.ix (.nm 0) (.k (.int 3)))) (.cons (.own 5 (.lc (.nm 6) (.rg1 (.o2 .add (.o2 .sub (.bi .len (.cons (.nm 2) .nil)) (.nm 4)) (.k (.int 1)))) .none (.sl (.nm 2) (.some (.nm 6)) (.some (.o2 .add (.nm 6) (.nm 4)))) [6])) (.cons (.fz 5) (.cons (.ret (.qu true (.nm 7) (.e (.nm 5)) (.o2 .le (.mt .count (.nm 7) (.cons (.ix (.nm 0) (.k (.int 2))) .nil)) (.ix (.nm 0) (.k (.int 1)))) [7])) .nil)))) .nil) (.cons (.ite (.bo false (.cons (.o2 .notin (.nm 3) (.tup (.cons (.gl ("HAS" : Str) (.str ("has" : Str))) (.cons (.gl ("HAS_NOT" : Str) (.str ("not" : Str))) (.cons (.gl ("AT_LEAST" : Str) (.str ("least" : Str))) (.cons (.gl ("AT_MOST" : Str) (.str ("most" : Str))) .nil)))))) (.cons (.o2 .ne (.ix (.nm 0) (.k (.int 1))) (.nm 1)) .nil))) (.cons (.ret (.k (.bl true))) .nil) .nil) (.cons (.ite (.o2 .eq (.nm 3) (.gl ("HAS" : Str) (.str ("has" : Str)))) (.cons (.ret (.o2 .eq (.ix (.nm 2) (.o2 .sub (.ix (.nm 0) (.k (.int 3))) (.k (.int 1)))) (.ix (.nm 0) (.k (.int 2))))) .nil) .nil) (.cons (.ite (.o2 .eq (.nm 3) (.gl ("HAS_NOT" : Str) (.str ("not" : Str)))) (.cons (.ret (.o2 .ne (.ix (.nm 2) (.o2 .sub (.ix (.nm 0) (.k (.int 3))) (.k (.int 1)))) (.ix (.nm 0) (.k (.int 2))))) .nil) .nil) (.cons (.ret (.ite (.o2 .eq (.nm 3) (.gl ("AT_LEAST" : Str) (.str ("least" : Str)))) (.o2 .ge (.mt .count (.nm 2) (.cons (.ix (.nm 0) (.k (.int 3))) .nil)) (.ix (.nm 0) (.k (.int 2)))) (.o2 .le (.mt .count (.nm 2) (.cons (.ix (.nm 0) (.k (.int 3))) .nil)) (.ix (.nm 0) (.k (.int 2)))))) .nil))))))
def b_many_on : Sts := .cons (.ret (.bi .len (.cons (.fr (.lc (.nm 3) (.e (.nm 0)) (.some (.o2 .eq (.ix (.nm 3) (.o2 .sub (.nm 1) (.k (.int 1)))) (.nm 2))) (.nm 3) [3])) .nil))) .nil
def b_keeps_rule : Sts := .cons (.ite (.o2 .eq (.ix (.nm 2) (.k (.int 0))) (.gl ("EVERY" : Str) (.str ("every" : Str)))) (.cons (.ret (.qu true (.nm 3) (.rg2 (.k (.int 1)) (.o2 .add (.pr 2 215 (.nm 0)) (.k (.int 1)))) (.o2 .eq (.ca 226 (.cons (.nm 1) (.cons (.nm 3) (.cons (.ix (.nm 2) (.k (.int 1))) .nil)))) (.ix (.nm 2) (.k (.int 2)))) [3])) .nil) .nil) (.cons (.ite (.o2 .eq (.ix (.nm 2) (.k (.int 0))) (.gl ("ON_DAY" : Str) (.str ("day" : Str)))) (.cons (.ret (.o2 .eq (.ca 226 (.cons (.nm 1) (.cons (.ix (.nm 2) (.k (.int 1))) (.cons (.ix (.nm 2) (.k (.int 2))) .nil)))) (.ix (.nm 2) (.k (.int 3))))) .nil) .nil) (.cons (.ret (.qu true (.tp (.cons (.nm 4) (.cons (.nm 5) .nil))) (.en (.nm 1)) (.ca 225 (.cons (.nm 2) (.cons (.nm 4) (.cons (.nm 5) .nil)))) [4, 5])) .nil))
def b_broken_in : Sts := .cons (.ret (.bi .tuple (.cons (.fr (.lc (.tp (.cons (.nm 2) (.cons (.nm 3) .nil))) (.en (.pr 2 219 (.nm 0))) (.some (.nt (.ca 227 (.cons (.nm 0) (.cons (.nm 1) (.cons (.nm 3) .nil)))))) (.nm 2) [2, 3])) .nil))) .nil
def b_keeps : Sts := .cons (.ex (.ca 229 (.cons (.nm 0) (.cons (.nm 1) (.cons (.k (.str ("roster" : Str))) .nil))))) (.cons (.ex (.ca 202 (.cons (.ca 201 (.cons (.nm 2) (.cons (.k (.int 0)) (.cons (.o2 .sub (.bi .len (.cons (.pr 2 219 (.nm 0)) .nil)) (.k (.int 1))) .nil)))) (.cons (.k (.str ("number" : Str))) .nil)))) (.cons (.ret (.ca 227 (.cons (.nm 0) (.cons (.nm 1) (.cons (.ix (.pr 2 219 (.nm 0)) (.nm 2)) .nil))))) .nil))
def b_broken : Sts := .cons (.ex (.ca 229 (.cons (.nm 0) (.cons (.nm 1) (.cons (.k (.str ("roster" : Str))) .nil))))) (.cons (.ret (.ca 228 (.cons (.nm 0) (.cons (.nm 1) .nil)))) .nil)
def b_is_roster : Sts := .cons (.ex (.ca 202 (.cons (.ca 223 (.cons (.nm 0) .nil)) (.cons (.k (.str ("ward" : Str))) .nil)))) (.cons (.ret (.bo true (.cons (.ca 224 (.cons (.nm 0) (.cons (.nm 1) .nil))) (.cons (.o2 .eq (.ca 228 (.cons (.nm 0) (.cons (.nm 1) .nil))) (.tup .nil)) .nil)))) .nil)
def b__law_keeps : Sts := .cons (.asg (.tp (.cons (.nm 3) (.cons (.nm 4) .nil))) (.tup (.cons (.ix (.nm 2) (.k (.int 0))) (.cons (.ix (.nm 0) (.k (.int 0))) .nil)))) (.cons (.ite (.o2 .isin (.nm 3) (.tup (.cons (.k (.str ("every" : Str))) (.cons (.k (.str ("day" : Str))) .nil)))) (.cons (.asg (.nm 5) (.ite (.o2 .eq (.nm 3) (.k (.str ("day" : Str)))) (.fr (.lst (.cons (.ix (.nm 2) (.k (.int 1))) .nil))) (.col false (.rg2 (.k (.int 1)) (.o2 .add (.nm 4) (.k (.int 1))))))) (.cons (.asg (.tp (.cons (.nm 6) (.cons (.nm 7) .nil))) (.tup (.cons (.ix (.nm 2) (.neg (.k (.int 2)))) (.cons (.ix (.nm 2) (.neg (.k (.int 1)))) .nil)))) (.cons (.ret (.o2 .eq (.fr (.lc (.nm 8) (.e (.nm 5)) (.some (.o2 .ne (.bi .len (.cons (.fr (.lc (.nm 9) (.e (.nm 1)) (.some (.o2 .eq (.ix (.nm 9) (.o2 .sub (.nm 8) (.k (.int 1)))) (.nm 6))) (.nm 9) [9])) .nil)) (.nm 7))) (.nm 8) [8])) (.fr (.lst .nil)))) .nil))) .nil) (.cons (.ite (.o2 .eq (.nm 3) (.k (.str ("never" : Str)))) (.cons (.ret (.o2 .eq (.fr (.lc (.nm 9) (.e (.nm 1)) (.some (.o2 .ne (.fr (.lc (.nm 10) (.rg1 (.o2 .sub (.nm 4) (.k (.int 1)))) (.some (.bo true (.cons (.o2 .eq (.ix (.nm 9) (.nm 10)) (.ix (.nm 2) (.k (.int 1)))) (.cons (.o2 .eq (.ix (.nm 9) (.o2 .add (.nm 10) (.k (.int 1)))) (.ix (.nm 2) (.k (.int 2)))) .nil)))) (.nm 10) [10])) (.fr (.lst .nil)))) (.nm 9) [9])) (.fr (.lst .nil)))) .nil) .nil) (.cons (.ite (.o2 .eq (.nm 3) (.k (.str ("in" : Str)))) (.cons (.asg (.nm 11) (.ix (.nm 2) (.k (.int 3)))) (.cons (.ret (.o2 .eq (.fr (.lc (.nm 9) (.e (.nm 1)) (.some (.o2 .ne (.fr (.lc (.nm 10) (.rg1 (.o2 .add (.o2 .sub (.nm 4) (.nm 11)) (.k (.int 1)))) (.some (.o2 .gt (.bi .len (.cons (.fr (.lc (.nm 12) (.e (.sl (.nm 9) (.some (.nm 10)) (.some (.o2 .add (.nm 10) (.nm 11))))) (.some (.o2 .eq (.nm 12) (.ix (.nm 2) (.k (.int 2))))) (.k (.int 1)) [12])) .nil)) (.ix (.nm 2) (.k (.int 1))))) (.nm 10) [10])) (.fr (.lst .nil)))) (.nm 9) [9])) (.fr (.lst .nil)))) .nil)) .nil) (.cons (.asg (.nm 9) (.ix (.nm 1) (.ix (.nm 2) (.k (.int 1))))) (.cons (.ite (.o2 .eq (.nm 3) (.k (.str ("has" : Str)))) (.cons (.ret (.o2 .eq (.ix (.nm 9) (.o2 .sub (.ix (.nm 2) (.k (.int 3))) (.k (.int 1)))) (.ix (.nm 2) (.k (.int 2))))) .nil) .nil) (.cons (.ite (.o2 .eq (.nm 3) (.k (.str ("not" : Str)))) (.cons (.ret (.o2 .ne (.ix (.nm 9) (.o2 .sub (.ix (.nm 2) (.k (.int 3))) (.k (.int 1)))) (.ix (.nm 2) (.k (.int 2))))) .nil) .nil) (.cons (.asg (.nm 7) (.bi .len (.cons (.fr (.lc (.nm 12) (.e (.nm 9)) (.some (.o2 .eq (.nm 12) (.ix (.nm 2) (.k (.int 3))))) (.nm 12) [12])) .nil))) (.cons (.ret (.ite (.o2 .eq (.nm 3) (.k (.str ("least" : Str)))) (.o2 .ge (.nm 7) (.ix (.nm 2) (.k (.int 2)))) (.o2 .le (.nm 7) (.ix (.nm 2) (.k (.int 2)))))) .nil))))))))
def b__law_refused : Sts := .cons (.asg (.nm 6) (.ca 251 (.cons (.nm 0) (.cons (.nm 2) (.cons (.nm 5) .nil))))) (.cons (.asg (.nm 7) (.fr (.lst (.cons (.heard (.ca 231 (.cons (.nm 4) (.cons (.nm 6) .nil)))) (.cons (.heard (.ca 230 (.cons (.nm 4) (.cons (.nm 6) (.cons (.k (.non)) .nil))))) (.cons (.heard (.ca 230 (.cons (.nm 4) (.cons (.nm 5) (.cons (.bi .len (.cons (.nm 3) .nil)) .nil))))) (.cons (.heard (.ca 231 (.cons (.nm 1) (.cons (.nm 6) .nil)))) (.cons (.heard (.ca 232 (.cons (.k (.non)) (.cons (.k (.non)) .nil)))) .nil)))))))) (.cons (.asg (.nm 8) (.fr (.lst (.cons (.tup (.cons (.k (.str ("bad" : Str))) (.cons (.k (.str ("roster" : Str))) (.cons (.k (.bl true)) .nil)))) (.cons (.tup (.cons (.k (.str ("bad" : Str))) (.cons (.k (.str ("roster" : Str))) (.cons (.k (.bl true)) .nil)))) (.cons (.tup (.cons (.k (.str ("bad" : Str))) (.cons (.k (.str ("number" : Str))) (.cons (.k (.bl true)) .nil)))) (.cons (.tup (.cons (.k (.str ("bad" : Str))) (.cons (.k (.str ("ward" : Str))) (.cons (.k (.bl true)) .nil)))) (.cons (.tup (.cons (.k (.str ("bad" : Str))) (.cons (.k (.str ("ward" : Str))) (.cons (.k (.bl true)) .nil)))) .nil)))))))) (.cons (.ret (.bo true (.cons (.ca 250 (.cons (.nm 7) (.cons (.nm 8) .nil))) (.cons (.o2 .isx (.ca 232 (.cons (.nm 4) (.cons (.nm 6) .nil))) (.k (.bl false))) .nil)))) .nil)))
def b_law : Sts := .cons (.alc 1 (.lst (.cons (.nm 0) (.cons (.k (.int 0)) (.cons (.k (.int 7402602)) (.cons (.k (.int 0)) .nil)))))) (.cons (.asg (.nm 2) (.ca 239 (.cons (.nm 1) (.cons (.k (.int 1000000000)) (.cons (.k (.int 12)) .nil))))) (.cons (.asg (.tp (.cons (.nm 3) (.cons (.nm 4) (.cons (.nm 5) (.cons (.nm 6) .nil))))) (.nm 2)) (.cons (.asg (.nm 7) (.ca 241 (.cons (.nm 2) .nil))) (.cons (.fr (.nm 8) (.rg1 (.k (.int 3))) (.cons (.asg (.nm 9) (.ca 242 (.cons (.nm 1) (.cons (.nm 3) .nil)))) (.cons (.own 10 (.lc (.nm 11) (.e (.nm 5)) .none (.ca 243 (.cons (.nm 3) (.cons (.nm 9) (.cons (.nm 11) .nil)))) [11])) (.cons (.fz 10) (.cons (.ite (.nt (.ca 250 (.cons (.fr (.lc (.nm 12) (.rg1 (.bi .len (.cons (.nm 5) .nil))) .none (.ca 230 (.cons (.nm 7) (.cons (.nm 9) (.cons (.nm 12) .nil)))) [12])) (.cons (.nm 10) .nil)))) (.cons (.ret (.k (.bl false))) .nil) .nil) (.cons (.ite (.nt (.ca 250 (.cons (.fr (.lst (.cons (.ca 231 (.cons (.nm 7) (.cons (.nm 9) .nil))) (.cons (.ca 232 (.cons (.nm 7) (.cons (.nm 9) .nil))) .nil)))) (.cons (.fr (.lst (.cons (.bi .tuple (.cons (.fr (.lc (.nm 12) (.rg1 (.bi .len (.cons (.nm 10) .nil))) (.some (.nt (.ix (.nm 10) (.nm 12)))) (.nm 12) [12])) .nil)) (.cons (.o2 .notin (.k (.bl false)) (.nm 10)) .nil)))) .nil)))) (.cons (.ret (.k (.bl false))) .nil) .nil) .nil)))))) (.cons (.ret (.ca 252 (.cons (.nm 1) (.cons (.nm 2) (.cons (.nm 3) (.cons (.nm 5) (.cons (.nm 7) (.cons (.nm 9) .nil)))))))) .nil)))))
end Rg
set_option Elab.async false
set_option linter.all false
set_option maxRecDepth 100000
set_option maxHeartbeats 4000000
namespace Rg
open PySem PySem.Spec PyProof.Rows L2
inductive VL (T : Tab) (l : AS) (H : Hp) : List D → List V → Prop
  | nil : VL T l H [] []
  | cons {d v ds vs} : Vw T l H d v → VL T l H ds vs → VL T l H (d :: ds) (v :: vs)
def rB (T : Tab) (f : List D → Option D) : List V → Hp → VK → Prop := fun vs H Q => ∃ l ds d, (∀ a, l a → H a ≠ none) ∧ VL T l H ds vs ∧ f ds = some d ∧ Mkd T l H d Q
def rM (T : Tab) (f : D → List D → Option D) : V → List V → Hp → VK → Prop := fun v vs H Q => ∃ l dx ds d, (∀ a, l a → H a ≠ none) ∧ Vw T l H dx v ∧ VL T l H ds vs ∧ f dx ds = some d ∧ Mkd T l H d Q
def rS (T : Tab) : V → Option Int → Option Int → Hp → VK → Prop := fun v lo hi H Q => ∃ l dx d, (∀ a, l a → H a ≠ none) ∧ Vw T l H dx v ∧ slD dx lo hi = some d ∧ Mkd T l H d Q
theorem VL.one {T : Tab} {l : AS} {H : Hp} {d : D} {vs : List V} (h : VL T l H [d] vs) : ∃ v, vs = [v] ∧ Vw T l H d v := by
  cases h with
  | cons h r => cases r; exact ⟨_, rfl, h⟩
theorem IxR.imp {X : Cx} {r r' : R2} (h : IxR X r) (i : ∀ x y H Q, r' x y H Q → r x y H Q) : IxR X r' :=
  fun value slice pins s σ H x y v u Q I rx ry q e => h value slice pins s σ H x y v u Q I rx ry (i _ _ _ _ q) e
theorem SlR.imp {X : Cx} {r r' : V → Option Int → Option Int → Hp → VK → Prop} (h : L2.SlR X r) (i : ∀ x lo hi H Q, r' x lo hi H Q → r x lo hi H Q) : L2.SlR X r' :=
  fun pins s σ H x v vl vu lo hi sl Q I rx hs pl pu q => h pins s σ H x v vl vu lo hi sl Q I rx hs pl pu (i _ _ _ _ _ q)
theorem CallR.imp {X : Cx} {f : Value} {r r' : List V → Hp → VK → Prop} (h : CallR X f r) (i : ∀ vs H Q, r' vs H Q → r vs H Q) : CallR X f r' :=
  fun pins s σ H xs us Q I rs q => h pins s σ H xs us Q I rs (i _ _ _ q)
theorem MtR.imp {X : Cx} {id : String} {r r' : V → List V → Hp → VK → Prop} (h : MtR X id r) (i : ∀ v vs H Q, r' v vs H Q → r v vs H Q) : MtR X id r' :=
  fun pins s σ H x xs v us Q I rx rs q => h pins s σ H x xs v us Q I rx rs (i _ _ _ _ q)
theorem Vw.seqL {T : Tab} {l : AS} {H : Hp} {K : PySem.W.Frag} {ds : List D} {v : V} (h : Vw T l H (.lst ds) v) : ∃ a vs, v = .ref a ∧ SqL K H a vs ∧ RpL T (hide l H) ds vs := by
  obtain ⟨a, vs, e, h1, h2⟩ := h.lst'
  exact ⟨a, vs, e, .inl h1, h2⟩
theorem Vw.seqT {T : Tab} {l : AS} {H : Hp} {K : PySem.W.Frag} {c : Bool} {ds : List D} {v : V} (h : Vw T l H (.tp c ds) v) : ∃ a vs, v = .ref a ∧ SqT K H a vs ∧ RpL T (hide l H) ds vs := by
  obtain ⟨a, vs, e, h1, _, h2⟩ := h.tp
  exact ⟨a, vs, e, .inl h1, h2⟩
theorem RpL.at {T : Tab} {H : Hp} {ds : List D} {vs : List V} {i : Int} {d : D} (r : RpL T H ds vs) (e : atI ds i = some d) : ∃ v, atI vs i = some v ∧ Rp T H d v := by
  unfold atI at e ⊢
  rw [r.length] at e
  cases k : ixN vs.length i with
  | none => rw [k] at e; cases e
  | some j =>
    rw [k] at e
    exact r.get e
section
variable {X : Cx} {T : Tab}
theorem ix_dct (hu : X.A.units + 1 < cLine) : IxR X (fun x y H Q => ∃ a v, x = .ref a ∧ DGet H a y (some v) ∧ Q v H) := by
  intro value slice pins s σ H x y v u Q I rx ry h hs
  obtain ⟨a, w, rfl, g, q⟩ := h
  cases rx
  exact tail_any (dict_typeIs I g) PySem.F.slot_dict_getitem.lookup (d_getItem hu I g ry fun w' s' I' r' => ⟨w, H, I', r', q⟩) hs
theorem Vw.rpd {l : AS} {H : Hp} {d : D} {v : V} (h : Rp T (hide l H) d v) : Vw T l H d v := .dat h
theorem ixD_ok (hu : X.A.units + 1 < cLine) : IxR X (rD2 T ixD) := by
  refine IxR.imp (IxR.or ix_list (IxR.or ix_tup (IxR.or ix_str (ix_dct hu)))) fun x y H Q ⟨l, da, db, d, n, va, vb, e, q⟩ => ?_
  cases da with
  | lst ds =>
    cases db with
    | int i =>
      obtain ⟨a, vs, rfl, h, r⟩ := va.seqL (K := X.K)
      obtain ⟨v, h2, r2⟩ := r.at (show atI ds i = some d from e)
      exact .inl ⟨a, vs, i, v, rfl, vb.int, h, h2, q.same r2⟩
    | _ => cases e
  | tp c ds =>
    cases db with
    | int i =>
      obtain ⟨a, vs, rfl, h, r⟩ := va.seqT (K := X.K)
      obtain ⟨v, h2, r2⟩ := r.at (show atI ds i = some d from e)
      exact .inr (.inl ⟨a, vs, i, v, rfl, vb.int, h, h2, q.same r2⟩)
    | _ => cases e
  | str z =>
    cases db with
    | int i =>
      have e' : (if z.length ≤ LN then (atI z.cps.toList i).map fun c => D.str ⟨#[c]⟩ else none) = some d := e
      split at e'
      · rename_i hz
        cases k : atI z.cps.toList i with
        | none => rw [k] at e'; cases e'
        | some c =>
          rw [k] at e'
          cases e'
          exact .inr (.inr (.inl ⟨z, i, c, va.str, vb.int, hz, k, q.sc fun _ => .str _⟩))
      · cases e'
    | _ => cases e
  | dct t m =>
    have e' : (if keyOk t db = true then dfind m db else none) = some d := by cases db <;> exact e
    split at e'
    · rename_i ho
      obtain ⟨a, r, rfl, hg, hr⟩ := dget_of ho va vb
      rw [e'] at hr
      cases r with
      | none => exact hr.elim
      | some w => exact .inr (.inr (.inr ⟨a, w, rfl, hg, q.same hr⟩))
    · cases e'
  | _ => cases db <;> cases e
theorem sl_tupF : L2.SlR X (fun x lo hi H Q => ∃ a xs, x = .ref a ∧ Rd H a (.tup xs) ∧ (cutV xs lo hi = xs → Q (.ref a) H) ∧ ∀ p o, H p = none → o.dict = none → Q (.ref p) (upd H p (.frz o (.tup (cutV xs lo hi))))) := by
  intro pins s σ H x v vl vu lo hi sl Q I rx hs pl pu h
  obtain ⟨a, xs, rfl, hx, q1, q2⟩ := h
  cases rx
  obtain ⟨its, r, ht, hz⟩ := I.tuple (.inl hx)
  have hlen : its.toArray.size = xs.length := by rw [List.size_toArray]; exact r.length.symm
  by_cases hw : HT.sIx xs.length 0 lo = 0 ∧ HT.sIx xs.length xs.length hi = xs.length
  · refine ⟨"tuple", _, PyProof.Rows.slot_tuple_getitem.lookup, ht.typeIs, ?_⟩
    refine getItem_tuple_whole ht hs pl pu (by rw [hlen]; exact hw) ⟨.ref a, H, I, rfl, q1 ?_⟩
    unfold cutV
    rw [hw.1, hw.2]
    simp
  · refine ⟨"tuple", _, PyProof.Rows.slot_tuple_getitem.lookup, ht.typeIs, ?_⟩
    refine HT.getItem_tuple_cut ht hs pl pu (by rw [hlen]; exact hw) ?_ (by rw [hlen]; exact hz)
    rw [hlen]
    exact ⟨.ref s.heap.objs.size, _, Inv.fnew (t' := s.toks) I ((r.drop (HT.sIx xs.length 0 lo)).take (HT.sIx xs.length xs.length hi - HT.sIx xs.length 0 lo)) (Nat.le_trans (cutV_length xs lo hi) hz), rfl, q2 _ _ (I.hok.fresh (Nat.le_refl _)) rfl⟩
theorem RpL.cut {H : Hp} {ds : List D} {vs : List V} (r : RpL T H ds vs) (lo hi : Option Int) : RpL T H (cutD ds lo hi) (cutV vs lo hi) := by
  unfold cutD cutV
  rw [r.length]
  exact (r.drop _).take _
theorem slD_ok : L2.SlR X (rS T) := by
  refine SlR.imp (L2.SlR.or sl_list (L2.SlR.or sl_tupF sl_str)) fun x lo hi H Q ⟨l, da, d, n, va, e, q⟩ => ?_
  cases da with
  | lst ds =>
    cases e
    obtain ⟨a, vs, rfl, h, r⟩ := va.seqL (K := X.K)
    exact .inl ⟨a, vs, rfl, h, fun p hp => q.lst n (r.cut lo hi) hp⟩
  | tp c ds =>
    cases c with
    | false => cases e
    | true =>
      cases e
      obtain ⟨a, vs, o, rfl, h1, n1, h1', r⟩ := va.tup
      refine .inr (.inl ⟨a, vs, rfl, .inr ⟨_, h1⟩, fun e => ?_, fun p o hp ho => q.tup n (r.cut lo hi) hp ho⟩)
      have r2 := r.cut lo hi
      rw [e] at r2
      exact q.same (.tup h1' n1 r2)
  | str z =>
    have e' : (if z.length ≤ LN then some (D.str (cutS z lo hi)) else none) = some d := e
    split at e'
    · rename_i hz
      cases e'
      exact .inr (.inr ⟨z, va.str, hz, q.sc fun _ => .str _⟩)
    · cases e'
  | _ => cases e
def rB1 (T : Tab) (f : D → Option D) : List V → Hp → VK → Prop := fun vs H Q => ∃ l v dx d, vs = [v] ∧ (∀ a, l a → H a ≠ none) ∧ Vw T l H dx v ∧ f dx = some d ∧ Mkd T l H d Q
theorem rB_one {b : Bi} {vs : List V} {H : Hp} {Q : VK} (h : rB T b.f vs H Q) : rB1 T b.f1 vs H Q := by
  obtain ⟨l, ds, d, n, va, e, q⟩ := h
  match ds, va, e with
  | [dx], va, e =>
    obtain ⟨v, rfl, vb⟩ := va.one
    exact ⟨l, v, dx, d, rfl, n, vb, e, q⟩
theorem call_lenB : CallR X (.builtin "len") (rB T Bi.len.f) := by
  refine CallR.imp (CallR.or call_len fun pins s σ H xs us Q I r (h : ∃ (a : Addr) (kvs : List (Key × V)), xs = [.ref a] ∧ Rd H a (.dK kvs) ∧ Q (.int kvs.length) H) => ?_) fun vs H Q h => ?_
  · obtain ⟨a, kvs, rfl, hd, q⟩ := h
    obtain ⟨u, rfl, rx⟩ := vals1 r
    cases rx
    exact d_len I hd fun t s' I' => ⟨.int _, H, I', ⟨_, rfl⟩, q⟩
  · obtain ⟨l, v, dx, d, rfl, n, va, e, q⟩ := rB_one h
    cases dx with
    | lst ds =>
      cases e
      obtain ⟨a, vs, rfl, h, r⟩ := va.seqL (K := X.K)
      exact .inl ⟨_, ds.length, rfl, .inl ⟨vs, h, r.length⟩, q.sc fun _ => .int _⟩
    | tp c ds =>
      cases e
      obtain ⟨a, vs, rfl, h, r⟩ := va.seqT (K := X.K)
      exact .inl ⟨_, ds.length, rfl, .inr ⟨vs, h, r.length⟩, q.sc fun _ => .int _⟩
    | str z =>
      have e' : (if z.length ≤ LN then some (D.int z.length) else none) = some d := e
      split at e'
      · rename_i hz
        cases e'
        rw [va.str]
        exact .inl ⟨_, z.length, rfl, ⟨hz, rfl⟩, q.sc fun _ => .int _⟩
      · cases e'
    | dct t m =>
      cases e
      cases t with
      | false =>
        obtain ⟨a, kvs, rfl, hr, rk⟩ := va.dK'
        refine .inr ⟨a, kvs, rfl, hr, ?_⟩
        rw [← rk.length]
        exact q.sc fun _ => .int _
      | true => cases va.rp
    | _ => cases e
theorem call_intB : CallR X (.type "int") (rB T Bi.int.f) := by
  refine CallR.imp call_int1 fun vs H Q h => ?_
  obtain ⟨l, v, dx, d, rfl, n, va, e, q⟩ := rB_one h
  cases dx with
  | int i =>
    cases e
    rw [va.int]
    exact .inl ⟨i, rfl, q.sc fun _ => .int _⟩
  | _ => cases e
theorem call_tupF : CallR X (.type "tuple") (fun xs H Q => ∃ p ys, xs = [.ref p] ∧ ((SqL X.K H p ys ∧ ∀ l o, H l = none → o.dict = none → Q (.ref l) (upd H l (.frz o (.tup ys)))) ∨ (SqT X.K H p ys ∧ Q (.ref p) H))) := by
  intro pins s σ H xs us Q I r h
  obtain ⟨p, ys, rfl, h⟩ := h
  obtain ⟨u, rfl, rx⟩ := vals1 r
  cases rx
  rcases h with ⟨hq, q⟩ | ⟨hq, q⟩
  · obtain ⟨its, r', pl, hz⟩ := I.list hq
    have hlen := r'.length
    refine call_tuple_list pl.isList (fun h' kp => ?_) (by simp only [List.size_toArray] <;> omega)
    have I1 : L2.Inv X pins σ H { s with heap := h' } := I.kept (t' := s.toks) kp
    exact ⟨.ref h'.objs.size, _, Inv.fnew (t' := s.toks) I1 r' hz, rfl, q _ _ (I1.hok.fresh (Nat.le_refl _)) rfl⟩
  · obtain ⟨its, r', pl, hz⟩ := I.tuple hq
    exact call_tuple_same pl ⟨.ref p, H, I, rfl, q⟩
theorem call_tupleB : CallR X (.type "tuple") (rB T Bi.tuple.f) := by
  refine CallR.imp call_tupF fun vs H Q h => ?_
  obtain ⟨l, v, dx, d, rfl, n, va, e, q⟩ := rB_one h
  cases dx with
  | lst ds =>
    cases e
    obtain ⟨a, vs, rfl, h, r⟩ := va.seqL (K := X.K)
    exact ⟨a, vs, rfl, .inl ⟨h, fun p o hp ho => q.tup n r hp ho⟩⟩
  | tp c ds =>
    cases c with
    | false => cases e
    | true =>
      cases e
      obtain ⟨a, vs, o, rfl, h1, n1, h1', r⟩ := va.tup
      exact ⟨a, vs, rfl, .inr ⟨.inl (.inr ⟨_, h1⟩), q.same (.tup h1' n1 r)⟩⟩
  | _ => cases e
theorem call_listB : CallR X (.type "list") (rB T Bi.list.f) := by
  refine CallR.imp call_list_of fun vs H Q h => ?_
  obtain ⟨l, v, dx, d, rfl, n, va, e, q⟩ := rB_one h
  cases dx with
  | lst ds =>
    cases e
    obtain ⟨a, vs, rfl, h, r⟩ := va.seqL (K := X.K)
    exact ⟨a, vs, rfl, .inl h, fun p hp => q.lst n r hp⟩
  | tp c ds =>
    cases e
    obtain ⟨a, vs, rfl, h, r⟩ := va.seqT (K := X.K)
    exact ⟨a, vs, rfl, .inr h, fun p hp => q.lst n r hp⟩
  | _ => cases e
theorem sumD_ints {H : Hp} : ∀ {ds : List D} {vs : List V} {i : Int}, RpL T H ds vs → sumD ds = some i → ∃ ns : List Int, vs = ns.map V.int ∧ ns.sum = i
  | [], _, _, .nil, e => by cases e; exact ⟨[], rfl, rfl⟩
  | .int j :: ds, _, i, .cons h r, e => by
    unfold sumD at e
    cases k : sumD ds with
    | none => rw [k] at e; cases e
    | some s =>
      rw [k] at e
      cases e
      cases h
      obtain ⟨ns, rfl, rfl⟩ := sumD_ints r k
      exact ⟨j :: ns, rfl, rfl⟩
  | .non :: _, _, _, _, e => by cases e
  | .bl _ :: _, _, _, _, e => by cases e
  | .str _ :: _, _, _, _, e => by cases e
  | .tp _ _ :: _, _, _, _, e => by cases e
  | .lst _ :: _, _, _, _, e => by cases e
  | .dct _ _ :: _, _, _, _, e => by cases e
  | .obj _ _ :: _, _, _, _, e => by cases e
theorem call_sumB (hc : X.calm = true) : CallR X (.builtin "sum") (rB T Bi.sum.f) := by
  refine CallR.imp (cr_sum hc) fun vs H Q h => ?_
  obtain ⟨l, v, dx, d, rfl, n, va, e, q⟩ := rB_one h
  cases dx with
  | lst ds =>
    have e' : (sumD ds).map D.int = some d := e
    obtain ⟨a, vs, rfl, h, r⟩ := va.seqL (K := X.K)
    cases k : sumD ds with
    | none => rw [k] at e'; cases e'
    | some i =>
      rw [k] at e'
      cases e'
      obtain ⟨ns, rfl, rfl⟩ := sumD_ints r k
      exact ⟨a, ns, rfl, h, q.sc fun _ => .int _⟩
  | _ => cases e
theorem count_plain {h : Heap} {vs : List Value} {xs : List PyData} {as : List Addr} {d : PyData} (rs : ReadsAll h vs xs as) (hxs : PyData.plainAll xs = true) :
    vs.countP (fun y => PyData.eqv (SeqAt.readOf h y) d) = xs.countP (fun y => PyData.eqv y d) := by
  rw [← SeqAt.readsAll_map_plain xs _ _ hxs rs, List.countP_map]
  rfl
theorem countD_py (l : List D) (x : D) : (D.pys l).countP (fun y => PyData.eqv y x.py) = countD l x := by
  rw [D.pys_map, List.countP_map]
  rfl
theorem count_cls {h : Heap} {a : Addr} {o : Obj} {t : String} {items : Array Value} {n : Nat} (e : h.get? a = some o) (hc : o.cls = .type t) (hd : o.data = .seq items n) : ∃ dd sl, h.get? a = some { cls := .type t, dict := dd, data := .seq items n, slots := sl } := by
  obtain ⟨c, dd, dt, sl⟩ := o
  simp only at hc hd
  subst hc hd
  exact ⟨dd, sl, e⟩
theorem mt_countL (hK : T.K = X.K) (hu : X.A.units + 65 < cLine) : MtR X "list.count" (rM T (fun d ds => match d with | .lst _ => cntD d ds | _ => none)) := by
  intro pins s σ H x xs v us Q I rx rxs ⟨l, dx, ds, d, n, va, vb, e, q⟩
  have dl : dLine = 60 := rfl
  cases dx with
  | lst ls =>
    match ds, vb, e with
    | [y], vb, e =>
      obtain ⟨w, rfl, vy⟩ := vb.one
      have e' : (if eqOk (.lst ls) y = true then some (D.int (countD ls y)) else none) = some d := e
      split at e'
      · rename_i hq
        cases e'
        simp only [eqOk, Bool.and_eq_true, decide_eq_true_eq] at hq
        obtain ⟨⟨h1, h2⟩, h3⟩ := hq
        obtain ⟨uy, rfl, ry⟩ := vals1 rxs
        obtain ⟨as, r1⟩ := reads_rp hK I va.rp h1 rx
        obtain ⟨bs, r2⟩ := reads_rp hK I vy.rp h2 ry
        rw [depth_lst] at h3
        have hp : PyData.plainAll (D.pys ls) = true := D.plain_pys _ (by simpa [D.pl] using h1)
        cases r1 with
        | list g1 g2 g3 g4 =>
          obtain ⟨dd, sl, g⟩ := count_cls g1 g2 g3
          refine call_meets PySem.F.slot_list_count ⟨_, g, rfl⟩ PySem.F.entry_list_count (PySem.F.args_list_count_2 _ _) (SeqAt.list_countAt _ _ _ dd sl uy (fun u => PyData.eqv (SeqAt.readOf s.heap u) y.py))
            ⟨g, SeqAt.items_plain g4 r2 hp (D.plain_py _ h2) ?_, ?_⟩
          · have := Nat.min_le_left (PyData.depthAll (D.pys ls)) y.py.depth
            show X.A.units + 1 + min (PyData.depthAll (D.pys ls)) y.py.depth < cLine
            omega
          · refine ⟨.int _, H, I.tok _, ⟨s.toks, rfl⟩, ?_⟩
            rw [count_plain g4 hp, countD_py]
            exact q.sc fun _ => .int _
      · cases e'
    | [], _, e => cases e
    | _ :: _ :: _, _, e => cases e
  | _ => cases e
theorem mt_countT (hK : T.K = X.K) (hu : X.A.units + 65 < cLine) : MtR X "tuple.count" (rM T (fun d ds => match d with | .tp _ _ => cntD d ds | _ => none)) := by
  intro pins s σ H x xs v us Q I rx rxs ⟨l, dx, ds, d, n, va, vb, e, q⟩
  have dl : dLine = 60 := rfl
  cases dx with
  | tp c ls =>
    match ds, vb, e with
    | [y], vb, e =>
      obtain ⟨w, rfl, vy⟩ := vb.one
      have e' : (if c = true ∧ eqOk (.tup ls) y = true then some (D.int (countD ls y)) else none) = some d := e
      split at e'
      · rename_i hq
        cases e'
        obtain ⟨rfl, hq⟩ := hq
        simp only [eqOk, Bool.and_eq_true, decide_eq_true_eq] at hq
        obtain ⟨⟨h1, h2⟩, h3⟩ := hq
        obtain ⟨uy, rfl, ry⟩ := vals1 rxs
        obtain ⟨as, r1⟩ := reads_rp hK I va.rp h1 rx
        obtain ⟨bs, r2⟩ := reads_rp hK I vy.rp h2 ry
        rw [depth_tup] at h3
        have hp : PyData.plainAll (D.pys ls) = true := D.plain_pys _ (by simpa [D.pl] using h1)
        cases r1 with
        | tuple g1 g2 g3 g4 =>
          obtain ⟨dd, sl, g⟩ := count_cls g1 g2 g3
          refine call_meets PySem.F.slot_tuple_count ⟨_, g, rfl⟩ PySem.F.entry_tuple_count (PySem.F.args_tuple_count_2 _ _) (SeqAt.tuple_countAt _ _ _ dd sl uy (fun u => PyData.eqv (SeqAt.readOf s.heap u) y.py))
            ⟨g, SeqAt.items_plain g4 r2 hp (D.plain_py _ h2) ?_, ?_⟩
          · have := Nat.min_le_left (PyData.depthAll (D.pys ls)) y.py.depth
            show X.A.units + 1 + min (PyData.depthAll (D.pys ls)) y.py.depth < cLine
            omega
          · refine ⟨.int _, H, I.tok _, ⟨s.toks, rfl⟩, ?_⟩
            rw [count_plain g4 hp, countD_py]
            exact q.sc fun _ => .int _
      · cases e'
    | [], _, e => cases e
    | _ :: _ :: _, _, e => cases e
  | _ => cases e
def tyTup (T : Tab) (x : V) (H : Hp) : Prop := ∃ l ds, Vw T l H (.tup ds) x
theorem ty_tup : TyOk X "tuple" (tyTup T) := by
  intro pins σ H s x v I r ⟨l, ds, h⟩
  obtain ⟨a, vs, o, rfl, h1, n1, _, _⟩ := h.tup
  cases r
  obtain ⟨e, ok⟩ := I.hok a _ h1
  obtain ⟨z, its, _, o2, e2, hc, _⟩ := ok
  rw [e] at e2
  cases e2
  refine ⟨⟨o, e, hc⟩, fun b eb => ?_⟩
  cases eb
  exact ⟨o, e, n1⟩
def tyLst (T : Tab) (x : V) (H : Hp) : Prop := ∃ l ds, Vw T l H (.lst ds) x
theorem ty_lst : TyOk X "list" (tyLst T) := by
  intro pins σ H s x v I r ⟨l, ds, h⟩
  obtain ⟨a, vs, rfl, h1, _⟩ := h.lst'
  cases r
  obtain ⟨z, its, n, _, e⟩ := h1.ok I.hok
  refine ⟨⟨_, e, rfl⟩, fun b eb => ?_⟩
  cases eb
  exact ⟨_, e, rfl⟩
end
end Rg
set_option Elab.async false
set_option linter.all false
set_option maxRecDepth 100000
set_option maxHeartbeats 4000000
namespace Rg
open PySem PySem.Spec PyProof.Rows L2 SrtO
section
variable {prog : Program} {w : World} {A : Around} {E : Value → Shared → Prop} {s : Shared}
theorem sorted_seqO {l : Addr} {vs : List Value} {ltv : Value → Value → Bool} {T : String} {u : Obj} {n : Nat} {Q : Value → Shared → Prop} (O : Swo ltv) (hT : T = "list" ∨ T = "tuple") (ho : s.heap.get? l = some u) (hc : u.cls = .type T) (hd : u.data = .seq vs.toArray n) (hz : vs.length ≤ sizeLine)
    (hS : 2 ≤ vs.length → ∀ (g : Heap) (a : Addr), SortableO prog w A.in1.in1 { s with heap := g } a vs ltv)
    (h : ∀ (out : List Value) (g : Heap) (a : Addr), Srtd ltv out → Stb ltv out vs → (∀ b o, s.heap.get? b = some o → g.get? b = some o) → s.heap.get? a = none → (∀ H : Hp, HOk prog w H s.heap → H a = none) → (∃ e, g.get? a = some (seqObj "list" out.toArray e)) → Q (.ref a) { s with heap := g }) :
    wpAny (model prog w) A (call (.builtin "sorted") [.ref l]) Q E s := by
  refine Calls.call_function_entry kind_sorted plain_sorted entry_sorted (args_sorted1 _) ?_
  unfold Builtin.«sorted»
  refine wpAny_bind (m := checkCount "sorted" 1 1 _) (wpAny_pure ?_)
  refine wpAny_bind (wpAny_collect_seq l hT ho hc hd (fun g keep => ?_) (by simpa using hz))
  refine wpAny_bind (wpAny_newList ?_ hz)
  have h1 : (g.push (seqObj "list" vs.toArray 0)).get? g.objs.size = some (seqObj "list" vs.toArray 0) := Heap.get?_push_size _ rfl
  show wpAny _ _ _ _ _ { s with heap := g.push (seqObj "list" vs.toArray 0) }
  refine wpAny_bind (wpAny_holding (wpAny_call_entry slot_list_sort ⟨_, h1, rfl⟩ entry_list_sort (list_sort_ord O h1 hz (fun h2 => hS h2 _ _) fun out hs hb => ⟨_, rfl, ?_⟩) (args_list_sort _)))
  have keep2 : ∀ b o, s.heap.get? b = some o → (sortedHeap (g.push (seqObj "list" vs.toArray 0)) g.objs.size vs out.toArray).get? b = some o := fun b o q => by
    have q2 := keep b o q
    have hlt : b < g.objs.size := Heap.lt_size q2
    rw [sortedHeap_old (Nat.ne_of_lt hlt) (by rw [size_push']; exact Nat.lt_succ_of_lt hlt)]
    exact Heap.get?_push_of_some _ q2
  refine wpAny_pure ⟨_, rfl, h out _ _ hs hb keep2 ?_ (fun H x => (x.kept keep).fresh (Nat.le_refl _)) (sortedHeap_at h1)⟩
  cases q : s.heap.get? g.objs.size with
  | none => rfl
  | some o => exact absurd (Heap.lt_size (keep _ _ q)) (Nat.lt_irrefl _)
end
section
variable {X : Cx} {T : Tab}
def rSortSq (K : PySem.W.Frag) : List V → Hp → VK → Prop := fun vs H Q => ∃ (a : Addr) (ns : List Int), vs = [V.ref a] ∧ (SqL K H a (ns.map V.int) ∨ SqT K H a (ns.map V.int)) ∧
  ∀ (ns' : List Int) (p : Addr), ns'.Perm ns → ns'.Pairwise (· ≤ ·) → H p = none → Q (.ref p) (upd H p (.lst (ns'.map V.int)))
theorem cr_sortSq : CallR X (.builtin "sorted") (rSortSq X.K) := by
  intro pins s σ H vs us Q I r h
  obtain ⟨a, ns, rfl, hs, q⟩ := h
  rw [Vals.ref1 r]
  have key : ∀ (its : List Value) (u : Obj) (n : Nat) (C : String), C = "list" ∨ C = "tuple" → Vals (ns.map V.int) its → s.heap.get? a = some u → u.cls = .type C → u.data = .seq its.toArray n → (ns.map V.int).length ≤ sizeLine →
      wpAny (model X.prog X.w) X.A (call (.builtin "sorted") [.ref a]) (EP X pins σ Q) X.xe s := by
    intro its u n C hC rv ho hc hd hz
    have hi := rv.ints
    refine sorted_seqO swo_int hC ho hc hd (by rw [← rv.length]; exact hz) (fun h2 g b => ints_sortable hi h2) fun out g b h1 h2 keep hn hH he => ?_
    obtain ⟨k1, k2, k3⟩ := ints_out hi h1 h2
    obtain ⟨e, he⟩ := he
    have hlen : ((out.map iv).map V.int).length ≤ sizeLine := by
      rw [List.length_map, k2.length_eq]
      rw [List.length_map] at hz
      exact hz
    exact ⟨.ref _, upd H b (.lst ((out.map iv).map V.int)), I.laidN (t' := s.toks) keep hn (hH H I.hok) ⟨hlen, out, e, vals_of_ints k1, he⟩, rfl, q _ _ k2 k3 (hH H I.hok)⟩
  rcases hs with hs | hs
  · obtain ⟨its, rv, hp, hz⟩ := I.list hs
    obtain ⟨u, ho, hc, n, hd⟩ := hp.isList
    exact key its u n "list" (.inl rfl) rv ho hc hd hz
  · obtain ⟨its, rv, ⟨u, ho, hc, n, hd⟩, hz⟩ := I.tuple hs
    exact key its u n "tuple" (.inr rfl) rv ho hc hd hz
theorem insI_mem (x : Int) : ∀ l : List Int, (insI x l).Perm (x :: l)
  | [] => List.Perm.refl _
  | y :: l => by
    unfold insI
    by_cases h : x ≤ y
    · rw [if_pos h]
    · rw [if_neg h]
      exact ((insI_mem x l).cons y).trans (List.Perm.swap x y l)
theorem srtI_perm : ∀ l : List Int, (srtI l).Perm l
  | [] => List.Perm.refl _
  | x :: l => (insI_mem x (srtI l)).trans ((srtI_perm l).cons x)
theorem insI_pw (x : Int) : ∀ l : List Int, l.Pairwise (· ≤ ·) → (insI x l).Pairwise (· ≤ ·)
  | [], _ => by simp [insI]
  | y :: l, h => by
    obtain ⟨h1, h2⟩ := List.pairwise_cons.mp h
    unfold insI
    by_cases e : x ≤ y
    · rw [if_pos e]
      refine List.pairwise_cons.mpr ⟨fun z hz => ?_, h⟩
      rcases List.mem_cons.mp hz with rfl | hz
      · exact e
      · have := h1 z hz
        omega
    · rw [if_neg e]
      refine List.pairwise_cons.mpr ⟨fun z hz => ?_, insI_pw x l h2⟩
      rcases List.mem_cons.mp ((insI_mem x l).mem_iff.mp hz) with rfl | hz
      · omega
      · exact h1 z hz
theorem srtI_pw : ∀ l : List Int, (srtI l).Pairwise (· ≤ ·)
  | [] => List.Pairwise.nil
  | x :: l => insI_pw x _ (srtI_pw l)
theorem pw_unique : ∀ {a b : List Int}, a.Perm b → a.Pairwise (· ≤ ·) → b.Pairwise (· ≤ ·) → a = b
  | [], b, p, _, _ => (List.Perm.nil_eq p)
  | x :: a, [], p, _, _ => absurd p.length_eq (by simp)
  | x :: a, y :: b, p, h1, h2 => by
    obtain ⟨a1, a2⟩ := List.pairwise_cons.mp h1
    obtain ⟨b1, b2⟩ := List.pairwise_cons.mp h2
    have e : x = y := by
      have i1 : x ∈ y :: b := p.mem_iff.mp List.mem_cons_self
      have i2 : y ∈ x :: a := p.mem_iff.mpr List.mem_cons_self
      rcases List.mem_cons.mp i1 with e | i1
      · exact e
      · rcases List.mem_cons.mp i2 with e | i2
        · exact e.symm
        · have := a1 y i2
          have := b1 x i1
          omega
    subst e
    rw [pw_unique ((List.perm_cons x).mp p) a2 b2]
theorem RpL.intsV {H : Hp} : ∀ {ds : List D} {vs : List V} {ns : List Int}, RpL T H ds vs → intsL ds = some ns → vs = ns.map V.int
  | [], _, _, .nil, e => by cases e; rfl
  | d :: ds, _, ns, .cons h r, e => by
    cases d with
    | int i =>
      cases q : intsL ds with
      | none => simp only [intsL, q] at e; cases e
      | some rs =>
        simp only [intsL, q] at e
        cases e
        cases h
        rw [RpL.intsV r q]
        rfl
    | _ => cases e
theorem RpL.ints (H : Hp) : ∀ ns : List Int, RpL T H (ns.map D.int) (ns.map V.int)
  | [] => .nil
  | n :: ns => .cons (.int n) (RpL.ints H ns)
theorem call_sortB : CallR X (.builtin "sorted") (rB T Bi.sorted.f) := by
  refine CallR.imp cr_sortSq fun vs H Q h => ?_
  obtain ⟨l, v, dx, d, rfl, n, va, e, q⟩ := rB_one h
  have go : ∀ (ds : List D) (us : List V) (a : Addr), v = .ref a → (SqL X.K H a us ∨ SqT X.K H a us) → RpL T (hide l H) ds us → (intsL ds).map (fun r => D.lst ((srtI r).map .int)) = some d → rSortSq X.K [v] H Q := by
    intro ds us a ev hs r e
    cases hi : intsL ds with
    | none => rw [hi] at e; cases e
    | some ns =>
      rw [hi] at e
      cases e
      have hu := r.intsV hi
      subst hu
      refine ⟨a, ns, by rw [ev], hs, fun ns' p hp hw hn => ?_⟩
      have e2 : ns' = srtI ns := pw_unique (hp.trans (srtI_perm ns).symm) hw (srtI_pw ns)
      rw [e2]
      exact q.lst n (RpL.ints _ _) hn
  cases dx with
  | lst ds =>
    obtain ⟨a, us, ev, hs, r⟩ := va.seqL (K := X.K)
    exact go ds us a ev (.inl hs) r e
  | tp c ds =>
    obtain ⟨a, us, ev, hs, _, r⟩ := va.tp
    exact go ds us a ev (.inr (.inl hs)) r e
  | _ => cases e
end
end Rg
set_option Elab.async false
set_option linter.all false
set_option maxRecDepth 100000
set_option maxHeartbeats 4000000
namespace Rg
open PySem PySem.Spec PyProof.Rows L2
section
variable {α β γ δ : Type}
def tG (T : Tab) (Wq : AS → Ow → Hp → α → β → Prop) (Wx : WX) (den : List Slot → List Cell → Res α) : L2.St → Hp → (β → Hp → Prop) → Prop :=
  fun σ H Q => ∃ hr ow env S, Rel T hr ow H env S σ ∧ Post T Wq hr ow env σ H (den env S) Q Wx
abbrev tI (T : Tab) (Wx : WX) (den : List Slot → List Cell → Res W) : TE := tG T (WR T) Wx den
abbrev tIs (T : Tab) (Wx : WX) (den : List Slot → List Cell → Res (List W)) : TA := tG T (WL T) Wx den
variable {T : Tab} {Wx : WX} {Wq : AS → Ow → Hp → α → β → Prop} {Wq' : AS → Ow → Hp → γ → δ → Prop} {σ : L2.St} {H : Hp} {Q : δ → Hp → Prop}
theorem tG.run {da : List Slot → List Cell → Res α} {k : α → List Cell → Res γ} {hr : AS} {ow : Ow} {env : List Slot} {S : List Cell} (R : Rel T hr ow H env S σ)
    (h : Post T Wq' hr ow env σ H ((da env S).bind k) Q Wx) : tG T Wq Wx da σ H (fun v H1 => ∃ ow1 S1 x, Gr hr ow H ow1 H1 ∧ Slo ow H ow1 H1 ∧ Rel T hr ow1 H1 env S1 σ ∧ Wq hr ow1 H1 x v ∧ Post T Wq' hr ow1 env σ H1 (k x S1) Q Wx) :=
  ⟨hr, ow, env, S, R, (Post.bind (Wq := Wq) h).imp fun v H1 ⟨w, S1, ow1, _, g, s, r, q, p⟩ => ⟨ow1, S1, w, g, s, r, q, p⟩⟩
theorem tG.bind1 {da : List Slot → List Cell → Res α} {k : List Slot → α → List Cell → Res γ} (h : tG T Wq' Wx (fun env S => (da env S).bind (k env)) σ H Q) :
    tG T Wq Wx da σ H (fun v H1 => ∃ hr ow env S x, Rel T hr ow H1 env S σ ∧ Wq hr ow H1 x v ∧ Post T Wq' hr ow env σ H1 (k env x S) Q Wx) := by
  obtain ⟨hr, ow, env, S, R, p⟩ := h
  obtain ⟨hr', ow', env', S', R', p'⟩ := tG.run (Wq := Wq) R p
  exact ⟨hr', ow', env', S', R', p'.imp fun v H1 ⟨ow1, S1, x, g, s, r, q, p⟩ => ⟨hr, ow1, env, S1, x, r, q, p⟩⟩
theorem tG.mono {da : List Slot → List Cell → Res α} {Q Q' : β → Hp → Prop} (h : tG T Wq Wx da σ H Q) (i : ∀ v H1, Q v H1 → Q' v H1) : tG T Wq Wx da σ H Q' := by
  obtain ⟨hr, ow, env, S, R, p⟩ := h
  exact ⟨hr, ow, env, S, R, p.imp i⟩
theorem tG.run2 {db : List Slot → List Cell → Res α} {k : α → List Cell → Res γ} {hr : AS} {ow : Ow} {env : List Slot} {S : List Cell} {w : W} {v : V} (R : Rel T hr ow H env S σ) (hw : WR T hr ow H w v)
    (h : Post T Wq' hr ow env σ H ((db env S).bind k) Q Wx) : tG T Wq Wx db σ H (fun u H1 => ∃ ow1 S1 x, Rel T hr ow1 H1 env S1 σ ∧ WR T hr ow1 H1 w v ∧ Wq hr ow1 H1 x u ∧ Post T Wq' hr ow1 env σ H1 (k x S1) Q Wx) :=
  (tG.run (Wq := Wq) R h).mono fun u H1 ⟨ow1, S1, x, g, s, r, q, p⟩ => ⟨ow1, S1, x, r, hw.mono g s, q, p⟩
end
theorem Post.grow {α β : Type} {T : Tab} {Wq : AS → Ow → Hp → α → β → Prop} {hr : AS} {ow ow1 : Ow} {env : List Slot} {σ : L2.St} {H H1 : Hp} {R : Res α} {Q : β → Hp → Prop} {W : WX} (p : Post T Wq hr ow env σ H R Q W) (g : Gr hr ow H ow1 H1) (s : Slo ow H ow1 H1) :
    Post T Wq hr ow1 env σ H1 R Q W := by
  cases R with
  | ok w S0 => exact fun v' ow' H' g' s' r q => p v' ow' H' (g.trans g') (s.trans s') r q
  | ex x S0 => exact fun c' d' ow' H' g' s' r q => p c' d' ow' H' (g.trans g') (s.trans s') r q
  | bad => exact p
theorem PE.imp {X : Cx} {e : Expr} {t t' : TE} (h : PE X e t) (i : ∀ σ H Q, t' σ H Q → t σ H Q) : PE X e t' := ⟨fun pins s σ H Q I q => h.run pins s σ H Q I (i _ _ _ q)⟩
theorem PA.imp {X : Cx} {e : List Expr} {t t' : TA} (h : PA X e t) (i : ∀ σ H Q, t' σ H Q → t σ H Q) : PA X e t' := ⟨fun pos pins s σ H Q I q => h.run pos pins s σ H Q I (i _ _ _ q)⟩
theorem PT.imp {X : Cx} {e : Expr} {t t' : TT} (h : PT X e t) (i : ∀ σ H Q, t' σ H Q → t σ H Q) : PT X e t' := ⟨fun pins s σ H Q I q => h.run pins s σ H Q I (i _ _ _ q)⟩
theorem PI.imp {X : Cx} {g e : Expr} {t t' : TI} (h : PI X g e t) (i : ∀ σ H Q, t' σ H Q → t σ H Q) : PI X g e t' := ⟨fun pins s σ H R I q => h.run pins s σ H R I (i _ _ _ q)⟩
abbrev tT (t : TE) : TT := tB t
section
variable {X : Cx} {T : Tab} {Wx : WX} {phi : Nat → Fn}
theorem x_nm {i : Nat} {x : Str} {pos : Pos} (hN : X.N[i]? = some x) (hv : Vis X.env.scope x) (hd : (x == ("__debug__" : Str)) = false) (hcd : (x == ("__classdict__" : Str)) = false) : PE X (.Name x pos) (tI T Wx ((E.nm i).den phi)) := by
  refine PE.imp (pe_var hN hv hd hcd) fun σ H Q ⟨hr, ow, env, S, R, p⟩ => ?_
  have q := R.sl i
  simp only [E.den] at p
  cases e : env.getD i .un with
  | un => rw [e] at p; exact p.elim
  | w x =>
    rw [e] at p q
    obtain ⟨_, _, v, q1, q2⟩ := q
    exact ⟨v, q1, p.same R q2⟩
  | own c =>
    rw [e] at p q
    obtain ⟨a, q1, q2, _⟩ := q
    exact ⟨.ref a, q2, p.same R ⟨a, q1, rfl⟩⟩
theorem x_c {e : Expr} {d : D} {v : V} {den : List Slot → List Cell → Res W} (h : PE X e (tC v)) (hd : ∀ env S, den env S = .ok (.d d) S) (r : ∀ H, Rp T H d v) : PE X e (tI T Wx den) := by
  refine PE.imp h fun σ H Q ⟨hr, ow, env, S, R, p⟩ => ?_
  rw [hd] at p
  exact p.same R (r _)
theorem x_gl {x : Str} {d : D} {v : V} {u : Value} {pos : Pos} (hg : Gl X x) (hm : X.mg x = some u) (r : RelV v u) (rd : ∀ H, Rp T H d v) (hd : (x == ("__debug__" : Str)) = false) : PE X (.Name x pos) (tI T Wx ((E.gl x d).den phi)) :=
  x_c (pe_glob hg hm r hd) (fun _ _ => rfl) rd
theorem o2_imp {a b : E} {o : O2} {σ : L2.St} {H : Hp} {Q : VK} (h : tI T Wx ((E.o2 o a b).den phi) σ H Q) : tOp (rD2 T o.f) (tI T Wx (a.den phi)) (tI T Wx (b.den phi)) σ H Q := by
  simp only [E.den] at h
  refine (tG.bind1 (Wq := WR T) h).mono fun v H1 ⟨hr, ow, env, S, x, R, wx, p⟩ => ?_
  refine (tG.run2 (Wq := WR T) R wx p).mono fun u H2 ⟨ow1, S1, y, R1, wx1, wy, p1⟩ => ?_
  obtain ⟨dx, h1, p1⟩ := p1.opt
  obtain ⟨dy, h2, p1⟩ := p1.opt
  obtain ⟨d, h3, p1⟩ := p1.opt
  exact ⟨hid hr ow1, dx, dy, d, R1.track, look_vw R1 wx1 h1, look_vw R1 wy h2, h3, p1.mkd R1⟩
theorem x_bin {a b : E} {o : O2} {op : Operator} {ea eb : Expr} {pos : Pos} (ho : OpR X (binaryOp op) (rD2 T o.f)) (ha : PE X ea (tI T Wx (a.den phi))) (hb : PE X eb (tI T Wx (b.den phi))) : PE X (.BinOp ea op eb pos) (tI T Wx ((E.o2 o a b).den phi)) :=
  PE.imp (pe_op ho ha hb) fun _ _ _ h => o2_imp h
theorem x_cmp {a b : E} {o : O2} {op : CmpOp} {ea eb : Expr} {pos : Pos} (ho : OpR X (compareOp op) (rD2 T o.f)) (ha : PE X ea (tI T Wx (a.den phi))) (hb : PE X eb (tI T Wx (b.den phi))) (hm : behindInMarks op eb = false) :
    PE X (.Compare ea [op] [eb] pos) (tI T Wx ((E.o2 o a b).den phi)) :=
  PE.imp (pe_cmpR ho ha hb hm) fun _ _ _ h => o2_imp h
theorem t_cmp {a b : E} {o : O2} {op : CmpOp} {ea eb : Expr} {pos : Pos} (ho : OpR X (compareOp op) (rD2 T o.f)) (ha : PE X ea (tI T Wx (a.den phi))) (hb : PE X eb (tI T Wx (b.den phi))) (hm : behindInMarks op eb = false) :
    PT X (.Compare ea [op] [eb] pos) (tT (tI T Wx ((E.o2 o a b).den phi))) :=
  PT.imp (pt_cmpR ho ha hb hm) fun _ _ _ h => o2_imp h
theorem ch_imp {a b c : E} {o o' : O2} {σ : L2.St} {H : Hp} {Q : VK} (h : tI T Wx ((E.ch o o' a b c).den phi) σ H Q) : tChain (rD2 T o.f) (rD2 T o'.f) (tI T Wx (a.den phi)) (tI T Wx (b.den phi)) (tI T Wx (c.den phi)) σ H Q := by
  simp only [E.den] at h
  refine (tG.bind1 (Wq := WR T) h).mono fun v H1 ⟨hr, ow, env, S, x, R, wx, p⟩ => ?_
  refine (tG.run2 (Wq := WR T) R wx p).mono fun u H2 ⟨ow1, S1, y, R1, wx1, wy, p1⟩ => ?_
  obtain ⟨dx, h1, p1⟩ := p1.opt
  obtain ⟨dy, h2, p1⟩ := p1.opt
  obtain ⟨d, h3, p1⟩ := p1.opt
  obtain ⟨t, h4, p1⟩ := p1.opt
  refine ⟨hid hr ow1, dx, dy, d, R1.track, look_vw R1 wx1 h1, look_vw R1 wy h2, h3, fun z H3 sm rz => ?_⟩
  have R3 := R1.same sm
  have wy3 := wy.mono (Gr.same R1 sm) (Slo.same R1 sm)
  cases d with
  | bl k =>
    cases h4
    cases rz
    have p3 := p1.grow (Gr.same R1 sm) (Slo.same R1 sm)
    refine ⟨t, rfl, ?_⟩
    cases t with
    | true =>
      simp only [if_true] at p3 ⊢
      refine (tG.run2 (Wq := WR T) R3 wy3 p3).mono fun u4 H4 ⟨ow4, S4, z, R4, wy4, wz, p4⟩ => ?_
      obtain ⟨dy', g1, p4⟩ := p4.opt
      obtain ⟨dz, g2, p4⟩ := p4.opt
      obtain ⟨d', g3, p4⟩ := p4.opt
      exact ⟨hid hr ow4, dy', dz, d', R4.track, look_vw R4 wy4 g1, look_vw R4 wz g2, g3, p4.mkd R4⟩
    | false =>
      simp only [Bool.false_eq_true, if_false] at p3 ⊢
      exact p3.same R3 (.bl _)
  | _ => cases h4
theorem x_ch {a b c : E} {o o' : O2} {op op' : CmpOp} {ea eb ec : Expr} {pos : Pos} (ho : OpR X (compareOp op) (rD2 T o.f)) (ho' : OpR X (compareOp op') (rD2 T o'.f)) (ha : PE X ea (tI T Wx (a.den phi))) (hb : PE X eb (tI T Wx (b.den phi))) (hc : PE X ec (tI T Wx (c.den phi)))
    (hm : lastMarks [op, op'] [eb, ec] = false) : PE X (.Compare ea [op, op'] [eb, ec] pos) (tI T Wx ((E.ch o o' a b c).den phi)) :=
  PE.imp (pe_chain ho ho' ha hb hc hm) fun _ _ _ h => ch_imp h
theorem t_ch {a b c : E} {o o' : O2} {op op' : CmpOp} {ea eb ec : Expr} {pos : Pos} (ho : OpR X (compareOp op) (rD2 T o.f)) (ho' : OpR X (compareOp op') (rD2 T o'.f)) (ha : PE X ea (tI T Wx (a.den phi))) (hb : PE X eb (tI T Wx (b.den phi))) (hc : PE X ec (tI T Wx (c.den phi)))
    (hm : lastMarks [op, op'] [eb, ec] = false) : PT X (.Compare ea [op, op'] [eb, ec] pos) (tT (tI T Wx ((E.ch o o' a b c).den phi))) :=
  PT.imp (pt_chain ho ho' ha hb hc hm) fun _ _ _ h => ch_imp h
theorem x_neg {a : E} {ea : Expr} {pos : Pos} (ha : PE X ea (tI T Wx (a.den phi))) : PE X (.UnaryOp .USub ea pos) (tI T Wx ((E.neg a).den phi)) := by
  refine PE.imp (pe_un un_neg ha) fun σ H Q h => ?_
  simp only [E.den] at h
  refine (tG.bind1 (Wq := WR T) h).mono fun v H1 ⟨hr, ow, env, S, x, R, wx, p⟩ => ?_
  split at p
  · rename_i i
    cases wx
    exact ⟨i, rfl, p.same R (.int _)⟩
  · exact p.elim
theorem isBl_of {hr : AS} {ow : Ow} {H : Hp} {w : W} {v : V} {b : Bool} (h : WR T hr ow H w v) (e : isBl w = some b) : v = .bl b := by
  cases w with
  | d x =>
    cases x with
    | bl c => cases e; cases h; rfl
    | _ => cases e
  | l p => cases e
theorem nt_imp {a : E} {σ : L2.St} {H : Hp} {Q : VK} (h : tI T Wx ((E.nt a).den phi) σ H Q) : tNotV (tI T Wx (a.den phi)) σ H Q := by
  simp only [E.den] at h
  refine (tG.bind1 (Wq := WR T) h).mono fun v H1 ⟨hr, ow, env, S, x, R, wx, p⟩ => ?_
  obtain ⟨b, hb, p⟩ := p.opt
  exact ⟨b, isBl_of wx hb, p.same R (.bl _)⟩
theorem x_nt {a : E} {ea : Expr} {pos : Pos} (ha : PE X ea (tI T Wx (a.den phi))) : PE X (.UnaryOp .Not ea pos) (tI T Wx ((E.nt a).den phi)) := PE.imp (pe_not ha) fun _ _ _ h => nt_imp h
theorem t_nt {a : E} {ea : Expr} {pos : Pos} (ha : PT X ea (tT (tI T Wx (a.den phi)))) : PT X (.UnaryOp .Not ea pos) (tT (tI T Wx ((E.nt a).den phi))) := by
  refine PT.imp (pt_not ha) fun σ H Q h => ?_
  refine tG.mono (nt_imp h) fun v H1 ⟨c, e, d, e2, q⟩ => ⟨c, e, ?_⟩
  cases e2
  exact q
theorem bo_imp {isAnd : Bool} {a b : E} {l : Es} {σ : L2.St} {H : Hp} {Q : VK} (h : tI T Wx ((Es.cons a (.cons b l)).denB phi isAnd) σ H Q) :
    tI T Wx (a.den phi) σ H fun x H1 => ∃ c, x = .bl c ∧ if c = isAnd then tI T Wx ((Es.cons b l).denB phi isAnd) σ H1 Q else Q (.bl c) H1 := by
  simp only [Es.denB] at h
  refine (tG.bind1 (Wq := WR T) h).mono fun v H1 ⟨hr, ow, env, S, x, R, wx, p⟩ => ?_
  obtain ⟨c, hb, p⟩ := p.opt
  refine ⟨c, isBl_of wx hb, ?_⟩
  split
  · rename_i e
    rw [if_pos e] at p
    exact ⟨hr, ow, env, S, R, p⟩
  · rename_i e
    rw [if_neg e] at p
    exact p.same R (.bl _)
theorem bo_and {a b : E} {l : Es} {σ : L2.St} {H : Hp} {Q : VK} (h : tI T Wx ((Es.cons a (.cons b l)).denB phi true) σ H Q) : tAndV (tI T Wx (a.den phi)) (tI T Wx ((Es.cons b l).denB phi true)) σ H Q :=
  tG.mono (bo_imp h) fun x H1 ⟨c, e, q⟩ => ⟨c, e, by cases c <;> simpa using q⟩
theorem bo_or {a b : E} {l : Es} {σ : L2.St} {H : Hp} {Q : VK} (h : tI T Wx ((Es.cons a (.cons b l)).denB phi false) σ H Q) : tOrV (tI T Wx (a.den phi)) (tI T Wx ((Es.cons b l).denB phi false)) σ H Q :=
  tG.mono (bo_imp h) fun x H1 ⟨c, e, q⟩ => ⟨c, e, by cases c <;> simpa using q⟩
theorem x_bo1 {isAnd : Bool} {op : BoolOp} {a : E} {ea : Expr} {pos : Pos} (ha : PE X ea (tI T Wx (a.den phi))) : PE X (.BoolOp op [ea] pos) (tI T Wx ((Es.cons a .nil).denB phi isAnd)) := pe_one ha
theorem x_and {a b : E} {l : Es} {ea eb : Expr} {es : List Expr} {pos : Pos} (ha : PE X ea (tI T Wx (a.den phi))) (hb : PE X (.BoolOp .And (eb :: es) pos) (tI T Wx ((Es.cons b l).denB phi true))) : PE X (.BoolOp .And (ea :: eb :: es) pos) (tI T Wx ((Es.cons a (.cons b l)).denB phi true)) :=
  PE.imp (pe_and ha hb) fun _ _ _ h => bo_and h
theorem x_or {a b : E} {l : Es} {ea eb : Expr} {es : List Expr} {pos : Pos} (ha : PE X ea (tI T Wx (a.den phi))) (hb : PE X (.BoolOp .Or (eb :: es) pos) (tI T Wx ((Es.cons b l).denB phi false))) : PE X (.BoolOp .Or (ea :: eb :: es) pos) (tI T Wx ((Es.cons a (.cons b l)).denB phi false)) :=
  PE.imp (pe_or ha hb) fun _ _ _ h => bo_or h
theorem PW.imp {e : Expr} {t t' : TT} (h : PW X e t) (i : ∀ σ H Q, t' σ H Q → t σ H Q) : PW X e t' := ⟨fun wh pins s σ H Q I q => h.run wh pins s σ H Q I (i _ _ _ q)⟩
theorem w_and1 {a : E} {ea : Expr} {pos : Pos} (ha : PT X ea (tT (tI T Wx (a.den phi)))) : PW X (.BoolOp .And [ea] pos) (tT (tI T Wx ((Es.cons a .nil).denB phi true))) := pw_and1 ha
theorem w_or1 {a : E} {ea : Expr} {pos : Pos} (ha : PT X ea (tT (tI T Wx (a.den phi)))) : PW X (.BoolOp .Or [ea] pos) (tT (tI T Wx ((Es.cons a .nil).denB phi false))) := pw_or1 ha
theorem w_and {a b : E} {l : Es} {ea eb : Expr} {es : List Expr} {pos : Pos} (ha : PT X ea (tT (tI T Wx (a.den phi)))) (hb : PW X (.BoolOp .And (eb :: es) pos) (tT (tI T Wx ((Es.cons b l).denB phi true)))) :
    PW X (.BoolOp .And (ea :: eb :: es) pos) (tT (tI T Wx ((Es.cons a (.cons b l)).denB phi true))) := by
  refine PW.imp (pw_and ha hb) fun σ H Q h => ?_
  refine tG.mono (bo_imp h) fun x H1 ⟨c, e, q⟩ => ⟨c, e, ?_⟩
  cases c with
  | true =>
    simp only [if_true] at q ⊢
    exact q
  | false =>
    simp only [Bool.false_eq_true, if_false] at q ⊢
    obtain ⟨c', e', q⟩ := q
    cases e'
    exact q
theorem w_or {a b : E} {l : Es} {ea eb : Expr} {es : List Expr} {pos : Pos} (ha : PT X ea (tT (tI T Wx (a.den phi)))) (hb : PW X (.BoolOp .Or (eb :: es) pos) (tT (tI T Wx ((Es.cons b l).denB phi false)))) :
    PW X (.BoolOp .Or (ea :: eb :: es) pos) (tT (tI T Wx ((Es.cons a (.cons b l)).denB phi false))) := by
  refine PW.imp (pw_or ha hb) fun σ H Q h => ?_
  refine tG.mono (bo_imp h) fun x H1 ⟨c, e, q⟩ => ⟨c, e, ?_⟩
  cases c with
  | false =>
    simp only [if_true, Bool.false_eq_true, if_false] at q ⊢
    exact q
  | true =>
    simp only [Bool.true_eq_false, if_false, if_true] at q ⊢
    obtain ⟨c', e', q⟩ := q
    cases e'
    exact q
theorem x_ite {c a b : E} {ec ea eb : Expr} {pos : Pos} (hc : PT X ec (tT (tI T Wx (c.den phi)))) (ha : PE X ea (tI T Wx (a.den phi))) (hb : PE X eb (tI T Wx (b.den phi))) : PE X (.IfExp ec ea eb pos) (tI T Wx ((E.ite c a b).den phi)) := by
  refine PE.imp (pe_ifExp hc ha hb) fun σ H Q h => ?_
  simp only [E.den] at h
  refine (tG.bind1 (Wq := WR T) h).mono fun v H1 ⟨hr, ow, env, S, x, R, wx, p⟩ => ?_
  obtain ⟨t, ht, p⟩ := p.opt
  refine ⟨t, isBl_of wx ht, ?_⟩
  cases t with
  | true => exact ⟨hr, ow, env, S, R, by simpa using p⟩
  | false => exact ⟨hr, ow, env, S, R, by simpa using p⟩
end
end Rg
set_option Elab.async false
set_option linter.all false
set_option maxRecDepth 100000
set_option maxHeartbeats 4000000
namespace Rg
open PySem PySem.Spec PyProof.Rows L2
section
variable {X : Cx} {T : Tab} {Wx : WX} {phi : Nat → Fn}
theorem a_nil : PA X [] (tIs T Wx (Es.nil.den phi)) := by
  refine PA.imp pa_nil fun σ H Q ⟨hr, ow, env, S, R, p⟩ => ?_
  simp only [Es.den] at p
  exact p.same R .nil
theorem a_cons {a : E} {l : Es} {e : Expr} {es : List Expr} (ha : PE X e (tI T Wx (a.den phi))) (hr : PA X es (tIs T Wx (l.den phi))) (hs : starEach (e :: es) X.env = (false, eval e X.env) :: starEach es X.env) : PA X (e :: es) (tIs T Wx ((Es.cons a l).den phi)) := by
  refine PA.imp (pa_cons ha hr hs) fun σ H Q h => ?_
  have h' : tG T (WL T) Wx (fun env S => (a.den phi env S).bind fun x S1 => (l.den phi env S1).bind fun xs S2 => .ok (x :: xs) S2) σ H Q := by
    obtain ⟨hr, ow, env, S, R, p⟩ := h
    simp only [Es.den] at p
    exact ⟨hr, ow, env, S, R, p⟩
  refine (tG.bind1 (Wq := WR T) (k := fun env x S1 => (l.den phi env S1).bind fun xs S2 => .ok (x :: xs) S2) h').mono fun v H1 ⟨hr, ow, env, S, x, R, wx, p⟩ => ?_
  refine (tG.run2 (Wq := WL T) R wx p).mono fun u H2 ⟨ow1, S1, y, R1, wx1, wy, p1⟩ => ?_
  exact p1.same R1 (.cons wx1 wy)
theorem allDat_rp {hr : AS} {ow : Ow} {H : Hp} : ∀ {ws : List W} {vs : List V} {ds : List D}, WL T hr ow H ws vs → allDat ws = some ds → RpL T (hide (hid hr ow) H) ds vs
  | [], _, _, .nil, e => by cases e; exact .nil
  | .d x :: l, _, ds, .cons h r, e => by
    dsimp only [allDat] at e
    cases k : allDat l with
    | none => rw [k] at e; cases e
    | some xs =>
      rw [k] at e
      cases e
      exact .cons h (allDat_rp r k)
  | .l _ :: _, _, _, _, e => by cases e
theorem looks_vw {hr : AS} {ow : Ow} {H : Hp} {env : List Slot} {S : List Cell} {σ : L2.St} (R : Rel T hr ow H env S σ) : ∀ {ws : List W} {vs : List V} {ds : List D}, WL T hr ow H ws vs → looks env S ws = some ds → VL T (hid hr ow) H ds vs
  | [], _, _, .nil, e => by cases e; exact .nil
  | w :: l, _, ds, .cons h r, e => by
    dsimp only [looks] at e
    cases k1 : look env S w with
    | none => rw [k1] at e; cases e
    | some x =>
      cases k2 : looks env S l with
      | none => rw [k1, k2] at e; cases e
      | some xs =>
        rw [k1, k2] at e
        cases e
        exact .cons (look_vw R h k1) (looks_vw R r k2)
theorem pe_tupF {es : List Expr} {t : TA} {x1 : Nat} {pos : Pos} (h : PA X es t) : PE X (.Tuple es x1 pos) (fun σ H Q => t σ H fun xs H1 => xs.length ≤ sizeLine ∧ ∀ p o, H1 p = none → o.dict = none → Q (.ref p) (upd H1 p (.frz o (.tup xs)))) := by
  refine ⟨fun pins s σ H Q I hq => ?_⟩
  refine wpAny_Tuple_spliced (thn (h.run pos pins s σ H _ I hq) fun us s1 ⟨xs, H1, I1, r, z, q⟩ => ⟨by rw [← r.length]; exact z, ?_⟩)
  exact ⟨.ref s1.heap.objs.size, _, Inv.fnew (t' := s1.toks) I1 r z, rfl, q _ _ (I1.hok.fresh (Nat.le_refl _)) rfl⟩
theorem x_tup {l : Es} {es : List Expr} {x1 : Nat} {pos : Pos} (h : PA X es (tIs T Wx (l.den phi))) : PE X (.Tuple es x1 pos) (tI T Wx ((E.tup l).den phi)) := by
  refine PE.imp (pe_tupF h) fun σ H Q h => ?_
  simp only [E.den] at h
  refine (tG.bind1 (Wq := WL T) h).mono fun vs H1 ⟨hr, ow, env, S, ws, R, wx, p⟩ => ?_
  obtain ⟨ds, hd, p⟩ := p.opt
  split at p
  · rename_i hl
    have r := allDat_rp wx hd
    exact ⟨by rw [← r.length]; exact hl, fun a o ha ho => (p.mkd R).tup R.track r ha ho⟩
  · exact p.elim
def addA (hr : AS) (a : Addr) : AS := fun b => hr b ∨ b = a
theorem hid_sub {hr hr' : AS} {ow : Ow} (h : ∀ b, hr' b → hr b) : ∀ b, hid hr' ow b → hid hr ow b := fun b q => q.elim (fun z => .inl (h b z)) .inr
theorem FR.ext {hr hr' : AS} {ow : Ow} {H H' : Hp} (e : Ext (hide (hid hr ow) H) (hide (hid hr' ow) H')) : ∀ {l : List (Nat × W)} {us : List (Str × V)}, FR T hr ow H l us → FR T hr' ow H' l us
  | _, _, .nil => .nil
  | (n, .d x) :: _, _, .cons h z r => .cons (Rp.mono e h) z (FR.ext e r)
  | (n, .l p) :: _, _, .cons h z r => .cons h z (FR.ext e r)
theorem WR.ext {hr hr' : AS} {ow : Ow} {H H' : Hp} (e : Ext (hide (hid hr ow) H) (hide (hid hr' ow) H')) : ∀ {w : W} {v : V}, WR T hr ow H w v → WR T hr' ow H' w v
  | .d x, _, h => Rp.mono e h
  | .l p, _, h => h
theorem CellR.ext {hr hr' : AS} {ow : Ow} {H H' : Hp} {a : Addr} (e : Ext (hide (hid hr ow) H) (hide (hid hr' ow) H')) (ha : H' a = H a) : ∀ {c : Cell}, CellR T hr ow H c a → CellR T hr' ow H' c a
  | .lst l, ⟨vs, h, r⟩ => ⟨vs, ha.trans h, r.mono e⟩
  | .dct t l, ⟨z, kvs, h, r⟩ => ⟨z, kvs, ha.trans h, r.mono e⟩
  | .ob c fs, ⟨C, dx, us, h, hc, r⟩ => ⟨C, dx, us, ha.trans h, hc, FR.ext e r⟩
theorem Rel.ext {hr hr' : AS} {ow : Ow} {H H' : Hp} {env : List Slot} {S : List Cell} {σ : L2.St} (R : Rel T hr ow H env S σ) (e : Ext (hide (hid hr ow) H) (hide (hid hr' ow) H')) (o : ∀ p a, ow p = some a → H' a = H a)
    (d : ∀ p a, ow p = some a → ¬ hr' a) (t : ∀ a, hr' a → H' a ≠ none) (tb : TabsAt T H') (nt : ∀ a, hr' a → Nfx (H' a)) : Rel T hr' ow H' env S σ := by
  refine ⟨fun i => ?_, fun n c k => ?_, R.so, R.inj, d, t, tb, R.ln, nt⟩
  · have q := R.sl i
    cases k : env.getD i .un with
    | un => rw [k] at q; exact q
    | w x =>
      rw [k] at q
      obtain ⟨q1, q2, v, q3, q4⟩ := q
      exact ⟨q1, q2, v, q3, WR.ext e q4⟩
    | own c =>
      rw [k] at q
      obtain ⟨a, q1, q2, q3⟩ := q
      exact ⟨a, q1, q2, CellR.ext e (o _ a q1) q3⟩
  · obtain ⟨a, q1, q2⟩ := R.st n c k
    exact ⟨a, q1, CellR.ext e (o _ a q1) q2⟩
theorem Rel.hsub {hr hr' : AS} {ow : Ow} {H : Hp} {env : List Slot} {S : List Cell} {σ : L2.St} (R : Rel T hr ow H env S σ) (h : ∀ b, hr' b → hr b) : Rel T hr' ow H env S σ :=
  R.ext (hide_sub (hid_sub h)) (fun _ _ _ => rfl) (fun p a q z => R.dis p a q (h a z)) (fun a z => R.hrt a (h a z)) R.tab fun a z => R.hnt a (h a z)
theorem ext_new {l : AS} {l' : AS} {H : Hp} {p : Addr} {o : HO} (hp : H p = none) (h : ∀ b, l' b → l b ∨ b = p) : Ext (hide l H) (hide l' (upd H p o)) :=
  (hide_stp fun a u n e _ => by
    have ne : a ≠ p := ne_of_none e hp
    exact ⟨fun z => (h a z).elim n ne, by rw [upd_ne ne]; exact e⟩).ext
theorem Rel.fresh {hr : AS} {ow : Ow} {H : Hp} {env : List Slot} {S : List Cell} {σ : L2.St} (R : Rel T hr ow H env S σ) {p : Addr} {o : HO} (hp : H p = none) (ho : Nfx (some o) := by exact nfx) : Rel T (addA hr p) ow (upd H p o) env S σ := by
  have ne : ∀ a, hid hr ow a → a ≠ p := fun a h e => R.track a h (by rw [e]; exact hp)
  refine R.ext (ext_new hp fun b z => ?_) (fun q a h => upd_ne (ne a (.inr ⟨q, h⟩))) (fun q a h z => z.elim (R.dis q a h) (ne a (.inr ⟨q, h⟩))) (fun a z => ?_) (R.tab.upd (nfx_none hp)) fun a z => ?_
  · rcases z with (z | z) | z
    · exact .inl (.inl z)
    · exact .inr z
    · exact .inl (.inr z)
  · rcases z with z | z
    · rw [upd_ne (ne a (.inl z))]; exact R.hrt a z
    · rw [z, upd_same]; simp
  · rcases z with z | z
    · rw [upd_ne (ne a (.inl z))]; exact R.hnt a z
    · rw [z, upd_same]; exact ho
theorem Slo.new {hr : AS} {ow : Ow} {H : Hp} {env : List Slot} {S : List Cell} {σ : L2.St} (R : Rel T hr ow H env S σ) {p : Addr} {o : HO} (hp : H p = none) : Slo ow H ow (upd H p o) :=
  ⟨fun _ => rfl, fun i a h => upd_ne fun e => R.track a (.inr ⟨_, h⟩) (by rw [e]; exact hp)⟩
structure GrF (hr : AS) (ow : Ow) (H : Hp) (a : Addr) (ow' : Ow) (H' : Hp) : Prop where
  ext : Ext (hide (hid hr ow) H) (hide (hid (addA hr a) ow') H')
  cel : ∀ n b, ow (.inr n) = some b → ow' (.inr n) = some b
  hrq : ∀ b, hr b → H' b = H b
  nhr : ¬ hr a
theorem GrF.gr {hr : AS} {ow ow' : Ow} {H H' : Hp} {a : Addr} (g : GrF hr ow H a ow' H') : Gr hr ow H ow' H' :=
  ⟨g.ext.trans (hide_sub (hid_sub fun _ => .inl)), g.cel, g.hrq⟩
def PostF (T : Tab) (hr : AS) (ow : Ow) (env : List Slot) (σ : L2.St) (H : Hp) (R : Res Cell) (Q : VK) (W : WX) : Prop :=
  match R with
  | .ok c S' => ∀ a ow' H', GrF hr ow H a ow' H' → Slo ow H ow' H' → Rel T (addA hr a) ow' H' env S' σ → CellR T (addA hr a) ow' H' c a → Q (.ref a) H'
  | .ex x S' => ∀ cls d ow' H', Gr hr ow H ow' H' → Slo ow H ow' H' → Rel T hr ow' H' env S' σ → XR T hr ow' H' x cls d → ∀ σ', W cls d σ' H'
  | .bad => False
def tF (T : Tab) (Wx : WX) (den : List Slot → List Cell → Res Cell) : TE := fun σ H Q => ∃ hr ow env S, Rel T hr ow H env S σ ∧ PostF T hr ow env σ H (den env S) Q Wx
theorem GrF.new {hr : AS} {ow : Ow} {H : Hp} {env : List Slot} {S : List Cell} {σ : L2.St} (R : Rel T hr ow H env S σ) {p : Addr} {o : HO} (hp : H p = none) : GrF hr ow H p ow (upd H p o) :=
  ⟨ext_new hp fun b z => by
    rcases z with (z | z) | z
    · exact .inl (.inl z)
    · exact .inr z
    · exact .inl (.inr z), fun _ _ h => h, fun b h => upd_ne fun e => R.hrt b h (by rw [e]; exact hp), fun h => R.hrt p h hp⟩
theorem GrF.of {hr : AS} {ow ow1 ow2 : Ow} {H H1 H2 : Hp} {a : Addr} (g : Gr hr ow H ow1 H1) (f : GrF hr ow1 H1 a ow2 H2) : GrF hr ow H a ow2 H2 :=
  ⟨g.ext.trans f.ext, fun n b h => f.cel n b (g.cel n b h), fun b h => (f.hrq b h).trans (g.hrq b h), f.nhr⟩
theorem PostF.grow {hr : AS} {ow ow1 : Ow} {env : List Slot} {σ : L2.St} {H H1 : Hp} {R : Res Cell} {Q : VK} {W : WX} (p : PostF T hr ow env σ H R Q W) (g : Gr hr ow H ow1 H1) (s : Slo ow H ow1 H1) : PostF T hr ow1 env σ H1 R Q W := by
  cases R with
  | ok c S0 => exact fun a ow' H' g' s' r q => p a ow' H' (g'.of g) (s.trans s') r q
  | ex x S0 => exact fun c' d' ow' H' g' s' r q => p c' d' ow' H' (g.trans g') (s.trans s') r q
  | bad => exact p
theorem CellR.open {hr : AS} {ow : Ow} {H : Hp} {c : Cell} {a : Addr} {d : D} (h : CellR T (addA hr a) ow H c a) (nh : ¬ hid hr ow a) (e : c.data = Option.some d) : Rp T (hide (hid hr ow) H) d (.ref a) := by
  cases c with
  | lst l =>
    obtain ⟨vs, h, r⟩ := h
    cases e
    exact .lst (.inl (by rw [hide_out nh]; exact h)) (r.mono (hide_sub (hid_sub fun _ => .inl)))
  | dct t l =>
    obtain ⟨rfl, kvs, h, r⟩ := h
    cases e
    exact .dK (.inl (by rw [hide_out nh]; exact h)) (r.mono (hide_sub (hid_sub fun _ => .inl)))
  | ob c fs => cases e
theorem x_fr {f : Fr} {e : Expr} (h : PE X e (tF T Wx (f.den phi))) : PE X e (tI T Wx ((E.fr f).den phi)) := by
  refine PE.imp h fun σ H Q ⟨hr, ow, env, S, R, p⟩ => ⟨hr, ow, env, S, R, ?_⟩
  simp only [E.den] at p
  cases k : f.den phi env S with
  | ok c S1 =>
    rw [k] at p
    rw [Res.bind_ok] at p
    obtain ⟨d, hd, p⟩ := p.opt
    intro a ow' H' g s r q
    have nh : ¬ hid hr ow' a := fun z => z.elim g.nhr fun ⟨x, hx⟩ => r.dis x a hx (.inr rfl)
    exact p _ ow' H' g.gr s (r.hsub fun _ => .inl) (q.open nh hd)
  | ex x S1 => rw [k] at p; exact p
  | bad => rw [k] at p; exact p
theorem f_lst {l : Es} {es : List Expr} {pos : Pos} (h : PA X es (tIs T Wx (l.den phi))) : PE X (.List es pos) (tF T Wx ((Fr.lst l).den phi)) := by
  refine PE.imp (pe_lst h) fun σ H Q ⟨hr, ow, env, S, R, p⟩ => ?_
  simp only [Fr.den] at p
  refine ⟨hr, ow, env, S, R, ?_⟩
  cases k : l.den phi env S with
  | ok ws S1 =>
    rw [k, Res.bind_ok] at p
    intro vs ow' H' g s r q
    cases k2 : allDat ws with
    | none => rw [k2] at p; exact p.elim
    | some ds =>
      rw [k2] at p
      dsimp only [Res.opt] at p
      split at p
      · rename_i hl
        have rl := allDat_rp q k2
        refine ⟨by rw [← rl.length]; exact hl, fun a ha => ?_⟩
        have gF := GrF.new r (o := .lst vs) ha
        exact p a ow' _ (gF.of g) (s.trans (Slo.new r ha)) (r.fresh ha) ⟨vs, upd_same, rl.mono gF.ext⟩
      · exact p.elim
  | ex x S1 => rw [k] at p; exact p
  | bad => rw [k] at p; exact p
theorem x_ix {a b : E} {ea eb : Expr} {pos : Pos} (hu : X.A.units + 1 < cLine) (ha : PE X ea (tI T Wx (a.den phi))) (hb : PE X eb (tI T Wx (b.den phi))) (hs : PlainIx eb) : PE X (.Subscript ea eb pos) (tI T Wx ((E.ix a b).den phi)) := by
  refine PE.imp (pe_ix (ixD_ok (T := T) hu) ha hb hs) fun σ H Q h => ?_
  simp only [E.den] at h
  refine (tG.bind1 (Wq := WR T) h).mono fun v H1 ⟨hr, ow, env, S, x, R, wx, p⟩ => ?_
  refine (tG.run2 (Wq := WR T) R wx p).mono fun u H2 ⟨ow1, S1, y, R1, wx1, wy, p1⟩ => ?_
  obtain ⟨dx, h1, p1⟩ := p1.opt
  obtain ⟨dy, h2, p1⟩ := p1.opt
  obtain ⟨d, h3, p1⟩ := p1.opt
  exact ⟨hid hr ow1, dx, dy, d, R1.track, look_vw R1 wx1 h1, look_vw R1 wy h2, h3, p1.mkd R1⟩
def EqR (_ : AS) (_ : Ow) (_ : Hp) (o o' : Option Int) : Prop := o' = o
abbrev tBd (T : Tab) (Wx : WX) (den : List Slot → List Cell → Res (Option Int)) : TO := tG T EqR Wx den
theorem PO.imp {e : Option Expr} {t t' : TO} (h : PO X e t) (i : ∀ σ H Q, t' σ H Q → t σ H Q) : PO X e t' := ⟨fun pins s σ H Q I q => h.run pins s σ H Q I (i _ _ _ q)⟩
theorem o_none : PO X none (tBd T Wx (Eo.none.den phi)) :=
  PO.imp po_none fun σ H Q ⟨hr, ow, env, S, R, p⟩ => p.same R rfl
theorem o_some {a : E} {e : Expr} (ha : PE X e (tI T Wx (a.den phi))) : PO X (some e) (tBd T Wx ((Eo.some a).den phi)) := by
  refine PO.imp (po_some ha) fun σ H Q h => ?_
  have h' : tG T EqR Wx (fun env S => (a.den phi env S).bind fun x S1 => match x with
    | .d (.int i) => .ok (some i) S1
    | _ => .bad) σ H Q := by
    obtain ⟨hr, ow, env, S, R, p⟩ := h
    simp only [Eo.den] at p
    exact ⟨hr, ow, env, S, R, p⟩
  refine (tG.bind1 (Wq := WR T) (k := fun env x S1 => match x with
    | .d (.int i) => .ok (some i) S1
    | _ => .bad) h').mono fun v H1 ⟨hr, ow, env, S, x, R, wx, p⟩ => ?_
  split at p
  · rename_i i
    cases wx
    exact ⟨i, rfl, p.same R rfl⟩
  · exact p.elim
theorem x_sl {a : E} {lo hi : Eo} {ea : Expr} {elo ehi : Option Expr} {p2 pos : Pos} (ha : PE X ea (tI T Wx (a.den phi))) (hl : PO X elo (tBd T Wx (lo.den phi))) (hh : PO X ehi (tBd T Wx (hi.den phi))) :
    PE X (.Subscript ea (.Slice elo ehi none p2) pos) (tI T Wx ((E.sl a lo hi).den phi)) := by
  refine PE.imp (pe_slice (slD_ok (T := T)) ha hl hh) fun σ H Q h => ?_
  simp only [E.den] at h
  refine (tG.bind1 (Wq := WR T) h).mono fun v H1 ⟨hr, ow, env, S, x, R, wx, p⟩ => ?_
  refine (tG.run2 (Wq := EqR) R wx p).mono fun o H2 ⟨ow1, S1, y, R1, wx1, wy, p1⟩ => ?_
  refine (tG.run2 (Wq := EqR) R1 wx1 p1).mono fun o2 H3 ⟨ow2, S2, z, R2, wx2, wz, p4⟩ => ?_
  obtain ⟨dx, h1, p5⟩ := p4.opt
  obtain ⟨d, h2, p6⟩ := p5.opt
  cases wy
  cases wz
  exact ⟨hid hr ow2, dx, d, R2.track, look_vw R2 wx2 h1, h2, p6.mkd R2⟩
theorem x_rev {a : E} {ea : Expr} {k : Nat} {p1 p2 p3 pos : Pos} (ha : PE X ea (tI T Wx (a.den phi))) : PE X (.Subscript ea (.Slice none none (some (.UnaryOp .USub (.Constant (.int 1) k p1) p2)) p3) pos) (tI T Wx ((E.rev a).den phi)) := by
  refine PE.imp (pe_revL ha) fun σ H Q h => ?_
  simp only [E.den] at h
  refine (tG.bind1 (Wq := WR T) h).mono fun v H1 ⟨hr, ow, env, S, x, R, wx, p⟩ => ?_
  obtain ⟨dx, h1, p⟩ := p.opt
  obtain ⟨d, h2, p⟩ := p.opt
  have vw := look_vw R wx h1
  cases dx with
  | lst ds =>
    cases h2
    obtain ⟨b, vs, rfl, hs, r⟩ := vw.seqL (K := X.K)
    exact ⟨b, vs, rfl, hs, fun q hq => (p.mkd R).lst R.track r.reverse hq⟩
  | _ => cases h2
theorem bi_imp {b : Bi} {l : Es} {σ : L2.St} {H : Hp} {Q : VK} (h : tI T Wx ((E.bi b l).den phi) σ H Q) : tCB (rB T b.f) (tIs T Wx (l.den phi)) σ H Q := by
  simp only [E.den] at h
  refine (tG.bind1 (Wq := WL T) h).mono fun vs H1 ⟨hr, ow, env, S, x, R, wx, p⟩ => ?_
  obtain ⟨ds, h1, p⟩ := p.opt
  obtain ⟨d, h2, p⟩ := p.opt
  exact ⟨hid hr ow, ds, d, R.track, looks_vw R wx h1, h2, p.mkd R⟩
theorem x_biB {b : Bi} {l : Es} {x : Str} {id : String} {e : Expr} {es : List Expr} {p pos : Pos} (hc : CallR X (.builtin id) (rB T b.f)) (hg : Gl X x) (hm : X.mg x = none) (hv : bootBuiltins x = some (.builtin id)) (ha : PA X (e :: es) (tIs T Wx (l.den phi))) (hn : x ≠ "__name__") (hdb : (x == ("__debug__" : Str)) = false)
    (he : starEach (e :: es) X.env = (false, eval e X.env) :: starEach es X.env) (hpl : (backTo pos (starEach es X.env)).any (·.1) = false) : PE X (.Call (.Name x p) (e :: es) [] pos) (tI T Wx ((E.bi b l).den phi)) :=
  PE.imp (pe_callB hc hg hm hv ha hn hdb he hpl) fun _ _ _ h => bi_imp h
theorem x_biT {b : Bi} {l : Es} {x : Str} {ty : String} {e : Expr} {es : List Expr} {p pos : Pos} (hc : CallR X (.type ty) (rB T b.f)) (hg : Gl X x) (hm : X.mg x = none) (hv : bootBuiltins x = some (.type ty)) (ha : PA X (e :: es) (tIs T Wx (l.den phi))) (hn : x ≠ "__name__") (hdb : (x == ("__debug__" : Str)) = false)
    (he : starEach (e :: es) X.env = (false, eval e X.env) :: starEach es X.env) (hpl : (backTo pos (starEach es X.env)).any (·.1) = false) : PE X (.Call (.Name x p) (e :: es) [] pos) (tI T Wx ((E.bi b l).den phi)) :=
  PE.imp (pe_callTy hc hg hm hv ha hn hdb he hpl) fun _ _ _ h => bi_imp h
end
end Rg
set_option Elab.async false
set_option linter.all false
set_option maxRecDepth 100000
set_option maxHeartbeats 4000000
namespace Rg
open PySem PySem.Spec PyProof.Rows L2
def tagV (T : Tab) : D → Option Value
  | .obj c _ => (T.cls c).map Value.ref
  | d => some (.type (tyD d))
def clV (T : Tab) : Cl → Option V
  | .ty n => some (.ty n)
  | .own c => (T.cls c).map V.ref
def clU : V → Value
  | .ty n => .type n
  | .ref C => .ref C
  | _ => .none
def KitOk (T : Tab) (K : PySem.W.Frag) (cl : Cl) : Prop := ∀ d t cv, tagV T d = some t → clV T cl = some cv → PySem.W.kitOne K t (clU cv) = some (isTy d cl)
theorem clsV_of {T : Tab} {cl : Cl} {cv : V} (h : clV T cl = some cv) : ClsV cv (clU cv) := by
  cases cl with
  | ty n => cases h; exact .ty n
  | own c =>
    dsimp only [clV] at h
    cases e : T.cls c with
    | none => rw [e] at h; cases h
    | some C => rw [e] at h; cases h; exact .own C
section
variable {X : Cx} {T : Tab} {Wx : WX} {phi : Nat → Fn}
theorem vw_tyx {l : AS} {H : Hp} {d : D} {v : V} (hI : ∀ c C, T.cls c = some C → C8.InsC X.K C) (h : Vw T l H d v) : ∃ t, tagV T d = some t ∧ TyX X.K H v t := by
  have r := h.rp
  cases r with
  | non => exact ⟨_, rfl, .base .non⟩
  | bl b => exact ⟨_, rfl, .base (.bl b)⟩
  | int i => exact ⟨_, rfl, .base (.int i)⟩
  | str s => exact ⟨_, rfl, .base (.str s)⟩
  | tup q n r => exact ⟨_, rfl, .fTuple q⟩
  | tup0 q r => exact ⟨_, rfl, .base (.tup q)⟩
  | lst q r =>
    rcases q with q | ⟨o, q⟩
    · exact ⟨_, rfl, .base (.lst q)⟩
    · exact ⟨_, rfl, .base (.frz q)⟩
  | dK q r =>
    rcases q with q | ⟨o, q⟩
    · exact ⟨_, rfl, .base (.dK q)⟩
    · exact ⟨_, rfl, .fDict q⟩
  | obj q hc r =>
    have i := hI _ _ hc
    exact ⟨_, by dsimp only [tagV]; rw [hc]; rfl, .base (.ins q i.cl i.ha i.hn i.htk i.hm)⟩
theorem TyX.same {K : PySem.W.Frag} {H H' : Hp} {v : V} {t : Value} (s : Same H H') (h : TyX K H v t) : TyX K H' v t := by
  cases h with
  | base b =>
    cases b with
    | non => exact .base .non
    | bl b => exact .base (.bl b)
    | int i => exact .base (.int i)
    | str s => exact .base (.str s)
    | flt x => exact .base (.flt x)
    | lst e => exact .base (.lst (s _ _ e))
    | frz e => exact .base (.frz (s _ _ e))
    | tup e => exact .base (.tup (s _ _ e))
    | dK e => exact .base (.dK (s _ _ e))
    | dT e => exact .base (.dT (s _ _ e))
    | ins e a b c d f => exact .base (.ins (s _ _ e) a b c d f)
  | byt b => exact .byt b
  | set e => exact .set (s _ _ e)
  | kList e c => exact .kList e c
  | kTuple e c => exact .kTuple e c
  | kDict e c => exact .kDict e c
  | fTuple e => exact .fTuple (s _ _ e)
  | fDict e => exact .fDict (s _ _ e)
theorem isi_boot : bootBuiltins (("isinstance" : Str)) = some (.builtin "isinstance") := by
  first
    | exact PyProof.Rows.boot_isinstance
    | rfl
    | decide +kernel
theorem x_isi1 {a : E} {cl : Cl} {cv : V} {ea ec : Expr} {p pos : Pos} (hI : ∀ c C, T.cls c = some C → C8.InsC X.K C) (hk : KitOk T X.K cl) (hcl : clV T cl = some cv) (hg : Gl X "isinstance") (hm : X.mg "isinstance" = none)
    (ha : PE X ea (tI T Wx (a.den phi))) (hc : PE X ec (tC cv)) (s1 : starEach [ea, ec] X.env = (false, eval ea X.env) :: starEach [ec] X.env) (s2 : starEach [ec] X.env = (false, eval ec X.env) :: starEach [] X.env) (hpl : (backTo pos (starEach [ec] X.env)).any (·.1) = false) :
    PE X (.Call (.Name "isinstance" p) [ea, ec] [] pos) (tI T Wx ((E.isi a [cl]).den phi)) := by
  refine PE.imp (pe_callB call_isi hg hm isi_boot (pa_cons ha (pa_cons hc pa_nil s2) s1) (by decide) (by decide) s1 hpl) fun σ H Q h => ?_
  simp only [E.den] at h
  refine (tG.bind1 (Wq := WR T) h).mono fun v H1 ⟨hr, ow, env, S, x, R, wx, q⟩ => ?_
  obtain ⟨d, h1, q⟩ := q.opt
  obtain ⟨t, e1, e2⟩ := vw_tyx (X := X) hI (look_vw R wx h1)
  refine ⟨v, cv, t, clU cv, isTy d cl, rfl, clsV_of hcl, e2, hk d t cv e1 hcl, ?_⟩
  have q' := q.same R (.bl _)
  simpa using q'
theorem kitAny_of {cs : List Cl} {d : D} {t : Value} (e : tagV T d = some t) : ∀ {cs : List Cl} {cvs : List V}, (∀ cl ∈ cs, KitOk T X.K cl) → cs.mapM (clV T) = some cvs → PySem.W.kitAny X.K t (cvs.map clU) = some (cs.any (isTy d)) ∧ Paired ClsV cvs (cvs.map clU)
  | [], cvs, _, h => by
    simp only [List.mapM_nil] at h
    cases h
    exact ⟨kitAny_nil, .nil⟩
  | c :: cs, cvs, hk, h => by
    simp only [List.mapM_cons] at h
    cases e1 : clV T c with
    | none => rw [e1] at h; cases h
    | some cv =>
      cases e2 : cs.mapM (clV T) with
      | none => rw [e1, e2] at h; cases h
      | some rs =>
        rw [e1, e2] at h
        cases h
        obtain ⟨i1, i2⟩ := kitAny_of (cs := cs) e (fun cl hc => hk cl (List.mem_cons_of_mem _ hc)) e2
        refine ⟨?_, .cons (clsV_of e1) i2⟩
        rw [List.map_cons, List.any_cons]
        exact kitAny_cons (hk c List.mem_cons_self d t cv e e1) (fun z => by rw [z, Bool.false_or]; exact i1) fun z => by rw [z]; rfl
def tCs (cvs : List V) : TA := fun _ H Q => Q cvs H
theorem pa_cs_nil : PA X [] (tCs []) := pa_nil
theorem pa_cs {e : Expr} {es : List Expr} {cv : V} {cvs : List V} (h : PE X e (tC cv)) (r : PA X es (tCs cvs)) (hs : starEach (e :: es) X.env = (false, eval e X.env) :: starEach es X.env) : PA X (e :: es) (tCs (cv :: cvs)) :=
  PA.imp (pa_cons h r hs) fun _ _ _ q => q
theorem x_isiT {a : E} {cs : List Cl} {cvs : List V} {ea : Expr} {es : List Expr} {x1 : Nat} {p pos tpos : Pos} (hI : ∀ c C, T.cls c = some C → C8.InsC X.K C) (hk : ∀ cl ∈ cs, KitOk T X.K cl) (hcl : cs.mapM (clV T) = some cvs) (hlen : cvs.length ≤ 1000) (hg : Gl X "isinstance") (hm : X.mg "isinstance" = none)
    (ha : PE X ea (tI T Wx (a.den phi))) (hc : PA X es (tCs cvs)) (s1 : starEach [ea, .Tuple es x1 tpos] X.env = (false, eval ea X.env) :: starEach [.Tuple es x1 tpos] X.env) (s2 : starEach [.Tuple es x1 tpos] X.env = (false, eval (.Tuple es x1 tpos) X.env) :: starEach [] X.env)
    (hpl : (backTo pos (starEach [.Tuple es x1 tpos] X.env)).any (·.1) = false) :
    PE X (.Call (.Name "isinstance" p) [ea, .Tuple es x1 tpos] [] pos) (tI T Wx ((E.isi a cs).den phi)) := by
  refine PE.imp (pe_callB call_isiT hg hm isi_boot (pa_cons ha (pa_cons (pe_tup hc) pa_nil s2) s1) (by decide) (by decide) s1 hpl) fun σ H Q h => ?_
  simp only [E.den] at h
  refine (tG.bind1 (Wq := WR T) h).mono fun v H1 ⟨hr, ow, env, S, x, R, wx, q⟩ => ?_
  obtain ⟨d, h1, q⟩ := q.opt
  obtain ⟨t, e1, e2⟩ := vw_tyx (X := X) hI (look_vw R wx h1)
  obtain ⟨k1, k2⟩ := kitAny_of (cs := cs) e1 hk hcl
  refine ⟨by rw [sizeLine_eq]; omega, fun p hp => ⟨v, p, cvs, t, cvs.map clU, cs.any (isTy d), rfl, upd_same, k2, TyX.same (same_new hp) e2, k1, ?_⟩⟩
  exact q.mkd R _ _ (same_new hp) (.bl _)
theorem inK_imp {isIn : Bool} {a : E} {x : Str} {l : List D} {σ : L2.St} {H : Hp} {Q : VK} (h : tI T Wx ((E.inK isIn a x l).den phi) σ H Q) :
    tI T Wx (a.den phi) σ H fun v H1 => ∃ t, v = .str t ∧ Q (.bl ((l.any fun y => decide (y = .str t)) == isIn)) H1 := by
  simp only [E.den] at h
  refine (tG.bind1 (Wq := WR T) h).mono fun v H1 ⟨hr, ow, env, S, x, R, wx, q⟩ => ?_
  split at q
  · rename_i t
    cases wx
    exact ⟨t, rfl, q.same R (.bl _)⟩
  · exact q.elim
theorem ixK_imp {a : E} {x : Str} {l : List (D × D)} {σ : L2.St} {H : Hp} {Q : VK} (h : tI T Wx ((E.ixK a x l).den phi) σ H Q) :
    tI T Wx (a.den phi) σ H fun v H1 => ∃ t d, v = .str t ∧ dfind l (.str t) = some d ∧ ∀ u, (∀ H', Rp T H' d u) → Q u H1 := by
  simp only [E.den] at h
  refine (tG.bind1 (Wq := WR T) h).mono fun v H1 ⟨hr, ow, env, S, x, R, wx, q⟩ => ?_
  split at q
  · rename_i t
    cases wx
    obtain ⟨d, e, q⟩ := q.opt
    exact ⟨t, d, rfl, e, fun u r => q.same R (r _)⟩
  · exact q.elim
end
end Rg
set_option Elab.async false
set_option linter.all false
set_option maxRecDepth 100000
set_option maxHeartbeats 4000000
namespace Rg
open PySem PySem.Spec PyProof.Rows L2
open PySem.AutoSeq1 (wpAny_loadPart')
def AIs (b : Bool) (h : Heap) (a : Addr) (items : Array Value) : Prop := if b then h.IsList a items else h.IsTuple a items
def AIt (b : Bool) (h : Heap) (it a : Addr) (i : Nat) : Prop := if b then h.IsListIter it a i else h.IsTupleIter it a i
def ASq (b : Bool) (K : PySem.W.Frag) (H : Hp) (a : Addr) (xs : List V) : Prop := if b then SqL K H a xs else SqT K H a xs
def itName (b : Bool) : String := if b then "list_iterator" else "tuple_iterator"
abbrev itObj (b : Bool) (a : Addr) : Obj := { cls := .type (itName b), data := .fields #[.ref a, .int 0 0] }
theorem AIt.at {b : Bool} {h h' : Heap} {it a : Addr} {i : Nat} (x : AIt b h it a i) (k : ∀ o, h.get? it = some o → h'.get? it = some o) : AIt b h' it a i := by
  cases b with
  | true => exact Heap.IsListIter.at x k
  | false => exact Heap.IsTupleIter.at x k
theorem AIs.at {b : Bool} {h h' : Heap} {a : Addr} {xs : Array Value} (x : AIs b h a xs) (k : ∀ o, h.get? a = some o → h'.get? a = some o) : AIs b h' a xs := by
  cases b with
  | true => exact Heap.IsList.at x k
  | false => exact Heap.IsTuple.at x k
theorem AIt.obj {b : Bool} {h : Heap} {it a : Addr} {i : Nat} (x : AIt b h it a i) : ∃ o, h.get? it = some o ∧ ∀ v, o.data ≠ .cell v := by
  cases b with
  | true =>
    obtain ⟨o, e, _, d⟩ := (show h.IsListIter it a i from x)
    exact ⟨o, e, fun v z => by rw [d] at z; cases z⟩
  | false =>
    obtain ⟨o, e, _, d⟩ := (show h.IsTupleIter it a i from x)
    exact ⟨o, e, fun v z => by rw [d] at z; cases z⟩
theorem AIt.new {b : Bool} {h h' : Heap} {a : Addr} (k : h'.get? h.objs.size = some (itObj b a)) : AIt b h' h.objs.size a 0 := by
  cases b with
  | true => exact ⟨_, k, rfl, rfl⟩
  | false => exact ⟨_, k, rfl, rfl⟩
theorem AIs.ne {b : Bool} {h : Heap} {it a : Addr} {i : Nat} {xs : Array Value} {b' : Bool} {a' : Addr} (x : AIt b h it a i) (y : AIs b' h a' xs) : a' ≠ it := by
  rintro rfl
  cases b with
  | true =>
    obtain ⟨o, e, c, d⟩ := (show h.IsListIter a' a i from x)
    cases b' with
    | true => obtain ⟨o2, e2, c2, _⟩ := (show h.IsList a' xs from y); rw [e] at e2; cases e2; rw [c] at c2; exact absurd c2 (by decide)
    | false => obtain ⟨o2, e2, c2, _⟩ := (show h.IsTuple a' xs from y); rw [e] at e2; cases e2; rw [c] at c2; exact absurd c2 (by decide)
  | false =>
    obtain ⟨o, e, c, d⟩ := (show h.IsTupleIter a' a i from x)
    cases b' with
    | true => obtain ⟨o2, e2, c2, _⟩ := (show h.IsList a' xs from y); rw [e] at e2; cases e2; rw [c] at c2; exact absurd c2 (by decide)
    | false => obtain ⟨o2, e2, c2, _⟩ := (show h.IsTuple a' xs from y); rw [e] at e2; cases e2; rw [c] at c2; exact absurd c2 (by decide)
theorem AIs.lt {b : Bool} {h : Heap} {a : Addr} {xs : Array Value} (y : AIs b h a xs) : a < h.objs.size := by
  cases b with
  | true => obtain ⟨o, e, _⟩ := (show h.IsList a xs from y); exact Heap.lt_size e
  | false => obtain ⟨o, e, _⟩ := (show h.IsTuple a xs from y); exact Heap.lt_size e
theorem AIs.cls {b : Bool} {h : Heap} {a : Addr} {xs : Array Value} (y : AIs b h a xs) : ∃ o n, h.get? a = some o ∧ o.data = .seq xs n := by
  cases b with
  | true => obtain ⟨o, e, _, n, d⟩ := (show h.IsList a xs from y); exact ⟨o, n, e, d⟩
  | false => obtain ⟨o, e, _, n, d⟩ := (show h.IsTuple a xs from y); exact ⟨o, n, e, d⟩
theorem draws_A {prog : Program} {w : World} {A : Around} (hh : A.handled = none) (b : Bool) (it a : Addr) (hne : a ≠ it) (items : Array Value) :
    Draws prog w A it [it, a] items.size (fun i v => items[i]? = some v) (fun i h => AIt b h it a i ∧ AIs b h a items) := by
  cases b with
  | true => exact Draws.list hh it a hne items
  | false => exact Draws.tuple hh it a hne items
theorem ASq.is {X : Cx} {pins : List (Addr × Obj)} {σ : L2.St} {H : Hp} {s : Shared} {b : Bool} {a : Addr} {xs : List V} (I : L2.Inv X pins σ H s) (h : ASq b X.K H a xs) :
    ∃ its : List Value, Vals xs its ∧ AIs b s.heap a its.toArray ∧ xs.length ≤ sizeLine := by
  cases b with
  | true =>
    obtain ⟨its, r, p, z⟩ := I.list (show SqL X.K H a xs from h)
    exact ⟨its, r, p.isList, z⟩
  | false =>
    obtain ⟨its, r, p, z⟩ := I.tuple (show SqT X.K H a xs from h)
    exact ⟨its, r, p, z⟩
def ItW (n : Nat) (vals : Nat → List V) (G : Hp → Prop) : L2.It :=
  ⟨fun i H => i < n ∧ G H, fun i H v H' => ∃ T, v = .ref T ∧ H T = none ∧ H' = upd H T (.tup (vals i)), fun i H => i = n ∧ G H⟩
theorem turn_walk {P : Program} {w : World} {K : PySem.W.Frag} {elts : List Expr} {kk : Nat} {tpos : Pos} {z : Addr} {fp wr : List Addr} {n : Nat} {vals : Nat → List V} {G : Hp → Prop} {tn : Nat → Heap → Prop}
    (mem : z ∈ fp) (sub : ∀ b ∈ wr, b ∈ fp) (obj : ∀ i h, tn i h → ∀ b ∈ fp, ∃ o, h.get? b = some o ∧ ∀ v, o.data ≠ .cell v)
    (keep : ∀ i h h', tn i h → (∀ b ∈ fp, ∀ o, h.get? b = some o → h'.get? b = some o) → tn i h')
    (self : ∀ (A : Around) (i : Nat) (s : Shared) (Q : Value → Shared → Prop) (E : Value → Shared → Prop), tn i s.heap → Q (.ref z) s → wpAny (model P w) A (pyIter (.ref z)) Q E s)
    (wk : ∀ (X : Cx) (pins : List (Addr × Obj)) (σ : L2.St) (H : Hp) (s : Shared), X.prog = P → X.w = w → X.K = K → X.A.handled = none → L2.Inv X pins σ H s → G H → ∀ i0, tn i0 s.heap → ∃ (fpW : List Addr) (Pt : Nat → Array Value → Prop) (St : Nat → Heap → Prop) (Mid : Nat → Addr → Heap → Prop),
      WalksT P w X.A z fpW wr n Pt St Mid ∧ (∀ i, tn i s.heap → St i s.heap) ∧ (∀ i h, St i h → tn i h) ∧ ∀ i us, i < n → Pt i us → (vals i).length ≤ sizeLine ∧ Vals (vals i) us.toList) :
    Turn P w K (.Tuple elts kk tpos) (ItW n vals G) fp z tn where
  mem := mem
  obj := obj
  keep := keep
  self := self
  item := by
    intro X hP hw hK hc i pins s σ H E I hf st hg
    obtain ⟨hi, hG⟩ := hg
    obtain ⟨fpW, Pt, St, Mid, W, t1, t2, t3⟩ := wk X pins σ H s hP hw hK (I.ok.hd hc) I hG i st
    subst hP hw hK
    refine W.item i s _ E hi (t1 i st) fun T us h' tk hPt hnew hT hm hk => ?_
    refine ⟨.ref T, rfl, W.go elts kk tpos i T { s with heap := h', toks := tk } _ _ hm fun h2 st2 hk2 => ?_⟩
    obtain ⟨z1, z2⟩ := t3 i us hi hPt
    have hT2 : IsTup h2 T us := (show h'.IsTuple T us from hT).at fun o e => hk2 T o (W.apart i T h' hm) e
    have new : ObjOk X.prog X.w (upd H T (.tup (vals i))) h2 T (.tup (vals i)) := ⟨z1, us.toList, z2, by simpa using hT2⟩
    have I1 : L2.Inv X pins σ (upd H T (.tup (vals i))) { s with heap := h2, toks := tk } :=
      I.turnedNew (ch := wr) (fun b o hb e => hk2 b o hb (hk b o hb e)) (fun b hb => hf b (sub b hb)) hnew new
    have fr : H T = none := I.hok.fresh hnew
    refine ⟨.ref T, _, I1, rfl, ⟨T, rfl, fr, rfl⟩, t2 _ _ st2, fun b hb => ?_⟩
    obtain ⟨o, e, _⟩ := obj i s.heap st b hb
    have ne : b ≠ T := Nat.ne_of_lt (Nat.lt_of_lt_of_le (Heap.lt_size e) hnew)
    rw [upd_ne ne]
    exact (hf b hb).1
  done := by
    intro X hP hw hK hc i pins s σ H E I hf st hg
    obtain ⟨rfl, hG⟩ := hg
    obtain ⟨fpW, Pt, St, Mid, W, t1, t2, t3⟩ := wk X pins σ H s hP hw hK (I.ok.hd hc) I hG i st
    subst hP hw hK
    exact W.done s _ E (t1 _ st) fun h' tk hk => ⟨rfl, I.turnedL (t' := tk) (ch := wr) (fun b o hb e => hk b o hb e) fun b hb => hf b (sub b hb)⟩
theorem turn_enumA {P : Program} {w : World} {K : PySem.W.Frag} {elts : List Expr} {kk : Nat} {tpos : Pos} (b : Bool) (a e it : Addr) (xs : List V) :
    Turn P w K (.Tuple elts kk tpos) (ItW xs.length (fun i => [.int (i : Int), xs.getD i .non]) fun H => ASq b K H a xs) [e, it] e (fun i h => (∃ old, IsEnum h e it ((i : Nat) : Int) old) ∧ AIt b h it a i ∧ e ≠ it) := by
  refine turn_walk (wr := [e, it]) (by simp) (fun _ h => h) ?_ ?_ ?_ ?_
  · rintro i h ⟨⟨old, he⟩, hi, _⟩ c hc
    have e' : c = e ∨ c = it := by simpa using hc
    rcases e' with q | q
    · rw [q]; exact ⟨_, he, fun v z => nomatch z⟩
    · rw [q]; exact hi.obj
  · rintro i h h' ⟨⟨old, he⟩, hi, hne⟩ k
    exact ⟨⟨old, k e (by simp) _ he⟩, hi.at fun o q => k it (by simp) o q, hne⟩
  · intro A i s Q E ⟨⟨_, he⟩, _⟩ h
    exact wpAny_pyIter_enum he h
  · intro X pins σ H s hP hw hK hh I hG i0 st
    subst hP hw hK
    obtain ⟨its, r, p, z⟩ := ASq.is I hG
    have hai : a ≠ it := AIs.ne st.2.1 p
    have hae : e ≠ a := by
      rintro rfl
      obtain ⟨⟨old, he⟩, _⟩ := st
      obtain ⟨o, n, e1, e2⟩ := p.cls
      rw [he] at e1
      cases e1
      cases e2
    have D := draws_A (prog := X.prog) (w := X.w) (A := X.A.in1) (by exact hh) b it a hai its.toArray
    have W := WalksT.enumFrom 0 D e st.2.2 (by simp [st.2.2, hae]) (by simp)
    have hl : its.toArray.size = xs.length := by rw [List.size_toArray, r.length]
    rw [hl] at W
    refine ⟨_, _, _, _, W, fun i st' => ?_, fun i h st' => ?_, fun i us hi hPt => ?_⟩
    · obtain ⟨⟨old, he⟩, hi, _⟩ := st'
      exact ⟨⟨old, by simpa using he⟩, hi, p⟩
    · obtain ⟨⟨old, he⟩, hi, _⟩ := st'
      exact ⟨⟨old, by simpa using he⟩, hi, st.2.2⟩
    · obtain ⟨t, x, hx, rfl⟩ := hPt
      have hx' : its[i]? = some x := by simpa using hx
      obtain ⟨u, hu, ru⟩ := r.get (i := i) (x := xs.getD i .non) (by simp [hi])
      rw [hx'] at hu
      cases hu
      refine ⟨by show 2 ≤ sizeLine; rw [sizeLine_eq]; decide, ?_⟩
      exact .cons ⟨t, by simp⟩ (.cons ru .nil)
theorem turn_zip2 {P : Program} {w : World} {K : PySem.W.Frag} {elts : List Expr} {kk : Nat} {tpos : Pos} (b1 b2 : Bool) (a1 a2 z TI TO i1 i2 : Addr) (xs ys : List V) (hne : TI ≠ z ∧ TO ≠ z ∧ TI ≠ TO ∧ TI ≠ i1 ∧ TI ≠ i2 ∧ z ≠ i1 ∧ z ≠ i2 ∧ TO ≠ i1 ∧ TO ≠ i2 ∧ i1 ≠ i2) (hs : ∀ c ∈ [z, TI, TO, i1, i2], c ≠ a1 ∧ c ≠ a2) :
    Turn P w K (.Tuple elts kk tpos) (ItW (min xs.length ys.length) (fun i => [xs.getD i .non, ys.getD i .non]) fun H => ASq b1 K H a1 xs ∧ ASq b2 K H a2 ys) [z, TI, TO, i1, i2] z
      (fun i h => IsZip h z TI TO .none ∧ IsTupOf2 h TI (.ref i1) (.ref i2) ∧ (∃ u v, IsTupOf2 h TO u v) ∧ AIt b1 h i1 a1 i ∧ AIt b2 h i2 a2 i) := by
  obtain ⟨n1, n2, n3, n4, n5, n6, n7, n8, n9, n10⟩ := hne
  have q1 := hs z (by simp)
  have q2 := hs TI (by simp)
  have q3 := hs TO (by simp)
  have q4 := hs i1 (by simp)
  have q5 := hs i2 (by simp)
  refine turn_walk (wr := [z, TO, i1, i2]) (by simp) (fun c h => ?_) ?_ ?_ ?_ ?_
  · have e' : c = z ∨ c = TO ∨ c = i1 ∨ c = i2 := by simpa using h
    rcases e' with q | q | q | q <;> simp [q]
  · rintro i h ⟨hz, hTI, ⟨u, v, hTO⟩, h1, h2⟩ c hc
    have e' : c = z ∨ c = TI ∨ c = TO ∨ c = i1 ∨ c = i2 := by simpa using hc
    rcases e' with q | q | q | q | q
    · rw [q]; exact ⟨_, hz, fun v z => nomatch z⟩
    · rw [q]; exact ⟨_, hTI, fun v z => nomatch z⟩
    · rw [q]; exact ⟨_, hTO, fun v z => nomatch z⟩
    · rw [q]; exact h1.obj
    · rw [q]; exact h2.obj
  · rintro i h h' ⟨hz, hTI, ⟨u, v, hTO⟩, h1, h2⟩ k
    exact ⟨k z (by simp) _ hz, k TI (by simp) _ hTI, ⟨u, v, k TO (by simp) _ hTO⟩, h1.at fun o q => k i1 (by simp) o q, h2.at fun o q => k i2 (by simp) o q⟩
  · intro A i s Q E ⟨hz, _⟩ h
    exact wpAny_pyIter_zip hz h
  · intro X pins σ H s hP hw hK hh I ⟨hG1, hG2⟩ i0 st
    subst hP hw hK
    obtain ⟨its, r, p, _⟩ := ASq.is I hG1
    obtain ⟨its2, r2, p2, _⟩ := ASq.is I hG2
    have D1 := draws_A (prog := X.prog) (w := X.w) (A := X.A.in1) (by exact hh) b1 i1 a1 (Ne.symm q4.1) its.toArray
    have D2 := draws_A (prog := X.prog) (w := X.w) (A := X.A.in1) (by exact hh) b2 i2 a2 (Ne.symm q5.2) its2.toArray
    have S : ZipSep2 z TI TO i1 i2 [i1, a1] [i2, a2] := ⟨n1, n2, n3, n4, by simp, by simp [n6, q1.1], by simp [n8, q3.1], n5, by simp, by simp [n7, q1.2], by simp [n9, q3.2], by simp [n10, q4.2], by simp [Ne.symm n10, q5.1]⟩
    have W := WalksT.zipD2 S D1 D2
    have hl : its.toArray.size = xs.length := by rw [List.size_toArray, r.length]
    have hl2 : its2.toArray.size = ys.length := by rw [List.size_toArray, r2.length]
    rw [hl, hl2] at W
    refine ⟨_, _, _, _, W, fun i st' => ?_, fun i h st' => ?_, fun i us hi hPt => ?_⟩
    · obtain ⟨hz, hTI, hTO, h1, h2⟩ := st'
      exact ⟨hz, hTI, hTO, ⟨h1, p⟩, ⟨h2, p2⟩⟩
    · obtain ⟨hz, hTI, hTO, ⟨h1, _⟩, ⟨h2, _⟩⟩ := st'
      exact ⟨hz, hTI, hTO, h1, h2⟩
    · obtain ⟨x, y, hx, hy, rfl⟩ := hPt
      have hx' : its[i]? = some x := by simpa using hx
      have hy' : its2[i]? = some y := by simpa using hy
      have l1 : i < xs.length := by omega
      have l2 : i < ys.length := by omega
      obtain ⟨u, hu, ru⟩ := r.get (i := i) (x := xs.getD i .non) (by simp [l1])
      obtain ⟨v, hv, rv⟩ := r2.get (i := i) (x := ys.getD i .non) (by simp [l2])
      rw [hx'] at hu
      rw [hy'] at hv
      cases hu
      cases hv
      exact ⟨by show 2 ≤ sizeLine; rw [sizeLine_eq]; decide, .cons ru (.cons rv .nil)⟩
theorem turn_zip3 {P : Program} {w : World} {K : PySem.W.Frag} {elts : List Expr} {kk : Nat} {tpos : Pos} (b1 b2 b3 : Bool) (a1 a2 a3 z TI TO i1 i2 i3 : Addr) (xs ys zs : List V)
    (hne : TI ≠ z ∧ TO ≠ z ∧ TI ≠ TO ∧ TI ≠ i1 ∧ TI ≠ i2 ∧ TI ≠ i3 ∧ z ≠ i1 ∧ z ≠ i2 ∧ z ≠ i3 ∧ TO ≠ i1 ∧ TO ≠ i2 ∧ TO ≠ i3 ∧ i1 ≠ i2 ∧ i1 ≠ i3 ∧ i2 ≠ i3) (hs : ∀ c ∈ [z, TI, TO, i1, i2, i3], c ≠ a1 ∧ c ≠ a2 ∧ c ≠ a3) :
    Turn P w K (.Tuple elts kk tpos) (ItW (min (min xs.length ys.length) zs.length) (fun i => [xs.getD i .non, ys.getD i .non, zs.getD i .non]) fun H => ASq b1 K H a1 xs ∧ ASq b2 K H a2 ys ∧ ASq b3 K H a3 zs) [z, TI, TO, i1, i2, i3] z
      (fun i h => IsZip h z TI TO .none ∧ IsTupOf3 h TI (.ref i1) (.ref i2) (.ref i3) ∧ (∃ u v t, IsTupOf3 h TO u v t) ∧ AIt b1 h i1 a1 i ∧ AIt b2 h i2 a2 i ∧ AIt b3 h i3 a3 i) := by
  obtain ⟨n1, n2, n3, n4, n5, m5, n6, n7, m7, n8, n9, m9, n10, m10, m11⟩ := hne
  have q1 := hs z (by simp)
  have q2 := hs TI (by simp)
  have q3 := hs TO (by simp)
  have q4 := hs i1 (by simp)
  have q5 := hs i2 (by simp)
  have q6 := hs i3 (by simp)
  refine turn_walk (wr := [z, TO, i1, i2, i3]) (by simp) (fun c h => ?_) ?_ ?_ ?_ ?_
  · have e' : c = z ∨ c = TO ∨ c = i1 ∨ c = i2 ∨ c = i3 := by simpa using h
    rcases e' with q | q | q | q | q <;> simp [q]
  · rintro i h ⟨hz, hTI, ⟨u, v, t, hTO⟩, h1, h2, h3⟩ c hc
    have e' : c = z ∨ c = TI ∨ c = TO ∨ c = i1 ∨ c = i2 ∨ c = i3 := by simpa using hc
    rcases e' with q | q | q | q | q | q
    · rw [q]; exact ⟨_, hz, fun v z => nomatch z⟩
    · rw [q]; exact ⟨_, hTI, fun v z => nomatch z⟩
    · rw [q]; exact ⟨_, hTO, fun v z => nomatch z⟩
    · rw [q]; exact h1.obj
    · rw [q]; exact h2.obj
    · rw [q]; exact h3.obj
  · rintro i h h' ⟨hz, hTI, ⟨u, v, t, hTO⟩, h1, h2, h3⟩ k
    exact ⟨k z (by simp) _ hz, k TI (by simp) _ hTI, ⟨u, v, t, k TO (by simp) _ hTO⟩, h1.at fun o q => k i1 (by simp) o q, h2.at fun o q => k i2 (by simp) o q, h3.at fun o q => k i3 (by simp) o q⟩
  · intro A i s Q E ⟨hz, _⟩ h
    exact wpAny_pyIter_zip hz h
  · intro X pins σ H s hP hw hK hh I ⟨hG1, hG2, hG3⟩ i0 st
    subst hP hw hK
    obtain ⟨its, r, p, _⟩ := ASq.is I hG1
    obtain ⟨its2, r2, p2, _⟩ := ASq.is I hG2
    obtain ⟨its3, r3, p3, _⟩ := ASq.is I hG3
    have D1 := draws_A (prog := X.prog) (w := X.w) (A := X.A.in1) (by exact hh) b1 i1 a1 (Ne.symm q4.1) its.toArray
    have D2 := draws_A (prog := X.prog) (w := X.w) (A := X.A.in1) (by exact hh) b2 i2 a2 (Ne.symm q5.2.1) its2.toArray
    have D3 := draws_A (prog := X.prog) (w := X.w) (A := X.A.in1) (by exact hh) b3 i3 a3 (Ne.symm q6.2.2) its3.toArray
    have S : ZipSep3 z TI TO i1 i2 i3 [i1, a1] [i2, a2] [i3, a3] := ⟨n1, n2, n3, n4, by simp, by simp [n6, q1.1], by simp [n8, q3.1], n5, by simp, by simp [n7, q1.2.1], by simp [n9, q3.2.1], m5, by simp, by simp [m7, q1.2.2], by simp [m9, q3.2.2],
      by simp [n10, q4.2.1], by simp [m10, q4.2.2], by simp [Ne.symm n10, q5.1], by simp [m11, q5.2.2], by simp [Ne.symm m10, q6.1], by simp [Ne.symm m11, q6.2.1]⟩
    have W := WalksT.zipD3 S D1 D2 D3
    have hl : its.toArray.size = xs.length := by rw [List.size_toArray, r.length]
    have hl2 : its2.toArray.size = ys.length := by rw [List.size_toArray, r2.length]
    have hl3 : its3.toArray.size = zs.length := by rw [List.size_toArray, r3.length]
    rw [hl, hl2, hl3] at W
    refine ⟨_, _, _, _, W, fun i st' => ?_, fun i h st' => ?_, fun i us hi hPt => ?_⟩
    · obtain ⟨hz, hTI, hTO, h1, h2, h3⟩ := st'
      exact ⟨hz, hTI, hTO, ⟨h1, p⟩, ⟨h2, p2⟩, ⟨h3, p3⟩⟩
    · obtain ⟨hz, hTI, hTO, ⟨h1, _⟩, ⟨h2, _⟩, ⟨h3, _⟩⟩ := st'
      exact ⟨hz, hTI, hTO, h1, h2, h3⟩
    · obtain ⟨x, y, t, hx, hy, ht, rfl⟩ := hPt
      have hx' : its[i]? = some x := by simpa using hx
      have hy' : its2[i]? = some y := by simpa using hy
      have ht' : its3[i]? = some t := by simpa using ht
      have l1 : i < xs.length := by omega
      have l2 : i < ys.length := by omega
      have l3 : i < zs.length := by omega
      obtain ⟨u, hu, ru⟩ := r.get (i := i) (x := xs.getD i .non) (by simp [l1])
      obtain ⟨v, hv, rv⟩ := r2.get (i := i) (x := ys.getD i .non) (by simp [l2])
      obtain ⟨m, hm, rm⟩ := r3.get (i := i) (x := zs.getD i .non) (by simp [l3])
      rw [hx'] at hu
      rw [hy'] at hv
      rw [ht'] at hm
      cases hu
      cases hv
      cases hm
      exact ⟨by show 3 ≤ sizeLine; rw [sizeLine_eq]; decide, .cons ru (.cons rv (.cons rm .nil))⟩
theorem pyIter_A {prog : Program} {w : World} {A : Around} {E : Value → Shared → Prop} {s : Shared} {b : Bool} {a : Addr} {xs : Array Value} {Q : Value → Shared → Prop} (h : AIs b s.heap a xs) (hQ : Q (.ref s.heap.objs.size) { s with heap := s.heap.push (itObj b a) }) :
    wpAny (model prog w) A (pyIter (.ref a)) Q E s := by
  cases b with
  | true => exact wpAny_pyIter_list (show s.heap.IsList a xs from h) hQ
  | false => exact wpAny_pyIter_tuple (show s.heap.IsTuple a xs from h) hQ
theorem AIs.push {b : Bool} {h : Heap} {a : Addr} {xs : Array Value} (x : AIs b h a xs) (o : Obj) : AIs b (h.push o) a xs := x.at fun _ e => Heap.get?_push_of_some _ e
theorem meets_enum_newT (l : Addr) (items : Array Value) (n : Nat) (dct : Option Addr) (sl : Array (Option Value)) :
    Meets (Builtin.«enumerate.__new__» ⟨[.type "enumerate", .ref l], []⟩) (fun _ R s => s.heap.get? l = some { cls := .type "tuple", dict := dct, data := .seq items n, slots := sl } ∧
      R (.ok (.ret (.ref (s.heap.push (itObj false l)).objs.size))) { s with heap := (s.heap.push (itObj false l)).push { cls := .type "enumerate", data := .fields #[.none, .bool false, .ref s.heap.objs.size, rawInt 0, .none, .none] } }) :=
  .of_wp fun prog w A R s h => by
    obtain ⟨hp, g, d, tk, os⟩ := s; obtain ⟨hl, h⟩ := h
    have hsub := sub_enumerate
    have hL : Heap.IsTuple (Shared.heap ⟨hp, g, d, tk, os⟩) l items := ⟨_, hl, rfl, n, rfl⟩
    wp_walk using wpAny_loadPart' hl
    refine wpAny_stack_any fun st => wpAny_pure ?_
    split
    · rename_i c _ _ _ _ _
      cases (c == Value.type "enumerate")
      · wp_walk using wpAny_loadPart' hl, wpAny_pyIter_tuple hL
        exact ⟨_, rfl, h⟩
      · wp_walk using wpAny_loadPart' hl, wpAny_pyIter_tuple hL
        exact ⟨_, rfl, h⟩
    · wp_walk using wpAny_loadPart' hl, wpAny_pyIter_tuple hL
      exact ⟨_, rfl, h⟩
theorem call_enumT {prog : Program} {w : World} {A : Around} {E : Value → Shared → Prop} {s : Shared} {l : Addr} {items : Array Value} {Q : Value → Shared → Prop} (hL : s.heap.IsTuple l items)
    (h : ∀ h', IsEnum h' (s.heap.objs.size + 1) s.heap.objs.size 0 .none → h'.IsTupleIter s.heap.objs.size l 0 → (∀ b o, s.heap.get? b = some o → h'.get? b = some o) → Q (.ref (s.heap.objs.size + 1)) { s with heap := h' }) :
    wpAny (model prog w) A (call (.type "enumerate") [.ref l]) Q E s := by
  obtain ⟨⟨c, dct, dt, sl⟩, hl, hc, n, hd⟩ := hL
  replace hc : c = .type "tuple" := hc
  replace hd : dt = .seq items n := hd
  subst hc hd
  refine callType_new F.called_enumerate (by decide) (F.typeCall_enumerate_1 _) (F.newCall_enumerate_1 _) (fun obj => F.args_object_init_2 obj _) F.entry_enumerate_new (meets_enum_newT l items n dct sl) ⟨hl, ?_⟩
  have hz : (s.heap.push (itObj false l)).objs.size = s.heap.objs.size + 1 := Heap.size_push ..
  show _ ∧ _
  rw [hz]
  have he : IsEnum ((s.heap.push (itObj false l)).push { cls := .type "enumerate", data := .fields #[.none, .bool false, .ref s.heap.objs.size, rawInt 0, .none, .none] }) (s.heap.objs.size + 1) s.heap.objs.size 0 .none := by
    have := Heap.get?_push_size (s.heap.push (itObj false l)) (o := { cls := .type "enumerate", data := .fields #[.none, .bool false, .ref s.heap.objs.size, rawInt 0, .none, .none] }) rfl
    rw [hz] at this; exact this
  exact ⟨⟨_, he, rfl⟩, h _ he ⟨_, Heap.get?_push_of_some _ (Heap.get?_push_size _ rfl), rfl, rfl⟩ fun b o x => Heap.get?_push_of_some _ (Heap.get?_push_of_some _ x)⟩
theorem call_enumA {prog : Program} {w : World} {A : Around} {E : Value → Shared → Prop} {s : Shared} (b : Bool) {l : Addr} {items : Array Value} {Q : Value → Shared → Prop} (hL : AIs b s.heap l items)
    (h : ∀ h', IsEnum h' (s.heap.objs.size + 1) s.heap.objs.size 0 .none → AIt b h' s.heap.objs.size l 0 → (∀ b o, s.heap.get? b = some o → h'.get? b = some o) → Q (.ref (s.heap.objs.size + 1)) { s with heap := h' }) :
    wpAny (model prog w) A (call (.type "enumerate") [.ref l]) Q E s := by
  cases b with
  | true => exact call_enumerate_list hL fun h' a b _ d => h h' a b d
  | false => exact call_enumT hL fun h' a b d => h h' a b d
abbrev zA1 (b1 : Bool) (h : Heap) (l1 : Addr) : Heap := h.push (itObj b1 l1)
abbrev zA2 (b1 b2 : Bool) (h : Heap) (l1 l2 : Addr) : Heap := (zA1 b1 h l1).push (itObj b2 l2)
abbrev zA3 (b1 b2 : Bool) (h : Heap) (l1 l2 : Addr) : Heap := (zA2 b1 b2 h l1 l2).push { cls := .type "tuple", data := .seq #[.ref h.objs.size, .ref (zA1 b1 h l1).objs.size] }
abbrev zA4 (b1 b2 : Bool) (h : Heap) (l1 l2 : Addr) : Heap := (zA3 b1 b2 h l1 l2).push { cls := .type "tuple", data := .seq #[.none, .none] }
abbrev zA5 (b1 b2 : Bool) (h : Heap) (l1 l2 : Addr) : Heap := (zA4 b1 b2 h l1 l2).push { cls := .type "zip", data := .fields #[.none, .bool false, .bool false, .ref (zA2 b1 b2 h l1 l2).objs.size, .ref (zA3 b1 b2 h l1 l2).objs.size] }
theorem meets_zipA (b1 b2 : Bool) (l1 l2 : Addr) (xs ys : Array Value) :
    Meets (Builtin.«zip.__new__» ⟨[.type "zip", .ref l1, .ref l2], []⟩) (fun _ R s => AIs b1 s.heap l1 xs ∧ AIs b2 s.heap l2 ys ∧
      R (.ok (.ret (.ref (zA4 b1 b2 s.heap l1 l2).objs.size))) { s with heap := zA5 b1 b2 s.heap l1 l2 }) :=
  .of_wp fun prog w A R s h => by
    obtain ⟨hp, g, d, tk, os⟩ := s; obtain ⟨hl1, hl2, h⟩ := h
    have hsub := sub_zip
    have hL1 : AIs b1 (Shared.heap ⟨hp, g, d, tk, os⟩) l1 xs := hl1
    have hL2 : AIs b2 (Shared.heap ⟨hp.push (itObj b1 l1), g, d, tk, os⟩) l2 ys := AIs.push hl2 _
    wp_walk using pyIter_A hL1, pyIter_A hL2
    exact ⟨_, rfl, h⟩
theorem call_zipA2 {prog : Program} {w : World} {A : Around} {E : Value → Shared → Prop} {s : Shared} (b1 b2 : Bool) {l1 l2 : Addr} {xs ys : Array Value} {Q : Value → Shared → Prop} (hl1 : AIs b1 s.heap l1 xs) (hl2 : AIs b2 s.heap l2 ys)
    (h : ∀ h', IsZip h' (s.heap.objs.size + 4) (s.heap.objs.size + 2) (s.heap.objs.size + 3) .none → IsTupOf2 h' (s.heap.objs.size + 2) (.ref s.heap.objs.size) (.ref (s.heap.objs.size + 1)) →
      IsTupOf2 h' (s.heap.objs.size + 3) .none .none → AIt b1 h' s.heap.objs.size l1 0 → AIt b2 h' (s.heap.objs.size + 1) l2 0 →
      (∀ c o, s.heap.get? c = some o → h'.get? c = some o) → Q (.ref (s.heap.objs.size + 4)) { s with heap := h' }) :
    wpAny (model prog w) A (call (.type "zip") [.ref l1, .ref l2]) Q E s := by
  refine callType_new F.called_zip (by decide) (F.typeCall_zip_2 _ _) (F.newCall_zip_2 _ _) (fun obj => F.args_object_init_3 obj _ _) F.entry_zip_new (meets_zipA b1 b2 l1 l2 xs ys) ⟨hl1, hl2, ?_⟩
  have z1 : (zA1 b1 s.heap l1).objs.size = s.heap.objs.size + 1 := Heap.size_push ..
  have z2 : (zA2 b1 b2 s.heap l1 l2).objs.size = s.heap.objs.size + 2 := by rw [Heap.size_push, z1]
  have z3 : (zA3 b1 b2 s.heap l1 l2).objs.size = s.heap.objs.size + 3 := by rw [Heap.size_push, z2]
  have z4 : (zA4 b1 b2 s.heap l1 l2).objs.size = s.heap.objs.size + 4 := by rw [Heap.size_push, z3]
  have g5 : (zA5 b1 b2 s.heap l1 l2).get? (zA4 b1 b2 s.heap l1 l2).objs.size = some _ := Heap.get?_push_size _ rfl
  have g4 : (zA5 b1 b2 s.heap l1 l2).get? (zA3 b1 b2 s.heap l1 l2).objs.size = some _ := Heap.get?_push_of_some _ (Heap.get?_push_size _ rfl)
  have g3 : (zA5 b1 b2 s.heap l1 l2).get? (zA2 b1 b2 s.heap l1 l2).objs.size = some _ := Heap.get?_push_of_some _ (Heap.get?_push_of_some _ (Heap.get?_push_size _ rfl))
  have g2 : (zA5 b1 b2 s.heap l1 l2).get? (zA1 b1 s.heap l1).objs.size = some (itObj b2 l2) := Heap.get?_push_of_some _ (Heap.get?_push_of_some _ (Heap.get?_push_of_some _ (Heap.get?_push_size _ rfl)))
  have g1 : (zA5 b1 b2 s.heap l1 l2).get? s.heap.objs.size = some (itObj b1 l1) := Heap.get?_push_of_some _ (Heap.get?_push_of_some _ (Heap.get?_push_of_some _ (Heap.get?_push_of_some _ (Heap.get?_push_size _ rfl))))
  show _ ∧ _
  rw [z2, z3, z4] at g5
  rw [z1, z2] at g3
  rw [z3] at g4
  rw [z4]
  have w1 : AIt b1 (zA5 b1 b2 s.heap l1 l2) s.heap.objs.size l1 0 := AIt.new g1
  have w2 : AIt b2 (zA5 b1 b2 s.heap l1 l2) (s.heap.objs.size + 1) l2 0 := by
    rw [← z1]
    exact AIt.new g2
  exact ⟨⟨_, g5, rfl⟩, h _ g5 g3 g4 w1 w2 fun c o x =>
    Heap.get?_push_of_some _ (Heap.get?_push_of_some _ (Heap.get?_push_of_some _ (Heap.get?_push_of_some _ (Heap.get?_push_of_some _ x))))⟩
theorem typeCall_zip_3 (a b c : Value) : checkTypeCall "zip" ⟨[a, b, c], []⟩ = pure () := by kernel_rfl
theorem newCall_zip_3 (a b c : Value) : checkBuiltinCall "zip.__new__" ⟨[.type "zip", a, b, c], []⟩ = pure () := by kernel_rfl
theorem args_object_init_4 (a b c d : Value) : argsOk "object.__init__" ⟨[a, b, c, d], []⟩ := by
  first
    | exact F.args_object_init_4 a b c d
    | (unfold argsOk; kernel_rfl)
abbrev yA3 (b1 b2 b3 : Bool) (h : Heap) (l1 l2 l3 : Addr) : Heap := (zA2 b1 b2 h l1 l2).push (itObj b3 l3)
abbrev yA4 (b1 b2 b3 : Bool) (h : Heap) (l1 l2 l3 : Addr) : Heap := (yA3 b1 b2 b3 h l1 l2 l3).push { cls := .type "tuple", data := .seq #[.ref h.objs.size, .ref (zA1 b1 h l1).objs.size, .ref (zA2 b1 b2 h l1 l2).objs.size] }
abbrev yA5 (b1 b2 b3 : Bool) (h : Heap) (l1 l2 l3 : Addr) : Heap := (yA4 b1 b2 b3 h l1 l2 l3).push { cls := .type "tuple", data := .seq #[.none, .none, .none] }
abbrev yA6 (b1 b2 b3 : Bool) (h : Heap) (l1 l2 l3 : Addr) : Heap := (yA5 b1 b2 b3 h l1 l2 l3).push { cls := .type "zip", data := .fields #[.none, .bool false, .bool false, .ref (yA3 b1 b2 b3 h l1 l2 l3).objs.size, .ref (yA4 b1 b2 b3 h l1 l2 l3).objs.size] }
theorem meets_zipA3 (b1 b2 b3 : Bool) (l1 l2 l3 : Addr) (xs ys zs : Array Value) :
    Meets (Builtin.«zip.__new__» ⟨[.type "zip", .ref l1, .ref l2, .ref l3], []⟩) (fun _ R s => AIs b1 s.heap l1 xs ∧ AIs b2 s.heap l2 ys ∧ AIs b3 s.heap l3 zs ∧
      R (.ok (.ret (.ref (yA5 b1 b2 b3 s.heap l1 l2 l3).objs.size))) { s with heap := yA6 b1 b2 b3 s.heap l1 l2 l3 }) :=
  .of_wp fun prog w A R s h => by
    obtain ⟨hp, g, d, tk, os⟩ := s; obtain ⟨hl1, hl2, hl3, h⟩ := h
    have hsub := sub_zip
    have hL1 : AIs b1 (Shared.heap ⟨hp, g, d, tk, os⟩) l1 xs := hl1
    have hL2 : AIs b2 (Shared.heap ⟨hp.push (itObj b1 l1), g, d, tk, os⟩) l2 ys := AIs.push hl2 _
    have hL3 : AIs b3 (Shared.heap ⟨(hp.push (itObj b1 l1)).push (itObj b2 l2), g, d, tk, os⟩) l3 zs := AIs.push (AIs.push hl3 _) _
    wp_walk using pyIter_A hL1, pyIter_A hL2, pyIter_A hL3
    exact ⟨_, rfl, h⟩
theorem call_zipA3 {prog : Program} {w : World} {A : Around} {E : Value → Shared → Prop} {s : Shared} (b1 b2 b3 : Bool) {l1 l2 l3 : Addr} {xs ys zs : Array Value} {Q : Value → Shared → Prop} (hl1 : AIs b1 s.heap l1 xs) (hl2 : AIs b2 s.heap l2 ys) (hl3 : AIs b3 s.heap l3 zs)
    (h : ∀ h', IsZip h' (s.heap.objs.size + 5) (s.heap.objs.size + 3) (s.heap.objs.size + 4) .none → IsTupOf3 h' (s.heap.objs.size + 3) (.ref s.heap.objs.size) (.ref (s.heap.objs.size + 1)) (.ref (s.heap.objs.size + 2)) →
      IsTupOf3 h' (s.heap.objs.size + 4) .none .none .none → AIt b1 h' s.heap.objs.size l1 0 → AIt b2 h' (s.heap.objs.size + 1) l2 0 → AIt b3 h' (s.heap.objs.size + 2) l3 0 →
      (∀ c o, s.heap.get? c = some o → h'.get? c = some o) → Q (.ref (s.heap.objs.size + 5)) { s with heap := h' }) :
    wpAny (model prog w) A (call (.type "zip") [.ref l1, .ref l2, .ref l3]) Q E s := by
  refine callType_new F.called_zip (by decide) (typeCall_zip_3 _ _ _) (newCall_zip_3 _ _ _) (fun obj => args_object_init_4 obj _ _ _) F.entry_zip_new (meets_zipA3 b1 b2 b3 l1 l2 l3 xs ys zs) ⟨hl1, hl2, hl3, ?_⟩
  have z1 : (zA1 b1 s.heap l1).objs.size = s.heap.objs.size + 1 := Heap.size_push ..
  have z2 : (zA2 b1 b2 s.heap l1 l2).objs.size = s.heap.objs.size + 2 := by rw [Heap.size_push, z1]
  have z3 : (yA3 b1 b2 b3 s.heap l1 l2 l3).objs.size = s.heap.objs.size + 3 := by rw [Heap.size_push, z2]
  have z4 : (yA4 b1 b2 b3 s.heap l1 l2 l3).objs.size = s.heap.objs.size + 4 := by rw [Heap.size_push, z3]
  have z5 : (yA5 b1 b2 b3 s.heap l1 l2 l3).objs.size = s.heap.objs.size + 5 := by rw [Heap.size_push, z4]
  have g6 : (yA6 b1 b2 b3 s.heap l1 l2 l3).get? (yA5 b1 b2 b3 s.heap l1 l2 l3).objs.size = some _ := Heap.get?_push_size _ rfl
  have g5 : (yA6 b1 b2 b3 s.heap l1 l2 l3).get? (yA4 b1 b2 b3 s.heap l1 l2 l3).objs.size = some _ := Heap.get?_push_of_some _ (Heap.get?_push_size _ rfl)
  have g4 : (yA6 b1 b2 b3 s.heap l1 l2 l3).get? (yA3 b1 b2 b3 s.heap l1 l2 l3).objs.size = some _ := Heap.get?_push_of_some _ (Heap.get?_push_of_some _ (Heap.get?_push_size _ rfl))
  have g3 : (yA6 b1 b2 b3 s.heap l1 l2 l3).get? (zA2 b1 b2 s.heap l1 l2).objs.size = some (itObj b3 l3) := Heap.get?_push_of_some _ (Heap.get?_push_of_some _ (Heap.get?_push_of_some _ (Heap.get?_push_size _ rfl)))
  have g2 : (yA6 b1 b2 b3 s.heap l1 l2 l3).get? (zA1 b1 s.heap l1).objs.size = some (itObj b2 l2) := Heap.get?_push_of_some _ (Heap.get?_push_of_some _ (Heap.get?_push_of_some _ (Heap.get?_push_of_some _ (Heap.get?_push_size _ rfl))))
  have g1 : (yA6 b1 b2 b3 s.heap l1 l2 l3).get? s.heap.objs.size = some (itObj b1 l1) := Heap.get?_push_of_some _ (Heap.get?_push_of_some _ (Heap.get?_push_of_some _ (Heap.get?_push_of_some _ (Heap.get?_push_of_some _ (Heap.get?_push_size _ rfl)))))
  show _ ∧ _
  rw [z3, z4, z5] at g6
  rw [z4] at g5
  rw [z1, z2, z3] at g4
  rw [z5]
  have w1 : AIt b1 (yA6 b1 b2 b3 s.heap l1 l2 l3) s.heap.objs.size l1 0 := AIt.new g1
  have w2 : AIt b2 (yA6 b1 b2 b3 s.heap l1 l2 l3) (s.heap.objs.size + 1) l2 0 := by
    rw [← z1]
    exact AIt.new g2
  have w3 : AIt b3 (yA6 b1 b2 b3 s.heap l1 l2 l3) (s.heap.objs.size + 2) l3 0 := by
    rw [← z2]
    exact AIt.new g3
  exact ⟨⟨_, g6, rfl⟩, h _ g6 g4 g5 w1 w2 w3 fun c o x =>
    Heap.get?_push_of_some _ (Heap.get?_push_of_some _ (Heap.get?_push_of_some _ (Heap.get?_push_of_some _ (Heap.get?_push_of_some _ (Heap.get?_push_of_some _ x)))))⟩
end Rg
set_option Elab.async false
set_option linter.all false
set_option maxRecDepth 100000
set_option maxHeartbeats 4000000
namespace Rg
open PySem PySem.Spec PyProof.Rows L2
structure Iw (T : Tab) (st l1 : AS) (H1 : Hp) (J : L2.It) (ds : List D) : Prop where
  go : ∀ i H l, i < ds.length → Ext (hide l1 H1) (hide l H) → (∀ a, st a → H a = H1 a) → J.go i H
  stop : ∀ H l, Ext (hide l1 H1) (hide l H) → (∀ a, st a → H a = H1 a) → J.stop ds.length H
  yld : ∀ i H l x H' d, ds[i]? = some d → Ext (hide l1 H1) (hide l H) → (∀ a, st a → H a = H1 a) → (∀ a, l a → H a ≠ none) → J.yld i H x H' → Same H H' ∧ Rp T (hide l H') d x
def stI (m : Bool) (ow : Ow) : AS := fun a => m = false ∧ ∃ i, ow (.inl i) = some a
def IwR (T : Tab) (m : Bool) (hr : AS) (ow : Ow) (H : Hp) (ds : List D) (J : L2.It) : Prop := Iw T (stI m ow) (hid hr ow) H J ds
abbrev tIt (T : Tab) (Wx : WX) (m : Bool) (den : List Slot → List Cell → Res (List D)) : TI := tG T (IwR T m) Wx den
structure Stq (T : Tab) (K : PySem.W.Frag) (st l1 : AS) (H1 : Hp) (ds : List D) (b : Bool) (a : Addr) (vs : List V) : Prop where
  els : RpL T (hide l1 H1) ds vs
  sq : ∀ H l, Ext (hide l1 H1) (hide l H) → (∀ a, st a → H a = H1 a) → ASq b K H a vs
section
variable {T : Tab} {K : PySem.W.Frag} {st l1 : AS} {H1 : Hp} {ds : List D} {b : Bool} {a : Addr} {vs : List V}
theorem ASq.inj {X : Cx} {pins : List (Addr × Obj)} {σ : L2.St} {H : Hp} {s : Shared} (I : L2.Inv X pins σ H s) {xs ys : List V} (h : ASq b X.K H a xs) (h' : ASq b X.K H a ys) : xs = ys := by
  cases b with
  | true => exact I.list_inj h h'
  | false => exact I.tuple_inj h h'
def ItA (b : Bool) (K : PySem.W.Frag) (a : Addr) : L2.It := if b then Itl K a else Itt K a
theorem Stq.iw (q : Stq T K st l1 H1 ds b a vs) : Iw T st l1 H1 (ItA b K a) ds := by
  have key : ∀ (i : Nat) (H : Hp) (l : AS) (x : V) (d : D), Ext (hide l1 H1) (hide l H) → ds[i]? = some d → vs[i]? = some x → Rp T (hide l H) d x := fun i H l x d e hd hx => by
    obtain ⟨v, h1, h2⟩ := q.els.get hd
    rw [hx] at h1
    cases h1
    exact h2.mono e
  have hl := q.els.length
  cases b with
  | true =>
    refine ⟨fun i H l hi e s => ⟨vs, vs[i], q.sq H l e s, by simp [← hl, hi]⟩, fun H l e s => ⟨vs, q.sq H l e s, by omega⟩, fun i H l x H' d hd e s t y => ?_⟩
    obtain ⟨rfl, y⟩ := y
    exact ⟨Same.refl _, key i _ l x d e hd (y vs (q.sq _ l e s))⟩
  | false =>
    refine ⟨fun i H l hi e s => ⟨vs, vs[i], q.sq H l e s, by simp [← hl, hi]⟩, fun H l e s => ⟨vs, q.sq H l e s, by omega⟩, fun i H l x H' d hd e s t y => ?_⟩
    obtain ⟨rfl, y⟩ := y
    exact ⟨Same.refl _, key i _ l x d e hd (y vs (q.sq _ l e s))⟩
theorem rp_new {l : AS} {H : Hp} {p : Addr} {vs : List V} {ds : List D} (t : ∀ a, l a → H a ≠ none) (hp : H p = none) (r : RpL T (hide l H) ds vs) : Rp T (hide l (upd H p (.tup vs))) (.tp false ds) (.ref p) :=
  .tup0 (hide_new t hp) (r.mono (hide_mono (Same.stp (same_new hp))).ext)
theorem Stq.enum (q : Stq T K st l1 H1 ds b a vs) : Iw T st l1 H1 (ItW vs.length (fun i => [.int (i : Int), vs.getD i .non]) fun H => ASq b K H a vs) (enumD ds) := by
  have hl := q.els.length
  have hle : (enumD ds).length = vs.length := by simp [enumD, hl]
  refine ⟨fun i H l hi e s => ⟨by omega, q.sq H l e s⟩, fun H l e s => ⟨hle, q.sq H l e s⟩, fun i H l x H' d hd e s t y => ?_⟩
  obtain ⟨p, rfl, hp, rfl⟩ := y
  refine ⟨same_new hp, ?_⟩
  unfold enumD at hd
  rw [List.getElem?_map, List.getElem?_zipIdx] at hd
  cases k : ds[i]? with
  | none => rw [k] at hd; cases hd
  | some z =>
    rw [k] at hd
    simp only [Option.map_some, Option.some.injEq, Nat.zero_add] at hd
    subst hd
    obtain ⟨v, h1, h2⟩ := q.els.get k
    have e2 : vs.getD i .non = v := by rw [List.getD_eq_getElem?_getD, h1]; rfl
    exact rp_new t hp (.cons (.int _) (.cons (by rw [e2]; exact h2.mono e) .nil))
theorem getD_rp {H : Hp} {i : Nat} {d : D} {ds : List D} {vs : List V} (r : RpL T H ds vs) (h : ds[i]? = some d) : Rp T H d (vs.getD i .non) := by
  obtain ⟨v, h1, h2⟩ := r.get h
  rw [List.getD_eq_getElem?_getD, h1]
  exact h2
theorem Stq.zip2 {b2 : Bool} {a2 : Addr} {vs2 : List V} {ds2 : List D} (q : Stq T K st l1 H1 ds b a vs) (q2 : Stq T K st l1 H1 ds2 b2 a2 vs2) :
    Iw T st l1 H1 (ItW (min vs.length vs2.length) (fun i => [vs.getD i .non, vs2.getD i .non]) fun H => ASq b K H a vs ∧ ASq b2 K H a2 vs2) (zip2D ds ds2) := by
  have hl := q.els.length
  have hl2 := q2.els.length
  have hle : (zip2D ds ds2).length = min vs.length vs2.length := by simp [zip2D, hl, hl2]
  refine ⟨fun i H l hi e s => ⟨by omega, q.sq H l e s, q2.sq H l e s⟩, fun H l e s => ⟨hle, q.sq H l e s, q2.sq H l e s⟩, fun i H l x H' d hd e s t y => ?_⟩
  obtain ⟨p, rfl, hp, rfl⟩ := y
  refine ⟨same_new hp, ?_⟩
  unfold zip2D at hd
  rw [List.getElem?_map] at hd
  cases k : (ds.zip ds2)[i]? with
  | none => rw [k] at hd; cases hd
  | some z =>
    rw [k] at hd
    cases hd
    obtain ⟨k1, k2⟩ := List.getElem?_zip_eq_some.mp k
    exact rp_new t hp (.cons ((getD_rp q.els k1).mono e) (.cons ((getD_rp q2.els k2).mono e) .nil))
theorem Stq.zip3 {b2 b3 : Bool} {a2 a3 : Addr} {vs2 vs3 : List V} {ds2 ds3 : List D} (q : Stq T K st l1 H1 ds b a vs) (q2 : Stq T K st l1 H1 ds2 b2 a2 vs2) (q3 : Stq T K st l1 H1 ds3 b3 a3 vs3) :
    Iw T st l1 H1 (ItW (min (min vs.length vs2.length) vs3.length) (fun i => [vs.getD i .non, vs2.getD i .non, vs3.getD i .non]) fun H => ASq b K H a vs ∧ ASq b2 K H a2 vs2 ∧ ASq b3 K H a3 vs3) (zip3D ds ds2 ds3) := by
  have hl := q.els.length
  have hl2 := q2.els.length
  have hl3 := q3.els.length
  have hle : (zip3D ds ds2 ds3).length = min (min vs.length vs2.length) vs3.length := by simp [zip3D, hl, hl2, hl3] <;> omega
  refine ⟨fun i H l hi e s => ⟨by omega, q.sq H l e s, q2.sq H l e s, q3.sq H l e s⟩, fun H l e s => ⟨hle, q.sq H l e s, q2.sq H l e s, q3.sq H l e s⟩, fun i H l x H' d hd e s t y => ?_⟩
  obtain ⟨p, rfl, hp, rfl⟩ := y
  refine ⟨same_new hp, ?_⟩
  unfold zip3D at hd
  rw [List.getElem?_map] at hd
  cases k : (ds.zip (ds2.zip ds3))[i]? with
  | none => rw [k] at hd; cases hd
  | some z =>
    rw [k] at hd
    cases hd
    obtain ⟨k1, k2⟩ := List.getElem?_zip_eq_some.mp k
    obtain ⟨k2, k3⟩ := List.getElem?_zip_eq_some.mp k2
    exact rp_new t hp (.cons ((getD_rp q.els k1).mono e) (.cons ((getD_rp q2.els k2).mono e) (.cons ((getD_rp q3.els k3).mono e) .nil)))
theorem iw_str (z : Str) : Iw T st l1 H1 (Its z) (chars z) := by
  have hl : (chars z).length = z.cps.size := by simp [chars]
  refine ⟨fun i H l hi e s => by rw [hl] at hi; exact hi, fun H l e s => by rw [hl]; exact Nat.le_refl _, fun i H l x H' d hd e s t y => ?_⟩
  obtain ⟨rfl, c, hc, rfl⟩ := y
  refine ⟨Same.refl _, ?_⟩
  unfold chars at hd
  rw [List.getElem?_map, Array.getElem?_toList, hc] at hd
  cases hd
  exact .str _
theorem iw_range (lo : Int) (n : Nat) : Iw T st l1 H1 (Itr lo n) (rangeD lo n) := by
  have hl : (rangeD lo n).length = n := by simp [rangeD]
  refine ⟨fun i H l hi e s => by rw [hl] at hi; exact hi, fun H l e s => by rw [hl]; exact Nat.le_refl n, fun i H l x H' d hd e s t y => ?_⟩
  obtain ⟨rfl, rfl⟩ := y
  refine ⟨Same.refl _, ?_⟩
  unfold rangeD at hd
  have hi : i < n := by
    have := (List.getElem?_eq_some_iff.mp hd).1
    simpa using this
  rw [List.getElem?_map, List.getElem?_range hi] at hd
  cases hd
  exact .int _
theorem lookI_st {hr : AS} {ow : Ow} {H : Hp} {env : List Slot} {S : List Cell} {σ : L2.St} {m : Bool} {w : W} {v : V} {d : D} (R : Rel T hr ow H env S σ) (h : WR T hr ow H w v) (e : lookI m env w = some d) {ds : List D} (hs : seqD d = some ds) :
    ∃ b a vs, v = .ref a ∧ Stq T K (stI m ow) (hid hr ow) H ds b a vs := by
  cases w with
  | d x =>
    cases e
    have h' : Rp T (hide (hid hr ow) H) d v := h
    cases h' with
    | @tup a vs ds' o q n r =>
      cases hs
      exact ⟨false, a, vs, rfl, r, fun H' l' x _ => .inl (.inr ⟨o, (hide_ext _ _).frz _ _ _ (x.frz _ _ _ q)⟩)⟩
    | @tup0 a vs ds' q r =>
      cases hs
      exact ⟨false, a, vs, rfl, r, fun H' l' x _ => .inl (.inl ((hide_ext _ _).tup _ _ (x.tup _ _ q)))⟩
    | @lst a vs ds' q r =>
      cases hs
      exact ⟨true, a, vs, rfl, r, fun H' l' x _ => .inl ((hide_ext _ _).lst _ _ (x.lst _ _ q))⟩
    | _ => cases hs
  | l p =>
    cases p with
    | inr n => cases e
    | inl i =>
      cases m with
      | true => cases e
      | false =>
        obtain ⟨a, ha, rfl⟩ := h
        have q := R.sl i
        simp only [lookI, Bool.false_eq_true, if_false] at e
        cases k : env.getD i .un with
        | un => rw [k] at e; cases e
        | w x => rw [k] at e; cases e
        | own c =>
          rw [k] at e q
          obtain ⟨b, q1, _, q3⟩ := q
          rw [q1] at ha
          cases ha
          cases c with
          | lst l =>
            cases e
            cases hs
            obtain ⟨vs, h1, r⟩ := q3
            exact ⟨true, a, vs, rfl, r, fun H' l' x s => .inl (.inl (by rw [s a ⟨rfl, i, q1⟩]; exact h1))⟩
          | dct t l => cases e; cases hs
          | ob c fs => cases e
end
theorem z1_ge (n c : Nat) (h : c ∈ [n + 1, n]) : n ≤ c := by
  have e : c = n + 1 ∨ c = n := by simpa using h
  omega
theorem z2_ge (n c : Nat) (h : c ∈ [n + 4, n + 2, n + 3, n, n + 1]) : n ≤ c := by
  have e : c = n + 4 ∨ c = n + 2 ∨ c = n + 3 ∨ c = n ∨ c = n + 1 := by simpa using h
  omega
theorem z3_ge (n c : Nat) (h : c ∈ [n + 5, n + 3, n + 4, n, n + 1, n + 2]) : n ≤ c := by
  have e : c = n + 5 ∨ c = n + 3 ∨ c = n + 4 ∨ c = n ∨ c = n + 1 ∨ c = n + 2 := by simpa using h
  omega
theorem z2_ne (n : Nat) : n + 2 ≠ n + 4 ∧ n + 3 ≠ n + 4 ∧ n + 2 ≠ n + 3 ∧ n + 2 ≠ n ∧ n + 2 ≠ n + 1 ∧ n + 4 ≠ n ∧ n + 4 ≠ n + 1 ∧ n + 3 ≠ n ∧ n + 3 ≠ n + 1 ∧ n ≠ n + 1 := by omega
theorem z3_ne (n : Nat) : n + 3 ≠ n + 5 ∧ n + 4 ≠ n + 5 ∧ n + 3 ≠ n + 4 ∧ n + 3 ≠ n ∧ n + 3 ≠ n + 1 ∧ n + 3 ≠ n + 2 ∧ n + 5 ≠ n ∧ n + 5 ≠ n + 1 ∧ n + 5 ≠ n + 2 ∧ n + 4 ≠ n ∧ n + 4 ≠ n + 1 ∧ n + 4 ≠ n + 2 ∧ n ≠ n + 1 ∧ n ≠ n + 2 ∧ n + 1 ≠ n + 2 := by omega
theorem lt_le_ne {a n c : Nat} (h : a < n) (g : n ≤ c) : c ≠ a := by omega
section
variable {X : Cx} {T : Tab} {Wx : WX} {phi : Nat → Fn} {tg : Expr}
def iAny (K : PySem.W.Frag) (tl : TE) : TI := fun σ H R => tl σ H fun x H1 => (∃ b a xs, x = .ref a ∧ ASq b K H1 a xs ∧ R (ItA b K a) H1) ∨ ∃ z, x = .str z ∧ R (Its z) H1
theorem pi_any {e : Expr} {tl : TE} (hl : PE X e tl) : PI X tg e (iAny X.K tl) := by
  refine ⟨fun pins s σ H R I h => ?_⟩
  refine thn (hl.run pins s σ H _ I h) fun v s1 ⟨x, H1, I1, r1, q1⟩ => ?_
  rcases q1 with ⟨b, a, xs, rfl, hq, q⟩ | ⟨z, rfl, q⟩
  · cases r1
    cases b with
    | true =>
      obtain ⟨its, rv, p, hz⟩ := I1.list hq
      refine wpAny_pyIter_list p.isList ?_
      exact pi_one (tk := s1.toks) I1 _ (turn_list a _) ⟨_, Heap.get?_push_size _ rfl, rfl, rfl⟩ q
    | false =>
      obtain ⟨its, rv, p, hz⟩ := I1.tuple hq
      refine wpAny_pyIter_tuple (show s1.heap.IsTuple a its.toArray from p) ?_
      exact pi_one (tk := s1.toks) I1 _ (turn_tuple a _) ⟨_, Heap.get?_push_size _ rfl, rfl, rfl⟩ q
  · obtain ⟨t, rfl⟩ := r1
    cases ha : z.cps.all (· < 128)
    · exact wpAny_pyIter_wide ha (pi_one (tk := s1.toks) I1 _ (turn_str _ z t "str_iterator" (.inr rfl)) ⟨_, Heap.get?_push_size _ rfl, rfl, rfl⟩ q)
    · exact wpAny_pyIter_ascii ha (pi_one (tk := s1.toks) I1 _ (turn_str _ z t "str_ascii_iterator" (.inl rfl)) ⟨_, Heap.get?_push_size _ rfl, rfl, rfl⟩ q)
theorem i_e {a : E} {m : Bool} {e : Expr} (ha : PE X e (tI T Wx (a.den phi))) : PI X tg e (tIt T Wx m ((It.e a).den phi m)) := by
  refine PI.imp (pi_any ha) fun σ H R h => ?_
  have h' : tG T (IwR T m) Wx (fun env S => (a.den phi env S).bind fun x S1 => Res.opt (lookI m env x) fun d => Res.opt (itemsD d) fun ds => .ok ds S1) σ H R := by
    obtain ⟨hr, ow, env, S, R0, p⟩ := h
    simp only [It.den] at p
    exact ⟨hr, ow, env, S, R0, p⟩
  refine (tG.bind1 (Wq := WR T) (k := fun env x S1 => Res.opt (lookI m env x) fun d => Res.opt (itemsD d) fun ds => .ok ds S1) h').mono fun v H1 ⟨hr, ow, env, S, x, R1, wx, p⟩ => ?_
  obtain ⟨d, h1, p1⟩ := p.opt
  obtain ⟨ds, h2, p2⟩ := p1.opt
  cases hs : seqD d with
  | some ds' =>
    obtain ⟨b, a', vs, rfl, q⟩ := lookI_st (K := X.K) R1 wx h1 hs
    have e : ds' = ds := by
      cases d <;> first | (cases hs; done) | (cases hs; cases h2; rfl)
    subst e
    exact .inl ⟨b, a', vs, rfl, q.sq H1 _ (Ext.refl _) fun _ _ => rfl, p2.same R1 q.iw⟩
  | none =>
    cases d with
    | str z =>
      cases h2
      have e : v = .str z := by
        cases x with
        | d y => cases h1; cases wx; rfl
        | l pp =>
          cases pp with
          | inr n => cases h1
          | inl i =>
            simp only [lookI] at h1
            split at h1
            · cases h1
            · cases k : env.getD i .un with
              | un => rw [k] at h1; cases h1
              | w x => rw [k] at h1; cases h1
              | own c => rw [k] at h1; cases c <;> cases h1
      exact .inr ⟨z, e, p2.same R1 (iw_str z)⟩
    | lst l => cases hs
    | tp c l => cases hs
    | _ => cases h2
theorem i_rg1 {a : E} {m : Bool} {e : Expr} {p pos : Pos} (hg : Gl X "range") (hm : X.mg "range" = none) (ha : PE X e (tI T Wx (a.den phi))) (hs : starEach [e] X.env = (false, eval e X.env) :: starEach [] X.env) :
    PI X tg (.Call (.Name "range" p) [e] [] pos) (tIt T Wx m ((It.rg1 a).den phi m)) := by
  refine PI.imp (pi_range1 hg hm (pa_cons ha pa_nil hs) hs) fun σ H R h => ?_
  have h' : tG T (IwR T m) Wx (fun env S => (a.den phi env S).bind fun x S1 => match x with
    | .d (.int j) => if rgOk j = true then .ok (rangeD 0 j.toNat) S1 else .bad
    | _ => .bad) σ H R := by
    obtain ⟨hr, ow, env, S, R0, p⟩ := h
    simp only [It.den] at p
    exact ⟨hr, ow, env, S, R0, p⟩
  refine (tG.bind1 (Wq := WR T) (k := fun env x S1 => match x with
    | .d (.int j) => if rgOk j = true then .ok (rangeD 0 j.toNat) S1 else .bad
    | _ => .bad) h').mono fun v H1 ⟨hr, ow, env, S, x, R1, wx, p⟩ => ?_
  split at p
  · rename_i j
    split at p
    · rename_i ok
      cases wx
      simp only [rgOk, Bool.and_eq_true, decide_eq_true_eq] at ok
      exact ⟨j, rfl, ok.1, ok.2, p.same R1 (iw_range 0 _)⟩
    · exact p.elim
  · exact p.elim
theorem i_rg2 {a b : E} {m : Bool} {e e2 : Expr} {p pos : Pos} (hg : Gl X "range") (hm : X.mg "range" = none) (ha : PE X e (tI T Wx (a.den phi))) (hb : PE X e2 (tI T Wx (b.den phi))) (hs : starEach [e, e2] X.env = (false, eval e X.env) :: starEach [e2] X.env)
    (hs2 : starEach [e2] X.env = (false, eval e2 X.env) :: starEach [] X.env) : PI X tg (.Call (.Name "range" p) [e, e2] [] pos) (tIt T Wx m ((It.rg2 a b).den phi m)) := by
  refine PI.imp (pi_range2 hg hm (pa_cons ha (pa_cons hb pa_nil hs2) hs) (by rw [hs, hs2]; rfl) hs2) fun σ H R h => ?_
  have h' : tG T (IwR T m) Wx (fun env S => (a.den phi env S).bind fun x S1 => (b.den phi env S1).bind fun y S2 => match x, y with
    | .d (.int i), .d (.int j) => if rgOk i = true ∧ rgOk j = true then .ok (rangeD i (j - i).toNat) S2 else .bad
    | _, _ => .bad) σ H R := by
    obtain ⟨hr, ow, env, S, R0, p⟩ := h
    simp only [It.den] at p
    exact ⟨hr, ow, env, S, R0, p⟩
  refine (tG.bind1 (Wq := WR T) (k := fun env x S1 => (b.den phi env S1).bind fun y S2 => match x, y with
    | .d (.int i), .d (.int j) => if rgOk i = true ∧ rgOk j = true then .ok (rangeD i (j - i).toNat) S2 else .bad
    | _, _ => .bad) h').mono fun v H1 ⟨hr, ow, env, S, x, R1, wx, p⟩ => ?_
  refine (tG.run2 (Wq := WR T) R1 wx p).mono fun u H2 ⟨ow1, S1, y, R2, wx1, wy, p1⟩ => ?_
  cases x with
  | l _ => exact p1.elim
  | d dx =>
    cases y with
    | l _ => cases dx <;> exact p1.elim
    | d dy =>
      cases dx with
      | int i =>
        cases dy with
        | int j =>
          dsimp only at p1
          split at p1
          · rename_i ok
            cases wx1
            cases wy
            simp only [rgOk, Bool.and_eq_true, decide_eq_true_eq] at ok
            exact ⟨i, j, rfl, ⟨ok.1.1, ok.1.2, ok.2.1, ok.2.2⟩, p1.same R2 (iw_range i _)⟩
          · exact p1.elim
        | _ => exact p1.elim
      | _ => cases dy <;> exact p1.elim
theorem i_en {a : E} {m : Bool} {e : Expr} {p pos tpos : Pos} {elts : List Expr} {kk : Nat} (hg : Gl X "enumerate") (hm : X.mg "enumerate" = none) (ha : PE X e (tI T Wx (a.den phi))) (hs : starEach [e] X.env = (false, eval e X.env) :: starEach [] X.env) :
    PI X (.Tuple elts kk tpos) (.Call (.Name "enumerate" p) [e] [] pos) (tIt T Wx m ((It.en a).den phi m)) := by
  have base : PI X (.Tuple elts kk tpos) (.Call (.Name "enumerate" p) [e] [] pos) (fun σ H R => tI T Wx (a.den phi) σ H fun v H1 => ∃ b a' vs, v = .ref a' ∧ ASq b X.K H1 a' vs ∧ R (ItW vs.length (fun i => [.int (i : Int), vs.getD i .non]) fun H => ASq b X.K H a' vs) H1) := by
    refine ⟨fun pins s σ H R I h => ?_⟩
    refine Call_ (ld_blt I hg hm PyProof.Rows.boot_enumerate (PyProof.Rows.callWith_type1 (thn ((pa_cons ha pa_nil hs).run pos pins s σ H (fun vs H1 => ∃ v, vs = [v] ∧ ∃ b a' ws, v = .ref a' ∧ ASq b X.K H1 a' ws ∧ R (ItW ws.length (fun i => [.int (i : Int), ws.getD i .non]) fun H => ASq b X.K H a' ws) H1) I (tG.mono h fun v H1 q => ⟨v, rfl, q⟩)) fun us s1 ⟨vs, H1, I1, r1, q1⟩ => ?_) hs rfl))
    obtain ⟨v, rfl, b, a', ws, rfl, hq, q⟩ := q1
    obtain ⟨u, rfl, rx⟩ := vals1 r1
    cases rx
    obtain ⟨its, rv, p', hz⟩ := ASq.is I1 hq
    refine call_enumA b p' fun h' he hit hk => wpAny_pyIter_enum he ?_
    have I2 : L2.Inv X pins σ H1 { s1 with heap := h' } := I1.kept (t' := s1.toks) hk
    refine ⟨s1.heap.objs.size + 1, [s1.heap.objs.size + 1, s1.heap.objs.size], _, _, H1, rfl, I2, turn_enumA b a' (s1.heap.objs.size + 1) s1.heap.objs.size ws, ⟨⟨.none, he⟩, hit, Nat.succ_ne_self _⟩, fun c hc => ?_, q⟩
    have hle : s1.heap.objs.size ≤ c := z1_ge _ _ hc
    exact I1.fpOk hle (I1.hok.fresh hle)
  refine PI.imp base fun σ H R h => ?_
  have h' : tG T (IwR T m) Wx (fun env S => (a.den phi env S).bind fun x S1 => Res.opt (lookI m env x) fun d => Res.opt (seqD d) fun ds => .ok (enumD ds) S1) σ H R := by
    obtain ⟨hr, ow, env, S, R0, p⟩ := h
    simp only [It.den] at p
    exact ⟨hr, ow, env, S, R0, p⟩
  refine (tG.bind1 (Wq := WR T) (k := fun env x S1 => Res.opt (lookI m env x) fun d => Res.opt (seqD d) fun ds => .ok (enumD ds) S1) h').mono fun v H1 ⟨hr, ow, env, S, x, R1, wx, p⟩ => ?_
  obtain ⟨d, h1, p1⟩ := p.opt
  obtain ⟨ds, h2, p2⟩ := p1.opt
  obtain ⟨b, a', vs, rfl, q⟩ := lookI_st (K := X.K) R1 wx h1 h2
  exact ⟨b, a', vs, rfl, q.sq H1 _ (Ext.refl _) fun _ _ => rfl, p2.same R1 q.enum⟩
theorem looksI_st {hr : AS} {ow : Ow} {H : Hp} {env : List Slot} {S : List Cell} {σ : L2.St} {m : Bool} (R : Rel T hr ow H env S σ) : ∀ {ws : List W} {vs : List V} {ds : List D} {ls : List (List D)}, WL T hr ow H ws vs → looksI m env ws = some ds → seqsD ds = some ls →
    ∃ qs : List (Bool × Addr × List V), vs = qs.map (fun q => V.ref q.2.1) ∧ Paired (fun l q => Stq T X.K (stI m ow) (hid hr ow) H l q.1 q.2.1 q.2.2) ls qs
  | [], _, ds, ls, .nil, e, e2 => by
    cases e
    cases e2
    exact ⟨[], rfl, .nil⟩
  | w :: ws, _, ds, ls, .cons h r, e, e2 => by
    dsimp only [looksI] at e
    cases k1 : lookI m env w with
    | none => rw [k1] at e; cases e
    | some d =>
      cases k2 : looksI m env ws with
      | none => rw [k1, k2] at e; cases e
      | some ds' =>
        rw [k1, k2] at e
        cases e
        dsimp only [seqsD] at e2
        cases k3 : seqD d with
        | none => rw [k3] at e2; cases e2
        | some l =>
          cases k4 : seqsD ds' with
          | none => rw [k3, k4] at e2; cases e2
          | some ls' =>
            rw [k3, k4] at e2
            cases e2
            obtain ⟨b, a, vs, rfl, q⟩ := lookI_st (K := X.K) R h k1 k3
            obtain ⟨qs, rfl, p⟩ := looksI_st R r k2 k4
            exact ⟨(b, a, vs) :: qs, rfl, .cons q p⟩
theorem zp_imp {l : Es} {m : Bool} {σ : L2.St} {H : Hp} {R : L2.It → Hp → Prop} (h : tIt T Wx m ((It.zp l).den phi m) σ H R) :
    tIs T Wx (l.den phi) σ H fun vs H1 => (∃ b1 a1 v1 b2 a2 v2, vs = [.ref a1, .ref a2] ∧ ASq b1 X.K H1 a1 v1 ∧ ASq b2 X.K H1 a2 v2 ∧ R (ItW (min v1.length v2.length) (fun i => [v1.getD i .non, v2.getD i .non]) fun H => ASq b1 X.K H a1 v1 ∧ ASq b2 X.K H a2 v2) H1) ∨
      (∃ b1 a1 v1 b2 a2 v2 b3 a3 v3, vs = [.ref a1, .ref a2, .ref a3] ∧ ASq b1 X.K H1 a1 v1 ∧ ASq b2 X.K H1 a2 v2 ∧ ASq b3 X.K H1 a3 v3 ∧ R (ItW (min (min v1.length v2.length) v3.length) (fun i => [v1.getD i .non, v2.getD i .non, v3.getD i .non]) fun H => ASq b1 X.K H a1 v1 ∧ ASq b2 X.K H a2 v2 ∧ ASq b3 X.K H a3 v3) H1) := by
  have h' : tG T (IwR T m) Wx (fun env S => (l.den phi env S).bind fun xs S1 => Res.opt (looksI m env xs) fun ds => Res.opt (seqsD ds) fun ls => Res.opt (zipD ls) fun r => .ok r S1) σ H R := by
    obtain ⟨hr, ow, env, S, R0, p⟩ := h
    simp only [It.den] at p
    exact ⟨hr, ow, env, S, R0, p⟩
  refine (tG.bind1 (Wq := WL T) (k := fun env xs S1 => Res.opt (looksI m env xs) fun ds => Res.opt (seqsD ds) fun ls => Res.opt (zipD ls) fun r => .ok r S1) h').mono fun vs H1 ⟨hr, ow, env, S, x, R1, wx, p⟩ => ?_
  obtain ⟨ds, h1, p1⟩ := p.opt
  obtain ⟨ls, h2, p2⟩ := p1.opt
  obtain ⟨r, h3, p3⟩ := p2.opt
  obtain ⟨qs, rfl, pq⟩ := looksI_st (X := X) R1 wx h1 h2
  match ls, h3, qs, pq with
  | [l1, l2], h3, [(b1, a1, v1), (b2, a2, v2)], .cons q1 (.cons q2 .nil) =>
    cases h3
    exact .inl ⟨b1, a1, v1, b2, a2, v2, rfl, q1.sq H1 _ (Ext.refl _) fun _ _ => rfl, q2.sq H1 _ (Ext.refl _) fun _ _ => rfl, p3.same R1 (q1.zip2 q2)⟩
  | [l1, l2, l3], h3, [(b1, a1, v1), (b2, a2, v2), (b3, a3, v3)], .cons q1 (.cons q2 (.cons q3 .nil)) =>
    cases h3
    exact .inr ⟨b1, a1, v1, b2, a2, v2, b3, a3, v3, rfl, q1.sq H1 _ (Ext.refl _) fun _ _ => rfl, q2.sq H1 _ (Ext.refl _) fun _ _ => rfl, q3.sq H1 _ (Ext.refl _) fun _ _ => rfl, p3.same R1 (q1.zip3 q2 q3)⟩
theorem i_zp {l : Es} {m : Bool} {e : Expr} {es : List Expr} {p pos tpos : Pos} {elts : List Expr} {kk : Nat} (hg : Gl X "zip") (hm : X.mg "zip" = none) (ha : PA X (e :: es) (tIs T Wx (l.den phi))) (hs : starEach (e :: es) X.env = (false, eval e X.env) :: starEach es X.env)
    (hpl : (backTo pos (starEach es X.env)).any (·.1) = false) : PI X (.Tuple elts kk tpos) (.Call (.Name "zip" p) (e :: es) [] pos) (tIt T Wx m ((It.zp l).den phi m)) := by
  refine ⟨fun pins s σ H R I h => ?_⟩
  refine Call_ (ld_blt I hg hm PyProof.Rows.boot_zip (PyProof.Rows.callWith_type1 (thn (ha.run pos pins s σ H _ I (zp_imp (X := X) h)) fun us s1 ⟨vs, H1, I1, r1, q1⟩ => ?_) hs hpl))
  rcases q1 with ⟨b1, a1, v1, b2, a2, v2, rfl, hq1, hq2, q⟩ | ⟨b1, a1, v1, b2, a2, v2, b3, a3, v3, rfl, hq1, hq2, hq3, q⟩
  · obtain ⟨u1, u2, rfl, r1, r2⟩ := vals2 r1
    cases r1
    cases r2
    obtain ⟨its1, rv1, p1, _⟩ := ASq.is I1 hq1
    obtain ⟨its2, rv2, p2, _⟩ := ASq.is I1 hq2
    have l1 := p1.lt
    have l2 := p2.lt
    refine call_zipA2 b1 b2 p1 p2 fun h' hz hTI hTO w1 w2 hk => wpAny_pyIter_zip hz ?_
    have I2 : L2.Inv X pins σ H1 { s1 with heap := h' } := I1.kept (t' := s1.toks) hk
    refine ⟨s1.heap.objs.size + 4, [s1.heap.objs.size + 4, s1.heap.objs.size + 2, s1.heap.objs.size + 3, s1.heap.objs.size, s1.heap.objs.size + 1], _, _, H1, rfl, I2,
      turn_zip2 b1 b2 a1 a2 (s1.heap.objs.size + 4) (s1.heap.objs.size + 2) (s1.heap.objs.size + 3) s1.heap.objs.size (s1.heap.objs.size + 1) v1 v2 (z2_ne _) (fun c hc => ⟨lt_le_ne l1 (z2_ge _ _ hc), lt_le_ne l2 (z2_ge _ _ hc)⟩), ⟨hz, hTI, ⟨_, _, hTO⟩, w1, w2⟩, fun c hc => ?_, q⟩
    have hle : s1.heap.objs.size ≤ c := z2_ge _ _ hc
    exact I1.fpOk hle (I1.hok.fresh hle)
  · obtain ⟨u1, u2, u3, rfl, r1, r2, r3⟩ : ∃ u1 u2 u3, us = [u1, u2, u3] ∧ RelV (.ref a1) u1 ∧ RelV (.ref a2) u2 ∧ RelV (.ref a3) u3 := by
      cases r1 with
      | cons p q =>
        cases q with
        | cons p' q' =>
          cases q' with
          | cons p'' q'' =>
            cases q''
            exact ⟨_, _, _, rfl, p, p', p''⟩
    cases r1
    cases r2
    cases r3
    obtain ⟨its1, rv1, p1, _⟩ := ASq.is I1 hq1
    obtain ⟨its2, rv2, p2, _⟩ := ASq.is I1 hq2
    obtain ⟨its3, rv3, p3, _⟩ := ASq.is I1 hq3
    have l1 := p1.lt
    have l2 := p2.lt
    have l3 := p3.lt
    refine call_zipA3 b1 b2 b3 p1 p2 p3 fun h' hz hTI hTO w1 w2 w3 hk => wpAny_pyIter_zip hz ?_
    have I2 : L2.Inv X pins σ H1 { s1 with heap := h' } := I1.kept (t' := s1.toks) hk
    refine ⟨s1.heap.objs.size + 5, [s1.heap.objs.size + 5, s1.heap.objs.size + 3, s1.heap.objs.size + 4, s1.heap.objs.size, s1.heap.objs.size + 1, s1.heap.objs.size + 2], _, _, H1, rfl, I2,
      turn_zip3 b1 b2 b3 a1 a2 a3 (s1.heap.objs.size + 5) (s1.heap.objs.size + 3) (s1.heap.objs.size + 4) s1.heap.objs.size (s1.heap.objs.size + 1) (s1.heap.objs.size + 2) v1 v2 v3 (z3_ne _) (fun c hc => ⟨lt_le_ne l1 (z3_ge _ _ hc), lt_le_ne l2 (z3_ge _ _ hc), lt_le_ne l3 (z3_ge _ _ hc)⟩), ⟨hz, hTI, ⟨_, _, _, hTO⟩, w1, w2, w3⟩, fun c hc => ?_, q⟩
    have hle : s1.heap.objs.size ≤ c := z3_ge _ _ hc
    exact I1.fpOk hle (I1.hok.fresh hle)
end
end Rg
set_option Elab.async false
set_option linter.all false
set_option maxRecDepth 100000
set_option maxHeartbeats 4000000
namespace Rg
open PySem PySem.Spec PyProof.Rows L2
section
variable {T : Tab} {hr hr1 hr2 : AS} {ow ow' : Ow} {H H' : Hp} {env : List Slot} {S : List Cell} {σ : L2.St}
theorem FR.conv (e : Ext (hide (hid hr1 ow) H) (hide (hid hr2 ow') H')) (hc : ∀ n a, ow (.inr n) = some a → ow' (.inr n) = some a) : ∀ {l : List (Nat × W)} {us : List (Str × V)}, FR T hr1 ow H l us → FR T hr2 ow' H' l us
  | _, _, .nil => .nil
  | (n, .d x) :: _, _, .cons h z r => .cons (Rp.mono e h) z (FR.conv e hc r)
  | (n, .l (.inr m)) :: _, _, .cons ⟨a, h, q⟩ z r => .cons ⟨a, hc m a h, q⟩ z (FR.conv e hc r)
  | (n, .l (.inl m)) :: _, _, .cons _ z _ => z.elim
theorem CellR.conv {a : Addr} (e : Ext (hide (hid hr1 ow) H) (hide (hid hr2 ow') H')) (hc : ∀ n a, ow (.inr n) = Option.some a → ow' (.inr n) = Option.some a) (ha : H' a = H a) : ∀ {c : Cell}, CellR T hr1 ow H c a → CellR T hr2 ow' H' c a
  | .lst l, ⟨vs, h, r⟩ => ⟨vs, ha.trans h, r.mono e⟩
  | .dct t l, ⟨z, kvs, h, r⟩ => ⟨z, kvs, ha.trans h, r.mono e⟩
  | .ob c fs, ⟨C, dx, us, h, h2, r⟩ => ⟨C, dx, us, ha.trans h, h2, FR.conv e hc r⟩
theorem WR.conv (e : Ext (hide (hid hr1 ow) H) (hide (hid hr2 ow') H')) (hc : ∀ n a, ow (.inr n) = some a → ow' (.inr n) = some a) : ∀ {w : W} {v : V}, noSlot w → WR T hr1 ow H w v → WR T hr2 ow' H' w v
  | .d x, _, _, h => Rp.mono e h
  | .l (.inr m), _, _, ⟨a, h, q⟩ => ⟨a, hc m a h, q⟩
  | .l (.inl m), _, z, _ => z.elim
theorem getD_set_ne {α : Type} {l : List α} {i j : Nat} {x d : α} (h : i ≠ j) : (l.set i x).getD j d = l.getD j d := by
  rw [List.getD_eq_getElem?_getD, List.getD_eq_getElem?_getD, List.getElem?_set_ne h]
theorem getD_set_self {α : Type} {l : List α} {i : Nat} {x d : α} (h : i < l.length) : (l.set i x).getD i d = x := by
  rw [List.getD_eq_getElem?_getD, List.getElem?_set_self h]; rfl
theorem getD_ge {α : Type} {l : List α} {i : Nat} {d : α} (h : ¬ i < l.length) : l.getD i d = d := by
  rw [List.getD_eq_getElem?_getD, List.getElem?_eq_none (by omega)]; rfl
theorem Rel.set {i : Nat} {sl : Slot} {ov : Option V} (R : Rel T hr1 ow H env S σ) (hk : ∀ p, p ≠ .inl i → ow' p = ow p) (hx : Ext (hide (hid hr1 ow) H) (hide (hid hr2 ow') H))
    (hi : i < env.length → SlotR T hr2 ow' H i sl (some ov)) (hn : ¬ i < env.length → ow' (.inl i) = none) (inj : ∀ p q a, ow' p = some a → ow' q = some a → p = q) (dis : ∀ p a, ow' p = some a → ¬ hr2 a) (hrt : ∀ a, hr2 a → H a ≠ none) (hnt : ∀ a, hr2 a → Nfx (H a)) :
    Rel T hr2 ow' H (env.set i sl) S (σ.set i ov) := by
  have hc : ∀ n a, ow (.inr n) = some a → ow' (.inr n) = some a := fun n a h => (hk _ (by simp)).trans h
  refine ⟨fun j => ?_, fun n c k => ?_, fun n h => (hk _ (by simp)).trans (R.so n h), inj, dis, hrt, R.tab, by rw [List.length_set, List.length_set]; exact R.ln, hnt⟩
  · by_cases e : i = j
    · subst e
      by_cases l : i < env.length
      · rw [getD_set_self l]
        have l2 : i < σ.length := Nat.lt_of_lt_of_le l R.ln
        rw [List.getElem?_set_self l2]
        exact hi l
      · rw [List.set_eq_of_length_le (by omega), getD_ge l]
        exact hn l
    · rw [getD_set_ne e, List.getElem?_set_ne e]
      have q := R.sl j
      have hj : ow' (.inl j) = ow (.inl j) := hk _ (fun z => e (by cases z; rfl))
      cases k : env.getD j .un with
      | un => rw [k] at q; exact hj.trans q
      | w x =>
        rw [k] at q
        obtain ⟨q1, q2, v, q3, q4⟩ := q
        exact ⟨hj.trans q1, q2, v, q3, WR.conv hx hc q2 q4⟩
      | own c =>
        rw [k] at q
        obtain ⟨a, q1, q2, q3⟩ := q
        exact ⟨a, hj.trans q1, q2, CellR.conv hx hc rfl q3⟩
  · obtain ⟨a, q1, q2⟩ := R.st n c k
    exact ⟨a, hc n a q1, CellR.conv hx hc rfl q2⟩
def dropO (ow : Ow) (i : Nat) : Ow := fun p => if p = .inl i then none else ow p
theorem dropO_ne {i : Nat} {p : Loc} (h : p ≠ .inl i) : dropO ow i p = ow p := if_neg h
theorem dropO_self (i : Nat) : dropO ow i (.inl i) = none := if_pos rfl
theorem dropO_some {i : Nat} {p : Loc} {a : Addr} (h : dropO ow i p = some a) : ow p = some a := by
  unfold dropO at h
  split at h
  · cases h
  · exact h
theorem dropO_of {i : Nat} (h : ow (.inl i) = none) : dropO ow i = ow := by
  funext p
  unfold dropO
  split
  · rename_i e
    rw [e, h]
  · rfl
theorem hid_drop {i : Nat} : ∀ b, hid hr (dropO ow i) b → hid hr ow b := fun b z => z.elim .inl fun ⟨p, h⟩ => .inr ⟨p, dropO_some h⟩
theorem ext_drop {i : Nat} : Ext (hide (hid hr ow) H) (hide (hid hr (dropO ow i)) H) := hide_sub hid_drop
theorem Rel.setw {i : Nat} {w : W} {v : V} (R : Rel T hr ow H env S σ) (hw : noSlot w) (r : WR T hr ow H w v) : Rel T hr (dropO ow i) H (env.set i (.w w)) S (σ.set i (some v)) :=
  R.set (fun p h => dropO_ne h) ext_drop (fun _ => ⟨dropO_self i, hw, v, rfl, WR.conv ext_drop (fun n a h => by rw [dropO_ne (by simp)]; exact h) hw r⟩) (fun _ => dropO_self i)
    (fun p q a h1 h2 => R.inj p q a (dropO_some h1) (dropO_some h2)) (fun p a h => R.dis p a (dropO_some h)) R.hrt R.hnt
theorem Rel.setu {i : Nat} {ov : Option V} (R : Rel T hr ow H env S σ) : Rel T hr (dropO ow i) H (env.set i .un) S (σ.set i ov) :=
  R.set (fun p h => dropO_ne h) ext_drop (fun _ => dropO_self i) (fun _ => dropO_self i) (fun p q a h1 h2 => R.inj p q a (dropO_some h1) (dropO_some h2)) (fun p a h => R.dis p a (dropO_some h)) R.hrt R.hnt
theorem wipeS_length (env : List Slot) : ∀ vs : List Nat, (wipeS env vs).length = env.length
  | [] => rfl
  | i :: r => by rw [wipeS, List.length_set, wipeS_length env r]
theorem wipeS_out {i : Nat} : ∀ {vs : List Nat}, i ∉ vs → (wipeS env vs).getD i .un = env.getD i .un
  | [], _ => rfl
  | v :: vs, h => by
    rw [wipeS, getD_set_ne (fun e => h (by rw [e]; exact List.mem_cons_self)), wipeS_out fun z => h (List.mem_cons_of_mem _ z)]
theorem wipeS_in {i : Nat} : ∀ {vs : List Nat}, i ∈ vs → (wipeS env vs).getD i .un = .un
  | v :: vs, h => by
    by_cases e : v = i
    · subst e
      rw [wipeS]
      by_cases l : v < (wipeS env vs).length
      · exact getD_set_self l
      · rw [List.set_eq_of_length_le (by omega)]; exact getD_ge l
    · rw [wipeS, getD_set_ne e]
      exact wipeS_in (by
        rcases List.mem_cons.mp h with z | z
        · exact absurd z.symm e
        · exact z)
theorem noOwn_at {i : Nat} : ∀ {vs : List Nat}, noOwn env vs = true → i ∈ vs → ∀ c, env.getD i .un ≠ .own c
  | v :: vs, h, hi, c => by
    rw [noOwn, Bool.and_eq_true] at h
    rcases List.mem_cons.mp hi with z | z
    · subst z
      intro e
      rw [e] at h
      exact absurd h.1 (by simp)
    · exact noOwn_at h.2 z c
theorem Rel.nown {i : Nat} (R : Rel T hr ow H env S σ) (h : ∀ c, env.getD i .un ≠ .own c) : ow (.inl i) = none := by
  have q := R.sl i
  cases k : env.getD i .un with
  | un => rw [k] at q; exact q
  | w x => rw [k] at q; exact q.1
  | own c => exact absurd k (h c)
theorem Rel.wipe (R : Rel T hr ow H env S σ) : ∀ {vs : List Nat}, noOwn env vs = true → Rel T hr ow H (wipeS env vs) S (L2.wipe σ vs)
  | [], _ => R
  | i :: r, h => by
    have h' := h
    rw [Rg.noOwn, Bool.and_eq_true] at h
    have q := Rel.wipe R h.2
    have z : ow (.inl i) = none := R.nown (noOwn_at h' List.mem_cons_self)
    have q2 := q.setu (i := i) (ov := none)
    rw [dropO_of z] at q2
    exact q2
theorem wipe_out' {i : Nat} : ∀ {vs : List Nat}, i ∉ vs → (L2.wipe σ vs)[i]? = σ[i]?
  | [], _ => rfl
  | v :: vs, h => by
    unfold L2.wipe
    rw [List.getElem?_set_ne (fun e => h (by rw [e]; exact List.mem_cons_self))]
    exact wipe_out' fun z => h (List.mem_cons_of_mem _ z)
theorem Rel.unwipe {S' : List Cell} {vs : List Nat} (R : Rel T hr1 ow H env S σ) (hv : Rg.noOwn env vs = true) (Rf : Rel T hr2 ow' H' (wipeS env vs) S' (L2.wipe σ vs)) (e : Ext (hide (hid hr1 ow) H) (hide (hid hr2 ow') H')) (hc : ∀ n a, ow (.inr n) = some a → ow' (.inr n) = some a)
    (ho : ∀ i, ow' (.inl i) = ow (.inl i)) : Rel T hr2 ow' H' env S' σ := by
  refine ⟨fun i => ?_, Rf.st, Rf.so, Rf.inj, Rf.dis, Rf.hrt, Rf.tab, R.ln, Rf.hnt⟩
  by_cases hi : i ∈ vs
  · have q := R.sl i
    cases k : env.getD i .un with
    | un => rw [k] at q; exact (ho i).trans q
    | w x =>
      rw [k] at q
      obtain ⟨q1, q2, v, q3, q4⟩ := q
      exact ⟨(ho i).trans q1, q2, v, q3, WR.conv e hc q2 q4⟩
    | own c => exact absurd k (noOwn_at hv hi c)
  · have q := Rf.sl i
    rw [wipeS_out hi, wipe_out' hi] at q
    exact q
end
structure Dropd (ix : List Nat) (ow ow' : Ow) (σ σ' : L2.St) : Prop where
  sub : ∀ p a, ow' p = some a → ow p = some a
  eq : ∀ p, (∀ i ∈ ix, p ≠ .inl i) → ow' p = ow p
  out : ∀ j, j ∉ ix → σ'[j]? = σ[j]?
  len : σ'.length = σ.length
theorem Dropd.refl (ow : Ow) (σ : L2.St) : Dropd [] ow ow σ σ := ⟨fun _ _ h => h, fun _ _ => rfl, fun _ _ => rfl, rfl⟩
theorem Dropd.trans {ix ix' : List Nat} {ow ow1 ow2 : Ow} {σ σ1 σ2 : L2.St} (a : Dropd ix ow ow1 σ σ1) (b : Dropd ix' ow1 ow2 σ1 σ2) : Dropd (ix ++ ix') ow ow2 σ σ2 :=
  ⟨fun p x h => a.sub p x (b.sub p x h), fun p h => (b.eq p fun i hi => h i (List.mem_append_right _ hi)).trans (a.eq p fun i hi => h i (List.mem_append_left _ hi)),
    fun j h => (b.out j fun z => h (List.mem_append_right _ z)).trans (a.out j fun z => h (List.mem_append_left _ z)), b.len.trans a.len⟩
theorem Dropd.ext {hr : AS} {ix : List Nat} {ow ow' : Ow} {σ σ' : L2.St} {H : Hp} (d : Dropd ix ow ow' σ σ') : Ext (hide (hid hr ow) H) (hide (hid hr ow') H) :=
  hide_sub fun b z => z.elim .inl fun ⟨p, h⟩ => .inr ⟨p, d.sub p b h⟩
section
variable {T : Tab} {K : PySem.W.Frag} {hr : AS} {H : Hp} {S : List Cell}
mutual
theorem g_ok : ∀ (t : Tg) {v : V} {σ : L2.St} {Q : L2.St → Hp → Prop} {d : D} {env env' : List Slot} {ow : Ow}, Rel T hr ow H env S σ → Rp T (hide (hid hr ow) H) d v → t.set d env = some env' →
    (∀ σ2 ow2, Rel T hr ow2 H env' S σ2 → Dropd t.ix ow ow2 σ σ2 → Q σ2 H) → gTg K t v σ H Q
  | .nm i, v, σ, Q, d, env, env', ow, R, r, e, q => by
    cases e
    refine q _ (dropO ow i) (R.setw (w := .d d) trivial r) ⟨fun p a h => dropO_some h, fun p h => dropO_ne (h i (by simp [Tg.ix])), fun j h => ?_, by rw [List.length_set]⟩
    exact List.getElem?_set_ne fun z => h (by rw [z]; simp [Tg.ix])
  | .tp l, v, σ, Q, d, env, env', ow, R, r, e, q => by
    cases d with
    | tp c ds =>
      have e' : l.set ds env = some env' := e
      have base : ∀ {a : Addr} {vs : List V}, v = .ref a → SqT K H a vs → RpL T (hide (hid hr ow) H) ds vs → gTg K (.tp l) v σ H Q := fun {a vs} h1 h2 h3 => by
        obtain ⟨hl, g⟩ := gs_ok l (Q := Q) R h3 e' q
        exact ⟨a, vs, h1, h2, hl, g⟩
      cases r with
      | tup h n r => exact base rfl (.inl (.inr ⟨_, (hide_some h).2⟩)) r
      | tup0 h r => exact base rfl (.inl (.inl (hide_some h).2)) r
    | _ => cases e
theorem gs_ok : ∀ (l : Tgs) {vs : List V} {σ : L2.St} {Q : L2.St → Hp → Prop} {ds : List D} {env env' : List Slot} {ow : Ow}, Rel T hr ow H env S σ → RpL T (hide (hid hr ow) H) ds vs → l.set ds env = some env' →
    (∀ σ2 ow2, Rel T hr ow2 H env' S σ2 → Dropd l.ix ow ow2 σ σ2 → Q σ2 H) → vs.length = l.len ∧ gTgs K l vs σ H Q
  | .nil, vs, σ, Q, [], env, env', ow, R, r, e, q => by
    cases r
    cases e
    exact ⟨rfl, rfl, q σ ow R (Dropd.refl _ _)⟩
  | .nil, vs, σ, Q, _ :: _, env, env', ow, R, r, e, q => by cases e
  | .cons t l, vs, σ, Q, [], env, env', ow, R, r, e, q => by cases e
  | .cons t l, vs, σ, Q, d :: ds, env, env', ow, R, r, e, q => by
    cases r with
    | @cons _ v _ vs' h r =>
      have e' : (match t.set d env with | some env' => l.set ds env' | none => none) = some env' := e
      cases k : t.set d env with
      | none => rw [k] at e'; cases e'
      | some env1 =>
        rw [k] at e'
        have e2 : l.set ds env1 = some env' := e'
        have len : vs'.length = l.len := by
          -- the lengths agree whatever the slots are
          have : ∀ (l : Tgs) (ds : List D) (env env' : List Slot), l.set ds env = some env' → ds.length = l.len := by
            intro l
            induction l using Tgs.rec (motive_1 := fun _ => True) with
            | nm _ => trivial
            | tp _ _ => trivial
            | nil => intro ds env env' h; cases ds with | nil => rfl | cons _ _ => cases h
            | cons t l _ ih =>
              intro ds env env' h
              cases ds with
              | nil => cases h
              | cons d ds =>
                have h' : (match t.set d env with | some env' => l.set ds env' | none => none) = some env' := h
                cases k : t.set d env with
                | none => rw [k] at h'; cases h'
                | some env1 =>
                  rw [k] at h'
                  show ds.length + 1 = l.len + 1
                  rw [ih ds env1 env' h']
          rw [← r.length]
          exact this l ds env1 env' e2
        refine ⟨by show vs'.length + 1 = l.len + 1; rw [len], v, vs', rfl, ?_⟩
        refine g_ok t R h k fun σ1 ow1 R1 d1 => ?_
        exact (gs_ok l (Q := Q) R1 (r.mono d1.ext) e2 fun σ2 ow2 R2 d2 => q σ2 ow2 R2 (d1.trans d2)).2
end
end
end Rg
set_option Elab.async false
set_option linter.all false
set_option maxRecDepth 100000
set_option maxHeartbeats 4000000
namespace Rg
open PySem PySem.Spec PyProof.Rows L2
theorem wipe_in {σ : L2.St} {i : Nat} : ∀ {vs : List Nat}, i ∈ vs → (L2.wipe σ vs)[i]? = if i < σ.length then some none else none
  | v :: vs, h => by
    unfold L2.wipe
    by_cases e : v = i
    · subst e
      by_cases l : v < σ.length
      · rw [List.getElem?_set_self (by rw [wipe_length]; exact l), if_pos l]
      · rw [if_neg l, List.getElem?_eq_none (by rw [List.length_set, wipe_length]; omega)]
    · rw [List.getElem?_set_ne e]
      exact wipe_in (by
        rcases List.mem_cons.mp h with z | z
        · exact absurd z.symm e
        · exact z)
theorem wipe_same {σ σ2 : L2.St} {vs ix : List Nat} (hl : σ2.length = σ.length) (ho : ∀ j, j ∉ ix → σ2[j]? = (L2.wipe σ vs)[j]?) (hs : ∀ j ∈ ix, j ∈ vs) : L2.wipe σ2 vs = L2.wipe σ vs := by
  apply List.ext_getElem?
  intro j
  by_cases h : j ∈ vs
  · rw [wipe_in h, wipe_in h, hl]
  · rw [wipe_out' h, ho j fun z => h (hs j z)]
theorem set_len {α : Type} {l : List α} {i : Nat} {x : α} : (l.set i x).length = l.length := List.length_set
mutual
theorem Tg.set_len : ∀ (t : Tg) {d : D} {env env' : List Slot}, t.set d env = some env' → env'.length = env.length ∧ ∀ j, j ∉ t.ix → env'.getD j .un = env.getD j .un
  | .nm i, d, env, env', e => by
    cases e
    exact ⟨List.length_set, fun j h => getD_set_ne fun z => h (by rw [z]; simp [Tg.ix])⟩
  | .tp l, d, env, env', e => by
    cases d with
    | tp c ds => exact Tgs.set_len l (show l.set ds env = some env' from e)
    | _ => cases e
theorem Tgs.set_len : ∀ (l : Tgs) {ds : List D} {env env' : List Slot}, l.set ds env = some env' → env'.length = env.length ∧ ∀ j, j ∉ l.ix → env'.getD j .un = env.getD j .un
  | .nil, [], env, env', e => by cases e; exact ⟨rfl, fun _ _ => rfl⟩
  | .nil, _ :: _, env, env', e => by cases e
  | .cons t l, [], env, env', e => by cases e
  | .cons t l, d :: ds, env, env', e => by
    have e' : (match t.set d env with | some env' => l.set ds env' | none => none) = some env' := e
    cases k : t.set d env with
    | none => rw [k] at e'; cases e'
    | some env1 =>
      rw [k] at e'
      obtain ⟨a1, a2⟩ := Tg.set_len t k
      obtain ⟨b1, b2⟩ := Tgs.set_len l (show l.set ds env1 = some env' from e')
      refine ⟨b1.trans a1, fun j h => ?_⟩
      rw [b2 j fun z => h (List.mem_append_right _ z), a2 j fun z => h (List.mem_append_left _ z)]
end
theorem noOwn_of {env : List Slot} : ∀ {vs : List Nat}, (∀ i ∈ vs, ∀ c, env.getD i .un ≠ .own c) → noOwn env vs = true
  | [], _ => rfl
  | v :: vs, h => by
    rw [noOwn, noOwn_of fun i hi => h i (List.mem_cons_of_mem _ hi), Bool.and_true]
    have q := h v List.mem_cons_self
    cases k : env.getD v .un with
    | own c => exact absurd k (q c)
    | un => rfl
    | w x => rfl
mutual
theorem Tg.set_noOwn : ∀ (t : Tg) {d : D} {env env' : List Slot}, t.set d env = some env' → ∀ i, (∀ c, env.getD i .un ≠ .own c) → ∀ c, env'.getD i .un ≠ .own c
  | .nm j, d, env, env', e, i, h, c => by
    cases e
    by_cases z : j = i
    · subst z
      by_cases l : j < env.length
      · rw [getD_set_self l]; simp
      · rw [List.set_eq_of_length_le (by omega)]; exact h c
    · rw [getD_set_ne z]; exact h c
  | .tp l, d, env, env', e, i, h, c => by
    cases d with
    | tp b ds => exact Tgs.set_noOwn l (show l.set ds env = some env' from e) i h c
    | _ => cases e
theorem Tgs.set_noOwn : ∀ (l : Tgs) {ds : List D} {env env' : List Slot}, l.set ds env = some env' → ∀ i, (∀ c, env.getD i .un ≠ .own c) → ∀ c, env'.getD i .un ≠ .own c
  | .nil, [], env, env', e, i, h, c => by cases e; exact h c
  | .nil, _ :: _, env, env', e, i, h, c => by cases e
  | .cons t l, [], env, env', e, i, h, c => by cases e
  | .cons t l, d :: ds, env, env', e, i, h, c => by
    have e' : (match t.set d env with | some env' => l.set ds env' | none => none) = some env' := e
    cases k : t.set d env with
    | none => rw [k] at e'; cases e'
    | some env1 =>
      rw [k] at e'
      exact Tgs.set_noOwn l (show l.set ds env1 = some env' from e') i (fun c' => Tg.set_noOwn t k i h c') c
end
theorem wipeS_same {env env1 : List Slot} {vs ix : List Nat} (hl : env1.length = env.length) (ho : ∀ j, j ∉ ix → env1.getD j .un = (wipeS env vs).getD j .un) (hs : ∀ j ∈ ix, j ∈ vs) : wipeS env1 vs = wipeS env vs := by
  apply List.ext_getElem?
  intro j
  have l1 := wipeS_length env1 vs
  have l2 := wipeS_length env vs
  have key : (wipeS env1 vs).getD j .un = (wipeS env vs).getD j .un := by
    by_cases h : j ∈ vs
    · rw [wipeS_in h, wipeS_in h]
    · rw [wipeS_out h, ho j fun z => h (hs j z)]
  by_cases hj : j < env.length
  · have a1 : j < (wipeS env1 vs).length := by omega
    have a2 : j < (wipeS env vs).length := by omega
    rw [List.getD_eq_getElem?_getD, List.getD_eq_getElem?_getD, List.getElem?_eq_getElem a1, List.getElem?_eq_getElem a2] at key
    rw [List.getElem?_eq_getElem a1, List.getElem?_eq_getElem a2]
    exact congrArg some key
  · rw [List.getElem?_eq_none (by omega), List.getElem?_eq_none (by omega)]
def wN : WX := fun _ _ _ _ => False
noncomputable def tTC (T : Tab) (phi : Nat → Fn) : Eo → TT
  | .none => tYes
  | .some a => tT (tI T wN (a.den phi))
noncomputable def lcF (phi : Nat → Fn) (t : Tg) (c : Eo) (e : E) (env : List Slot) (x : D) (S2 : List Cell) : Option (Option D × List Cell) :=
  match t.set x env with
  | some env1 => match c.denT phi env1 S2 with
    | some (true, S3) => match (e.den phi env1 S3).pure? with
      | some (.d y, S4) => some (some y, S4)
      | _ => none
    | some (false, S3) => some (none, S3)
    | none => none
  | none => none
section
variable {X : Cx} {T : Tab} {Wx : WX} {phi : Nat → Fn}
theorem pure_ok {α : Type} {r : Res α} {x : α} {S : List Cell} (h : r.pure? = some (x, S)) : r = .ok x S := by
  cases r with
  | ok y S' => cases h; rfl
  | ex y S' => cases h
  | bad => cases h
theorem tst_ok {r : Res W} {b : Bool} {S : List Cell} (h : r.tst = some (b, S)) : ∃ w, r = .ok w S ∧ isBl w = some b := by
  cases r with
  | ok w S' =>
    dsimp only [Res.tst] at h
    cases k : isBl w with
    | none => rw [k] at h; cases h
    | some c => rw [k] at h; cases h; exact ⟨w, rfl, k⟩
  | ex y S' => cases h
  | bad => cases h
theorem Rel.grown {hr : AS} {ow : Ow} {H : Hp} {env : List Slot} {S : List Cell} {σ : L2.St} {a : Addr} {xs ys : List V} (R : Rel T (addA hr a) ow H env S σ) (ha : H a = some (.lst xs)) : Rel T (addA hr a) ow (upd H a (.lst ys)) env S σ ∧ Ext (hide (hid (addA hr a) ow) H) (hide (hid (addA hr a) ow) (upd H a (.lst ys))) := by
  have e : Ext (hide (hid (addA hr a) ow) H) (hide (hid (addA hr a) ow) (upd H a (.lst ys))) := (hide_stp fun b o n q _ => ⟨n, by
    rw [upd_ne fun z => n (by rw [z]; exact .inl (.inr rfl))]
    exact q⟩).ext
  refine ⟨R.ext e (fun p b h => upd_ne fun z => R.dis p b h (.inr z)) R.dis (fun b h => ?_) (R.tab.upd (by rw [ha]; exact nfx)) fun b h => ?_, e⟩
  · by_cases z : b = a
    · rw [z, upd_same]; simp
    · rw [upd_ne z]; exact R.hrt b h
  · by_cases z : b = a
    · rw [z, upd_same]; exact nfx
    · rw [upd_ne z]; exact R.hnt b h
theorem lc_imp {t : Tg} {it : It} {c : Eo} {e : E} {vs : List Nat} {σ : L2.St} {H : Hp} {Q : VK} (hs : ∀ j ∈ t.ix, j ∈ vs) (h : tF T Wx ((Fr.lc t it c e vs).den phi) σ H Q) :
    tLc (tIt T Wx false (it.den phi false)) (gTg X.K t) (tTC T phi c) (tI T wN (e.den phi)) vs σ H Q := by
  obtain ⟨hr, ow, env, S, R, p⟩ := h
  refine ⟨hr, ow, env, S, R, ?_⟩
  have p' : PostF T hr ow env σ H ((it.den phi false env S).bind fun ds S1 => if noOwn env vs = true ∧ ds.length ≤ LN then Res.opt (lcL (lcF phi t c e (wipeS env vs)) ds S1) fun r => .ok (.lst r.1) r.2 else .bad) Q Wx := by
    simp only [Fr.den] at p
    exact p
  cases kit : it.den phi false env S with
  | bad => rw [kit] at p'; exact p'
  | ex x S1 => rw [kit] at p'; exact p'
  | ok ds S1 =>
    rw [kit, Res.bind_ok] at p'
    intro J ow1 H1 g s R1 iw Da hD
    split at p'
    · rename_i cond
      obtain ⟨hv, hlen⟩ := cond
      cases kl : lcL (lcF phi t c e (wipeS env vs)) ds S1 with
      | none => rw [kl] at p'; exact p'.elim
      | some tot =>
        rw [kl] at p'
        have p2 := p'.grow g s
        obtain ⟨tot, Sf⟩ := tot
        let Wv : Nat → Nat → Hp → Prop := fun i m H => m = ds.length - i ∧ i ≤ ds.length ∧ ∃ ow' S' acc ds', Ext (hide (hid hr ow1) H1) (hide (hid (addA hr Da) ow') H) ∧ (∀ n a, ow1 (.inr n) = some a → ow' (.inr n) = some a) ∧ (∀ b, hr b → H b = H1 b) ∧ Slo ow1 H1 ow' H ∧
          Rel T (addA hr Da) ow' H (wipeS env vs) S' (L2.wipe σ vs) ∧ H Da = some (.lst acc) ∧ RpL T (hide (hid (addA hr Da) ow') H) ds' acc ∧ acc.length ≤ i ∧ ∃ rest, lcL (lcF phi t c e (wipeS env vs)) (ds.drop i) S' = some (rest, Sf) ∧ tot = ds' ++ rest
        refine ⟨Wv, ⟨ds.length, by simp, Nat.zero_le _, ow1, S1, [], [], (GrF.new R1 hD).ext, fun _ _ h => h, (GrF.new (o := .lst []) R1 hD).hrq, Slo.new R1 hD, (R1.fresh hD).wipe hv, upd_same, .nil, Nat.zero_le _, tot, by simpa using kl, rfl⟩, ?_⟩
        rintro i m H2 ⟨rfl, hi, ow', S', acc, ds', ext, cel, hrq, slo, R2, hDa, rl, hacc, rest, krest, ktot⟩
        by_cases hlt : i < ds.length
        · refine .inr ⟨iw.go i H2 _ hlt ext fun a z => slo.cont _ a z.2.choose_spec, fun H' => Wv (i + 1) (ds.length - (i + 1)) H', fun H' w => ⟨ds.length - (i + 1), by omega, w⟩, fun x H' y => ?_⟩
          have hx : ds[i]? = some ds[i] := by simp [hlt]
          obtain ⟨sm, rx⟩ := iw.yld i H2 _ x H' _ hx ext (fun a z => slo.cont _ a z.2.choose_spec) R2.track y
          have R3 := R2.same sm
          rw [List.drop_eq_getElem_cons hlt] at krest
          have krest' : (match lcF phi t c e (wipeS env vs) ds[i] S' with
            | some (some y, S1) => match lcL (lcF phi t c e (wipeS env vs)) (ds.drop (i + 1)) S1 with
              | some (ys, S2) => some (y :: ys, S2)
              | none => none
            | some (none, S1) => lcL (lcF phi t c e (wipeS env vs)) (ds.drop (i + 1)) S1
            | none => none) = some (rest, Sf) := krest
          cases kset : t.set ds[i] (wipeS env vs) with
          | none =>
            have z : lcF phi t c e (wipeS env vs) ds[i] S' = none := by unfold lcF; rw [kset]
            rw [z] at krest'
            cases krest'
          | some env1 =>
            have zf : lcF phi t c e (wipeS env vs) ds[i] S' = (match c.denT phi env1 S' with
              | some (true, S3) => match (e.den phi env1 S3).pure? with
                | some (.d y, S4) => some (some y, S4)
                | _ => none
              | some (false, S3) => some (none, S3)
              | none => none) := by unfold lcF; rw [kset]
            rw [zf] at krest'
            refine g_ok t R3 rx kset fun σ2 ow2 R4 dr => ?_
            obtain ⟨tl, to_⟩ := Tg.set_len t kset
            -- nothing was owned there
            have eo : ow2 = ow' := by
              funext p
              by_cases z : ∀ i ∈ t.ix, p ≠ .inl i
              · exact dr.eq p z
              · have ⟨i, z1, z2⟩ : ∃ i ∈ t.ix, p = .inl i := Classical.byContradiction fun n => z fun i hi e => n ⟨i, hi, e⟩
                subst z2
                have : ow' (.inl i) = none := R2.nown fun c e => by rw [wipeS_in (hs i z1)] at e; cases e
                rw [this]
                cases k : ow2 (.inl i) with
                | none => rfl
                | some a => rw [dr.sub _ _ k] at this; cases this
            subst eo
            have ws : L2.wipe σ2 vs = L2.wipe σ vs := wipe_same (ix := t.ix) (by rw [dr.len, wipe_length]) (fun j h => dr.out j h) hs
            have we : wipeS env1 vs = wipeS env vs := wipeS_same (ix := t.ix) (by rw [tl, wipeS_length]) (fun j h => to_ j h) hs
            have no1 : noOwn env1 vs = true := noOwn_of fun i hi => Tg.set_noOwn t kset i fun c e => by rw [wipeS_in hi] at e; cases e
            have gsm := Gr.same R2 sm
            have ext3 := ext.trans gsm.ext
            have hDa3 : H' Da = some (.lst acc) := sm _ _ hDa
            -- behind the test
            have tail : ∀ (b : Bool) (S3 : List Cell) (ow3 : Ow) (H3 : Hp), c.denT phi env1 S' = some (b, S3) → Gr (addA hr Da) ow2 H' ow3 H3 → Slo ow2 H' ow3 H3 → Rel T (addA hr Da) ow3 H3 env1 S3 σ2 →
                if b = true then tI T wN (e.den phi) σ2 H3 fun y H4 => ∃ acc, H4 Da = some (.lst acc) ∧ acc.length < sizeLine ∧ Wv (i + 1) (ds.length - (i + 1)) (upd H4 Da (.lst (acc ++ [y]))) else Wv (i + 1) (ds.length - (i + 1)) H3 := by
              intro b S3 ow3 H3 kc g3 s3 R5
              rw [kc] at krest'
              have hD3 : H3 Da = some (.lst acc) := (g3.hrq Da (.inr rfl)).trans hDa3
              have slo3 : Slo ow1 H1 ow3 H3 := (slo.trans (Slo.same R2 sm)).trans s3
              cases b with
              | false =>
                dsimp only at krest'
                refine ⟨rfl, hlt, ow3, S3, acc, ds', ext3.trans g3.ext, fun n a h => g3.cel n a (cel n a h), fun b h => (g3.hrq b (.inl h)).trans ((gsm.hrq b (.inl h)).trans (hrq b h)), slo3, ?_, hD3, (rl.mono gsm.ext).mono g3.ext, by omega, rest, krest', ktot⟩
                have R6 := R5.wipe no1
                rw [ws, we] at R6
                exact R6
              | true =>
                dsimp only at krest' ⊢
                rw [if_pos rfl]
                cases ke : (e.den phi env1 S3).pure? with
                | none => rw [ke] at krest'; cases krest'
                | some q =>
                  obtain ⟨w, S4⟩ := q
                  cases w with
                  | l pl => rw [ke] at krest'; cases krest'
                  | d y =>
                    rw [ke] at krest'
                    dsimp only at krest'
                    refine ⟨addA hr Da, ow3, env1, S3, R5, ?_⟩
                    rw [pure_ok ke]
                    intro v ow4 H4 g4 s4 R6 wy
                    have hD4 : H4 Da = some (.lst acc) := (g4.hrq Da (.inr rfl)).trans hD3
                    refine ⟨acc, hD4, by have := LN_eq; omega, rfl, hlt, ow4, S4, acc ++ [v], ds' ++ [y], ?_, fun n a h => g4.cel n a (g3.cel n a (cel n a h)), fun b h => ?_, ?_, ?_, upd_same, ?_, by rw [List.length_append]; simp; omega, ?_⟩
                    · exact ((ext3.trans g3.ext).trans g4.ext).trans (Rel.grown R6 hD4).2
                    · have nb : b ≠ Da := fun z => by
                        have := R1.hrt b h
                        rw [z] at this
                        exact this hD
                      rw [upd_ne nb]
                      exact (g4.hrq b (.inl h)).trans ((g3.hrq b (.inl h)).trans ((gsm.hrq b (.inl h)).trans (hrq b h)))
                    · have sl4 := slo3.trans s4
                      refine ⟨sl4.own, fun j a h => ?_⟩
                      have na : a ≠ Da := fun z => by
                        have := R1.track a (.inr ⟨_, h⟩)
                        rw [z] at this
                        exact this hD
                      rw [upd_ne na]
                      exact sl4.cont j a h
                    · have R7 := (Rel.grown (ys := acc ++ [v]) R6 hD4).1.wipe no1
                      rw [ws, we] at R7
                      exact R7
                    · have ex4 := (Rel.grown (ys := acc ++ [v]) R6 hD4).2
                      exact ((((rl.mono gsm.ext).mono g3.ext).mono g4.ext).mono ex4).append (.cons (Rp.mono ex4 wy) .nil)
                    · cases kr : lcL (lcF phi t c e (wipeS env vs)) (ds.drop (i + 1)) S4 with
                      | none => rw [kr] at krest'; cases krest'
                      | some r2 =>
                        rw [kr] at krest'
                        obtain ⟨ys, S5⟩ := r2
                        cases krest'
                        exact ⟨ys, rfl, by rw [ktot]; simp⟩
            refine ⟨ws, ?_⟩
            cases c with
            | none => exact tail true S' ow2 H' rfl (Gr.refl _ _ _) (Slo.refl _ _) R4
            | some a =>
              refine ⟨addA hr Da, ow2, env1, S', R4, ?_⟩
              have ed : (Eo.some a).denT phi env1 S' = (a.den phi env1 S').tst := by simp only [Eo.denT]
              cases ka : (a.den phi env1 S').tst with
              | none =>
                rw [ka] at ed
                rw [ed] at krest'
                cases krest'
              | some q =>
                obtain ⟨b, S3⟩ := q
                rw [ka] at ed
                obtain ⟨w, kw, kb⟩ := tst_ok ka
                rw [kw]
                intro v ow3 H3 g3 s3 R5 wv
                exact ⟨b, isBl_of wv kb, tail b S3 ow3 H3 ed g3 s3 R5⟩
        · have hin : i = ds.length := by omega
          subst hin
          rw [List.drop_eq_nil_of_le (Nat.le_refl _)] at krest
          cases krest
          rw [List.append_nil] at ktot
          subst ktot
          refine .inl ⟨iw.stop H2 _ ext fun a z => slo.cont _ a z.2.choose_spec, ?_⟩
          have nh : ¬ hr Da := fun z => R1.hrt Da z hD
          exact p2 Da ow' H2 ⟨ext, cel, hrq, nh⟩ slo (R1.unwipe hv R2 ext cel slo.own) ⟨acc, hDa, rl⟩
    · exact p'.elim
end
end Rg
set_option Elab.async false
set_option linter.all false
set_option maxRecDepth 100000
set_option maxHeartbeats 4000000
namespace Rg
open PySem PySem.Spec PyProof.Rows L2
section
variable {X : Cx} {T : Tab} {Wx : WX} {phi : Nat → Fn}
noncomputable def trsOf (T : Tab) (Wx : WX) (phi : Nat → Fn) : List Str → Es → List (TE × TE)
  | k :: ks, .cons a l => (tC (.str k), tI T Wx (a.den phi)) :: trsOf T Wx phi ks l
  | _, _ => []
theorem pairs_run : ∀ (l : Es) (ks : List Str) {hr : AS} {ow : Ow} {env : List Slot} {S : List Cell} {σ : L2.St} {H : Hp} {Q : List V → Hp → Prop} {Q' : List (V × V) → Hp → Prop}, l.len = ks.length → Rel T hr ow H env S σ → Post T (WL T) hr ow env σ H (l.den phi env S) Q Wx →
    (∀ vs H2, vs.length = ks.length → Q vs H2 → Q' ((ks.zip vs).map fun p => (.str p.1, p.2)) H2) → tPairs (trsOf T Wx phi ks l) σ H Q'
  | .nil, [], hr, ow, env, S, σ, H, Q, Q', _, R, p, i => by
    simp only [Es.den] at p
    exact i [] H rfl (p [] ow H (Gr.refl hr ow H) (Slo.refl ow H) R .nil)
  | .nil, _ :: _, _, _, _, _, _, _, _, _, h, _, _, _ => by cases h
  | .cons _ _, [], _, _, _, _, _, _, _, _, h, _, _, _ => by cases h
  | .cons a l, k :: ks, hr, ow, env, S, σ, H, Q, Q', hn, R, p, i => by
    simp only [Es.den] at p
    show tI T Wx (a.den phi) σ H fun y H2 => tPairs (trsOf T Wx phi ks l) σ H2 fun ps H3 => Q' ((.str k, y) :: ps) H3
    refine (tG.run (Wq := WR T) R p).mono fun v H1 ⟨ow1, S1, x, g, s, R1, wx, p1⟩ => ?_
    refine pairs_run l ks (Nat.succ.inj hn) R1 (Post.bind (Wq := WL T) p1) fun vs H2 hl ⟨ws, S2, ow2, _, g2, s2, R2, wl, p2⟩ => ?_
    exact i (v :: vs) H2 (by simp [hl]) (p2 (v :: vs) ow2 H2 (Gr.refl _ _ _) (Slo.refl _ _) R2 (.cons (wx.mono g2 s2) wl))
theorem Rel.wrote {hr : AS} {ow : Ow} {H : Hp} {env : List Slot} {S : List Cell} {σ : L2.St} {a : Addr} {o u : HO} (R : Rel T (addA hr a) ow H env S σ) (ha : H a = some o) (ho : Nfx (some o)) (hu : Nfx (some u)) : Rel T (addA hr a) ow (upd H a u) env S σ ∧ Ext (hide (hid (addA hr a) ow) H) (hide (hid (addA hr a) ow) (upd H a u)) := by
  have e : Ext (hide (hid (addA hr a) ow) H) (hide (hid (addA hr a) ow) (upd H a u)) := (hide_stp fun b o n q _ => ⟨n, by
    rw [upd_ne fun z => n (by rw [z]; exact .inl (.inr rfl))]
    exact q⟩).ext
  refine ⟨R.ext e (fun p b h => upd_ne fun z => R.dis p b h (.inr z)) R.dis (fun b h => ?_) (R.tab.upd (by rw [ha]; exact ho)) fun b h => ?_, e⟩
  · by_cases z : b = a
    · rw [z, upd_same]; simp
    · rw [upd_ne z]; exact R.hrt b h
  · by_cases z : b = a
    · rw [z, upd_same]; exact hu
    · rw [upd_ne z]; exact R.hnt b h
def strKs (ks : List Str) (vs : List V) : List (Key × V) := (ks.zip vs).map fun p => (.inr p.1, p.2)
theorem merge_new : ∀ (more kvs : List (Key × V)), ((kvs ++ more).map (·.1)).Nodup → mergeK kvs more = kvs ++ more
  | [], kvs, _ => by simp [mergeK]
  | p :: r, kvs, h => by
    have h1 : putK kvs p.1 p.2 = kvs ++ [p] := by
      refine putK_new p.2 ?_
      cases q : valV kvs p.1 with
      | none => rfl
      | some v =>
        exfalso
        have : (kvs.any fun kv => decide (kv.1 = p.1)) = true := by rw [valV_any, q]; rfl
        obtain ⟨kv, hk, e⟩ := List.any_eq_true.mp this
        rw [List.map_append, List.nodup_append] at h
        exact h.2.2 kv.1 (List.mem_map_of_mem hk) p.1 (by simp) (of_decide_eq_true e)
    show mergeK (putK kvs p.1 p.2) r = _
    rw [h1, merge_new r (kvs ++ [p]) (by simpa using h)]
    simp
theorem strKs_rp {H : Hp} : ∀ {ks : List Str} {ds : List D} {vs : List V}, RpL T H ds vs → RpK T H ((ks.map D.str).zip ds) (strKs ks vs)
  | [], _, _, _ => .nil
  | k :: ks, _, _, .nil => .nil
  | k :: ks, d :: ds, v :: vs, .cons h r => .cons (k := .inr k) h (strKs_rp r)
theorem strKs_keys : ∀ {ks : List Str} {vs : List V}, vs.length = ks.length → (strKs ks vs).map (·.1) = ks.map Sum.inr
  | [], _, _ => rfl
  | k :: ks, [], h => by cases h
  | k :: ks, v :: vs, h => by
    show Sum.inr k :: (strKs ks vs).map (·.1) = _
    rw [strKs_keys (Nat.succ.inj h)]
    rfl
theorem x_dct {ks : List Str} {l : Es} {keys : List (Option Expr)} {values : List Expr} {pos : Pos} (hp : PPs X pos keys values (trsOf T Wx phi ks l)) (hn : l.len = ks.length) (hall : keys.all (·.isSome) = true) (hl : keys.length = values.length) (h0 : keys ≠ []) (h15 : keys.length ≤ 15) (hk : ks.length ≤ 15) :
    PE X (.Dict keys values pos) (tF T Wx ((Fr.dct ks l).den phi)) := by
  refine PE.imp (pe_disp hp hall hl h0 h15) fun σ H Q ⟨hr, ow, env, S, R, p⟩ a ha => ?_
  simp only [Fr.den] at p
  cases k : l.den phi env S with
  | bad => rw [k] at p; exact p.elim
  | ex x S1 => rw [k] at p; exact p.elim
  | ok ws S1 =>
    rw [k] at p
    dsimp only at p
    cases k2 : allDat ws with
    | none => rw [k2] at p; exact p.elim
    | some ds =>
      rw [k2] at p
      dsimp only [Res.opt] at p
      split at p
      · rename_i hc
        have Rn := R.fresh (o := .dK []) ha
        refine pairs_run (Q := fun vs H2 => vs.length = ks.length → ∃ ow2, Gr (addA hr a) ow (upd H a (.dK [])) ow2 H2 ∧ Slo ow (upd H a (.dK [])) ow2 H2 ∧ Rel T (addA hr a) ow2 H2 env S1 σ ∧ WL T (addA hr a) ow2 H2 ws vs) l ks hn Rn ?_ ?_
        · rw [k]
          intro vs ow2 H2 g s r q _
          exact ⟨ow2, g, s, r, q⟩
        · intro vs H2 hv h
          obtain ⟨ow2, g, s, R2, q⟩ := h hv
          have hD : H2 a = some (.dK []) := (g.hrq a (.inr rfl)).trans upd_same
          have rl := allDat_rp q k2
          refine ⟨hD, strKs ks vs, by simp [strKs, kV], by simp [strKs]; omega, ?_⟩
          have hnd : ((([] : List (Key × V)) ++ strKs ks vs).map (·.1)).Nodup := by
            rw [List.nil_append, strKs_keys hv]
            exact List.Pairwise.map _ (fun x y n e => n (Sum.inr.inj e)) hc.2
          rw [merge_new _ _ hnd, List.nil_append]
          obtain ⟨R3, e3⟩ := Rel.wrote (u := .dK (strKs ks vs)) R2 hD nfx nfx
          have nh : ¬ hr a := fun z => R.hrt a z ha
          have ne : ∀ b, hid hr ow b → b ≠ a := fun b h z => R.track b h (by rw [z]; exact ha)
          refine p a ow2 _ ⟨((GrF.new (o := .dK []) R ha).ext.trans g.ext).trans e3, g.cel, fun b hb => ?_, nh⟩ ⟨s.own, fun i b hb => ?_⟩ R3 ⟨rfl, _, upd_same, strKs_rp (rl.mono e3)⟩
          · rw [upd_ne (ne b (.inl hb)), g.hrq b (.inl hb), upd_ne (ne b (.inl hb))]
          · rw [upd_ne (ne b (.inr ⟨_, hb⟩)), s.cont i b hb, upd_ne (ne b (.inr ⟨_, hb⟩))]
      · exact p.elim
end
end Rg
set_option Elab.async false
set_option linter.all false
set_option maxRecDepth 100000
set_option maxHeartbeats 4000000
namespace Rg
open PySem PySem.Spec PyProof.Rows L2
noncomputable def quF (phi : Nat → Fn) (t : Tg) (e : E) (env : List Slot) (x : D) (S2 : List Cell) : Option (Bool × List Cell) :=
  match t.set x env with
  | some env1 => (e.den phi env1 S2).tst
  | none => none
section
variable {X : Cx} {T : Tab} {Wx : WX} {phi : Nat → Fn}
theorem tabbed_stp {P : Addr} {H H' : Hp} (t : GxR.TabG H P) (h : GxR.Tabbed P H H') : Stp H H' := fun a o e n => by
  obtain ⟨ps, h1, _⟩ := t
  rw [h.2 a fun z => by rw [z, h1] at e; cases e; exact n ps rfl]
  exact e
theorem tabbed_ne {P : Addr} {H : Hp} (t : GxR.TabG H P) {a : Addr} (h : ∀ ps, H a ≠ some (.tbl ps)) : a ≠ P := fun z => by
  obtain ⟨ps, h1, _⟩ := t
  rw [z] at h
  exact h ps h1
theorem Rel.nt {hr : AS} {ow : Ow} {env : List Slot} {S : List Cell} {σ : L2.St} {H : Hp} (R : Rel T hr ow H env S σ) : ∀ a, hid hr ow a → Nfx (H a) := by
  rintro a (h | ⟨p, h⟩)
  · exact R.hnt a h
  · have m : ∀ c, CellR T hr ow H c a → Nfx (H a) := fun c r => by
      cases c with
      | lst l => obtain ⟨_, h, _⟩ := r; rw [h]; exact nfx
      | dct t l => obtain ⟨_, _, h, _⟩ := r; rw [h]; exact nfx
      | ob c fs => obtain ⟨_, _, _, h, _⟩ := r; rw [h]; exact nfx
    cases p with
    | inl i =>
      have q := R.sl i
      cases k : env.getD i .un with
      | un => rw [k] at q; rw [show ow (.inl i) = none from q] at h; cases h
      | w x => rw [k] at q; rw [q.1] at h; cases h
      | own c =>
        rw [k] at q
        obtain ⟨b, q1, _, q2⟩ := q
        rw [q1] at h; cases h
        exact m c q2
    | inr n =>
      by_cases l : n < S.length
      · obtain ⟨b, q1, q2⟩ := R.st n S[n] (by simp [l])
        rw [q1] at h; cases h
        exact m _ q2
      · rw [R.so n (by omega)] at h; cases h
theorem Rel.tabbed {hr : AS} {ow : Ow} {env : List Slot} {S : List Cell} {σ : L2.St} {H H' : Hp} {P : Addr} (R : Rel T hr ow H env S σ) (hP : P ∈ T.tabs) (tg : GxR.TabG H P) (h : GxR.Tabbed P H H') : Rel T hr ow H' env S σ ∧ Gr hr ow H ow H' ∧ Slo ow H ow H' := by
  have st := tabbed_stp tg h
  have at_ : ∀ a, hid hr ow a → H' a = H a := fun a z => h.2 a (tabbed_ne tg (R.nt a z).1)
  have g : Gr hr ow H ow H' := ⟨(hide_mono st).ext, fun _ _ h => h, fun a z => at_ a (.inl z)⟩
  refine ⟨R.keep g (fun p a z => at_ a (.inr ⟨p, z⟩)) ⟨fun Q hQ => ?_, fun p hp => ?_⟩, g, fun _ => rfl, fun i a z => at_ a (.inr ⟨_, z⟩)⟩
  · by_cases e : Q = P
    · rw [e]; exact h.1
    · obtain ⟨ps, h1, h2⟩ := R.tab.1 Q hQ
      exact ⟨ps, by rw [h.2 Q e]; exact h1, h2⟩
  · obtain ⟨ps, h1, h2, h3⟩ := R.tab.2 p hp
    refine ⟨ps, by rw [h.2 _ (T.dj P hP p hp)]; exact h1, h2, fun pos cv hc => ?_⟩
    obtain ⟨c, e1, e2⟩ := h3 pos cv hc
    exact ⟨c, e1, by rw [h.2 c (tabbed_ne tg fun ps z => by rw [e2] at z; cases z)]; exact e2⟩
theorem qu_imp {isAll : Bool} {P : Addr} {t : Tg} {it : It} {e : E} {vs : List Nat} {σ : L2.St} {H : Hp} {Q : VK} (hP : P ∈ T.tabs) (hs : ∀ j ∈ t.ix, j ∈ vs) (h : tI T Wx ((E.qu isAll t it e vs).den phi) σ H Q) :
    tQ isAll P (tIt T Wx false (it.den phi false)) (gTg X.K t) (tI T wN (e.den phi)) vs σ H Q := by
  obtain ⟨hr, ow, env, S, R, p⟩ := h
  refine ⟨hr, ow, env, S, R, ?_⟩
  have p' : Post T (WR T) hr ow env σ H ((it.den phi false env S).bind fun ds S1 => if noOwn env vs = true then Res.opt (quL isAll (quF phi t e (wipeS env vs)) ds S1) fun r => .ok (.d (.bl r.1)) r.2 else .bad) Q Wx := by
    simp only [E.den] at p
    exact p
  cases kit : it.den phi false env S with
  | bad => rw [kit] at p'; exact p'
  | ex x S1 => rw [kit] at p'; exact p'
  | ok ds S1 =>
    rw [kit, Res.bind_ok] at p'
    intro J ow1 H1 g s R1 iw
    split at p'
    · rename_i hv
      cases kl : quL isAll (quF phi t e (wipeS env vs)) ds S1 with
      | none => rw [kl] at p'; exact p'.elim
      | some tot =>
        rw [kl] at p'
        have p2 := p'.grow g s
        obtain ⟨tot, Sf⟩ := tot
        refine ⟨R1.tab.1 P hP, fun H2 hT => ?_⟩
        obtain ⟨R2, g2, s2⟩ := R1.tabbed hP (R1.tab.1 P hP) hT
        let Wv : Nat → Nat → Hp → Prop := fun i m H => m = ds.length - i ∧ i ≤ ds.length ∧ ∃ ow' S', Gr hr ow1 H1 ow' H ∧ Slo ow1 H1 ow' H ∧ Rel T hr ow' H (wipeS env vs) S' (L2.wipe σ vs) ∧ quL isAll (quF phi t e (wipeS env vs)) (ds.drop i) S' = some (tot, Sf)
        refine ⟨Wv, ⟨ds.length, by simp, Nat.zero_le _, ow1, S1, g2, s2, R2.wipe hv, by simpa using kl⟩, ?_⟩
        rintro i m H3 ⟨rfl, hi, ow', S', gw, sw, R3, krest⟩
        -- the end, whatever the answer
        have fin : ∀ (ow4 : Ow) (H4 : Hp), Gr hr ow1 H1 ow4 H4 → Slo ow1 H1 ow4 H4 → Rel T hr ow4 H4 (wipeS env vs) Sf (L2.wipe σ vs) → Q (.bl tot) H4 := fun ow4 H4 g4 s4 R4 =>
          p2 _ ow4 H4 g4 s4 (R1.unwipe hv R4 g4.ext g4.cel s4.own) (.bl _)
        by_cases hlt : i < ds.length
        · refine .inr ⟨iw.go i H3 _ hlt gw.ext fun a z => sw.cont _ a z.2.choose_spec, fun H' => Wv (i + 1) (ds.length - (i + 1)) H', fun H' w => ⟨ds.length - (i + 1), by omega, w⟩, fun x H' y => ?_⟩
          have hx : ds[i]? = some ds[i] := by simp [hlt]
          obtain ⟨sm, rx⟩ := iw.yld i H3 _ x H' _ hx gw.ext (fun a z => sw.cont _ a z.2.choose_spec) R3.track y
          have R4 := R3.same sm
          rw [List.drop_eq_getElem_cons hlt] at krest
          have krest' : (match quF phi t e (wipeS env vs) ds[i] S' with
            | some (b, S1) => if b = isAll then quL isAll (quF phi t e (wipeS env vs)) (ds.drop (i + 1)) S1 else some (b, S1)
            | none => none) = some (tot, Sf) := krest
          cases kset : t.set ds[i] (wipeS env vs) with
          | none =>
            have z : quF phi t e (wipeS env vs) ds[i] S' = none := by unfold quF; rw [kset]
            rw [z] at krest'
            cases krest'
          | some env1 =>
            have zf : quF phi t e (wipeS env vs) ds[i] S' = (e.den phi env1 S').tst := by unfold quF; rw [kset]
            rw [zf] at krest'
            refine g_ok t R4 rx kset fun σ2 ow2 R5 dr => ?_
            obtain ⟨tl, to_⟩ := Tg.set_len t kset
            have eo : ow2 = ow' := by
              funext p
              by_cases z : ∀ i ∈ t.ix, p ≠ .inl i
              · exact dr.eq p z
              · have ⟨i, z1, z2⟩ : ∃ i ∈ t.ix, p = .inl i := Classical.byContradiction fun n => z fun i hi e => n ⟨i, hi, e⟩
                subst z2
                have : ow' (.inl i) = none := R3.nown fun c e => by rw [wipeS_in (hs i z1)] at e; cases e
                rw [this]
                cases k : ow2 (.inl i) with
                | none => rfl
                | some a => rw [dr.sub _ _ k] at this; cases this
            subst eo
            have ws : L2.wipe σ2 vs = L2.wipe σ vs := wipe_same (ix := t.ix) (by rw [dr.len, wipe_length]) (fun j h => dr.out j h) hs
            have we : wipeS env1 vs = wipeS env vs := wipeS_same (ix := t.ix) (by rw [tl, wipeS_length]) (fun j h => to_ j h) hs
            have no1 : noOwn env1 vs = true := noOwn_of fun i hi => Tg.set_noOwn t kset i fun c e => by rw [wipeS_in hi] at e; cases e
            have gsm := gw.trans (Gr.same R3 sm)
            have ssm := sw.trans (Slo.same R3 sm)
            refine ⟨ws, hr, ow2, env1, S', R5, ?_⟩
            cases ke : (e.den phi env1 S').tst with
            | none => rw [ke] at krest'; cases krest'
            | some q =>
              obtain ⟨b, S3⟩ := q
              rw [ke] at krest'
              dsimp only at krest'
              obtain ⟨w, kw, kb⟩ := tst_ok ke
              rw [kw]
              intro v ow3 H5 g5 s5 R6 wv
              refine ⟨b, isBl_of wv kb, ?_⟩
              have R7 := R6.wipe no1
              rw [ws, we] at R7
              split
              · rename_i hb
                rw [if_pos hb] at krest'
                exact ⟨rfl, hlt, ow3, S3, gsm.trans g5, ssm.trans s5, R7, krest'⟩
              · rename_i hb
                rw [if_neg hb] at krest'
                cases krest'
                have e2 : (!isAll) = tot := by cases tot <;> cases isAll <;> first | rfl | exact absurd rfl hb
                rw [e2]
                exact fin ow3 H5 (gsm.trans g5) (ssm.trans s5) R7
        · have hin : i = ds.length := by omega
          subst hin
          rw [List.drop_eq_nil_of_le (Nat.le_refl _)] at krest
          cases krest
          exact .inl ⟨iw.stop H3 _ gw.ext fun a z => sw.cont _ a z.2.choose_spec, fin ow' H3 gw sw R3⟩
    · exact p'.elim
end
end Rg
set_option Elab.async false
set_option linter.all false
set_option maxRecDepth 100000
set_option maxHeartbeats 4000000
namespace Rg
open PySem PySem.Spec PyProof.Rows L2
def Prom (T : Tab) (F : Fn) : Sp := fun vs H Q E => ∃ hr ow S ws, Rel T hr ow H [] S [] ∧ WL T hr ow H ws vs ∧ noSlots ws = true ∧ match F ws S with
  | .ok w S' => ∀ v ow' H', Gr hr ow H ow' H' → Rel T hr ow' H' [] S' [] → WR T hr ow' H' w v → Q v H'
  | .ex x S' => ∀ cls d ow' H', Gr hr ow H ow' H' → Rel T hr ow' H' [] S' [] → XR T hr ow' H' x cls d → E cls d H'
  | .bad => False
def hrD (hr : AS) (ow : Ow) : AS := fun a => hr a ∨ ∃ i, ow (.inl i) = some a
def owD (ow : Ow) : Ow
  | .inl _ => none
  | .inr n => ow (.inr n)
def owU (ow ow' : Ow) : Ow
  | .inl i => ow (.inl i)
  | .inr n => ow' (.inr n)
theorem hid_down (hr : AS) (ow : Ow) : hid (hrD hr ow) (owD ow) = hid hr ow := by
  funext a
  apply propext
  constructor
  · rintro ((h | ⟨i, h⟩) | ⟨p, h⟩)
    · exact .inl h
    · exact .inr ⟨_, h⟩
    · cases p with
      | inl i => cases h
      | inr n => exact .inr ⟨_, h⟩
  · rintro (h | ⟨p, h⟩)
    · exact .inl (.inl h)
    · cases p with
      | inl i => exact .inl (.inr ⟨i, h⟩)
      | inr n => exact .inr ⟨.inr n, h⟩
theorem hid_up (hr : AS) (ow ow' : Ow) (h0 : ∀ i, ow' (.inl i) = none) : hid hr (owU ow ow') = hid (hrD hr ow) ow' := by
  funext a
  apply propext
  constructor
  · rintro (h | ⟨p, h⟩)
    · exact .inl (.inl h)
    · cases p with
      | inl i => exact .inl (.inr ⟨i, h⟩)
      | inr n => exact .inr ⟨.inr n, h⟩
  · rintro ((h | ⟨i, h⟩) | ⟨p, h⟩)
    · exact .inl h
    · exact .inr ⟨.inl i, h⟩
    · cases p with
      | inl i => rw [h0 i] at h; cases h
      | inr n => exact .inr ⟨.inr n, h⟩
section
variable {T : Tab} {hr hr1 hr2 : AS} {ow ow' ow1 ow2 : Ow} {H H' : Hp} {env : List Slot} {S S' : List Cell} {σ : L2.St}
theorem FR.hid (e : hid hr1 ow1 = hid hr2 ow2) (hc : ∀ n a, ow1 (.inr n) = some a → ow2 (.inr n) = some a) {l : List (Nat × W)} {us : List (Str × V)} (h : FR T hr1 ow1 H l us) : FR T hr2 ow2 H l us :=
  FR.conv (by rw [e]; exact Ext.refl _) hc h
theorem CellR.hid (e : Rg.hid hr1 ow1 = Rg.hid hr2 ow2) (hc : ∀ n a, ow1 (.inr n) = Option.some a → ow2 (.inr n) = Option.some a) {c : Cell} {a : Addr} (h : CellR T hr1 ow1 H c a) : CellR T hr2 ow2 H c a :=
  CellR.conv (by rw [e]; exact Ext.refl _) hc rfl h
theorem Rel.down (R : Rel T hr ow H env S σ) : Rel T (hrD hr ow) (owD ow) H [] S [] := by
  refine ⟨fun i => rfl, fun n c k => ?_, fun n h => R.so n h, fun p q a h1 h2 => ?_, fun p a h => ?_, fun a h => ?_, R.tab, Nat.le_refl _, fun a h => ?_⟩
  · obtain ⟨a, q1, q2⟩ := R.st n c k
    exact ⟨a, q1, q2.hid (hid_down hr ow).symm fun _ _ h => h⟩
  · cases p with
    | inl i => cases h1
    | inr n =>
      cases q with
      | inl i => cases h2
      | inr m => exact R.inj _ _ a h1 h2
  · cases p with
    | inl i => cases h
    | inr n =>
      rintro (z | ⟨i, z⟩)
      · exact R.dis _ _ h z
      · exact absurd (R.inj _ _ a h z) (by simp)
  · rcases h with h | ⟨i, h⟩
    · exact R.hrt a h
    · exact R.track a (.inr ⟨_, h⟩)
  · rcases h with h | ⟨i, h⟩
    · exact R.hnt a h
    · exact R.nt a (.inr ⟨_, h⟩)
theorem Rel.noInl (R : Rel T hr ow H [] S []) (i : Nat) : ow (.inl i) = none := R.sl i
theorem Rel.up (R : Rel T hr ow H env S σ) (g : Gr (hrD hr ow) (owD ow) H ow' H') (R' : Rel T (hrD hr ow) ow' H' [] S' []) : Rel T hr (owU ow ow') H' env S' σ ∧ Gr hr ow H (owU ow ow') H' ∧ Slo ow H (owU ow ow') H' := by
  have eh := hid_up hr ow ow' R'.noInl
  have ed := hid_down hr ow
  have ex : Ext (hide (hid hr ow) H) (hide (hid hr (owU ow ow')) H') := by
    rw [eh, ← ed]
    exact g.ext
  have hc : ∀ n a, ow (.inr n) = some a → (owU ow ow') (.inr n) = some a := fun n a h => g.cel n a h
  refine ⟨⟨fun i => ?_, fun n c k => ?_, fun n h => R'.so n h, fun p q a h1 h2 => ?_, fun p a h => ?_, fun a h => ?_, R'.tab, R.ln, fun a h => ?_⟩, ⟨ex, hc, fun a h => g.hrq a (.inl h)⟩, ⟨fun i => rfl, fun i a h => g.hrq a (.inr ⟨i, h⟩)⟩⟩
  · have q := R.sl i
    cases k : env.getD i .un with
    | un => rw [k] at q; exact q
    | w x =>
      rw [k] at q
      obtain ⟨q1, q2, v, q3, q4⟩ := q
      exact ⟨q1, q2, v, q3, WR.conv ex hc q2 q4⟩
    | own c =>
      rw [k] at q
      obtain ⟨a, q1, q2, q3⟩ := q
      exact ⟨a, q1, q2, CellR.conv ex hc (g.hrq a (.inr ⟨i, q1⟩)) q3⟩
  · obtain ⟨a, q1, q2⟩ := R'.st n c k
    exact ⟨a, q1, q2.hid eh.symm fun _ _ h => h⟩
  · cases p with
    | inl i =>
      cases q with
      | inl j => exact R.inj _ _ a h1 h2
      | inr n => exact absurd (.inr ⟨i, h1⟩) (R'.dis _ _ (show ow' (.inr n) = some a from h2))
    | inr n =>
      cases q with
      | inl j => exact absurd (.inr ⟨j, h2⟩) (R'.dis _ _ (show ow' (.inr n) = some a from h1))
      | inr m => exact R'.inj _ _ a h1 h2
  · cases p with
    | inl i => exact R.dis _ _ (show ow (.inl i) = some a from h)
    | inr n => exact fun z => R'.dis _ _ (show ow' (.inr n) = some a from h) (.inl z)
  · rw [g.hrq a (.inl h)]; exact R.hrt a h
  · rw [g.hrq a (.inl h)]; exact R.hnt a h
theorem WL.down : ∀ {ws : List W} {vs : List V}, noSlots ws = true → WL T hr ow H ws vs → WL T (hrD hr ow) (owD ow) H ws vs
  | [], _, _, .nil => .nil
  | .d x :: l, _, h, .cons r t => .cons (by
      show Rp T (hide (hid (hrD hr ow) (owD ow)) H) x _
      rw [hid_down]
      exact r) (WL.down (show noSlots l = true from h) t)
  | .l (.inr n) :: l, _, h, .cons r t => .cons r (WL.down (show noSlots l = true from h) t)
  | .l (.inl n) :: l, _, h, .cons r t => by cases h
theorem WR.up (h0 : ∀ i, ow' (.inl i) = none) : ∀ {w : W} {v : V}, WR T (hrD hr ow) ow' H w v → WR T hr (owU ow ow') H w v
  | .d x, v, r => by
    show Rp T (hide (hid hr (owU ow ow')) H) x v
    rw [hid_up hr ow ow' h0]
    exact r
  | .l (.inr n), v, r => r
  | .l (.inl n), v, ⟨a, h, _⟩ => by rw [h0 n] at h; cases h
theorem XR.up {x : Xc} {cls : Value} {d : Option Addr} (h0 : ∀ i, ow' (.inl i) = none) (h : XR T (hrD hr ow) ow' H x cls d) : XR T hr (owU ow ow') H x cls d := by
  obtain ⟨C, a, us, h1, h2, h3, h4, h5, h6⟩ := h
  rw [← hid_up hr ow ow' h0] at h4 h6
  exact ⟨C, a, us, h1, h2, h3, h4, h5, h6⟩
theorem call_prom {F : Fn} {ws : List W} {vs : List V} {Q : VK} {Wx : WX} (R : Rel T hr ow H env S σ) (r : WL T hr ow H ws vs) (hn : noSlots ws = true) (p : Post T (WR T) hr ow env σ H (F ws S) Q Wx) : Prom T F vs H Q (fun cls d H' => ∀ σ', Wx cls d σ' H') := by
  refine ⟨hrD hr ow, owD ow, S, ws, R.down, r.down hn, hn, ?_⟩
  cases k : F ws S with
  | ok w S1 =>
    rw [k] at p
    intro v ow' H' g R' wv
    obtain ⟨a1, a2, a3⟩ := R.up g R'
    exact p v _ H' a2 a3 a1 (wv.up R'.noInl)
  | ex x S1 =>
    rw [k] at p
    intro cls d ow' H' g R' xr
    obtain ⟨a1, a2, a3⟩ := R.up g R'
    exact p cls d _ H' a2 a3 a1 (xr.up R'.noInl)
  | bad => rw [k] at p; exact p
end
section
variable {X : Cx} {T : Tab} {Wx : WX} {phi : Nat → Fn}
theorem ca_imp {f : Nat} {l : Es} {σ : L2.St} {H : Hp} {Q : VK} (h : tI T Wx ((E.ca f l).den phi) σ H Q) : tCall (Prom T (phi f)) [] (fun cls d H' => ∀ σ', Wx cls d σ' H') (tIs T Wx (l.den phi)) σ H Q := by
  simp only [E.den] at h
  refine (tG.bind1 (Wq := WL T) h).mono fun vs H1 ⟨hr, ow, env, S, ws, R, wl, p⟩ => ?_
  rw [List.append_nil]
  split at p
  · rename_i hn
    exact call_prom R wl hn p
  · exact p.elim
structure Cd (P : Program) (w : World) (K : PySem.W.Frag) (mg : Str → Option Value) (base : Heap) (T : Tab) (x : Str) (F : Fn) (k : Nat) : Prop where
  ex : ∃ (f : Addr) (fd : FuncData) (ps : List Str), FnOk P w K mg base (CX P w) k f fd ps (Prom T F) ∧ mg x = some (.ref f) ∧ PySem.W.keepIn K (.ref f) = true ∧ Binds K fd ps []
structure Md (P : Program) (w : World) (K : PySem.W.Frag) (mg : Str → Option Value) (base : Heap) (T : Tab) (C : Addr) (m : Str) (F : Fn) (k : Nat) : Prop where
  ex : ∃ (f : Addr) (fd : FuncData) (ps : List Str), Cls K C ∧ Meth K C m f ∧ FnOk P w K mg base (CX P w) k f fd ps (Prom T F) ∧ Binds K fd ps []
structure Pd (P : Program) (w : World) (K : PySem.W.Frag) (mg : Str → Option Value) (base : Heap) (T : Tab) (C : Addr) (m : Str) (F : Fn) (k : Nat) : Prop where
  ex : ∃ (p f : Addr) (fd : FuncData) (ps : List Str), Cls K C ∧ PropOf K C m p f ∧ FnOk P w K mg base (CX P w) k f fd ps (Prom T F) ∧ Binds K fd ps []
structure Kd (P : Program) (w : World) (K : PySem.W.Frag) (mg : Str → Option Value) (base : Heap) (T : Tab) (x : Str) (C : Addr) (F : Fn) (k : Nat) : Prop where
  ex : ∃ (f : Addr) (fd : FuncData) (ps : List Str), Mk K C f ∧ FnOk P w K mg base (CX P w) k f fd ps (Prom T F) ∧ mg x = some (.ref C) ∧ Binds K fd ps []
theorem x_ca {f k j : Nat} {l : Es} {x : Str} {p pos : Pos} {e : Expr} {es : List Expr} (tk : Takes X Wx) (c : Cd X.prog X.w X.K X.mg X.base T x (phi f) k) (hr : Room j X.A) (hk : k ≤ j) (hg : Gl X x) (ha : PA X (e :: es) (tIs T Wx (l.den phi))) (hdb : (x == ("__debug__" : Str)) = false)
    (he : starEach (e :: es) X.env = (false, eval e X.env) :: starEach es X.env) (hpl : (backTo pos (starEach es X.env)).any (·.1) = false) : PE X (.Call (.Name x p) (e :: es) [] pos) (tI T Wx ((E.ca f l).den phi)) := by
  obtain ⟨fa, fd, ps, F, hm, kp, b⟩ := c.ex
  exact PE.imp (pe_call (E := fun cls d H' => ∀ σ', Wx cls d σ' H') F (hr.mono hk) hg hm kp b .nil (passes_call tk fun _ _ σ _ h => h σ) ha hdb he hpl) fun _ _ _ h => ca_imp h
theorem x_ca0 {f k j : Nat} {x : Str} {p pos : Pos} (tk : Takes X Wx) (c : Cd X.prog X.w X.K X.mg X.base T x (phi f) k) (hr : Room j X.A) (hk : k ≤ j) (hg : Gl X x) (hdb : (x == ("__debug__" : Str)) = false) :
    PE X (.Call (.Name x p) [] [] pos) (tI T Wx ((E.ca f .nil).den phi)) := by
  obtain ⟨fa, fd, ps, F, hm, kp, b⟩ := c.ex
  refine PE.imp (pe_call0 (E := fun cls d H' => ∀ σ', Wx cls d σ' H') F (hr.mono hk) hg hm kp b .nil (passes_call tk fun _ _ σ _ h => h σ) hdb) fun σ H Q h => ?_
  obtain ⟨hr0, ow, env, S, R, p⟩ := h
  simp only [E.den, Es.den, Res.bind_ok] at p
  exact call_prom R .nil rfl p
theorem rpF_keys {H : Hp} : ∀ {fs : List (Nat × D)} {us : List (Str × V)}, RpF T H fs us → us.map (·.1) = fs.map fun p => T.fld p.1
  | _, _, .nil => rfl
  | _, _, .cons _ r => by rw [List.map_cons, List.map_cons, rpF_keys r]
theorem fr_keys {hr : AS} {ow : Ow} {H : Hp} : ∀ {fs : List (Nat × W)} {us : List (Str × V)}, FR T hr ow H fs us → us.map (·.1) = fs.map fun p => T.fld p.1
  | _, _, .nil => rfl
  | _, _, .cons _ _ r => by rw [List.map_cons, List.map_cons, fr_keys r]
theorem lookup_none {us : List (Str × V)} {m : Str} (h : ∀ p ∈ us.map (·.1), p ≠ m) : us.lookup m = none := by
  induction us with
  | nil => rfl
  | cons p us ih =>
    have h1 : p.1 ≠ m := h p.1 (by simp)
    have hb : (m == p.1) = false := beq_eq_false_iff_ne.mpr (Ne.symm h1)
    simp only [List.lookup, hb]
    exact ih fun q hq => h q (by simp only [List.map_cons, List.mem_cons]; exact .inr hq)
theorem isOb_ins {hr : AS} {ow : Ow} {H : Hp} {env : List Slot} {S : List Cell} {σ : L2.St} {c : Nat} {w : W} {v : V} (R : Rel T hr ow H env S σ) (h : WR T hr ow H w v) (e : isOb S c w = true) : ∃ a C dx us, v = .ref a ∧ T.cls c = some C ∧ H a = some (.ins C dx us) ∧ ∀ p ∈ us.map (·.1), ∃ n, p = T.fld n := by
  have keys : ∀ {l : List Nat} {us : List (Str × V)}, us.map (·.1) = l.map T.fld → ∀ p ∈ us.map (·.1), ∃ n, p = T.fld n := fun {l us} e p hp => by
    rw [e] at hp
    obtain ⟨n, _, rfl⟩ := List.mem_map.mp hp
    exact ⟨n, rfl⟩
  cases w with
  | d x =>
    cases x with
    | obj c' fs =>
      have ec : c' = c := by simpa [isOb] using e
      subst ec
      have h' : Rp T (hide (hid hr ow) H) (.obj c' fs) v := h
      cases h' with
      | @obj a C dx us _ _ q hc r => exact ⟨a, C, dx, us, rfl, hc, (hide_some q).2, keys (l := fs.map (·.1)) (by rw [rpF_keys r, List.map_map]; rfl)⟩
    | _ => cases e
  | l p =>
    cases p with
    | inl i => cases e
    | inr m =>
      obtain ⟨a, ha, rfl⟩ := h
      cases k : S[m]? with
      | none => simp [isOb, k] at e
      | some cl =>
        obtain ⟨b, q1, q2⟩ := R.st m cl k
        rw [q1] at ha
        cases ha
        cases cl with
        | ob c' fs =>
          have ec : c' = c := by simpa [isOb, k] using e
          subst ec
          obtain ⟨C, dx, us, h1, h2, h3⟩ := q2
          exact ⟨a, C, dx, us, rfl, h2, h1, keys (l := fs.map (·.1)) (by rw [fr_keys h3, List.map_map]; rfl)⟩
        | _ => simp [isOb, k] at e
theorem x_me {c f k j : Nat} {C : Addr} {a : E} {l : Es} {m : Str} {o e : Expr} {es : List Expr} {apos pos : Pos} {pl : Sem Bool} (tk : Takes X Wx) (hC : T.cls c = some C) (hf : ∀ n, T.fld n ≠ m) (cd : Md X.prog X.w X.K X.mg X.base T C m (phi f) k) (hr : Room j X.A) (hk : k ≤ j)
    (ho : PE X o (tI T Wx (a.den phi))) (ha : PA X (e :: es) (tIs T Wx (l.den phi))) (hst : starEach (e :: es) X.env = (false, eval e X.env) :: starEach es X.env) (hpl : (backTo pos (starEach es X.env)).any (·.1) = false)
    (ht : eval (.Call (.Attribute o m apos) (e :: es) [] pos) X.env = (do
      let ov ← eval o X.env
      standAt apos.atName
      let (f, first) ← holding [ov] (getMethod ov m pl)
      callWith pos f first (backTo pos (starEach (e :: es) X.env)) (backToKw pos (keywordEach [] X.env)))) :
    PE X (.Call (.Attribute o m apos) (e :: es) [] pos) (tI T Wx ((E.me c f a l).den phi)) := by
  obtain ⟨fa, fd, ps, cl, me, F, b⟩ := cd.ex
  refine PE.imp (pe_meth (E := fun cls d H' => ∀ σ', Wx cls d σ' H') ho cl me F (hr.mono hk) b .nil (passes_call tk fun _ _ σ _ h => h σ) ha hst hpl ht) fun σ H Q h => ?_
  simp only [E.den] at h
  refine (tG.bind1 (Wq := WR T) h).mono fun v H1 ⟨hr, ow, env, S, x, R, wx, p⟩ => ?_
  split at p
  · rename_i hob
    obtain ⟨ad, C', dx, us, rfl, hC', hi, hk⟩ := isOb_ins R wx hob
    rw [hC] at hC'
    cases hC'
    refine ⟨ad, dx, us, rfl, hi, lookup_none fun p hp e => ?_, ?_⟩
    · obtain ⟨n, rfl⟩ := hk p hp
      exact hf n e
    · refine (tG.run2 (Wq := WL T) R wx p).mono fun vs H2 ⟨ow1, S1, ws, R1, wx1, wl, p1⟩ => ?_
      rw [List.append_nil]
      split at p1
      · rename_i hn
        have hn2 : noSlots (x :: ws) = true := by
          cases x with
          | d _ => exact hn
          | l q =>
            cases q with
            | inl i => cases hob
            | inr m => exact hn
        exact call_prom R1 (.cons wx1 wl) hn2 p1
      · exact p1.elim
  · exact p.elim
theorem x_me0 {c f k j : Nat} {C : Addr} {a : E} {m : Str} {o : Expr} {apos pos : Pos} {pl : Sem Bool} (tk : Takes X Wx) (hC : T.cls c = some C) (hf : ∀ n, T.fld n ≠ m) (cd : Md X.prog X.w X.K X.mg X.base T C m (phi f) k) (hr : Room j X.A) (hk : k ≤ j)
    (ho : PE X o (tI T Wx (a.den phi)))
    (ht : eval (.Call (.Attribute o m apos) [] [] pos) X.env = (do
      let ov ← eval o X.env
      standAt apos.atName
      let (f, first) ← holding [ov] (getMethod ov m pl)
      callWith pos f first (backTo pos (starEach [] X.env)) (backToKw pos (keywordEach [] X.env)))) :
    PE X (.Call (.Attribute o m apos) [] [] pos) (tI T Wx ((E.me c f a .nil).den phi)) := by
  obtain ⟨fa, fd, ps, cl, me, F, b⟩ := cd.ex
  refine PE.imp (pe_meth0 (E := fun cls d H' => ∀ σ', Wx cls d σ' H') ho cl me F (hr.mono hk) b .nil (passes_call tk fun _ _ σ _ h => h σ) ht) fun σ H Q h => ?_
  simp only [E.den] at h
  refine (tG.bind1 (Wq := WR T) h).mono fun v H1 ⟨hr, ow, env, S, x, R, wx, p⟩ => ?_
  split at p
  · rename_i hob
    obtain ⟨ad, C', dx, us, rfl, hC', hi, hk⟩ := isOb_ins R wx hob
    rw [hC] at hC'
    cases hC'
    refine ⟨ad, dx, us, rfl, hi, lookup_none fun p hp e => ?_, ?_⟩
    · obtain ⟨n, rfl⟩ := hk p hp
      exact hf n e
    · simp only [Es.den, Res.bind_ok, noSlots, if_true] at p
      have hn2 : noSlots [x] = true := by
        cases x with
        | d _ => rfl
        | l q =>
          cases q with
          | inl i => cases hob
          | inr m => rfl
      exact call_prom R (.cons wx .nil) hn2 p
  · exact p.elim
theorem takes_never : Takes X.nox wN := fun u s' ⟨a, B, sI, pins, σ, H, cls, d, e, I, nb, up, sky, na, os, ag, w⟩ => w
theorem Post.noex {hr : AS} {ow : Ow} {env : List Slot} {σ : L2.St} {H : Hp} {R : Res W} {Q : VK} (p : Post T (WR T) hr ow env σ H R.noex Q Wx) : Post T (WR T) hr ow env σ H R Q wN := by
  cases R with
  | ok w S => exact p
  | ex x S => exact p.elim
  | bad => exact p
theorem x_pr {c f k j : Nat} {C : Addr} {a : E} {m : Str} {o : Expr} {pos : Pos} (hC : T.cls c = some C) (cd : Pd X.prog X.w X.K X.mg X.base T C m (phi f) k) (hr : Room j X.A) (hk : k + 1 ≤ j) (ho : PE X o (tI T Wx (a.den phi))) (hab : attributeBase o m X.env (eval o X.env) = eval o X.env) :
    PE X (.Attribute o m pos) (tI T Wx ((E.pr c f a).den phi)) := by
  obtain ⟨pa, fa, fd, ps, cl, po, F, b⟩ := cd.ex
  refine PE.imp (pe_prop ho cl po F (hr.mono hk) b .nil (E := fun cls d H' => ∀ σ', wN cls d σ' H') (passes_call takes_never fun _ _ σ _ h => h σ) hab) fun σ H Q h => ?_
  simp only [E.den] at h
  refine (tG.bind1 (Wq := WR T) h).mono fun v H1 ⟨hr, ow, env, S, x, R, wx, p⟩ => ?_
  split at p
  · rename_i hob
    obtain ⟨ad, C', dx, us, rfl, hC', hi, hk⟩ := isOb_ins R wx hob
    rw [hC] at hC'
    cases hC'
    have hn2 : noSlots [x] = true := by
      cases x with
      | d _ => rfl
      | l q =>
        cases q with
        | inl i => cases hob
        | inr m => rfl
    exact ⟨ad, dx, us, rfl, hi, call_prom R (.cons wx .nil) hn2 p.noex⟩
  · exact p.elim
theorem fr_lookup {hr : AS} {ow : Ow} {H : Hp} (hinj : ∀ n m, T.fld n = T.fld m → n = m) {n : Nat} {w : W} : ∀ {fs : List (Nat × W)} {us : List (Str × V)}, FR T hr ow H fs us → fs.lookup n = some w → ∃ v, us.lookup (T.fld n) = some v ∧ WR T hr ow H w v
  | _, _, .nil, e => by cases e
  | (k, x) :: fs, _, .cons (v := v) h z r, e => by
    by_cases hk : n = k
    · subst hk
      simp only [List.lookup, beq_self_eq_true] at e ⊢
      cases e
      exact ⟨v, rfl, h⟩
    · have h1 : (n == k) = false := beq_eq_false_iff_ne.mpr hk
      have h2 : (T.fld n == T.fld k) = false := beq_eq_false_iff_ne.mpr fun e => hk (hinj _ _ e)
      simp only [List.lookup, h1] at e
      simp only [List.lookup, h2]
      exact fr_lookup hinj r e
theorem rpF_lookup {H : Hp} (hinj : ∀ n m, T.fld n = T.fld m → n = m) {n : Nat} {w : D} : ∀ {fs : List (Nat × D)} {us : List (Str × V)}, RpF T H fs us → fs.lookup n = some w → ∃ v, us.lookup (T.fld n) = some v ∧ Rp T H w v
  | _, _, .nil, e => by cases e
  | (k, x) :: fs, _, .cons (v := v) h r, e => by
    by_cases hk : n = k
    · subst hk
      simp only [List.lookup, beq_self_eq_true] at e ⊢
      cases e
      exact ⟨v, rfl, h⟩
    · have h1 : (n == k) = false := beq_eq_false_iff_ne.mpr hk
      have h2 : (T.fld n == T.fld k) = false := beq_eq_false_iff_ne.mpr fun e => hk (hinj _ _ e)
      simp only [List.lookup, h1] at e
      simp only [List.lookup, h2]
      exact rpF_lookup hinj r e
theorem x_fl {c n : Nat} {C : Addr} {a : E} {m : Str} {o : Expr} {pos : Pos} (hC : T.cls c = some C) (hinj : ∀ n m, T.fld n = T.fld m → n = m) (hm : T.fld n = m) (cl : Cls X.K C) (na : NoAttr X.K C m) (ho : PE X o (tI T Wx (a.den phi))) (hab : attributeBase o m X.env (eval o X.env) = eval o X.env) :
    PE X (.Attribute o m pos) (tI T Wx ((E.fl c n a).den phi)) := by
  refine PE.imp (pe_fld ho hab) fun σ H Q h => ?_
  simp only [E.den] at h
  refine (tG.bind1 (Wq := WR T) h).mono fun v H1 ⟨hr, ow, env, S, x, R, wx, p⟩ => ?_
  obtain ⟨w, hw, p2⟩ := p.opt
  cases x with
  | d y =>
    cases y with
    | obj c' fs =>
      dsimp only [flW] at hw
      split at hw
      · rename_i ec
        subst ec
        have h' : Rp T (hide (hid hr ow) H1) (.obj c' fs) v := wx
        cases h' with
        | @obj ad C' dx us _ _ q hc r =>
          rw [hC] at hc
          cases hc
          cases k : fs.lookup n with
          | none => rw [k] at hw; cases hw
          | some d =>
            rw [k] at hw
            cases hw
            obtain ⟨u, e1, e2⟩ := rpF_lookup hinj r k
            exact ⟨ad, C, dx, us, u, rfl, (hide_some q).2, cl, na, by rw [← hm]; exact e1, p2.same R e2⟩
      · cases hw
    | _ => cases hw
  | l q =>
    cases q with
    | inl i => cases hw
    | inr mm =>
      obtain ⟨ad, had, rfl⟩ := wx
      dsimp only [flW] at hw
      cases k : S[mm]? with
      | none => rw [k] at hw; cases hw
      | some ce =>
        rw [k] at hw
        obtain ⟨b, q1, q2⟩ := R.st mm ce k
        rw [q1] at had
        cases had
        cases ce with
        | ob c' fs =>
          dsimp only at hw
          split at hw
          · rename_i ec
            subst ec
            obtain ⟨C', dx, us, h1, h2, h3⟩ := q2
            rw [hC] at h2
            cases h2
            obtain ⟨u, e1, e2⟩ := fr_lookup hinj h3 hw
            exact ⟨ad, C, dx, us, u, rfl, h1, cl, na, by rw [← hm]; exact e1, p2.same R e2⟩
          · cases hw
        | _ => cases hw
end
end Rg
set_option Elab.async false
set_option linter.all false
set_option maxRecDepth 100000
set_option maxHeartbeats 4000000
namespace Rg
open PySem PySem.Spec PyProof.Rows L2
def owA (ow : Ow) (n : Nat) (a : Addr) : Ow := fun p => if p = .inr n then some a else ow p
def cutO (n : Nat) (ow : Ow) : Ow
  | .inl i => ow (.inl i)
  | .inr m => if m < n then ow (.inr m) else none
section
variable {T : Tab} {hr hr0 : AS} {ow ow' ow0 : Ow} {H H' H0 : Hp} {env : List Slot} {S S' : List Cell} {σ σ0 : L2.St}
theorem owA_ne {n : Nat} {a : Addr} {p : Loc} (h : p ≠ .inr n) : owA ow n a p = ow p := if_neg h
theorem owA_self {n : Nat} {a : Addr} : owA ow n a (.inr n) = some a := if_pos rfl
theorem hid_A {n : Nat} {a : Addr} (h : ow (.inr n) = none) : hid hr (owA ow n a) = hid (addA hr a) ow := by
  funext b
  apply propext
  constructor
  · rintro (z | ⟨p, z⟩)
    · exact .inl (.inl z)
    · by_cases e : p = .inr n
      · rw [e, owA_self] at z
        cases z
        exact .inl (.inr rfl)
      · rw [owA_ne e] at z
        exact .inr ⟨p, z⟩
  · rintro ((z | z) | ⟨p, z⟩)
    · exact .inl z
    · rw [z]
      exact .inr ⟨.inr n, owA_self⟩
    · refine .inr ⟨p, ?_⟩
      rw [owA_ne fun e => by rw [e, h] at z; cases z]
      exact z
theorem Rel.addc {a : Addr} {c : Cell} (R : Rel T (addA hr a) ow H env S σ) (hc : CellR T (addA hr a) ow H c a) (nh : ¬ hr a) : Rel T hr (owA ow S.length a) H env (S ++ [c]) σ := by
  have hn : ow (.inr S.length) = none := R.so _ (Nat.le_refl _)
  have eh := hid_A (hr := hr) (a := a) hn
  have cv : ∀ n b, ow (.inr n) = some b → owA ow S.length a (.inr n) = some b := fun n b h => by
    rw [owA_ne fun e => by rw [e, hn] at h; cases h]
    exact h
  refine ⟨fun i => ?_, fun n c' k => ?_, fun n h => ?_, fun p q b h1 h2 => ?_, fun p b h => ?_, fun b h => R.hrt b (.inl h), R.tab, R.ln, fun b h => R.hnt b (.inl h)⟩
  · have q := R.sl i
    cases k : env.getD i .un with
    | un => rw [k] at q; exact (owA_ne (by simp)).trans q
    | w x =>
      rw [k] at q
      obtain ⟨q1, q2, v, q3, q4⟩ := q
      exact ⟨(owA_ne (by simp)).trans q1, q2, v, q3, WR.conv (by rw [eh]; exact Ext.refl _) cv q2 q4⟩
    | own c =>
      rw [k] at q
      obtain ⟨b, q1, q2, q3⟩ := q
      exact ⟨b, (owA_ne (by simp)).trans q1, q2, q3.hid eh.symm cv⟩
  · by_cases l : n < S.length
    · rw [List.getElem?_append_left l] at k
      obtain ⟨b, q1, q2⟩ := R.st n c' k
      exact ⟨b, cv n b q1, q2.hid eh.symm cv⟩
    · have e : n = S.length := by
        have := (List.getElem?_eq_some_iff.mp k).1
        rw [List.length_append] at this
        simp at this
        omega
      subst e
      rw [List.getElem?_append_right (Nat.le_refl _)] at k
      simp at k
      subst k
      exact ⟨a, owA_self, hc.hid eh.symm cv⟩
  · rw [List.length_append] at h
    simp at h
    rw [owA_ne fun e => by cases e; omega]
    exact R.so n (by omega)
  · by_cases e1 : p = .inr S.length
    · by_cases e2 : q = .inr S.length
      · rw [e1, e2]
      · rw [e1, owA_self] at h1
        rw [owA_ne e2] at h2
        cases h1
        exact absurd (.inr rfl) (R.dis q _ h2)
    · by_cases e2 : q = .inr S.length
      · rw [e2, owA_self] at h2
        rw [owA_ne e1] at h1
        cases h2
        exact absurd (.inr rfl) (R.dis p _ h1)
      · rw [owA_ne e1] at h1
        rw [owA_ne e2] at h2
        exact R.inj p q b h1 h2
  · by_cases e1 : p = .inr S.length
    · rw [e1, owA_self] at h
      cases h
      exact nh
    · rw [owA_ne e1] at h
      exact fun z => R.dis p b h (.inl z)
theorem cut_sub {n : Nat} {p : Loc} {b : Addr} (h : cutO n ow p = some b) : ow p = some b := by
  cases p with
  | inl i => exact h
  | inr m =>
    have h' : (if m < n then ow (.inr m) else none) = some b := h
    split at h'
    · exact h'
    · cases h'
theorem cut_lt {n m : Nat} (h : m < n) : cutO n ow (.inr m) = ow (.inr m) := if_pos h
theorem ext_cut {n : Nat} : Ext (hide (hid hr ow) H) (hide (hid hr (cutO n ow)) H) := hide_sub fun b z => z.elim .inl fun ⟨p, h⟩ => .inr ⟨p, cut_sub h⟩
theorem Rel.lt (R : Rel T hr ow H env S σ) {m : Nat} {a : Addr} (h : ow (.inr m) = some a) : m < S.length := by
  by_cases l : m < S.length
  · exact l
  · rw [R.so m (by omega)] at h; cases h
theorem FR.cut {n : Nat} (hn : ∀ m a, ow0 (.inr m) = some a → m < n) : ∀ {l : List (Nat × W)} {us us0 : List (Str × V)}, FR T hr0 ow0 H0 l us0 → FR T hr ow H l us → FR T hr (cutO n ow) H l us
  | _, _, _, .nil, .nil => .nil
  | (k, .d x) :: _, _, _, .cons _ _ r0, .cons h z r => .cons (Rp.mono ext_cut h) z (FR.cut hn r0 r)
  | (k, .l (.inr m)) :: _, _, _, .cons ⟨a0, h0, _⟩ _ r0, .cons ⟨a, h, q⟩ z r => .cons ⟨a, by rw [cut_lt (hn m a0 h0)]; exact h, q⟩ z (FR.cut hn r0 r)
  | (k, .l (.inl m)) :: _, _, _, _, .cons _ z _ => z.elim
theorem CellR.cut {n : Nat} {a a0 : Addr} (hn : ∀ m a, ow0 (.inr m) = Option.some a → m < n) : ∀ {c : Cell}, CellR T hr0 ow0 H0 c a0 → CellR T hr ow H c a → CellR T hr (cutO n ow) H c a
  | .lst l, _, ⟨vs, h, r⟩ => ⟨vs, h, r.mono ext_cut⟩
  | .dct t l, _, ⟨z, kvs, h, r⟩ => ⟨z, kvs, h, r.mono ext_cut⟩
  | .ob c fs, ⟨_, _, _, _, _, r0⟩, ⟨C, dx, us, h, h2, r⟩ => ⟨C, dx, us, h, h2, FR.cut hn r0 r⟩
theorem Rel.cut {G : List Cell} (R0 : Rel T hr0 ow0 H0 env S σ0) (R : Rel T hr ow H env (S ++ G) σ) : Rel T hr (cutO S.length ow) H env S σ := by
  have hn : ∀ m a, ow0 (.inr m) = some a → m < S.length := fun m a h => R0.lt h
  refine ⟨fun i => ?_, fun n c k => ?_, fun n h => ?_, fun p q a h1 h2 => R.inj p q a (cut_sub h1) (cut_sub h2), fun p a h => R.dis p a (cut_sub h), R.hrt, R.tab, R.ln, R.hnt⟩
  · have q := R.sl i
    have q0 := R0.sl i
    cases k : env.getD i .un with
    | un => rw [k] at q; exact q
    | w x =>
      rw [k] at q q0
      obtain ⟨q1, q2, v, q3, q4⟩ := q
      obtain ⟨_, _, v0, _, q40⟩ := q0
      refine ⟨q1, q2, v, q3, ?_⟩
      cases x with
      | d y => exact Rp.mono ext_cut q4
      | l pl =>
        cases pl with
        | inl j => exact q2.elim
        | inr m =>
          obtain ⟨a, h, e⟩ := q4
          obtain ⟨a0, h0, _⟩ := q40
          exact ⟨a, by rw [cut_lt (hn m a0 h0)]; exact h, e⟩
    | own c =>
      rw [k] at q q0
      obtain ⟨a, q1, q2, q3⟩ := q
      obtain ⟨a0, _, _, q30⟩ := q0
      exact ⟨a, q1, q2, CellR.cut hn q30 q3⟩
  · have l : n < S.length := (List.getElem?_eq_some_iff.mp k).1
    obtain ⟨a0, _, q20⟩ := R0.st n c k
    obtain ⟨a, q1, q2⟩ := R.st n c (by rw [List.getElem?_append_left l]; exact k)
    exact ⟨a, by rw [cut_lt l]; exact q1, CellR.cut hn q20 q2⟩
  · show (if n < S.length then ow (.inr n) else none) = none
    rw [if_neg (by omega)]
theorem fr_dat {us : List (Str × V)} : ∀ {fs : List (Nat × W)} {ds : List (Nat × D)} {us : List (Str × V)}, FR T hr ow H fs us → datFs fs = some ds → RpF T (hide (hid hr ow) H) ds us
  | [], _, _, .nil, e => by cases e; exact .nil
  | (n, .d x) :: l, _, _, .cons h z r, e => by
    dsimp only [datFs] at e
    cases k : datFs l with
    | none => rw [k] at e; cases e
    | some q =>
      rw [k] at e
      cases e
      exact .cons h (fr_dat (us := us) r k)
  | (n, .l p) :: l, _, _, _, e => by cases e
end
section
variable {X : Cx} {T : Tab} {Wx : WX} {phi : Nat → Fn}
theorem mk_imp {c f : Nat} {data : Bool} {C : Addr} {l : Es} {σ : L2.St} {H : Hp} {Q : VK} (hC : T.cls c = some C) (h : tI T Wx ((E.mk c f data l).den phi) σ H Q) :
    tMake C (Prom T (phi f)) [] (fun cls d H' => ∀ σ', Wx cls d σ' H') (tIs T Wx (l.den phi)) σ H Q := by
  simp only [E.den] at h
  refine (tG.bind1 (Wq := WL T) h).mono fun vs H1 ⟨hr, ow, env, S, ws, R, wl, p⟩ => ?_
  intro x dx hx hdx hne
  rw [List.append_nil]
  by_cases hn : noSlots ws = true
  case neg =>
    rw [if_neg hn] at p
    exact p.elim
  rw [if_pos hn] at p
  have Rd := R.down
  have hx' : (upd H1 dx (.own x)) x = none := by rw [upd_ne (Ne.symm hne)]; exact hx
  have Rs := Rd.same (same_new (o := .own x) hdx)
  have Rf := Rs.fresh (o := .ins C dx []) hx'
  have nh : ¬ hrD hr ow x := fun z => Rd.hrt x z hx
  have Ra : Rel T (hrD hr ow) (owA (owD ow) S.length x) (upd (upd H1 dx (.own x)) x (.ins C dx [])) [] (S ++ [.ob c []]) [] := Rf.addc ⟨C, dx, [], upd_same, hC, .nil⟩ nh
  have hsn : owD ow (.inr S.length) = none := R.so _ (Nat.le_refl _)
  have eh := hid_A (hr := hrD hr ow) (a := x) hsn
  have g0 : Gr (hrD hr ow) (owD ow) H1 (owA (owD ow) S.length x) (upd (upd H1 dx (.own x)) x (.ins C dx [])) := by
    have g1 := Gr.same Rd (same_new (o := .own x) hdx)
    have g2 := GrF.new (o := .ins C dx []) Rs hx'
    refine ⟨?_, fun n a h => ?_, fun a h => (g2.hrq a h).trans (g1.hrq a h)⟩
    · rw [eh]
      exact g1.ext.trans g2.ext
    · rw [owA_ne fun e => by rw [e, hsn] at h; cases h]
      exact h
  have s0 : Slo (owD ow) H1 (owA (owD ow) S.length x) (upd (upd H1 dx (.own x)) x (.ins C dx [])) := ⟨fun i => owA_ne (by simp), fun i a h => by cases h⟩
  refine ⟨hrD hr ow, owA (owD ow) S.length x, S ++ [.ob c []], .l (.inr S.length) :: ws, Ra, .cons ⟨x, owA_self, rfl⟩ ((wl.down hn).mono g0 s0), hn, ?_⟩
  cases k : phi f (.l (.inr S.length) :: ws) (S ++ [.ob c []]) with
  | bad => rw [k] at p; exact p
  | ex e S2 =>
    rw [k] at p
    intro cls d ow' H' g R' xr
    obtain ⟨a1, a2, a3⟩ := R.up (g0.trans g) R'
    exact p cls d _ H' a2 a3 a1 (xr.up R'.noInl)
  | ok w S2 =>
    rw [k, Res.bind_ok] at p
    intro v ow' H' g R' wv
    obtain ⟨a1, a2, a3⟩ := R.up (g0.trans g) R'
    have hown : owU ow ow' (.inr S.length) = some x := g.cel _ _ owA_self
    split at p
    · cases wv
      refine ⟨rfl, ?_⟩
      split at p
      · obtain ⟨ds, hd, pz⟩ := p.opt
        unfold madeD at hd
        cases kc : S2[S.length]? with
        | none => rw [kc] at hd; cases hd
        | some ce =>
          rw [kc] at hd
          cases ce with
          | ob c' fs =>
            dsimp only at hd
            split at hd
            · rename_i cond
              obtain ⟨rfl, rfl⟩ := cond
              obtain ⟨b, q1, q2⟩ := a1.st _ _ kc
              rw [hown] at q1
              cases q1
              obtain ⟨C', dx', us, h1, h2, h3⟩ := q2
              rw [hC] at h2
              cases h2
              have Rc := Rel.cut R a1
              have nhx : ¬ hid hr (cutO S.length (owU ow ow')) x := by
                rintro (z | ⟨q, z⟩)
                · exact nh (.inl z)
                · have := a1.inj q _ x (cut_sub z) hown
                  subst this
                  rw [show cutO S.length (owU ow ow') (.inr S.length) = none from if_neg (Nat.lt_irrefl _)] at z
                  cases z
              refine pz (.ref x) (cutO S.length (owU ow ow')) H' ⟨a2.ext.trans ext_cut, fun n a h => ?_, a2.hrq⟩ ⟨a3.own, a3.cont⟩ Rc (.obj (dx := dx') (us := us) (C := C) ?_ hC ?_)
              · rw [cut_lt (R.lt h)]; exact a2.cel n a h
              · rw [hide_out nhx]; exact h1
              · exact (fr_dat (us := us) h3 hd).mono ext_cut
            · cases hd
          | _ => cases hd
      · exact p (.ref x) _ H' a2 a3 a1 ⟨x, hown, rfl⟩
    · exact p.elim
theorem x_mk {c f k j : Nat} {data : Bool} {C : Addr} {l : Es} {x : Str} {p pos : Pos} {e : Expr} {es : List Expr} (tk : Takes X Wx) (hC : T.cls c = some C) (cd : Kd X.prog X.w X.K X.mg X.base T x C (phi f) k) (hr : Room j X.A) (hk : k + 1 ≤ j) (hg : Gl X x) (ha : PA X (e :: es) (tIs T Wx (l.den phi))) (hdb : (x == ("__debug__" : Str)) = false)
    (he : starEach (e :: es) X.env = (false, eval e X.env) :: starEach es X.env) (hpl : (backTo pos (starEach es X.env)).any (·.1) = false) : PE X (.Call (.Name x p) (e :: es) [] pos) (tI T Wx ((E.mk c f data l).den phi)) := by
  obtain ⟨fa, fd, ps, M, F, hm, b⟩ := cd.ex
  exact PE.imp (pe_make (E := fun cls d H' => ∀ σ', Wx cls d σ' H') M F (hr.mono hk) hg hm b .nil (passes_call tk fun _ _ σ _ h => h σ) ha hdb he hpl) fun _ _ _ h => mk_imp hC h
end
end Rg
set_option Elab.async false
set_option linter.all false
set_option maxRecDepth 100000
set_option maxHeartbeats 4000000
namespace Rg
open PySem PySem.Spec PyProof.Rows L2
def PostO (T : Tab) (hr : AS) (ow : Ow) (H : Hp) (o : Out) (Dn : Ends) (Wx : WX) : Prop := match o with
  | .nx env' S' => ∀ σ' ow' H', Gr hr ow H ow' H' → Rel T hr ow' H' env' S' σ' → Dn.nx σ' H'
  | .bk env' S' => ∀ σ' ow' H', Gr hr ow H ow' H' → Rel T hr ow' H' env' S' σ' → Dn.bk σ' H'
  | .ct env' S' => ∀ σ' ow' H', Gr hr ow H ow' H' → Rel T hr ow' H' env' S' σ' → Dn.ct σ' H'
  | .rt w S' => ∀ v ow' H', Gr hr ow H ow' H' → Rel T hr ow' H' [] S' [] → WR T hr ow' H' w v → Dn.rt v H'
  | .ex x S' => ∀ cls d ow' H', Gr hr ow H ow' H' → Rel T hr ow' H' [] S' [] → XR T hr ow' H' x cls d → ∀ σ', Wx cls d σ' H'
  | .bad => False
def tS (T : Tab) (Wx : WX) (den : List Slot → List Cell → Out) : TS := fun Dn σ H => ∃ hr ow env S, Rel T hr ow H env S σ ∧ PostO T hr ow H (den env S) Dn Wx
section
variable {T : Tab} {hr : AS} {ow ow' ow1 : Ow} {H H' H1 : Hp} {env : List Slot} {S : List Cell} {σ : L2.St} {Dn : Ends} {Wx : WX} {o : Out}
theorem PostO.grow (p : PostO T hr ow H o Dn Wx) (g : Gr hr ow H ow1 H1) : PostO T hr ow1 H1 o Dn Wx := by
  cases o with
  | nx e S => exact fun σ' ow' H' g' r => p σ' ow' H' (g.trans g') r
  | bk e S => exact fun σ' ow' H' g' r => p σ' ow' H' (g.trans g') r
  | ct e S => exact fun σ' ow' H' g' r => p σ' ow' H' (g.trans g') r
  | rt w S => exact fun v ow' H' g' r q => p v ow' H' (g.trans g') r q
  | ex x S => exact fun c d ow' H' g' r q => p c d ow' H' (g.trans g') r q
  | bad => exact p
theorem owD_sub {p : Loc} {a : Addr} (h : owD ow p = some a) : ow p = some a := by
  cases p with
  | inl i => cases h
  | inr n => exact h
theorem ext_strip : Ext (hide (hid hr ow) H) (hide (hid hr (owD ow)) H) := hide_sub fun b z => z.elim .inl fun ⟨p, h⟩ => .inr ⟨p, owD_sub h⟩
theorem Rel.strip (R : Rel T hr ow H env S σ) : Rel T hr (owD ow) H [] S [] := by
  refine ⟨fun i => rfl, fun n c k => ?_, fun n h => R.so n h, fun p q a h1 h2 => R.inj p q a (owD_sub h1) (owD_sub h2), fun p a h => R.dis p a (owD_sub h), R.hrt, R.tab, Nat.le_refl _, R.hnt⟩
  obtain ⟨a, q1, q2⟩ := R.st n c k
  exact ⟨a, q1, CellR.conv ext_strip (fun _ _ h => h) rfl q2⟩
theorem Gr.strip (g : Gr hr ow H ow' H') : Gr hr ow H (owD ow') H' := ⟨g.ext.trans ext_strip, fun n a h => g.cel n a h, g.hrq⟩
theorem XR.strip {x : Xc} {cls : Value} {d : Option Addr} (h : XR T hr ow H x cls d) : XR T hr (owD ow) H x cls d := by
  obtain ⟨C, a, us, h1, h2, h3, h4, h5, h6⟩ := h
  exact ⟨C, a, us, h1, h2, h3, fun z => h4 (z.elim .inl fun ⟨p, q⟩ => .inr ⟨p, owD_sub q⟩), h5, h6.mono ext_strip⟩
theorem tG.out {α β : Type} {Wq : AS → Ow → Hp → α → β → Prop} {da : List Slot → List Cell → Res α} {k : α → List Cell → Out} (R : Rel T hr ow H env S σ) (p : PostO T hr ow H ((da env S).out k) Dn Wx) :
    tG T Wq Wx da σ H (fun v H1 => ∃ ow1 S1 x, Gr hr ow H ow1 H1 ∧ Slo ow H ow1 H1 ∧ Rel T hr ow1 H1 env S1 σ ∧ Wq hr ow1 H1 x v ∧ PostO T hr ow1 H1 (k x S1) Dn Wx) := by
  refine ⟨hr, ow, env, S, R, ?_⟩
  cases e : da env S with
  | ok x S1 =>
    rw [e] at p
    exact fun v ow' H' g s r q => ⟨ow', S1, x, g, s, r, q, p.grow g⟩
  | ex x S1 =>
    rw [e] at p
    exact fun cls d ow' H' g s r q σ' => p cls d (owD ow') H' g.strip r.strip q.strip σ'
  | bad => rw [e] at p; exact p
theorem Out_opt {α : Type} {x : Option α} {k : α → Out} (p : PostO T hr ow H (Out.opt x k) Dn Wx) : ∃ y, x = some y ∧ PostO T hr ow H (k y) Dn Wx := by
  cases x with
  | none => exact p.elim
  | some y => exact ⟨y, rfl, p⟩
theorem PostO.nx_ {e : List Slot} (p : PostO T hr ow H (.nx e S) Dn Wx) (R : Rel T hr ow H e S σ) : Dn.nx σ H := p σ ow H (Gr.refl _ _ _) R
end
section
variable {X : Cx} {T : Tab} {Wx : WX} {phi : Nat → Fn}
theorem PS.imp {st : Stmt} {t t' : TS} (h : PS X st t) (i : ∀ D σ H, t' D σ H → t D σ H) : PS X st t' := ⟨fun pins s σ H D I q => h.run pins s σ H D I (i _ _ _ q)⟩
theorem PSs.imp {st : List Stmt} {t t' : TS} (h : PSs X st t) (i : ∀ D σ H, t' D σ H → t D σ H) : PSs X st t' := ⟨fun pins s σ H D I q => h.run pins s σ H D I (i _ _ _ q)⟩
theorem Rel.forget {hr : AS} {ow : Ow} {H : Hp} {env : List Slot} {S : List Cell} {σ : L2.St} (R : Rel T hr ow H env S σ) (i : Nat) : Rel T hr (dropO ow i) H (env.set i .un) S σ := by
  by_cases l : i < σ.length
  · have q := R.setu (i := i) (ov := σ[i])
    rw [List.set_getElem_self] at q
    exact q
  · have q := R.setu (i := i) (ov := none)
    rw [show σ.set i none = σ from List.set_eq_of_length_le (by omega)] at q
    exact q
theorem Gr.drop {hr : AS} {ow : Ow} {H : Hp} (i : Nat) : Gr hr ow H (dropO ow i) H := ⟨ext_drop, fun n a h => by rw [dropO_ne (by simp)]; exact h, fun _ _ => rfl⟩
theorem own_open {hr : AS} {ow : Ow} {H : Hp} {env : List Slot} {S : List Cell} {σ : L2.St} {i : Nat} {c : Cell} {d : D} (R : Rel T hr ow H env S σ) (k : env.getD i .un = .own c) (e : c.data = some d) :
    ∃ a, ow (.inl i) = some a ∧ σ[i]? = some (some (.ref a)) ∧ Rp T (hide (hid hr (dropO ow i)) H) d (.ref a) := by
  have q := R.sl i
  rw [k] at q
  obtain ⟨a, q1, q2, q3⟩ := q
  have nh : ¬ hid hr (dropO ow i) a := by
    rintro (z | ⟨p, z⟩)
    · exact R.dis _ _ q1 z
    · have := R.inj p _ a (dropO_some z) q1
      subst this
      rw [dropO_self] at z
      cases z
  refine ⟨a, q1, q2, ?_⟩
  cases c with
  | lst l =>
    obtain ⟨vs, h, r⟩ := q3
    cases e
    exact .lst (.inl (by rw [hide_out nh]; exact h)) (r.mono ext_drop)
  | dct t l =>
    obtain ⟨rfl, kvs, h, r⟩ := q3
    cases e
    exact .dK (.inl (by rw [hide_out nh]; exact h)) (r.mono ext_drop)
  | ob c fs => cases e
theorem asg_imp {t : Tg} {e : E} {Dn : Ends} {σ : L2.St} {H : Hp} (h : tS T Wx ((St.asg t e).den phi) Dn σ H) : tAsg (tI T Wx (e.den phi)) (gTg X.K t) Dn σ H := by
  obtain ⟨hr, ow, env, S, R, p⟩ := h
  simp only [St.den] at p
  refine (tG.out (Wq := WR T) R p).mono fun v H1 ⟨ow1, S1, w, g, s, R1, wv, p1⟩ => ?_
  cases w with
  | d x =>
    dsimp only [asgW] at p1
    obtain ⟨env1, ks, p2⟩ := Out_opt p1
    exact g_ok t R1 wv ks fun σ2 ow2 R2 dr => p2 σ2 ow2 H1 ⟨dr.ext, fun n a h => by rw [dr.eq _ (by simp)]; exact h, fun _ _ => rfl⟩ R2
  | l q =>
    cases q with
    | inl j =>
      dsimp only [asgW] at p1
      cases t with
      | tp l => exact p1.elim
      | nm i =>
        cases k : env.getD j .un with
        | un => rw [k] at p1; exact p1.elim
        | w x => rw [k] at p1; exact p1.elim
        | own c =>
          rw [k] at p1
          obtain ⟨d, hd, p2⟩ := Out_opt p1
          obtain ⟨a, q1, q2, q3⟩ := own_open R1 k hd
          obtain ⟨a', ha', rfl⟩ := wv
          rw [q1] at ha'
          cases ha'
          have Rf := R1.forget j
          exact p2 _ _ H1 ((Gr.drop j).trans (Gr.drop i)) (Rf.setw (i := i) (w := .d d) trivial q3)
    | inr n =>
      dsimp only [asgW] at p1
      cases t with
      | tp l => exact p1.elim
      | nm i => exact p1 _ _ H1 (Gr.drop i) (R1.setw (w := .l (.inr n)) trivial wv)
def owI (ow : Ow) (i : Nat) (a : Addr) : Ow := fun p => if p = .inl i then some a else ow p
theorem own_imp {i : Nat} {f : Fr} {Dn : Ends} {σ : L2.St} {H : Hp} (h : tS T Wx ((St.own i f).den phi) Dn σ H) : tAsg (tF T Wx (f.den phi)) (gName i) Dn σ H := by
  obtain ⟨hr, ow, env, S, R, p⟩ := h
  simp only [St.den] at p
  refine ⟨hr, ow, env, S, R, ?_⟩
  cases k : f.den phi env S with
  | bad => rw [k] at p; exact p
  | ex x S1 =>
    rw [k] at p
    exact fun cls d ow' H' g s r q σ' => p cls d (owD ow') H' g.strip r.strip q.strip σ'
  | ok c S1 =>
    rw [k] at p
    intro a ow' H' gF s r q
    have p' : PostO T hr ow H (.nx (env.set i (.own c)) S1) Dn Wx := p
    by_cases l : i < env.length
    · have eqn : ∀ p, p ≠ .inl i → owI ow' i a p = ow' p := fun p h => if_neg h
      have slf : owI ow' i a (.inl i) = some a := if_pos rfl
      have sub : ∀ b, hid hr (owI ow' i a) b → hid (addA hr a) ow' b := by
        rintro b (z | ⟨p, z⟩)
        · exact .inl (.inl z)
        · by_cases e : p = .inl i
          · rw [e, slf] at z
            cases z
            exact .inl (.inr rfl)
          · rw [eqn p e] at z
            exact .inr ⟨p, z⟩
      have ex : Ext (hide (hid (addA hr a) ow') H') (hide (hid hr (owI ow' i a)) H') := hide_sub sub
      refine p' _ (owI ow' i a) H' ⟨gF.ext.trans ex, fun n b h => by rw [eqn _ (by simp)]; exact gF.cel n b h, gF.hrq⟩ (r.set eqn ex (fun _ => ⟨a, slf, rfl, CellR.conv ex (fun n b h => by rw [eqn _ (by simp)]; exact h) rfl q⟩) (fun n => absurd l n)
        (fun p1 p2 b h1 h2 => ?_) (fun p1 b h1 => ?_) (fun b h => r.hrt b (.inl h)) (fun b h => r.hnt b (.inl h)))
      · by_cases e1 : p1 = .inl i
        · by_cases e2 : p2 = .inl i
          · rw [e1, e2]
          · rw [e1, slf] at h1
            rw [eqn p2 e2] at h2
            cases h1
            exact absurd (.inr rfl) (r.dis p2 _ h2)
        · by_cases e2 : p2 = .inl i
          · rw [e2, slf] at h2
            rw [eqn p1 e1] at h1
            cases h2
            exact absurd (.inr rfl) (r.dis p1 _ h1)
          · rw [eqn p1 e1] at h1
            rw [eqn p2 e2] at h2
            exact r.inj p1 p2 b h1 h2
      · by_cases e1 : p1 = .inl i
        · rw [e1, slf] at h1
          cases h1
          exact gF.nhr
        · rw [eqn p1 e1] at h1
          exact fun z => r.dis p1 b h1 (.inl z)
    · have r2 := r.hsub (hr' := hr) fun b => .inl
      have e1 : env.set i (.own c) = env.set i .un := by rw [List.set_eq_of_length_le (by omega), List.set_eq_of_length_le (by omega)]
      rw [e1] at p'
      exact p' _ _ H' (gF.gr.trans (Gr.drop i)) (r2.setu (ov := some (.ref a)))
theorem alc_imp {i : Nat} {f : Fr} {Dn : Ends} {σ : L2.St} {H : Hp} (h : tS T Wx ((St.alc i f).den phi) Dn σ H) : tAsg (tF T Wx (f.den phi)) (gName i) Dn σ H := by
  obtain ⟨hr, ow, env, S, R, p⟩ := h
  simp only [St.den] at p
  refine ⟨hr, ow, env, S, R, ?_⟩
  cases k : f.den phi env S with
  | bad => rw [k] at p; exact p
  | ex x S1 =>
    rw [k] at p
    exact fun cls d ow' H' g s r q σ' => p cls d (owD ow') H' g.strip r.strip q.strip σ'
  | ok c S1 =>
    rw [k] at p
    intro a ow' H' gF s r q
    have p' : PostO T hr ow H (.nx (env.set i (.w (.l (.inr S1.length)))) (S1 ++ [c])) Dn Wx := p
    have Ra := r.addc q gF.nhr
    have hn : ow' (.inr S1.length) = none := r.so _ (Nat.le_refl _)
    have eh := hid_A (hr := hr) (a := a) hn
    have g : Gr hr ow H (owA ow' S1.length a) H' := ⟨by rw [eh]; exact gF.ext, fun n b h => by
      have := gF.cel n b h
      rw [owA_ne fun e => by rw [e, hn] at this; cases this]
      exact this, gF.hrq⟩
    exact p' _ _ H' (g.trans (Gr.drop i)) (Ra.setw (w := .l (.inr S1.length)) trivial ⟨a, owA_self, rfl⟩)
end
end Rg
set_option Elab.async false
set_option linter.all false
set_option maxRecDepth 100000
set_option maxHeartbeats 4000000
namespace Rg
open PySem PySem.Spec PyProof.Rows L2
section
variable {T : Tab} {hr : AS} {ow : Ow} {H : Hp} {env : List Slot} {S : List Cell} {σ : L2.St}
theorem ext_upd {l : AS} {a : Addr} {o : HO} (h : l a) : Ext (hide l H) (hide l (upd H a o)) := (hide_stp fun b u n e _ => ⟨n, by
  rw [upd_ne fun z => n (by rw [z]; exact h)]
  exact e⟩).ext
theorem upd_base {p : Loc} {a : Addr} {o : HO} (R : Rel T hr ow H env S σ) (ha : ow p = some a) (nt : Nfx (some o)) : Gr hr ow H ow (upd H a o) ∧ (∀ q b, ow q = some b → q ≠ p → upd H a o b = H b) ∧ (∀ b, hr b → upd H a o b ≠ none) ∧ TabsAt T (upd H a o) ∧ ∀ b, hr b → Nfx (upd H a o b) := by
  have hh : hid hr ow a := .inr ⟨p, ha⟩
  have nb : ∀ b, hr b → b ≠ a := fun b h e => R.dis p a ha (by rw [← e]; exact h)
  refine ⟨⟨ext_upd hh, fun _ _ h => h, fun b h => upd_ne (nb b h)⟩, fun q b h hq => upd_ne fun e => hq (R.inj q p b h (by rw [e]; exact ha)), fun b h => by rw [upd_ne (nb b h)]; exact R.hrt b h, R.tab.upd (R.nt a hh), fun b h => by rw [upd_ne (nb b h)]; exact R.hnt b h⟩
theorem Rel.updC {m : Nat} {a : Addr} {o : HO} {c' : Cell} (R : Rel T hr ow H env S σ) (ha : ow (.inr m) = some a) (nt : Nfx (some o)) (hc : CellR T hr ow (upd H a o) c' a) : Rel T hr ow (upd H a o) env (S.set m c') σ ∧ Gr hr ow H ow (upd H a o) := by
  obtain ⟨g, keep, hrt, tab, hnt⟩ := upd_base R ha nt
  refine ⟨⟨fun i => ?_, fun n c k => ?_, fun n h => R.so n (by simpa using h), R.inj, R.dis, hrt, tab, R.ln, hnt⟩, g⟩
  · have q := R.sl i
    cases k : env.getD i .un with
    | un => rw [k] at q; exact q
    | w x =>
      rw [k] at q
      obtain ⟨q1, q2, v, q3, q4⟩ := q
      exact ⟨q1, q2, v, q3, q4.mono' g q2⟩
    | own c =>
      rw [k] at q
      obtain ⟨b, q1, q2, q3⟩ := q
      exact ⟨b, q1, q2, q3.mono g (keep _ b q1 (by simp))⟩
  · by_cases e : m = n
    · subst e
      have l : m < S.length := by
        have := (List.getElem?_eq_some_iff.mp k).1
        simpa using this
      rw [List.getElem?_set_self l] at k
      cases k
      exact ⟨a, ha, hc⟩
    · rw [List.getElem?_set_ne e] at k
      obtain ⟨b, q1, q2⟩ := R.st n c k
      exact ⟨b, q1, q2.mono g (keep _ b q1 fun z => e (by cases z; rfl))⟩
theorem Rel.updS {i : Nat} {a : Addr} {o : HO} {c0 c' : Cell} (R : Rel T hr ow H env S σ) (hi : env.getD i .un = .own c0) (ha : ow (.inl i) = some a) (nt : Nfx (some o)) (hc : CellR T hr ow (upd H a o) c' a) : Rel T hr ow (upd H a o) (env.set i (.own c')) S σ ∧ Gr hr ow H ow (upd H a o) := by
  obtain ⟨g, keep, hrt, tab, hnt⟩ := upd_base R ha nt
  have l : i < env.length := by
    by_cases l : i < env.length
    · exact l
    · rw [getD_ge l] at hi; cases hi
  refine ⟨⟨fun j => ?_, fun n c k => ?_, R.so, R.inj, R.dis, hrt, tab, by rw [List.length_set]; exact R.ln, hnt⟩, g⟩
  · by_cases e : i = j
    · subst e
      rw [getD_set_self l]
      have q := R.sl i
      rw [hi] at q
      obtain ⟨b, q1, q2, q3⟩ := q
      rw [ha] at q1
      cases q1
      exact ⟨a, ha, q2, hc⟩
    · rw [getD_set_ne e]
      have q := R.sl j
      cases k : env.getD j .un with
      | un => rw [k] at q; exact q
      | w x =>
        rw [k] at q
        obtain ⟨q1, q2, v, q3, q4⟩ := q
        exact ⟨q1, q2, v, q3, q4.mono' g q2⟩
      | own c =>
        rw [k] at q
        obtain ⟨b, q1, q2, q3⟩ := q
        exact ⟨b, q1, q2, q3.mono g (keep _ b q1 fun z => e (by cases z; rfl))⟩
  · obtain ⟨b, q1, q2⟩ := R.st n c k
    exact ⟨b, q1, q2.mono g (keep _ b q1 (by simp))⟩
theorem cell_at {w : W} {v : V} {c0 : Cell} (R : Rel T hr ow H env S σ) (h : WR T hr ow H w v) (e : cellAt env S w = some c0) : ∃ a p, v = .ref a ∧ ow p = some a ∧ CellR T hr ow H c0 a ∧
    ∀ (o : HO) (c' : Cell) (r : List Slot × List Cell), Nfx (some o) → CellR T hr ow (upd H a o) c' a → putLoc env S w c' = some r → Rel T hr ow (upd H a o) r.1 r.2 σ ∧ Gr hr ow H ow (upd H a o) := by
  cases w with
  | d x => cases e
  | l p =>
    obtain ⟨a, ha, rfl⟩ := h
    cases p with
    | inl i =>
      dsimp only [cellAt] at e
      cases k : env.getD i .un with
      | un => rw [k] at e; cases e
      | w x => rw [k] at e; cases e
      | own c =>
        rw [k] at e
        cases e
        have q := R.sl i
        rw [k] at q
        obtain ⟨b, q1, _, q3⟩ := q
        rw [q1] at ha
        cases ha
        refine ⟨a, _, rfl, q1, q3, fun o c' r nt hc hp => ?_⟩
        cases hp
        exact R.updS k q1 nt hc
    | inr m =>
      have k : S[m]? = some c0 := e
      obtain ⟨b, q1, q2⟩ := R.st m c0 k
      rw [q1] at ha
      cases ha
      refine ⟨a, _, rfl, q1, q2, fun o c' r nt hc hp => ?_⟩
      cases hp
      exact R.updC q1 nt hc
end
section
variable {X : Cx} {T : Tab} {Wx : WX} {phi : Nat → Fn}
theorem lstC_of {c : Cell} {l : List D} (h : lstC c = some l) : c = .lst l := by
  cases c with
  | lst l' => cases h; rfl
  | _ => cases h
theorem app_imp {a e : E} {Dn : Ends} {σ : L2.St} {H : Hp} (h : tS T Wx ((St.app a e).den phi) Dn σ H) :
    tDrop (tMG (tyLst T) rAppend (tI T Wx (a.den phi)) (tCons (tI T Wx (e.den phi)) tNil)) Dn σ H := by
  obtain ⟨hr, ow, env, S, R, p⟩ := h
  simp only [St.den] at p
  refine (tG.out (Wq := WR T) R p).mono fun v H1 ⟨ow1, S1, w, g, s, R1, wv, p1⟩ => ?_
  obtain ⟨ls, hls, p2⟩ := Out_opt p1
  obtain ⟨c0, hc0, hl0⟩ := Option.bind_eq_some_iff.mp hls
  obtain rfl := lstC_of hl0
  obtain ⟨ad, pl, rfl, hp, hcell, _⟩ := cell_at R1 wv hc0
  refine ⟨⟨hid hr ow1, ls, hcell.vw rfl⟩, ?_⟩
  refine (tG.out (Wq := WR T) R1 p2).mono fun u H2 ⟨ow2, S2, y, g2, s2, R2, wu, p3⟩ => ?_
  obtain ⟨x, hx, p4⟩ := Out_opt p3
  obtain ⟨c', hc', p5⟩ := Out_opt p4
  obtain ⟨r, hr5, p6⟩ := Out_opt p5
  obtain ⟨c1, k1, k2⟩ := Option.bind_eq_some_iff.mp hc'
  obtain ⟨ad2, pl2, e2, hp2, hcell2, put⟩ := cell_at R2 (wv.mono g2 s2) k1
  cases e2
  cases c1 with
  | lst l =>
    dsimp only [appC] at k2
    split at k2
    · rename_i hl
      cases k2
      obtain ⟨vs, h1, rl⟩ := hcell2
      have e : y = .d x := by
        cases y with
        | d z => cases hx; rfl
        | l q => cases hx
      subst e
      have gh : Ext (hide (hid hr ow2) H2) (hide (hid hr ow2) (upd H2 ad (.lst (vs ++ [u])))) := ext_upd (.inr ⟨_, hp2⟩)
      obtain ⟨R3, g3⟩ := put (.lst (vs ++ [u])) (.lst (l ++ [x])) r (nfx) ⟨vs ++ [u], upd_same, (rl.append (.cons wu .nil)).mono gh⟩ hr5
      exact ⟨ad, vs, u, rfl, rfl, h1, by rw [← rl.length]; exact hl, p6 _ _ _ g3 R3⟩
    · cases k2
  | _ => cases k2
theorem mt_extRd : MtR X "list.extend" (fun x vs H Q => ∃ l b xs zs, x = .ref l ∧ vs = [.ref b] ∧ H l = some (.lst xs) ∧ Rd H b (.lst zs) ∧ xs.length + zs.length ≤ sizeLine ∧ Q .non (upd H l (.lst (xs ++ zs)))) := by
  intro pins s σ H x vs v us Q I rx rv h
  obtain ⟨l, b, xs, zs, rfl, rfl, hH, hB, hz, q⟩ := h
  cases rx
  obtain ⟨u, rfl, ru⟩ := rv.one
  cases ru
  obtain ⟨z, its, n, r, hl, e⟩ := I.lstM hH
  obtain ⟨z2, its2, n2, r2, e2⟩ := hB.ok I.hok
  have hl2 := r2.length
  have hsz : its.toArray.size + its2.toArray.size ≤ sizeLine := by rw [List.size_toArray, List.size_toArray]; omega
  have hlong : ¬ (!its.toArray.isEmpty && Builtin.List.listTooLong (its.toArray.size + its2.toArray.size)) = true := by
    rw [notLongL hsz, Bool.and_false]
    exact Bool.false_ne_true
  refine call_meets F.slot_list_extend ⟨_, e, rfl⟩ F.entry_list_extend (F.args_list_extend_2 _ _)
    (AutoSeq1.list_extend_list_list_0 l its.toArray n b its2.toArray n2 hlong (by rw [List.size_toArray]; omega) (by omega)) ⟨e, e2, ?_⟩
  refine ⟨.non, _, I.lset (its' := its ++ its2) hH e (by simp) (r.append r2) ?_, rfl, q⟩
  rw [List.length_append]
  omega
theorem ext_imp {a e : E} {Dn : Ends} {σ : L2.St} {H : Hp} (h : tS T Wx ((St.ext a e).den phi) Dn σ H) :
    tDrop (tMG (tyLst T) (fun x vs H Q => ∃ l b xs zs, x = .ref l ∧ vs = [.ref b] ∧ H l = some (.lst xs) ∧ Rd H b (.lst zs) ∧ xs.length + zs.length ≤ sizeLine ∧ Q .non (upd H l (.lst (xs ++ zs)))) (tI T Wx (a.den phi)) (tCons (tI T Wx (e.den phi)) tNil)) Dn σ H := by
  obtain ⟨hr, ow, env, S, R, p⟩ := h
  simp only [St.den] at p
  refine (tG.out (Wq := WR T) R p).mono fun v H1 ⟨ow1, S1, w, g, s, R1, wv, p1⟩ => ?_
  obtain ⟨ls, hls, p2⟩ := Out_opt p1
  obtain ⟨c0, hc0, hl0⟩ := Option.bind_eq_some_iff.mp hls
  obtain rfl := lstC_of hl0
  obtain ⟨ad, pl, rfl, hp, hcell, _⟩ := cell_at R1 wv hc0
  refine ⟨⟨hid hr ow1, ls, hcell.vw rfl⟩, ?_⟩
  refine (tG.out (Wq := WR T) R1 p2).mono fun u H2 ⟨ow2, S2, y, g2, s2, R2, wu, p3⟩ => ?_
  obtain ⟨x, hx, p4⟩ := Out_opt p3
  obtain ⟨c', hc', p5⟩ := Out_opt p4
  obtain ⟨r, hr5, p6⟩ := Out_opt p5
  obtain ⟨c1, k1, k2⟩ := Option.bind_eq_some_iff.mp hc'
  obtain ⟨ad2, pl2, e2, hp2, hcell2, put⟩ := cell_at R2 (wv.mono g2 s2) k1
  cases e2
  have e : y = .d x := by
    cases y with
    | d z => cases hx; rfl
    | l q => cases hx
  subst e
  cases c1 with
  | lst l =>
    cases x with
    | lst xs =>
      dsimp only [extC] at k2
      split at k2
      · rename_i hl
        cases k2
        obtain ⟨vs, h1, rl⟩ := hcell2
        have wu' : Rp T (hide (hid hr ow2) H2) (.lst xs) u := wu
        cases wu' with
        | @lst b zs _ hb rz =>
          have gh : Ext (hide (hid hr ow2) H2) (hide (hid hr ow2) (upd H2 ad (.lst (vs ++ zs)))) := ext_upd (.inr ⟨_, hp2⟩)
          obtain ⟨R3, g3⟩ := put (.lst (vs ++ zs)) (.lst (l ++ xs)) r (nfx) ⟨vs ++ zs, upd_same, (rl.append rz).mono gh⟩ hr5
          exact ⟨ad, b, vs, zs, rfl, rfl, h1, (hide_ext _ _).lst _ _ hb, by rw [← rl.length, ← rz.length]; exact hl, p6 _ _ _ g3 R3⟩
      · cases k2
    | _ => cases k2
  | _ => cases x <;> cases k2
theorem si_imp {a i e : E} {Dn : Ends} {σ : L2.St} {H : Hp} (h : tS T Wx ((St.si a i e).den phi) Dn σ H) :
    tAsg (tI T Wx (e.den phi)) (gSub (tI T Wx (a.den phi)) (tI T Wx (i.den phi)) fun o i v H Q => rSetL o i v H Q ∨ rSetD o i v H Q) Dn σ H := by
  obtain ⟨hr, ow, env, S, R, p⟩ := h
  simp only [St.den] at p
  refine (tG.out (Wq := WR T) R p).mono fun v H1 ⟨ow1, S1, x, g, s, R1, wv, p1⟩ => ?_
  refine (tG.out (Wq := WR T) R1 p1).mono fun u H2 ⟨ow2, S2, w, g2, s2, R2, wu, p2⟩ => ?_
  refine (tG.out (Wq := WR T) R2 p2).mono fun t H3 ⟨ow3, S3, k, g3, s3, R3, wt, p3⟩ => ?_
  obtain ⟨xd, hx, p4⟩ := Out_opt p3
  obtain ⟨kd, hk, p5⟩ := Out_opt p4
  obtain ⟨c0, hc0, p6⟩ := Out_opt p5
  obtain ⟨c', hc', p7⟩ := Out_opt p6
  obtain ⟨r, hr7, p8⟩ := Out_opt p7
  have e1 : x = .d xd := by
    cases x with
    | d z => cases hx; rfl
    | l q => cases hx
  have e2 : k = .d kd := by
    cases k with
    | d z => cases hk; rfl
    | l q => cases hk
  subst e1 e2
  have wv3 : Rp T (hide (hid hr ow3) H3) xd v := (wv.mono g2 s2).mono g3 s3
  obtain ⟨ad, pl, rfl, hp, hcell, put⟩ := cell_at R3 (wu.mono g3 s3) hc0
  have gh : ∀ o, Ext (hide (hid hr ow3) H3) (hide (hid hr ow3) (upd H3 ad o)) := fun o => ext_upd (.inr ⟨_, hp⟩)
  cases c0 with
  | lst l =>
    cases kd with
    | int j =>
      have hc2 : (match ixN l.length j with | some j => some (Cell.lst (l.set j xd)) | none => none) = some c' := hc'
      cases kx : ixN l.length j with
      | none => rw [kx] at hc2; cases hc2
      | some jj =>
        rw [kx] at hc2
        cases hc2
        obtain ⟨vs, h1, rl⟩ := hcell
        cases wt
        obtain ⟨R4, g4⟩ := put (.lst (vs.set jj v)) (.lst (l.set jj xd)) r (nfx) ⟨_, upd_same, (RpL.set wv3 jj rl).mono (gh _)⟩ hr7
        exact .inl ⟨ad, vs, j, jj, rfl, rfl, h1, by rw [← rl.length]; exact kx, p8 _ _ _ g4 R4⟩
    | _ => cases hc'
  | dct tt l =>
    have hc2 : (if keyOk tt kd = true ∧ l.length < LN then some (Cell.dct tt (dput l kd xd)) else none) = some c' := by cases kd <;> exact hc'
    split at hc2
    · rename_i cond
      cases hc2
      obtain ⟨hk1, hk2⟩ := cond
      obtain ⟨rfl, kvs, h1, rk⟩ := hcell
      cases ek : asKey kd with
      | none => simp [keyOk, ek] at hk1
      | some key =>
        obtain rfl := asKey_eq ek
        have rp := rk.put key wv3
        obtain ⟨R4, g4⟩ := put (.dK (putK kvs key v)) (.dct false (dput l (kD key) xd)) r (nfx) ⟨rfl, _, upd_same, rp.mono (gh _)⟩ hr7
        have wt' : Rp T (hide (hid hr ow3) H3) (kD key) t := wt
        have et := wt'.kd
        exact .inr ⟨ad, _, rfl, .inl ⟨kvs, key, h1, et, by rw [← rk.length]; exact hk2, rfl⟩, p8 _ _ _ g4 R4⟩
    · cases hc2
  | ob c fs => cases kd <;> cases hc'
end
end Rg
set_option Elab.async false
set_option linter.all false
set_option maxRecDepth 100000
set_option maxHeartbeats 4000000
namespace Rg
open PySem PySem.Spec PyProof.Rows L2
section
variable {X : Cx} {T : Tab} {Wx : WX} {phi : Nat → Fn}
theorem fr_put {hr : AS} {ow : Ow} {H : Hp} (hinj : ∀ n m, T.fld n = T.fld m → n = m) {n : Nat} {w : W} {v : V} (hw : WR T hr ow H w v) (nw : noSlot w) : ∀ {fs : List (Nat × W)} {us : List (Str × V)}, FR T hr ow H fs us → FR T hr ow H (putFs n w fs) (putF (T.fld n) v us)
  | _, _, .nil => .cons hw nw .nil
  | (k, x) :: fs, _, .cons (v := u) h z r => by
    by_cases e : k = n
    · subst e
      simp only [putFs, putF, if_true]
      exact .cons hw nw r
    · have e2 : T.fld k ≠ T.fld n := fun q => e (hinj _ _ q)
      simp only [putFs, putF, if_neg e, if_neg e2]
      exact .cons h z (fr_put hinj hw nw r)
theorem fr_len {hr : AS} {ow : Ow} {H : Hp} : ∀ {fs : List (Nat × W)} {us : List (Str × V)}, FR T hr ow H fs us → fs.length = us.length
  | _, _, .nil => rfl
  | _, _, .cons _ _ r => by rw [List.length_cons, List.length_cons, fr_len r]
theorem noSlots1 {w : W} (h : noSlots [w] = true) : noSlot w := by
  cases w with
  | d x => trivial
  | l p =>
    cases p with
    | inl i => cases h
    | inr n => trivial
theorem sf_imp {c n : Nat} {C : Addr} {m : Str} {o e : E} {Dn : Ends} {σ : L2.St} {H : Hp} (hC : T.cls c = some C) (hinj : ∀ n m, T.fld n = T.fld m → n = m) (hm : T.fld n = m) (cl : Cls X.K C) (na : NoAttr X.K C m) (h : tS T Wx ((St.sf c n o e).den phi) Dn σ H) :
    sFld X.K (tI T Wx (o.den phi)) (tI T Wx (e.den phi)) m Dn σ H := by
  obtain ⟨hr, ow, env, S, R, p⟩ := h
  simp only [St.den] at p
  refine (tG.out (Wq := WR T) R p).mono fun v H1 ⟨ow1, S1, x, g, s, R1, wv, p1⟩ => ?_
  refine (tG.out (Wq := WR T) R1 p1).mono fun u H2 ⟨ow2, S2, w, g2, s2, R2, wu, p2⟩ => ?_
  cases w with
  | d y => exact p2.elim
  | l q =>
    cases q with
    | inl i => exact p2.elim
    | inr mm =>
      cases hn : noSlots [x] with
      | false => rw [hn] at p2; exact p2.elim
      | true =>
        rw [hn] at p2
        dsimp only at p2
        cases k : S2[mm]? with
        | none => rw [k] at p2; exact p2.elim
        | some ce =>
          rw [k] at p2
          cases ce with
          | ob c' fs =>
            dsimp only at p2
            split at p2
            · rename_i cond
              obtain ⟨rfl, hl⟩ := cond
              obtain ⟨ad, had, rfl⟩ := wu
              obtain ⟨b, q1, C', dx, us, h1, h2, h3⟩ := R2.st mm _ k
              rw [q1] at had
              cases had
              rw [hC] at h2
              cases h2
              have gh : Ext (hide (hid hr ow2) H2) (hide (hid hr ow2) (upd H2 ad (.ins C dx (putF m v us)))) := ext_upd (.inr ⟨_, q1⟩)
              have fr := fr_put hinj (wv.mono g2 s2) (noSlots1 hn) h3 (n := n)
              rw [hm] at fr
              obtain ⟨R3, g3⟩ := R2.updC (c' := .ob c' (putFs n x fs)) q1 (o := .ins C dx (putF m v us)) (nfx) ⟨C, dx, _, upd_same, hC, FR.conv gh (fun _ _ h => h) fr⟩
              exact ⟨ad, C, dx, us, rfl, h1, cl, na, by rw [← fr_len h3]; omega, p2 _ _ _ g3 R3⟩
            · exact p2.elim
          | _ => exact p2.elim
theorem ex_imp {e : E} {Dn : Ends} {σ : L2.St} {H : Hp} (h : tS T Wx ((St.ex e).den phi) Dn σ H) : tDrop (tI T Wx (e.den phi)) Dn σ H := by
  obtain ⟨hr, ow, env, S, R, p⟩ := h
  simp only [St.den] at p
  exact (tG.out (Wq := WR T) R p).mono fun v H1 ⟨ow1, S1, x, g, s, R1, wv, p1⟩ => p1.nx_ R1
theorem ite_imp {c : E} {a b : Sts} {Dn : Ends} {σ : L2.St} {H : Hp} (h : tS T Wx ((St.ite c a b).den phi) Dn σ H) : tIfS (tT (tI T Wx (c.den phi))) (tS T Wx (a.den phi)) (tS T Wx (b.den phi)) Dn σ H := by
  obtain ⟨hr, ow, env, S, R, p⟩ := h
  simp only [St.den] at p
  refine (tG.out (Wq := WR T) R p).mono fun v H1 ⟨ow1, S1, x, g, s, R1, wv, p1⟩ => ?_
  obtain ⟨t, ht, p2⟩ := Out_opt p1
  refine ⟨t, isBl_of wv ht, ?_⟩
  cases t with
  | true => exact ⟨hr, ow1, env, S1, R1, by simpa using p2⟩
  | false => exact ⟨hr, ow1, env, S1, R1, by simpa using p2⟩
theorem own_strip {hr : AS} {ow : Ow} {H : Hp} {env : List Slot} {S : List Cell} {σ : L2.St} {i : Nat} {c : Cell} {d : D} {a : Addr} (R : Rel T hr ow H env S σ) (k : env.getD i .un = .own c) (e : c.data = some d) (ha : ow (.inl i) = some a) : Rp T (hide (hid hr (owD ow)) H) d (.ref a) := by
  have q := R.sl i
  rw [k] at q
  obtain ⟨b, q1, q2, q3⟩ := q
  rw [ha] at q1
  cases q1
  have nh : ¬ hid hr (owD ow) a := by
    rintro (z | ⟨p, z⟩)
    · exact R.dis _ _ ha z
    · cases p with
      | inl j => cases z
      | inr n => exact absurd (R.inj (.inr n) _ a z ha) (by simp)
  cases c with
  | lst l =>
    obtain ⟨vs, h, r⟩ := q3
    cases e
    exact .lst (.inl (by rw [hide_out nh]; exact h)) (r.mono ext_strip)
  | dct t l =>
    obtain ⟨rfl, kvs, h, r⟩ := q3
    cases e
    exact .dK (.inl (by rw [hide_out nh]; exact h)) (r.mono ext_strip)
  | ob c fs => cases e
theorem ret_imp {e : E} {Dn : Ends} {σ : L2.St} {H : Hp} (h : tS T Wx ((St.ret e).den phi) Dn σ H) : tRet (tI T Wx (e.den phi)) Dn σ H := by
  obtain ⟨hr, ow, env, S, R, p⟩ := h
  simp only [St.den] at p
  refine (tG.out (Wq := WR T) R p).mono fun v H1 ⟨ow1, S1, x, g, s, R1, wv, p1⟩ => ?_
  have gs : Gr hr ow1 H1 (owD ow1) H1 := (Gr.refl _ _ _).strip
  cases x with
  | d y =>
    obtain ⟨d, hd, p2⟩ := Out_opt p1
    cases hd
    exact p2 v (owD ow1) H1 gs R1.strip (Rp.mono ext_strip wv)
  | l q =>
    cases q with
    | inr n => exact p1 v (owD ow1) H1 gs R1.strip wv
    | inl i =>
      obtain ⟨d, hd, p2⟩ := Out_opt p1
      obtain ⟨a, ha, rfl⟩ := wv
      dsimp only [look] at hd
      cases k : env.getD i .un with
      | un => rw [k] at hd; cases hd
      | w x => rw [k] at hd; cases hd
      | own c =>
        rw [k] at hd
        exact p2 _ (owD ow1) H1 gs R1.strip (own_strip R1 k hd ha)
theorem retn_imp {Dn : Ends} {σ : L2.St} {H : Hp} (h : tS T Wx (St.retn.den phi) Dn σ H) : tRetN Dn σ H := by
  obtain ⟨hr, ow, env, S, R, p⟩ := h
  simp only [St.den] at p
  exact p .non (owD ow) H (Gr.refl _ _ _).strip R.strip .non
theorem pass_imp {Dn : Ends} {σ : L2.St} {H : Hp} (h : tS T Wx (St.pass.den phi) Dn σ H) : tNext Dn σ H := by
  obtain ⟨hr, ow, env, S, R, p⟩ := h
  simp only [St.den] at p
  exact p.nx_ R
theorem aug_int {i : Nat} {o : O2} {e : E} {f : Int → Int → Int} {Dn : Ends} {σ : L2.St} {H : Hp} (ho : ∀ a b, o.f (.int a) (.int b) = some (.int (f a b))) (h : tS T Wx ((St.aug i o e).den phi) Dn σ H) :
    tAug i (tI T Wx (e.den phi)) (ipI f) Dn σ H := by
  obtain ⟨hr, ow, env, S, R, p⟩ := h
  simp only [St.den] at p
  have q := R.sl i
  split at p
  · rename_i x k
    rw [k] at q
    obtain ⟨q1, q2, v, q3, q4⟩ := q
    cases q4
    refine ⟨_, q3, ?_⟩
    refine (tG.out (Wq := WR T) R p).mono fun u H1 ⟨ow1, S1, w, g, s, R1, wu, p1⟩ => ?_
    split at p1
    · rename_i y
      cases wu
      obtain ⟨d, hd, p3⟩ := Out_opt p1
      rw [ho] at hd
      cases hd
      exact ⟨x, y, rfl, rfl, p3 _ _ H1 (Gr.drop i) (R1.setw (w := .d (.int (f x y))) trivial (.int _))⟩
    · exact p1.elim
  · exact p.elim
theorem fz_imp {i : Nat} {Dn : Ends} {σ : L2.St} {H : Hp} (h : tS T Wx ((St.fz i).den phi) Dn σ H) : tNext Dn σ H := by
  obtain ⟨hr, ow, env, S, R, p⟩ := h
  simp only [St.den] at p
  cases k : env.getD i .un with
  | un => rw [k] at p; exact p.elim
  | w x => rw [k] at p; exact p.elim
  | own c =>
    rw [k] at p
    obtain ⟨d, hd, p2⟩ := Out_opt p
    obtain ⟨a, q1, q2, q3⟩ := own_open R k hd
    have Rf := R.forget i
    have z := Rf.setw (i := i) (w := .d d) trivial q3
    have hl : i < σ.length := by
      by_cases l : i < σ.length
      · exact l
      · rw [List.getElem?_eq_none (by omega)] at q2; cases q2
    have es : σ.set i (some (.ref a)) = σ := by
      rw [List.getElem?_eq_getElem hl] at q2
      have := Option.some.inj q2
      rw [← this, List.set_getElem_self]
    rw [es, List.set_set] at z
    exact p2 _ _ H ((Gr.drop i).trans (Gr.drop i)) z
theorem wipeS_forget {hr : AS} {H : Hp} {S : List Cell} {σ : L2.St} {env : List Slot} {ow : Ow} (R : Rel T hr ow H env S σ) : ∀ l : List Nat, ∃ ow', Rel T hr ow' H (wipeS env l) S σ ∧ Gr hr ow H ow' H
  | [] => ⟨ow, R, Gr.refl _ _ _⟩
  | i :: l => by
    obtain ⟨ow', R', g⟩ := wipeS_forget R l
    exact ⟨dropO ow' i, R'.forget i, g.trans (Gr.drop i)⟩
theorem kl_imp {l : List Nat} {Dn : Ends} {σ : L2.St} {H : Hp} (h : tS T Wx ((St.kl l).den phi) Dn σ H) : tNext Dn σ H := by
  obtain ⟨hr, ow, env, S, R, p⟩ := h
  simp only [St.den] at p
  obtain ⟨ow', R', g⟩ := wipeS_forget R l
  exact p σ ow' H g R'
theorem setAll_ok {hr : AS} {H : Hp} {S : List Cell} {Q : L2.St → Ow → Prop} : ∀ {is : List Nat} {ws : List W} {vs : List V} {env : List Slot} {ow : Ow} {σ : L2.St}, Rel T hr ow H env S σ → WL T hr ow H ws vs → noSlots ws = true → is.length = ws.length →
    (∀ σ2 ow2, Rel T hr ow2 H (setAll env is ws) S σ2 → Gr hr ow H ow2 H → σ2 = (is.zip vs).foldl (fun s p => s.set p.1 (some p.2)) σ → Q σ2 ow2) → ∃ ow2, Q ((is.zip vs).foldl (fun s p => s.set p.1 (some p.2)) σ) ow2
  | [], [], _, env, ow, σ, R, .nil, _, _, q => ⟨ow, q σ ow R (Gr.refl _ _ _) rfl⟩
  | i :: is, w :: ws, _, env, ow, σ, R, .cons (v := v) r rs, hn, hl, q => by
    have hn' : noSlots [w] = true ∧ noSlots ws = true := by
      cases w with
      | d x => exact ⟨rfl, hn⟩
      | l p =>
        cases p with
        | inl j => cases hn
        | inr m => exact ⟨rfl, hn⟩
    have nw := noSlots1 hn'.1
    have R2 := R.setw (i := i) nw r
    have rs2 : WL T hr (dropO ow i) H ws _ := wl_drop rs hn'.2
    obtain ⟨ow2, hq⟩ := setAll_ok (Q := Q) (is := is) R2 rs2 hn'.2 (by simpa using hl) fun σ2 ow2 R3 g e => q σ2 ow2 R3 ((Gr.drop i).trans g) e
    exact ⟨ow2, hq⟩
  | [], _ :: _, _, _, _, _, _, _, _, hl, _ => by cases hl
  | _ :: _, [], _, _, _, _, _, _, _, hl, _ => by cases hl
where
  wl_drop {hr : AS} {H : Hp} {ow : Ow} {i : Nat} : ∀ {ws : List W} {vs : List V}, WL T hr ow H ws vs → noSlots ws = true → WL T hr (dropO ow i) H ws vs
    | [], _, .nil, _ => .nil
    | .d x :: ws, _, .cons r rs, h => .cons (Rp.mono ext_drop r) (wl_drop rs h)
    | .l (.inr n) :: ws, _, .cons ⟨a, h1, h2⟩ rs, h => .cons ⟨a, by rw [dropO_ne (by simp)]; exact h1, h2⟩ (wl_drop rs h)
    | .l (.inl n) :: ws, _, .cons _ _, h => by cases h
theorem par_imp {is : List Nat} {l : Es} {Dn : Ends} {σ : L2.St} {H : Hp} (h : tS T Wx ((St.par is l).den phi) Dn σ H) :
    tIs T Wx (l.den phi) σ H fun vs H1 => is.length = vs.length ∧ Dn.nx ((is.zip vs).foldl (fun s p => s.set p.1 (some p.2)) σ) H1 := by
  obtain ⟨hr, ow, env, S, R, p⟩ := h
  simp only [St.den] at p
  refine (tG.out (Wq := WL T) R p).mono fun vs H1 ⟨ow1, S1, ws, g, s, R1, wl, p1⟩ => ?_
  split at p1
  · rename_i cond
    obtain ⟨hn, hl⟩ := cond
    have lw : ∀ {ws : List W} {vs : List V}, WL T hr ow1 H1 ws vs → ws.length = vs.length := by
      intro ws vs h
      induction h with
      | nil => rfl
      | cons _ _ ih => rw [List.length_cons, List.length_cons, ih]
    refine ⟨hl.trans (lw wl), ?_⟩
    obtain ⟨ow2, hq⟩ := setAll_ok (Q := fun σ2 _ => Dn.nx σ2 H1) R1 wl hn hl fun σ2 ow2 R2 g2 _ => p1 σ2 ow2 H1 g2 R2
    exact hq
  · exact p1.elim
theorem fr_imp {t : Tg} {it : It} {b : Sts} {Dn : Ends} {σ : L2.St} {H : Hp} (h : tS T Wx ((St.fr t it b).den phi) Dn σ H) : tFor (tIt T Wx true (it.den phi true)) (gTg X.K t) (tS T Wx (b.den phi)) Dn σ H := by
  obtain ⟨hr, ow, env, S, R, p⟩ := h
  simp only [St.den] at p
  refine (tG.out (Wq := IwR T true) R p).mono fun J H1 ⟨ow1, S1, ds, g, s, R1, iw, p1⟩ => ?_
  generalize hf : (fun (x : D) (env2 : List Slot) (S2 : List Cell) => Out.opt (t.set x env2) fun env3 => b.den phi env3 S2) = f at p1
  refine ⟨fun i m σ H => m = ds.length - i ∧ i ≤ ds.length ∧ ∃ ow' env' S', Gr hr ow1 H1 ow' H ∧ Rel T hr ow' H env' S' σ ∧ PostO T hr ow' H (forL f (ds.drop i) env' S') Dn Wx, ⟨ds.length, by simp, Nat.zero_le _, ow1, env, S1, Gr.refl _ _ _, R1, by simpa using p1⟩, ?_⟩
  rintro i m σ2 H2 ⟨rfl, hi, ow', env', S', g2, R2, p2⟩
  have no : ∀ a, stI true ow1 a → H2 a = H1 a := fun a z => by cases z.1
  by_cases hlt : i < ds.length
  · refine .inr ⟨iw.go i H2 _ hlt g2.ext no, fun σ' H' => ds.length - (i + 1) = ds.length - (i + 1) ∧ i + 1 ≤ ds.length ∧ ∃ ow' env' S', Gr hr ow1 H1 ow' H' ∧ Rel T hr ow' H' env' S' σ' ∧ PostO T hr ow' H' (forL f (ds.drop (i + 1)) env' S') Dn Wx,
      fun σ' H' w => ⟨ds.length - (i + 1), by omega, w⟩, fun x H' y => ?_⟩
    have hx : ds[i]? = some ds[i] := by simp [hlt]
    obtain ⟨sm, rx⟩ := iw.yld i H2 _ x H' _ hx g2.ext no R2.track y
    have R3 := R2.same sm
    have g3 := g2.trans (Gr.same R2 sm)
    have p3 := p2.grow (Gr.same R2 sm)
    rw [List.drop_eq_getElem_cons hlt] at p3
    have p4 : PostO T hr ow' H' (match f ds[i] env' S' with
      | .nx env1 S1 => forL f (ds.drop (i + 1)) env1 S1
      | .ct env1 S1 => forL f (ds.drop (i + 1)) env1 S1
      | .bk env1 S1 => .nx env1 S1
      | .rt w S1 => .rt w S1
      | .ex x S1 => .ex x S1
      | .bad => .bad) Dn Wx := p3
    have hfx : f ds[i] env' S' = Out.opt (t.set ds[i] env') fun env3 => b.den phi env3 S' := by rw [← hf]
    rw [hfx] at p4
    cases ks : t.set ds[i] env' with
    | none => rw [ks] at p4; exact p4.elim
    | some env1 =>
      rw [ks] at p4
      refine g_ok t R3 rx ks fun σ3 ow3 R4 dr => ?_
      have gd : Gr hr ow' H' ow3 H' := ⟨dr.ext, fun n a h => by rw [dr.eq _ (by simp)]; exact h, fun _ _ => rfl⟩
      have p5 := p4.grow gd
      refine ⟨hr, ow3, env1, S', R4, ?_⟩
      dsimp only [Out.opt] at p5
      cases kb : b.den phi env1 S' with
      | nx e1 s1 =>
        rw [kb] at p5
        exact fun σ' ow4 H4 g4 R5 => ⟨rfl, hlt, ow4, e1, s1, (g3.trans gd).trans g4, R5, p5.grow g4⟩
      | ct e1 s1 =>
        rw [kb] at p5
        exact fun σ' ow4 H4 g4 R5 => ⟨rfl, hlt, ow4, e1, s1, (g3.trans gd).trans g4, R5, p5.grow g4⟩
      | bk e1 s1 => rw [kb] at p5; exact p5
      | rt w s1 => rw [kb] at p5; exact p5
      | ex x s1 => rw [kb] at p5; exact p5
      | bad => rw [kb] at p5; exact p5
  · have hin : i = ds.length := by omega
    subst hin
    rw [List.drop_eq_nil_of_le (Nat.le_refl _)] at p2
    exact .inl ⟨iw.stop H2 _ g2.ext no, p2.nx_ R2⟩
theorem wh_imp {c : E} {b : Sts} {Dn : Ends} {σ : L2.St} {H : Hp} (h : tS T Wx ((St.wh c b).den phi) Dn σ H) : tWhile (tT (tI T Wx (c.den phi))) (tS T Wx (b.den phi)) Dn σ H := by
  obtain ⟨hr, ow, env, S, R, p⟩ := h
  simp only [St.den] at p
  refine ⟨fun m σ H => ∃ ow' env' S', Rel T hr ow' H env' S' σ ∧ PostO T hr ow' H (whL (fun env2 S2 => c.den phi env2 S2) (fun env2 S2 => b.den phi env2 S2) m env' S') Dn Wx, ⟨fuel, ow, env, S, R, p⟩, ?_⟩
  rintro m σ2 H2 ⟨ow', env', S', R2, p2⟩
  cases m with
  | zero => exact p2.elim
  | succ m =>
    have p3 : PostO T hr ow' H2 ((c.den phi env' S').out fun w S1 => Out.opt (isBl w) fun t =>
      if t = true then match b.den phi env' S1 with
        | .nx env1 S2 => whL (fun env2 S2 => c.den phi env2 S2) (fun env2 S2 => b.den phi env2 S2) m env1 S2
        | .ct env1 S2 => whL (fun env2 S2 => c.den phi env2 S2) (fun env2 S2 => b.den phi env2 S2) m env1 S2
        | .bk env1 S2 => .nx env1 S2
        | .rt w S2 => .rt w S2
        | .ex x S2 => .ex x S2
        | .bad => .bad
      else .nx env' S1) Dn Wx := p2
    refine (tG.out (Wq := WR T) R2 p3).mono fun v H3 ⟨ow3, S3, w, g, s, R3, wv, p4⟩ => ?_
    obtain ⟨t, ht, p5⟩ := Out_opt p4
    refine ⟨t, isBl_of wv ht, ?_⟩
    cases t with
    | false =>
      simp only [Bool.false_eq_true, if_false] at p5 ⊢
      exact p5.nx_ R3
    | true =>
      simp only [if_true] at p5 ⊢
      refine ⟨fun σ' H' => ∃ ow' env' S', Rel T hr ow' H' env' S' σ' ∧ PostO T hr ow' H' (whL (fun env2 S2 => c.den phi env2 S2) (fun env2 S2 => b.den phi env2 S2) m env' S') Dn Wx, fun σ' H' w => ⟨m, Nat.lt_succ_self m, w⟩, hr, ow3, env', S3, R3, ?_⟩
      cases kb : b.den phi env' S3 with
      | nx e1 s1 =>
        rw [kb] at p5
        exact fun σ' ow4 H4 g4 R5 => ⟨ow4, e1, s1, R5, p5.grow g4⟩
      | ct e1 s1 =>
        rw [kb] at p5
        exact fun σ' ow4 H4 g4 R5 => ⟨ow4, e1, s1, R5, p5.grow g4⟩
      | bk e1 s1 => rw [kb] at p5; exact p5
      | rt w s1 => rw [kb] at p5; exact p5
      | ex x s1 => rw [kb] at p5; exact p5
      | bad => rw [kb] at p5; exact p5
theorem seq_imp {s : St} {l : Sts} {Dn : Ends} {σ : L2.St} {H : Hp} (h : tS T Wx ((Sts.cons s l).den phi) Dn σ H) : tSeq (tS T Wx (s.den phi)) (tS T Wx (l.den phi)) Dn σ H := by
  obtain ⟨hr, ow, env, S, R, p⟩ := h
  simp only [Sts.den] at p
  refine ⟨hr, ow, env, S, R, ?_⟩
  cases k : s.den phi env S with
  | nx e1 s1 =>
    rw [k] at p
    exact fun σ' ow' H' g R' => ⟨hr, ow', e1, s1, R', p.grow g⟩
  | bk e1 s1 => rw [k] at p; exact p
  | ct e1 s1 => rw [k] at p; exact p
  | rt w s1 => rw [k] at p; exact p
  | ex x s1 => rw [k] at p; exact p
  | bad => rw [k] at p; exact p
theorem nil_imp {Dn : Ends} {σ : L2.St} {H : Hp} (h : tS T Wx (Sts.nil.den phi) Dn σ H) : tNext Dn σ H := by
  obtain ⟨hr, ow, env, S, R, p⟩ := h
  simp only [Sts.den] at p
  exact p.nx_ R
end
end Rg
set_option Elab.async false
set_option linter.all false
set_option maxRecDepth 100000
set_option maxHeartbeats 4000000
namespace Rg
open PySem PySem.Spec PyProof.Rows L2
theorem PE.or {X : Cx} {e : Expr} {t t' : TE} (h : PE X e t) (h' : PE X e t') : PE X e (fun σ H Q => t σ H Q ∨ t' σ H Q) :=
  ⟨fun pins s σ H Q I q => q.elim (h.run pins s σ H Q I) (h'.run pins s σ H Q I)⟩
section
variable {X : Cx} {T : Tab} {Wx : WX} {phi : Nat → Fn}
theorem mt_imp {m : Mt} {a : E} {l : Es} {σ : L2.St} {H : Hp} {Q : VK} (h : tI T Wx ((E.mt m a l).den phi) σ H Q) :
    (tMG (tyLst T) (rM T (fun d ds => match d with | .lst _ => m.f d ds | _ => none)) (tI T Wx (a.den phi)) (tIs T Wx (l.den phi)) σ H Q ∨
      tMG (tyTup T) (rM T (fun d ds => match d with | .tp _ _ => m.f d ds | _ => none)) (tI T Wx (a.den phi)) (tIs T Wx (l.den phi)) σ H Q) ∨
      (∃ z, m.rc (.str z) = true) ∧ tMG (fun x _ => ∃ z, x = .str z) (rM T (fun d ds => match d with | .str _ => m.f d ds | _ => none)) (tI T Wx (a.den phi)) (tIs T Wx (l.den phi)) σ H Q := by
  obtain ⟨hr, ow, env, S, R, p⟩ := h
  simp only [E.den] at p
  cases k : a.den phi env S with
  | bad => rw [k] at p; exact p.elim
  | ex x S1 =>
    rw [k] at p
    refine .inl (.inl ⟨hr, ow, env, S, R, ?_⟩)
    rw [k]
    exact p
  | ok w S1 =>
    have k' := k
    rw [k, Res.bind_ok] at p
    cases kd : look env S1 w with
    | none => rw [kd] at p; exact p.elim
    | some d0 =>
      rw [kd] at p
      have hst : m.rc d0 = true := by
        by_cases h : m.rc d0 = true
        · exact h
        · have p' : Post T (WR T) hr ow env σ H (if m.rc d0 = true then _ else Res.bad) Q Wx := p
          rw [if_neg h] at p'
          exact p'.elim
      have p : Post T (WR T) hr ow env σ H ((l.den phi env S1).bind fun ws S2 => Res.opt (look env S2 w) fun dx => Res.opt (looks env S2 ws) fun ds => if sameTy d0 dx = true then Res.opt (m.f dx ds) fun d => .ok (.d d) S2 else .bad) Q Wx := by
        have p' : Post T (WR T) hr ow env σ H (if m.rc d0 = true then _ else Res.bad) Q Wx := p
        rw [if_pos hst] at p'
        exact p'
      have go : ∀ {hr' : AS} {ow1 : Ow} {H1 : Hp} {v : V}, Gr hr ow H ow1 H1 → Slo ow H ow1 H1 → Rel T hr ow1 H1 env S1 σ → WR T hr ow1 H1 w v →
          tIs T Wx (l.den phi) σ H1 fun vs H2 => ∃ ow2 S2 ws, Rel T hr ow2 H2 env S2 σ ∧ WR T hr ow2 H2 w v ∧ WL T hr ow2 H2 ws vs ∧
            Post T (WR T) hr ow2 env σ H2 (Res.opt (look env S2 w) fun dx => Res.opt (looks env S2 ws) fun ds => if sameTy d0 dx = true then Res.opt (m.f dx ds) fun d => .ok (.d d) S2 else .bad) Q Wx := by
        intro hr' ow1 H1 v g s r wv
        have p1 : Post T (WR T) hr ow1 env σ H1 ((l.den phi env S1).bind fun ws S2 => Res.opt (look env S2 w) fun dx => Res.opt (looks env S2 ws) fun ds => if sameTy d0 dx = true then Res.opt (m.f dx ds) fun d => .ok (.d d) S2 else .bad) Q Wx := Post.grow p g s
        exact tG.run2 (Wq := WL T) r wv p1
      have fin : ∀ {dom : D → Bool} (hd : ∀ dx, sameTy d0 dx = true → dom dx = true) {ow1 : Ow} {H1 : Hp} {v : V}, Gr hr ow H ow1 H1 → Slo ow H ow1 H1 → Rel T hr ow1 H1 env S1 σ → WR T hr ow1 H1 w v →
          tIs T Wx (l.den phi) σ H1 fun vs H2 => rM T (fun d ds => if dom d = true then m.f d ds else none) v vs H2 Q := by
        intro dom hd ow1 H1 v g s r wv
        refine (go (hr' := hr) g s r wv).mono fun vs H2 ⟨ow2, S2, ws, r2, wv2, wl, p2⟩ => ?_
        obtain ⟨dx, h1, p3⟩ := p2.opt
        obtain ⟨ds, h2, p4⟩ := p3.opt
        split at p4
        · rename_i hst
          obtain ⟨d, h3, p5⟩ := p4.opt
          exact ⟨hid hr ow2, dx, ds, d, r2.track, look_vw r2 wv2 h1, looks_vw r2 wl h2, by show (if dom dx = true then m.f dx ds else none) = some d; rw [if_pos (hd dx hst)]; exact h3, p5.mkd r2⟩
        · exact p4.elim
      have rimp : ∀ {f f' : D → List D → Option D} (e : ∀ d ds, f d ds = f' d ds) {v : V} {vs : List V} {H2 : Hp}, rM T f v vs H2 Q → rM T f' v vs H2 Q := fun {f f'} e {v vs H2} ⟨l, dx, ds, d, n, va, vb, q, z⟩ => ⟨l, dx, ds, d, n, va, vb, by rw [← e]; exact q, z⟩
      cases d0 with
      | lst ls =>
        refine .inl (.inl ⟨hr, ow, env, S, R, ?_⟩)
        rw [k]
        intro v ow1 H1 g s r wv
        refine ⟨⟨_, _, look_vw r wv kd⟩, ?_⟩
        refine (fin (dom := fun d => match d with | .lst _ => true | _ => false) (fun dx hx => by cases dx <;> first | rfl | cases hx) g s r wv).mono fun vs H2 q => rimp (fun d ds => by cases d <;> rfl) q
      | tp c ls =>
        by_cases hc : c = true
        · subst hc
          refine .inl (.inr ⟨hr, ow, env, S, R, ?_⟩)
          rw [k]
          intro v ow1 H1 g s r wv
          refine ⟨⟨_, _, look_vw r wv kd⟩, ?_⟩
          refine (fin (dom := fun d => match d with | .tp _ _ => true | _ => false) (fun dx hx => by cases dx <;> first | rfl | cases hx) g s r wv).mono fun vs H2 q => rimp (fun d ds => by cases d <;> rfl) q
        · have : c = false := by simpa using hc
          subst this
          cases m <;> cases hst
      | str z =>
        refine .inr ⟨⟨z, hst⟩, hr, ow, env, S, R, ?_⟩
        rw [k]
        intro v ow1 H1 g s r wv
        refine ⟨?_, ?_⟩
        · have := look_vw r wv kd
          have z' := this.rp
          cases z'
          exact ⟨_, rfl⟩
        · refine (fin (dom := fun d => match d with | .str _ => true | _ => false) (fun dx hx => by cases dx <;> first | rfl | cases hx) g s r wv).mono fun vs H2 q => rimp (fun d ds => by cases d <;> rfl) q
      | _ => cases m <;> cases hst
theorem x_count {a : E} {l : Es} {o e : Expr} {es : List Expr} {apos pos : Pos} (hK : T.K = X.K) (hu : X.A.units + 65 < cLine) (ho : PE X o (tI T Wx (a.den phi))) (ha : PA X (e :: es) (tIs T Wx (l.den phi)))
    (hbase : attributeBase o "count" X.env (eval o X.env) = eval o X.env)
    (hfew : ((backTo pos (starEach (e :: es) X.env)).all (fun x => !x.1) && (backToKw pos (keywordEach [] X.env)).all (fun x => x.1.isSome) && decide ((e :: es).length + ([] : List Keyword).length + (if ([] : List Keyword).isEmpty then 0 else 1) < 30)) = true)
    (hline : (apos.endLine == pos.line) = true) (hs : starEach (e :: es) X.env = (false, eval e X.env) :: starEach es X.env) (hpl : (backTo pos (starEach es X.env)).any (·.1) = false) :
    PE X (.Call (.Attribute o "count" apos) (e :: es) [] pos) (tI T Wx ((E.mt .count a l).den phi)) := by
  have p1 := pe_mG (ty_lst (T := T)) F.plainAttrs_list F.slot_list_count F.type_list_count (mt_countL (T := T) hK hu) ho ha hbase hfew hline hs hpl
  have p2 := pe_mG (ty_tup (T := T)) F.plainAttrs_tuple F.slot_tuple_count F.type_tuple_count (mt_countT (T := T) hK hu) ho ha hbase hfew hline hs hpl
  refine PE.imp (PE.or p1 p2) fun σ H Q h => ?_
  rcases mt_imp h with h | ⟨⟨z, h⟩, _⟩
  · exact h
  · cases h
end
end Rg
set_option Elab.async false
set_option linter.all false
set_option maxRecDepth 100000
set_option maxHeartbeats 4000000
namespace Rg
open PySem PySem.Spec PyProof.Rows L2
section
variable {X : Cx} {T : Tab} {Wx : WX} {phi : Nat → Fn}
theorem rp_rg {H : Hp} (i j : Int) : RpL T H (rangeD i (j - i).toNat) (rgV i j) := by
  unfold rangeD rgV
  generalize List.range (j - i).toNat = l
  induction l with
  | nil => exact .nil
  | cons x l ih => exact .cons (.int _) ih
abbrev TRg := L2.St → Hp → (Int → Int → Hp → Prop) → Prop
theorem PRg.imp {e : Expr} {t t' : TRg} (h : PRg X e t) (i : ∀ σ H Q, t' σ H Q → t σ H Q) : PRg X e t' := fun pins s σ H Q I q => h pins s σ H Q I (i _ _ _ q)
def tRgW (T : Tab) (Wx : WX) (den : List Slot → List Cell → Res (List D)) : TRg := fun σ H Q => ∃ hr ow env S, Rel T hr ow H env S σ ∧
  Post T (fun hr ow H (ds : List D) (p : Int × Int) => rgOk p.1 = true ∧ rgOk p.2 = true ∧ ds = rangeD p.1 (p.2 - p.1).toNat) hr ow env σ H (den env S) (fun p H1 => Q p.1 p.2 H1) Wx
theorem rg1_ok {a : E} {e : Expr} {p pos : Pos} (hg : Gl X "range") (hm : X.mg "range" = none) (ha : PE X e (tI T Wx (a.den phi))) (hs : starEach [e] X.env = (false, eval e X.env) :: starEach [] X.env) : PRg X (.Call (.Name "range" p) [e] [] pos) (tRgW T Wx ((It.rg1 a).den phi false)) := by
  refine PRg.imp (prg_1 hg hm ha hs) fun σ H Q h => ?_
  obtain ⟨hr, ow, env, S, R, q⟩ := h
  simp only [It.den] at q
  refine (tG.run (Wq := WR T) R q).mono fun v H1 ⟨ow1, S1, x, g, s, R1, wx, p1⟩ => ?_
  split at p1
  · rename_i j
    split at p1
    · rename_i ok
      cases wx
      exact ⟨j, rfl, p1.same R1 (v := (0, j)) ⟨(by decide : rgOk 0 = true), ok, by simp⟩⟩
    · exact p1.elim
  · exact p1.elim
theorem rg2_ok {a b : E} {e e2 : Expr} {p pos : Pos} (hg : Gl X "range") (hm : X.mg "range" = none) (ha : PE X e (tI T Wx (a.den phi))) (hb : PE X e2 (tI T Wx (b.den phi))) (hs : starEach [e, e2] X.env = (false, eval e X.env) :: starEach [e2] X.env)
    (hs2 : starEach [e2] X.env = (false, eval e2 X.env) :: starEach [] X.env) : PRg X (.Call (.Name "range" p) [e, e2] [] pos) (tRgW T Wx ((It.rg2 a b).den phi false)) := by
  refine PRg.imp (prg_2 hg hm ha hb hs hs2 (by rw [hs2]; rfl)) fun σ H Q h => ?_
  obtain ⟨hr, ow, env, S, R, q⟩ := h
  simp only [It.den] at q
  refine (tG.run (Wq := WR T) R q).mono fun v H1 ⟨ow1, S1, x, g, s, R1, wx, p1⟩ => ?_
  refine (tG.run2 (Wq := WR T) R1 wx p1).mono fun u H2 ⟨ow2, S2, y, R2, wx1, wy, p2⟩ => ?_
  cases x with
  | l _ => exact p2.elim
  | d dx =>
    cases y with
    | l _ => cases dx <;> exact p2.elim
    | d dy =>
      cases dx with
      | int i =>
        cases dy with
        | int j =>
          dsimp only at p2
          split at p2
          · rename_i ok
            cases wx1
            cases wy
            exact ⟨i, j, rfl, rfl, p2.same R2 (v := (i, j)) ⟨ok.1, ok.2, rfl⟩⟩
          · exact p2.elim
        | _ => exact p2.elim
      | _ => cases dy <;> exact p2.elim
theorem rgOk_of {i j : Int} (h1 : rgOk i = true) (h2 : rgOk j = true) (h : (rangeD i (j - i).toNat).length ≤ 16777216) : RgOk i j := by
  simp only [rgOk, Bool.and_eq_true, decide_eq_true_eq] at h1 h2
  have e : (rangeD i (j - i).toNat).length = (j - i).toNat := by simp [rangeD]
  rw [e] at h
  exact ⟨h1.1, h1.2, h2.1, h2.2, by omega⟩
theorem x_lstRg {it : It} {e : Expr} {p pos : Pos} (hc : X.calm = true) (hg : Gl X "list") (hm : X.mg "list" = none) (he : PRg X e (tRgW T Wx (it.den phi false))) (na : starEach [e] X.env = (false, eval e X.env) :: starEach [] X.env) :
    PE X (.Call (.Name "list" p) [e] [] pos) (tI T Wx ((E.col false it).den phi)) := by
  refine PE.imp (pe_listRg hc hg hm he na) fun σ H Q h => ?_
  obtain ⟨hr, ow, env, S, R, q⟩ := h
  simp only [E.den] at q
  refine ⟨hr, ow, env, S, R, ?_⟩
  refine (Post.bind (Wq := fun hr ow H (ds : List D) (p : Int × Int) => rgOk p.1 = true ∧ rgOk p.2 = true ∧ ds = rangeD p.1 (p.2 - p.1).toNat) q).imp fun w H1 ⟨ds, S1, ow1, _, g, s, R1, ⟨k1, k2, k3⟩, p1⟩ => ?_
  split at p1
  · rename_i hl
    subst k3
    exact ⟨rgOk_of k1 k2 hl, fun a ha => (p1.mkd R1).lst R1.track (rp_rg _ _) ha⟩
  · exact p1.elim
theorem x_tupRg {it : It} {e : Expr} {p pos : Pos} (hc : X.calm = true) (hg : Gl X "tuple") (hm : X.mg "tuple" = none) (he : PRg X e (tRgW T Wx (it.den phi false))) (na : starEach [e] X.env = (false, eval e X.env) :: starEach [] X.env) :
    PE X (.Call (.Name "tuple" p) [e] [] pos) (tI T Wx ((E.col true it).den phi)) := by
  refine PE.imp (pe_tupRg hc hg hm he na) fun σ H Q h => ?_
  obtain ⟨hr, ow, env, S, R, q⟩ := h
  simp only [E.den] at q
  refine ⟨hr, ow, env, S, R, ?_⟩
  refine (Post.bind (Wq := fun hr ow H (ds : List D) (p : Int × Int) => rgOk p.1 = true ∧ rgOk p.2 = true ∧ ds = rangeD p.1 (p.2 - p.1).toNat) q).imp fun w H1 ⟨ds, S1, ow1, _, g, s, R1, ⟨k1, k2, k3⟩, p1⟩ => ?_
  split at p1
  · rename_i hl
    subst k3
    refine ⟨rgOk_of k1 k2 hl, fun a ha => p1.mkd R1 _ _ (same_new ha) (rp_new R1.track ha (rp_rg _ _))⟩
  · exact p1.elim
end
end Rg
set_option Elab.async false
set_option linter.all false
set_option maxRecDepth 100000
set_option maxHeartbeats 4000000
namespace Rg
open PySem PySem.Spec PyProof.Rows L2
structure KtOk (K : PySem.W.Frag) (mg : Str → Option Value) (x : Str) (l : List D) : Prop where
  ex : ∃ (a : Addr) (zs : List Str), mg x = some (.ref a) ∧ l = zs.map D.str ∧ ∀ H, SqT K H a (zs.map V.str)
structure KdOk (T : Tab) (K : PySem.W.Frag) (w : World) (mg : Str → Option Value) (x : Str) (l : List (D × D)) : Prop where
  ex : ∃ (a : Addr) (es : Array DictEntry) (n : Nat), mg x = some (.ref a) ∧ KDict K w a es n ∧ ∀ z : Str,
    match dfind l (.str z) with
    | none => PySem.W.nsIn K a z = some none ∧ (l.any fun p => decide (p.1 = .str z)) = false
    | some d => (∃ u v, PySem.W.nsIn K a z = some (some u) ∧ RelV v u ∧ ∀ H, Rp T H d v) ∧ (l.any fun p => decide (p.1 = .str z)) = true
section
variable {X : Cx} {T : Tab} {Wx : WX} {phi : Nat → Fn}
theorem inV_str (z : Str) (zs : List Str) : inV (.str z) (zs.map V.str) = (zs.map D.str).any fun y => decide (y = .str z) := by
  unfold inV
  rw [List.any_map, List.any_map]
  congr 1
  funext y
  show eqV (.str y) (.str z) = decide (D.str y = D.str z)
  by_cases h : y = z
  · subst h
    simp [eqV]
  · have : ¬ D.str y = D.str z := fun e => h (D.str.inj e)
    simp [eqV, h, this]
theorem op_inT {isIn : Bool} {op : CmpOp} {l : List D} {x : Str} (ho : inO isIn op = true) (k : KtOk X.K X.mg x l) : ∃ a, X.mg x = some (.ref a) ∧
    OpR X (compareOp op) (fun u y H Q => ∃ t, u = .str t ∧ y = .ref a ∧ Q (.bl ((l.any fun y => decide (y = .str t)) == isIn)) H) := by
  obtain ⟨a, zs, h1, rfl, h2⟩ := k.ex
  have fl : (zs.map V.str).all flatV = true := by
    rw [List.all_map]
    exact List.all_eq_true.mpr fun _ _ => rfl
  refine ⟨a, h1, ?_⟩
  cases isIn <;> cases op <;> first | cases ho | skip
  · refine OpR.imp op_notIn_seq fun u y H Q ⟨t, e1, e2, q⟩ => ⟨a, zs.map V.str, e2, .inr (h2 H), by rw [e1]; rfl, fl, ?_⟩
    rw [e1, inV_str]
    cases hb : (zs.map D.str).any fun y => decide (y = .str t) <;> rw [hb] at q <;> exact q
  · refine OpR.imp op_in_seq fun u y H Q ⟨t, e1, e2, q⟩ => ⟨a, zs.map V.str, e2, .inr (h2 H), by rw [e1]; rfl, fl, ?_⟩
    rw [e1, inV_str]
    cases hb : (zs.map D.str).any fun y => decide (y = .str t) <;> rw [hb] at q <;> exact q
theorem op_inD {isIn : Bool} {op : CmpOp} {l : List (D × D)} {x : Str} (ho : inO isIn op = true) (k : KdOk T X.K X.w X.mg x l) : ∃ a, X.mg x = some (.ref a) ∧
    OpR X (compareOp op) (fun u y H Q => ∃ t, u = .str t ∧ y = .ref a ∧ Q (.bl (((l.map (·.1)).any fun y => decide (y = .str t)) == isIn)) H) := by
  obtain ⟨a, es, n, h1, h2, h3⟩ := k.ex
  have key : ∀ t, ∃ r, PySem.W.nsIn X.K a t = some r ∧ ((l.map (·.1)).any fun y => decide (y = .str t)) = r.isSome := fun t => by
    have q := h3 t
    have e : ((l.map (·.1)).any fun y => decide (y = .str t)) = l.any fun p => decide (p.1 = .str t) := by rw [List.any_map]; rfl
    cases hd : dfind l (.str t) with
    | none =>
      rw [hd] at q
      exact ⟨_, q.1, by rw [e, q.2]; rfl⟩
    | some d =>
      rw [hd] at q
      obtain ⟨⟨u, v, g1, g2, g3⟩, g4⟩ := q
      exact ⟨_, g1, by rw [e, g4]; rfl⟩
  refine ⟨a, h1, ?_⟩
  cases isIn <;> cases op <;> first | cases ho | skip
  · refine OpR.imp (op_notIn_kd h2) fun u y H Q ⟨t, e1, e2, q⟩ => ?_
    obtain ⟨r, g1, g2⟩ := key t
    refine ⟨t, r, e1, e2, g1, ?_⟩
    rw [g2] at q
    cases r <;> exact q
  · refine OpR.imp (op_in_kd h2) fun u y H Q ⟨t, e1, e2, q⟩ => ?_
    obtain ⟨r, g1, g2⟩ := key t
    refine ⟨t, r, e1, e2, g1, ?_⟩
    rw [g2] at q
    cases r <;> exact q
theorem x_inK {isIn : Bool} {op : CmpOp} {a : E} {A : Addr} {l : List D} {x : Str} {ea : Expr} {p pos : Pos} (ho : OpR X (compareOp op) (fun u y H Q => ∃ t, u = .str t ∧ y = .ref A ∧ Q (.bl ((l.any fun y => decide (y = .str t)) == isIn)) H)) (hm : X.mg x = some (.ref A)) (hg : Gl X x) (hd : (x == ("__debug__" : Str)) = false)
    (ha : PE X ea (tI T Wx (a.den phi))) : PE X (.Compare ea [op] [.Name x p] pos) (tI T Wx ((E.inK isIn a x l).den phi)) :=
  PE.imp (pe_cmpR ho ha (pe_glob (v := .ref A) hg hm rfl hd) rfl) fun σ H Q h => (inK_imp h).mono fun v H1 ⟨t, e, q⟩ => ⟨t, e, rfl, q⟩
theorem t_inK {isIn : Bool} {op : CmpOp} {a : E} {A : Addr} {l : List D} {x : Str} {ea : Expr} {p pos : Pos} (ho : OpR X (compareOp op) (fun u y H Q => ∃ t, u = .str t ∧ y = .ref A ∧ Q (.bl ((l.any fun y => decide (y = .str t)) == isIn)) H)) (hm : X.mg x = some (.ref A)) (hg : Gl X x) (hd : (x == ("__debug__" : Str)) = false)
    (ha : PE X ea (tI T Wx (a.den phi))) : PT X (.Compare ea [op] [.Name x p] pos) (tT (tI T Wx ((E.inK isIn a x l).den phi))) :=
  PT.imp (pt_cmpR ho ha (pe_glob (v := .ref A) hg hm rfl hd) rfl) fun σ H Q h => (inK_imp h).mono fun v H1 ⟨t, e, q⟩ => ⟨t, e, rfl, q⟩
theorem x_ixK {a : E} {l : List (D × D)} {x : Str} {ea : Expr} {p pos : Pos} (k : KdOk T X.K X.w X.mg x l) (hg : Gl X x) (hd : (x == ("__debug__" : Str)) = false) (ha : PE X ea (tI T Wx (a.den phi))) (hs : PlainIx ea) : PE X (.Subscript (.Name x p) ea pos) (tI T Wx ((E.ixK a x l).den phi)) := by
  obtain ⟨A, es, n, h1, h2, h3⟩ := k.ex
  refine PE.imp (pe_ix ix_kdict (pe_glob (v := .ref A) hg h1 rfl hd) ha hs) fun σ H Q h => ?_
  refine (ixK_imp h).mono fun v H1 ⟨t, d, e1, e2, q⟩ => ?_
  have g := h3 t
  rw [e2] at g
  obtain ⟨⟨u, w, g1, g2, g3⟩, _⟩ := g
  exact ⟨A, t, w, rfl, e1, ⟨es, n, u, h2.at_, h2.lit, g1, g2⟩, q w g3⟩
theorem x_lenK {l : List D} {y : Str} {p p2 pos : Pos} (k : KtOk X.K X.mg y l) (hg : Gl X y) (hd : (y == ("__debug__" : Str)) = false) (hl : Gl X ("len" : Str)) (hm : X.mg ("len" : Str) = none) : PE X (.Call (.Name ("len" : Str) p) [.Name y p2] [] pos) (tI T Wx ((E.lenK y l.length).den phi)) := by
  obtain ⟨a, zs, h1, rfl, h2⟩ := k.ex
  refine PE.imp (pe_callB call_len_seq hl hm (by decide +kernel) (pa_cons (pe_glob (v := .ref a) hg h1 rfl hd) pa_nil)) fun σ H Q ⟨hr, ow, env, S, R, q⟩ => ?_
  simp only [E.den] at q
  refine ⟨a, zs.map V.str, rfl, .inr (h2 H), ?_⟩
  have := q.same R (v := .int (zs.map D.str).length) (.int _)
  simpa using this
end
end Rg
set_option Elab.async false
set_option linter.all false
set_option maxRecDepth 100000
set_option maxHeartbeats 4000000
namespace Rg
open PySem PySem.Spec PyProof.Rows L2
section
variable {prog : Program} {w : World} {A : Around} {E : Value → Shared → Prop} {s : Shared} {z TI TO i1 i2 : Addr} {fp1 fp2 : List Addr} {n1 n2 i : Nat} {P1 P2 : Nat → Value → Prop} {St1 St2 : Nat → Heap → Prop}
def ZSt (h : Heap) (z TI TO i1 i2 : Addr) : Prop := (IsZip h z TI TO .none ∧ ∃ a b, IsTupOf2 h TO a b) ∨ ∃ T f oT, IsZipHeld h z TI TO T f ∧ h.get? T = some oT ∧ T ∉ [z, TO, i1, i2] ∧ ∃ oO, h.get? TO = some oO
theorem ZSt.at {h h' : Heap} (x : ZSt h z TI TO i1 i2) (k : ∀ b o, h.get? b = some o → h'.get? b = some o) : ZSt h' z TI TO i1 i2 := by
  rcases x with ⟨a, u, v, b⟩ | ⟨T, f, oT, a, b, c, oO, d⟩
  · exact .inl ⟨k _ _ a, u, v, k _ _ b⟩
  · exact .inr ⟨T, f, oT, k _ _ a, k _ _ b, c, oO, k _ _ d⟩
theorem zk_body {T : Addr} {f : Bool} {oT : Obj} {Q : Value → Shared → Prop} (S : ZipSep2 z TI TO i1 i2 fp1 fp2) (D1 : Draws prog w A i1 fp1 n1 P1 St1) (D2 : Draws prog w A i2 fp2 n2 P2 St2)
    (hz : IsZipHeld s.heap z TI TO T f) (hT : s.heap.get? T = some oT) (hTI : IsTupOf2 s.heap TI (.ref i1) (.ref i2)) (st1 : St1 i s.heap) (st2 : St2 i s.heap) (l1 : i < n1) (l2 : i < n2)
    (hQ : ∀ x1 x2 h' tk, P1 i x1 → P2 i x2 → IsZipHeld h' z TI TO T true → St1 (i + 1) h' → St2 (i + 1) h' → IsTupOf2 h' s.heap.objs.size x1 x2 → h'.objs.size = s.heap.objs.size + 1 →
      (∀ c o, c ≠ z → c ≠ i1 → c ≠ i2 → s.heap.get? c = some o → h'.get? c = some o) → Q (.ref s.heap.objs.size) { s with heap := h', toks := tk }) :
    wpAny (model prog w) A (Builtin.«zip.__next__» ⟨[.ref z], []⟩) (fun fin s' => ∃ v, fin = .done (.ret v) ∧ Q v s') E s := by
  show wpAny _ _ (field (.ref z) 2 >>= _) _ _ s
  refine wpAny_bind (wpAny_field (x := .bool false) hz rfl rfl ?_)
  show wpAny _ _ (field (.ref z) 3 >>= _) _ _ s
  refine wpAny_bind (wpAny_field (x := .ref TI) hz rfl rfl ?_)
  refine wpAny_bind (wpAny_seqItems (n := 0) hTI rfl ?_)
  show wpAny _ _ (Builtin.SmallTypes.ownedTupleIsFree (.ref z) >>= _) _ _ s
  refine wpAny_bind (wpAny_tupleHeld_zip hz hT fun g0 z0 same0 => ?_)
  rw [if_neg (by decide)]
  refine wpAny_bind ?_
  rw [← Array.forIn_toList]
  simp only [List.forIn_cons, List.forIn_nil]
  refine wpAny_bind (wpAny_bind (wpAny_holding ?_))
  show wpAny _ _ (Builtin.SmallTypes.nextOf (.ref i1) >>= _) _ _ { s with heap := g0 }
  refine wpAny_bind (D1.item i _ _ _ l1 (D1.over st1 same0 S.zf1) fun x1 p1 tk1 hx1 sn1 same1 => wpAny_pure (wpAny_pure ?_))
  have same1' : Heap.SameBut i1 g0 p1 := same1
  refine wpAny_bind (wpAny_bind (wpAny_holding ?_))
  show wpAny _ _ (Builtin.SmallTypes.nextOf (.ref i2) >>= _) _ _ { s with heap := p1, toks := tk1 }
  refine wpAny_bind (D2.item i _ _ _ l2 (D2.over (D2.over st2 same0 S.zf2) same1' S.sep1_2) fun x2 p2 tk2 hx2 sn2 same2 => wpAny_pure (wpAny_pure (wpAny_pure ?_)))
  have same2' : Heap.SameBut i2 p1 p2 := same2
  show wpAny _ _ (newTuple [x1, x2] >>= _) _ _ { s with heap := p2, toks := tk2 }
  refine wpAny_bind (wpAny_newTuple ?_)
  have size2 : p2.objs.size = s.heap.objs.size := by rw [same2'.1, same1'.1, same0.1]
  have z2 : IsZipHeld p2 z TI TO T true := same2'.extBut _ _ S.zi2 (same1'.extBut _ _ S.zi1 z0)
  have kept : ∀ c o, c ≠ z → c ≠ i1 → c ≠ i2 → s.heap.get? c = some o → p2.get? c = some o := fun c o a b d e => same2'.extBut _ _ d (same1'.extBut _ _ b (same0.extBut _ _ a e))
  have at1 : St1 (i + 1) p2 := D1.over sn1 same2' S.sep2_1
  refine wpAny_pure ⟨_, rfl, ?_⟩
  show Q (.ref p2.objs.size) _
  have pair : IsTupOf2 (p2.push { cls := .type "tuple", data := .seq #[x1, x2] }) p2.objs.size x1 x2 := Heap.get?_push_size _ rfl
  have size3 : (p2.push { cls := .type "tuple", data := .seq #[x1, x2] }).objs.size = p2.objs.size + 1 := Heap.size_push ..
  rw [size2] at pair size3 ⊢
  exact hQ x1 x2 _ tk2 hx1 hx2 (Heap.get?_push_of_some _ z2) (D1.frame _ _ _ at1 fun _ _ _ e => Heap.get?_push_of_some _ e) (D2.frame _ _ _ sn2 fun _ _ _ e => Heap.get?_push_of_some _ e) pair size3 fun c o a b d e => Heap.get?_push_of_some _ (kept c o a b d e)
theorem zk_over {T : Addr} {f : Bool} {oT : Obj} {Q : Fin → Shared → Prop} (S : ZipSep2 z TI TO i1 i2 fp1 fp2) (D1 : Draws prog w A i1 fp1 n1 P1 St1) (D2 : Draws prog w A i2 fp2 n2 P2 St2)
    (hz : IsZipHeld s.heap z TI TO T f) (hT : s.heap.get? T = some oT) (hTI : IsTupOf2 s.heap TI (.ref i1) (.ref i2)) (st1 : St1 i s.heap) (st2 : St2 i s.heap) (b1 : i ≤ n1) (b2 : i ≤ n2) (hend : i = n1 ∨ i = n2)
    (hE : ∀ h' tk e, (∀ c o, c ≠ z → c ≠ i1 → c ≠ i2 → s.heap.get? c = some o → h'.get? c = some o) → (∃ o, h'.get? e = some o ∧ o.cls = .type "StopIteration") → E (.ref e) { s with heap := h', toks := tk }) :
    wpAny (model prog w) A (Builtin.«zip.__next__» ⟨[.ref z], []⟩) Q E s := by
  show wpAny _ _ (field (.ref z) 2 >>= _) _ _ s
  refine wpAny_bind (wpAny_field (x := .bool false) hz rfl rfl ?_)
  show wpAny _ _ (field (.ref z) 3 >>= _) _ _ s
  refine wpAny_bind (wpAny_field (x := .ref TI) hz rfl rfl ?_)
  refine wpAny_bind (wpAny_seqItems (n := 0) hTI rfl ?_)
  show wpAny _ _ (Builtin.SmallTypes.ownedTupleIsFree (.ref z) >>= _) _ _ s
  refine wpAny_bind (wpAny_tupleHeld_zip hz hT fun g0 z0 same0 => ?_)
  rw [if_neg (by decide)]
  refine wpAny_bind ?_
  rw [← Array.forIn_toList]
  simp only [List.forIn_cons, List.forIn_nil]
  refine wpAny_bind (wpAny_bind (wpAny_holding ?_))
  show wpAny _ _ (Builtin.SmallTypes.nextOf (.ref i1) >>= _) _ _ { s with heap := g0 }
  by_cases l1 : i < n1
  · refine wpAny_bind (D1.item i _ _ _ l1 (D1.over st1 same0 S.zf1) fun x1 p1 tk1 hx1 sn1 same1 => wpAny_pure (wpAny_pure ?_))
    have same1' : Heap.SameBut i1 g0 p1 := same1
    have e2 : i = n2 := by omega
    refine wpAny_bind (wpAny_bind (wpAny_holding ?_))
    show wpAny _ _ (Builtin.SmallTypes.nextOf (.ref i2) >>= _) _ _ { s with heap := p1, toks := tk1 }
    refine wpAny_bind (D2.done _ _ _ (by rw [← e2]; exact D2.over (D2.over st2 same0 S.zf2) same1' S.sep1_2) fun q e hq he => ?_)
    exact hE q tk1 e (fun c o a b d x => hq _ _ d (same1'.extBut _ _ b (same0.extBut _ _ a x))) he
  · have e1 : i = n1 := by omega
    refine wpAny_bind (D1.done _ _ _ (by rw [← e1]; exact D1.over st1 same0 S.zf1) fun q e hq he => ?_)
    exact hE q _ e (fun c o a b d x => hq _ _ b (same0.extBut _ _ a x)) he
end
section
variable {prog : Program} {w : World} {A : Around} {E : Value → Shared → Prop} {s : Shared} {z TI TO i1 i2 : Addr} {fp1 fp2 : List Addr} {n1 n2 i : Nat} {P1 P2 : Nat → Value → Prop} {St1 St2 : Nat → Heap → Prop}
theorem zk_item {Q : Option Value → Shared → Prop} (S : ZipSep2 z TI TO i1 i2 fp1 fp2) (D1 : Draws prog w A.in1 i1 fp1 n1 P1 St1) (D2 : Draws prog w A.in1 i2 fp2 n2 P2 St2) (zs : ZSt s.heap z TI TO i1 i2) (hTI : IsTupOf2 s.heap TI (.ref i1) (.ref i2))
    (st1 : St1 i s.heap) (st2 : St2 i s.heap) (l1 : i < n1) (l2 : i < n2)
    (hQ : ∀ x1 x2 h' tk, P1 i x1 → P2 i x2 → ZSt h' z TI TO i1 i2 → IsTupOf2 h' TI (.ref i1) (.ref i2) → St1 (i + 1) h' → St2 (i + 1) h' → IsTupOf2 h' s.heap.objs.size x1 x2 →
      (∀ c o, c ∉ [z, TO, i1, i2] → s.heap.get? c = some o → h'.get? c = some o) → Q (some (.ref s.heap.objs.size)) { s with heap := h', toks := tk }) : wpAny (model prog w) A (pyNext (.ref z)) Q E s := by
  have new : ∀ {c o}, s.heap.get? c = some o → s.heap.objs.size ≠ c := fun e => Nat.ne_of_gt (Heap.lt_size e)
  have m1 : s.heap.objs.size ≠ i1 := by obtain ⟨_, e⟩ := D1.live _ _ st1; exact new e
  have m2 : s.heap.objs.size ≠ i2 := by obtain ⟨_, e⟩ := D2.live _ _ st2; exact new e
  rcases zs with ⟨hz, a, b, hTO⟩ | ⟨T, f, oT, hz, hT, na, oO, hO⟩
  · refine wpAny_pyNext_zipD2_item S D1 D2 hz hTI hTO st1 st2 l1 l2 fun x1 x2 h' tk y1 y2 k1 k2 d1 d2 k5 _ hk => ?_
    refine hQ x1 x2 h' tk y1 y2 (.inr ⟨s.heap.objs.size, false, _, k1, k5, ?_, _, k2⟩) (hk _ _ S.TIz S.TITO S.TIi1 S.TIi2 hTI) d1 d2 k5 fun c o hc e => hk c o (fun x => hc (by simp [x])) (fun x => hc (by simp [x])) (fun x => hc (by simp [x])) (fun x => hc (by simp [x])) e
    have m3 := new hz
    have m4 := new hTO
    simp [m1, m2, m3, m4]
  · have ty : s.TypeIs (.ref z) "zip" := ⟨_, hz, rfl⟩
    have n4 : T ≠ z ∧ T ≠ TO ∧ T ≠ i1 ∧ T ≠ i2 := by simpa using na
    unfold pyNext
    refine wpAny_bind (wpAny_attempt (wpAny_callSpecial?_slot (name := Str.ofString "__next__") ty F.slot_zip_next (wpAny_call_entry F.slot_zip_next ty F.entry_zip_next ?_ (F.args_zip_next_1 _))))
    refine zk_body S D1 D2 hz hT hTI st1 st2 l1 l2 fun x1 x2 h' tk y1 y2 k1 d1 d2 k5 _ hk => wpAny_pure ?_
    exact hQ x1 x2 h' tk y1 y2 (.inr ⟨T, true, oT, k1, hk _ _ n4.1 n4.2.2.1 n4.2.2.2 hT, na, oO, hk _ _ S.TOz (fun x => S.Tf1 (by rw [x]; exact S.mem1)) (fun x => S.Tf2 (by rw [x]; exact S.mem2)) hO⟩) (hk _ _ S.TIz S.TIi1 S.TIi2 hTI) d1 d2 k5 fun c o hc e => hk c o (fun x => hc (by simp [x])) (fun x => hc (by simp [x])) (fun x => hc (by simp [x])) e
theorem zk_end {Q : Option Value → Shared → Prop} (S : ZipSep2 z TI TO i1 i2 fp1 fp2) (D1 : Draws prog w A.in1 i1 fp1 n1 P1 St1) (D2 : Draws prog w A.in1 i2 fp2 n2 P2 St2) (zs : ZSt s.heap z TI TO i1 i2) (hTI : IsTupOf2 s.heap TI (.ref i1) (.ref i2))
    (st1 : St1 i s.heap) (st2 : St2 i s.heap) (b1 : i ≤ n1) (b2 : i ≤ n2) (hend : i = n1 ∨ i = n2) (hQ : ∀ h' tk, (∀ c o, c ∉ [z, TO, i1, i2] → s.heap.get? c = some o → h'.get? c = some o) → Q none { s with heap := h', toks := tk }) : wpAny (model prog w) A (pyNext (.ref z)) Q E s := by
  rcases zs with ⟨hz, a, b, hTO⟩ | ⟨T, f, oT, hz, hT, na, oO, hO⟩
  · exact wpAny_pyNext_zipD2_end S D1 D2 hz hTI hTO st1 st2 b1 b2 hend fun h' tk hk => hQ h' tk fun c o hc e => hk c o (fun x => hc (by simp [x])) (fun x => hc (by simp [x])) (fun x => hc (by simp [x])) (fun x => hc (by simp [x])) e
  · have ty : s.TypeIs (.ref z) "zip" := ⟨_, hz, rfl⟩
    unfold pyNext
    refine wpAny_bind (wpAny_attempt (wpAny_callSpecial?_slot (name := Str.ofString "__next__") ty F.slot_zip_next (wpAny_call_entry F.slot_zip_next ty F.entry_zip_next ?_ (F.args_zip_next_1 _))))
    refine zk_over S D1 D2 hz hT hTI st1 st2 b1 b2 hend fun h' tk e hk he => ?_
    obtain ⟨o, ho, hc⟩ := he
    refine wpAny_bind (wpAny_isInstance (T := "StopIteration") (b := true) ⟨o, ho, hc⟩ isSubtype_stop (wpAny_pure ?_))
    exact hQ h' tk fun c o hc e => hk c o (fun x => hc (by simp [x])) (fun x => hc (by simp [x])) (fun x => hc (by simp [x])) e
end
end Rg
set_option Elab.async false
set_option linter.all false
set_option maxRecDepth 100000
set_option maxHeartbeats 4000000
namespace Rg
open PySem PySem.Spec PyProof.Rows L2
theorem zip_no_len : typeLookup (.type "zip") "__len__" = pure none := by rw [typeLookup_type, builtinLookup_eq_fast]; kernel_rfl
theorem zip_no_hint : typeLookup (.type "zip") "__length_hint__" = pure none := by rw [typeLookup_type, builtinLookup_eq_fast]; kernel_rfl
structure ZAcc (H0 H : Hp) (S : Addr) (vals : Nat → List V) (i : Nat) : Prop where
  ex : ∃ Ts : List Addr, H S = some (.lst (Ts.map V.ref)) ∧ Ts.length = i ∧ ∀ j T, Ts[j]? = some T → H T = some (.tup (vals j)) ∧ T ≠ S ∧ H0 T = none
  same : Same H0 H
section
variable {X : Cx} {pins : List (Addr × Obj)} {σ : L2.St}
theorem ZAcc.step {H0 H : Hp} {S T : Addr} {vals : Nat → List V} {i : Nat} {Ts : List Addr} (h0 : H0 S = none) (hs : Same H0 H) (hS : H S = some (.lst (Ts.map V.ref))) (hl : Ts.length = i) (ha : ∀ j T, Ts[j]? = some T → H T = some (.tup (vals j)) ∧ T ≠ S ∧ H0 T = none) (hT : H T = none) :
    ZAcc H0 (upd (upd H T (.tup (vals i))) S (.lst ((Ts ++ [T]).map V.ref))) S vals (i + 1) := by
  have ne : T ≠ S := fun e => by rw [e, hS] at hT; cases hT
  refine ⟨⟨Ts ++ [T], upd_same, by rw [List.length_append, hl]; rfl, fun j U hj => ?_⟩, fun a o e => ?_⟩
  · by_cases hjl : j < Ts.length
    · rw [List.getElem?_append_left hjl] at hj
      obtain ⟨k1, k2, k3⟩ := ha j U hj
      have : U ≠ T := fun e => by rw [e, hT] at k1; cases k1
      exact ⟨by rw [upd_ne k2, upd_ne this]; exact k1, k2, k3⟩
    · rw [List.getElem?_append_right (by omega)] at hj
      have ej : j - Ts.length = 0 := by
        by_cases h : j - Ts.length = 0
        · exact h
        · rw [List.getElem?_eq_none (by simp; omega)] at hj; cases hj
      rw [ej] at hj
      cases hj
      have : j = i := by omega
      subst this
      refine ⟨by rw [upd_ne ne, upd_same], ne, ?_⟩
      cases e0 : H0 T with
      | none => rfl
      | some o => rw [hs T o e0] at hT; cases hT
  · have n1 : a ≠ S := ne_of_none e h0
    have q := hs a o e
    have n2 : a ≠ T := fun z => by rw [z, hT] at q; cases q
    rw [upd_ne n1, upd_ne n2]
    exact q
theorem zl_loop {A : Around} {R : Result → Shared → Prop} {b1 b2 : Bool} {a1 a2 z TI TO i1 i2 S : Addr} {xs ys : List V} {its1 its2 : List Value} {H0 : Hp} (hA : A.handled = none) (sep : ZipSep2 z TI TO i1 i2 [i1, a1] [i2, a2]) (q1 : a1 ≠ i1) (q2 : a2 ≠ i2)
    (h0 : H0 S = none) (rv1 : Vals xs its1) (rv2 : Vals ys its2) (hn : min xs.length ys.length ≤ sizeLine) (hS1 : S ∉ [z, TO, i1, i2]) (hSa : S ≠ a1 ∧ S ≠ a2 ∧ S ≠ TI)
    (hR : ∀ s' H', L2.Inv X pins σ H' s' → ZAcc H0 H' S (fun i => [xs.getD i .non, ys.getD i .non]) (min xs.length ys.length) → R (.ok (.ret .none)) s') :
    ∀ (k i : Nat) (s : Shared) (H : Hp), min xs.length ys.length - i = k → i ≤ min xs.length ys.length → L2.Inv X pins σ H s → ZSt s.heap z TI TO i1 i2 → IsTupOf2 s.heap TI (.ref i1) (.ref i2) →
      (AIt b1 s.heap i1 a1 i ∧ AIs b1 s.heap a1 its1.toArray) → (AIt b2 s.heap i2 a2 i ∧ AIs b2 s.heap a2 its2.toArray) → (∀ b ∈ [z, TO, i1, i2], FpOk X pins H b) → ZAcc H0 H S (fun i => [xs.getD i .non, ys.getD i .non]) i →
      codeAny (model X.prog X.w) A (.builtin "list.extend.loop" ⟨[.ref S, .ref z, .none], []⟩) R s := by
  have D1 := draws_A (prog := X.prog) (w := X.w) (A := A.in1.in1) (by simp [hA]) b1 i1 a1 q1 its1.toArray
  have D2 := draws_A (prog := X.prog) (w := X.w) (A := A.in1.in1) (by simp [hA]) b2 i2 a2 q2 its2.toArray
  have len1 : its1.toArray.size = xs.length := by rw [List.size_toArray, rv1.length]
  have len2 : its2.toArray.size = ys.length := by rw [List.size_toArray, rv2.length]
  rw [len1] at D1
  rw [len2] at D2
  intro k
  induction k with
  | zero =>
    intro i s H hk hi I zs hTI st1 st2 hf acc
    have hin : i = min xs.length ys.length := by omega
    refine codeAny_builtin F.entry_extend_loop ?_
    rw [Around.under_plainId F.plain_extend_loop _]
    show wpAny _ A.in1 (pyNext (.ref z) >>= _) _ _ s
    refine wpAny_bind (zk_end sep D1 D2 zs hTI st1 st2 (by omega) (by omega) (by omega) fun h' tk hk => wpAny_pure ?_)
    refine hR _ H (I.turnedL (t' := tk) (ch := [z, TO, i1, i2]) hk hf) ?_
    rw [← hin]
    exact acc
  | succ k ih =>
    intro i s H hk hi I zs hTI st1 st2 hf acc
    refine codeAny_builtin F.entry_extend_loop ?_
    rw [Around.under_plainId F.plain_extend_loop _]
    show wpAny _ A.in1 (pyNext (.ref z) >>= _) _ _ s
    refine wpAny_bind (zk_item sep D1 D2 zs hTI st1 st2 (by omega) (by omega) fun x1 x2 h' tk y1 y2 zs' hTI' st1' st2' pair keep => ?_)
    obtain ⟨Ts, k1, k2, k3⟩ := acc.ex
    have y1' : its1[i]? = some x1 := by simpa using y1
    have y2' : its2[i]? = some x2 := by simpa using y2
    obtain ⟨u, hu, ru⟩ := rv1.get (i := i) (x := xs.getD i .non) (by simp [show i < xs.length by omega])
    obtain ⟨v, hv, rv⟩ := rv2.get (i := i) (x := ys.getD i .non) (by simp [show i < ys.length by omega])
    rw [y1'] at hu
    rw [y2'] at hv
    cases hu
    cases hv
    have new : ObjOk X.prog X.w (upd H s.heap.objs.size (.tup [xs.getD i .non, ys.getD i .non])) h' s.heap.objs.size (.tup [xs.getD i .non, ys.getD i .non]) :=
      ⟨by show 2 ≤ sizeLine; rw [sizeLine_eq]; decide, [x1, x2], .cons ru (.cons rv .nil), ⟨_, pair, rfl, 0, rfl⟩⟩
    have I1 := I.turnedNew (t' := tk) (ch := [z, TO, i1, i2]) keep hf (Nat.le_refl _) new
    have hT : H s.heap.objs.size = none := I.hok.fresh (Nat.le_refl _)
    have neS : S ≠ s.heap.objs.size := fun e => by rw [e, hT] at k1; cases k1
    have k1' : upd H s.heap.objs.size (.tup [xs.getD i .non, ys.getD i .non]) S = some (.lst (Ts.map V.ref)) := by rw [upd_ne neS]; exact k1
    obtain ⟨w1, its, nn, r, hl, e⟩ := I1.lstM k1'
    have hl2 : its.length = i := by rw [← hl, List.length_map]; exact k2
    have rT : Vals [V.ref s.heap.objs.size] [Value.ref s.heap.objs.size] := .cons rfl .nil
    have up := I1.lset (its' := its ++ [.ref s.heap.objs.size]) (f := fun q => q.push (.ref s.heap.objs.size)) (t' := tk) k1' e (by simp) (r.append rT) (by rw [List.length_append, List.length_map, List.length_singleton]; omega)
    show wpAny _ A.in1 (updateSeq S (·.push (.ref s.heap.objs.size)) >>= _) _ _ _
    refine wpAny_bind ?_
    have oth : ∀ b o, b ≠ S → h'.get? b = some o → (h'.update S (Obj.mapSeq fun q => q.push (.ref s.heap.objs.size))).get? b = some o := fun b o hb x => (Heap.get?_update_other _ _ (Ne.symm hb)).trans x
    have hS2 : S ≠ z ∧ S ≠ TO ∧ S ≠ i1 ∧ S ≠ i2 := by simpa using hS1
    have st1'' : AIt b1 h' i1 a1 (i + 1) ∧ AIs b1 h' a1 its1.toArray := st1'
    have st2'' : AIt b2 h' i2 a2 (i + 1) ∧ AIs b2 h' a2 its2.toArray := st2'
    refine wpAny_updateSeq e rfl (wpAny_pure ⟨plainId_quiet F.plain_extend_loop _, ih (i + 1) _ _ (by omega) (by omega) up ?_ (oth _ _ (Ne.symm hSa.2.2) hTI') ?_ ?_ (fun b hb => ?_) ?_⟩) (by rw [List.size_toArray]; omega) (by rw [Array.size_push, List.size_toArray]; omega)
    · rcases zs' with ⟨p1, u, v, p2⟩ | ⟨T, f, oT, p1, p2, p3, oO, p4⟩
      · exact .inl ⟨oth _ _ (Ne.symm hS2.1) p1, u, v, oth _ _ (Ne.symm hS2.2.1) p2⟩
      · refine .inr ⟨T, f, ?_⟩
        by_cases eT : T = S
        · subst eT
          rw [e] at p2
          exact ⟨_, oth _ _ (Ne.symm hS2.1) p1, (PySem.IsL.update e fun q => q.push (.ref s.heap.objs.size)), p3, oO, oth _ _ (Ne.symm hS2.2.1) p4⟩
        · exact ⟨oT, oth _ _ (Ne.symm hS2.1) p1, oth _ _ eT p2, p3, oO, oth _ _ (Ne.symm hS2.2.1) p4⟩
    · exact ⟨st1''.1.at fun o x => oth _ _ (Ne.symm hS2.2.2.1) x, st1''.2.at fun o x => oth _ _ (Ne.symm hSa.1) x⟩
    · exact ⟨st2''.1.at fun o x => oth _ _ (Ne.symm hS2.2.2.2) x, st2''.2.at fun o x => oth _ _ (Ne.symm hSa.2.1) x⟩
    · have q := hf b hb
      have nb : b ≠ S := fun x => hS1 (x ▸ hb)
      refine ⟨?_, q.2⟩
      rw [upd_ne nb]
      by_cases eb : b = s.heap.objs.size
      · exfalso
        obtain ⟨o, ho⟩ : ∃ o, s.heap.get? b = some o := by
          have e' : b = z ∨ b = TO ∨ b = i1 ∨ b = i2 := by simpa using hb
          rcases e' with x | x | x | x
          · rw [x]
            rcases zs with ⟨p1, _⟩ | ⟨_, _, _, p1, _⟩ <;> exact ⟨_, p1⟩
          · rw [x]
            rcases zs with ⟨_, _, _, p2⟩ | ⟨_, _, _, _, _, _, oO, p2⟩ <;> exact ⟨_, p2⟩
          · rw [x]; exact D1.live _ _ st1
          · rw [x]; exact D2.live _ _ st2
        exact absurd (Heap.lt_size ho) (by rw [eb]; exact Nat.lt_irrefl _)
      · rw [upd_ne eb]
        exact q.1
    · have := ZAcc.step (vals := fun i => [xs.getD i .non, ys.getD i .non]) h0 acc.same k1 k2 k3 hT
      rw [List.map_append] at this
      exact this
end
end Rg
set_option Elab.async false
set_option linter.all false
set_option maxRecDepth 100000
set_option maxHeartbeats 4000000
namespace Rg
open PySem PySem.Spec PyProof.Rows L2
section
variable {X : Cx} {T : Tab} {Wx : WX} {phi : Nat → Fn}
theorem call_lz {b1 b2 : Bool} {a1 a2 z TI TO i1 i2 : Addr} {xs ys : List V} {its1 its2 : List Value} {pins : List (Addr × Obj)} {σ : L2.St} {H : Hp} {s : Shared} {Q : VK} (hc : X.A.handled = none) (I : L2.Inv X pins σ H s) (sep : ZipSep2 z TI TO i1 i2 [i1, a1] [i2, a2]) (q1 : a1 ≠ i1) (q2 : a2 ≠ i2)
    (rv1 : Vals xs its1) (rv2 : Vals ys its2) (hn : min xs.length ys.length ≤ sizeLine) (hz : IsZip s.heap z TI TO .none) (hTI : IsTupOf2 s.heap TI (.ref i1) (.ref i2)) (hTO : IsTupOf2 s.heap TO .none .none)
    (st1 : AIt b1 s.heap i1 a1 0 ∧ AIs b1 s.heap a1 its1.toArray) (st2 : AIt b2 s.heap i2 a2 0 ∧ AIs b2 s.heap a2 its2.toArray) (hf : ∀ b ∈ [z, TO, i1, i2], FpOk X pins H b)
    (hQ : ∀ S H', H S = none → ZAcc H H' S (fun i => [xs.getD i .non, ys.getD i .non]) (min xs.length ys.length) → Q (.ref S) H') :
    wpAny (model X.prog X.w) X.A (call (.type "list") [.ref z]) (EP X pins σ Q) X.xe s := by
  have hS : (s.heap.push { cls := .type "list", data := .seq #[] }).get? s.heap.objs.size = some { cls := .type "list", data := .seq #[] } := Heap.get?_push_size _ rfl
  have lt : ∀ {b o}, s.heap.get? b = some o → b ≠ s.heap.objs.size := fun e => Nat.ne_of_lt (Heap.lt_size e)
  have up : ∀ {b o}, s.heap.get? b = some o → (s.heap.push { cls := .type "list", data := .seq #[] }).get? b = some o := fun e => Heap.get?_push_of_some _ e
  have I1 : L2.Inv X pins σ (upd H s.heap.objs.size (.lst [])) { s with heap := s.heap.push { cls := .type "list", data := .seq #[] } } := I.lnew (t' := s.toks) (its := []) .nil (Nat.zero_le _)
  have hS0 : H s.heap.objs.size = none := I.hok.fresh (Nat.le_refl _)
  refine callType_codes (Q₁ := fun obj s₁ => obj = .ref s.heap.objs.size ∧ s₁ = { s with heap := s.heap.push { cls := .type "list", data := .seq #[] } }) F.called_list (F.typeCall_list_1 _) F.entry_list_init (code_list_new _ ⟨rfl, rfl⟩) fun obj s₁ hb => ?_
  obtain ⟨rfl, rfl⟩ := hb
  refine ⟨⟨_, hS, rfl⟩, F.args_list_init_2 _ _, ?_⟩
  show wpAny _ X.A.in1.in1 (do let old ← Builtin.List.listItems (.ref s.heap.objs.size); Builtin.List.listUpdate (.ref s.heap.objs.size) (fun _ => #[]); letGo old.toList.reverse; Builtin.List.listExtendWith (.ref s.heap.objs.size) (.ref z) .none) _ _ _
  refine wpAny_bind ?_
  unfold Builtin.List.listItems
  refine wpAny_bind (wpAny_seqItems (n := 0) hS rfl (wpAny_pure ?_))
  show wpAny _ X.A.in1.in1 (updateSeq s.heap.objs.size (fun _ => #[]) >>= fun _ => letGo (#[] : Array Value).toList.reverse >>= fun _ => Builtin.List.listExtendWith (.ref s.heap.objs.size) (.ref z) .none) _ _ _
  refine wpAny_bind (wpAny_updateSeq hS rfl ?_)
  refine wpAny_bind (wpAny_letGo ?_)
  have I2 := I1.lset (xs := []) (ys := []) (its := []) (its' := []) (f := fun _ => #[]) (t' := s.toks) upd_same hS rfl .nil (Nat.zero_le _)
  have oth : ∀ {b o}, s.heap.get? b = some o → ((s.heap.push { cls := .type "list", data := .seq #[] }).update s.heap.objs.size (Obj.mapSeq fun _ => #[])).get? b = some o := fun e => (Heap.get?_update_other _ _ (Ne.symm (lt e))).trans (up e)
  have hz2 := oth hz
  have ty : ∀ {h : Heap} {tk}, IsZip h z TI TO .none → Shared.TypeIs { s with heap := h, toks := tk } (.ref z) "zip" := fun e => ⟨_, e, rfl⟩
  unfold Builtin.List.listExtendWith
  refine wpAny_bind (wpAny_typeOf (ty hz2) ?_)
  have e1 : Builtin.List.listSameRef (.ref s.heap.objs.size) (.ref z) = false := by
    have := lt hz
    simp [Builtin.List.listSameRef, Ne.symm this]
  have e2 : (Value.type "zip" == Value.type "list") = false := by decide
  have e3 : (Value.type "zip" == Value.type "tuple") = false := by decide
  simp only [e1, e2, e3, Bool.or_false, Bool.false_eq_true, if_false]
  refine wpAny_bind (wpAny_pyIter_zip hz2 ?_)
  refine wpAny_bind (wpAny_holding ?_)
  unfold Builtin.List.listLengthHint
  refine wpAny_bind (wpAny_specialOf (ty hz2) zip_no_len ?_)
  show wpAny _ X.A.in1.in1 (specialOf (Value.ref z) (Str.ofString "__length_hint__") >>= _) _ _ _
  refine wpAny_bind (wpAny_specialOf (ty hz2) zip_no_hint ?_)
  refine wpAny_pure ?_
  show wpAny _ X.A.in1.in1 (rule "list.extend.makes-room" >>= fun _ => Builtin.List.listTouch (.ref s.heap.objs.size) >>= fun _ => again (.builtin "list.extend.loop" ⟨[.ref s.heap.objs.size, .ref z, .none], []⟩)) _ _ _
  refine wpAny_bind (wpAny_rule (wpAny_bind ?_))
  show wpAny _ X.A.in1.in1 (updateSeq s.heap.objs.size (·.push .none) >>= fun _ => updateSeq s.heap.objs.size (·.pop)) _ _ _
  have g2 := Heap.get?_update_self (Obj.mapSeq (fun _ => (#[] : Array Value))) hS rfl
  refine wpAny_bind (wpAny_updateSeq g2 rfl ?_)
  have g3 := Heap.get?_update_self (Obj.mapSeq (·.push Value.none)) g2 rfl
  refine wpAny_updateSeq (hz := by seq_fits) g3 rfl ?_
  have g4 := Heap.get?_update_self (Obj.mapSeq (·.pop)) g3 rfl
  have keep : ∀ b o, s.heap.get? b = some o → ((((s.heap.push { cls := .type "list", data := .seq #[] }).update s.heap.objs.size (Obj.mapSeq fun _ => (#[] : Array Value))).update s.heap.objs.size (Obj.mapSeq (·.push Value.none))).update s.heap.objs.size (Obj.mapSeq (·.pop))).get? b = some o := fun b o e =>
    (Heap.get?_update_other _ _ (Ne.symm (lt e))).trans ((Heap.get?_update_other _ _ (Ne.symm (lt e))).trans (oth e))
  have I4 : L2.Inv X pins σ (upd H s.heap.objs.size (.lst [])) { s with heap := ((((s.heap.push { cls := .type "list", data := .seq #[] }).update s.heap.objs.size (Obj.mapSeq fun _ => (#[] : Array Value))).update s.heap.objs.size (Obj.mapSeq (·.push Value.none))).update s.heap.objs.size (Obj.mapSeq (·.pop))), toks := s.toks } :=
    I.laid keep (Nat.le_refl _) ⟨Nat.zero_le _, [], _, .nil, g4⟩
  obtain ⟨o1, h1⟩ := st1.1.obj
  obtain ⟨o2, h2⟩ := st2.1.obj
  have l1 := st1.2.lt
  have l2 := st2.2.lt
  refine wpAny_pure ⟨plainId_quiet F.plain_extend_loop _, zl_loop (A := X.A.in1) (H0 := H) (S := s.heap.objs.size) (by simp [hc]) sep q1 q2 hS0 rv1 rv2 hn ?_ ⟨Nat.ne_of_gt l1, Nat.ne_of_gt l2, Ne.symm (lt hTI)⟩ (fun s' H' I' acc => ?_) _ 0 _ _ rfl (Nat.zero_le _) I4 (.inl ⟨keep _ _ hz, _, _, keep _ _ hTO⟩) (keep _ _ hTI)
    ⟨st1.1.at fun o e => keep _ _ e, st1.2.at fun o e => keep _ _ e⟩ ⟨st2.1.at fun o e => keep _ _ e, st2.2.at fun o e => keep _ _ e⟩ (fun b hb => ?_) ⟨⟨[], upd_same, rfl, fun j T e => by cases e⟩, same_new hS0⟩⟩
  · have m1 := lt hz
    have m2 := lt hTO
    have m3 := lt h1.1
    have m4 := lt h2.1
    simp [Ne.symm m1, Ne.symm m2, Ne.symm m3, Ne.symm m4]
  · exact ⟨rfl, .ref s.heap.objs.size, H', I', rfl, hQ _ H' hS0 acc⟩
  · have q := hf b hb
    refine ⟨?_, q.2⟩
    have nb : b ≠ s.heap.objs.size := by
      have e' : b = z ∨ b = TO ∨ b = i1 ∨ b = i2 := by simpa using hb
      rcases e' with x | x | x | x <;> rw [x]
      · exact lt hz
      · exact lt hTO
      · exact lt h1.1
      · exact lt h2.1
    rw [upd_ne nb]
    exact q.1
theorem wl_length {hr : AS} {ow : Ow} {H : Hp} {ws : List W} {vs : List V} (h : WL T hr ow H ws vs) : ws.length = vs.length := by
  induction h with
  | nil => rfl
  | cons _ _ ih => rw [List.length_cons, List.length_cons, ih]
theorem es_two {a b : E} {σ : L2.St} {H : Hp} {Q : List V → Hp → Prop} (h : tIs T Wx ((Es.cons a (.cons b .nil)).den phi) σ H Q) : tIs T Wx ((Es.cons a (.cons b .nil)).den phi) σ H fun vs H1 => vs.length = 2 ∧ Q vs H1 := by
  obtain ⟨hr, ow, env, S, R, p⟩ := h
  refine ⟨hr, ow, env, S, R, ?_⟩
  cases k : (Es.cons a (.cons b .nil)).den phi env S with
  | ok ws S1 =>
    rw [k] at p
    have e : ws.length = 2 := by
      simp only [Es.den] at k
      cases ka : a.den phi env S with
      | ok x S2 =>
        rw [ka, Res.bind_ok] at k
        cases kb : b.den phi env S2 with
        | ok y S3 => rw [kb] at k; cases k; rfl
        | ex _ _ => rw [kb] at k; cases k
        | bad => rw [kb] at k; cases k
      | ex _ _ => rw [ka] at k; cases k
      | bad => rw [ka] at k; cases k
    exact fun v ow' H' g s r q => ⟨by rw [← e]; exact (wl_length q).symm, p v ow' H' g s r q⟩
  | ex x S1 => rw [k] at p; exact p
  | bad => rw [k] at p; exact p
theorem rpL_of {H : Hp} : ∀ {ds : List D} {vs : List V}, ds.length = vs.length → (∀ (i : Nat) (d : D) (v : V), ds[i]? = some d → vs[i]? = some v → Rp T H d v) → RpL T H ds vs
  | [], [], _, _ => .nil
  | [], _ :: _, e, _ => by cases e
  | _ :: _, [], e, _ => by cases e
  | d :: ds, v :: vs, e, h => .cons (h 0 d v rfl rfl) (rpL_of (by simpa using e) fun i a b x y => h (i + 1) a b x y)
theorem lz_rp {l : AS} {H1 H' : Hp} {S : Addr} {ds1 ds2 : List D} {v1 v2 : List V} (t : ∀ a, l a → H1 a ≠ none) (r1 : RpL T (hide l H1) ds1 v1) (r2 : RpL T (hide l H1) ds2 v2) (acc : ZAcc H1 H' S (fun i => [v1.getD i .non, v2.getD i .non]) (min v1.length v2.length)) (hS : H1 S = none) :
    Rp T (hide l H') (.lst (zip2D ds1 ds2)) (.ref S) := by
  obtain ⟨Ts, k1, k2, k3⟩ := acc.ex
  have vis : ∀ {a o}, H1 a = none → H' a = some o → hide l H' a = some o := fun {a o} h e => by rw [hide_out fun z => t a z h]; exact e
  have ex := (hide_mono (l := l) (Same.stp acc.same)).ext
  refine .lst (.inl (vis hS k1)) (rpL_of ?_ fun i d v hd hv => ?_)
  · unfold zip2D
    rw [List.length_map, List.length_zip, List.length_map, k2, r1.length, r2.length]
  · unfold zip2D at hd
    rw [List.getElem?_map] at hd
    rw [List.getElem?_map] at hv
    cases hT : Ts[i]? with
    | none => rw [hT] at hv; cases hv
    | some U =>
      rw [hT] at hv
      cases hv
      cases hz : (ds1.zip ds2)[i]? with
      | none => rw [hz] at hd; cases hd
      | some p =>
        rw [hz] at hd
        cases hd
        obtain ⟨d1, d2⟩ := p
        obtain ⟨g1, g2⟩ := List.getElem?_zip_eq_some.mp hz
        obtain ⟨m1, m2, m3⟩ := k3 i U hT
        obtain ⟨u1, f1, f2⟩ := r1.get g1
        obtain ⟨u2, f3, f4⟩ := r2.get g2
        refine .tup0 (vis m3 m1) (.cons ?_ (.cons ?_ .nil))
        · rw [List.getD_eq_getElem?_getD, f1]
          exact f2.mono ex
        · rw [List.getD_eq_getElem?_getD, f3]
          exact f4.mono ex
end
end Rg
set_option Elab.async false
set_option linter.all false
set_option maxRecDepth 100000
set_option maxHeartbeats 4000000
namespace Rg
open PySem PySem.Spec PyProof.Rows L2
section
variable {X : Cx} {T : Tab} {Wx : WX} {phi : Nat → Fn}
theorem lz_imp {a b : E} {σ : L2.St} {H : Hp} {Q : VK} (h : tI T Wx ((E.col false (.zp (.cons a (.cons b .nil)))).den phi) σ H Q) :
    tIs T Wx ((Es.cons a (.cons b .nil)).den phi) σ H fun vs H1 => ∃ b1 a1 v1 b2 a2 v2, vs = [.ref a1, .ref a2] ∧ ASq b1 X.K H1 a1 v1 ∧ ASq b2 X.K H1 a2 v2 ∧ min v1.length v2.length ≤ sizeLine ∧
      ∀ S H', H1 S = none → ZAcc H1 H' S (fun i => [v1.getD i .non, v2.getD i .non]) (min v1.length v2.length) → Q (.ref S) H' := by
  obtain ⟨hr, ow, env, S, R, p⟩ := h
  simp only [E.den, It.den] at p
  have p' : Post T (WR T) hr ow env σ H (((Es.cons a (.cons b .nil)).den phi env S).bind fun xs S1 => (Res.opt (looksI false env xs) fun ds => Res.opt (seqsD ds) fun ls => Res.opt (zipD ls) fun r => (.ok r S1 : Res (List D))).bind fun ds S1 => if ds.length ≤ 16777216 then .ok (.d (if (false : Bool) = true then D.tp false ds else .lst ds)) S1 else .bad) Q Wx := by
    cases k : (Es.cons a (.cons b .nil)).den phi env S with
    | ok ws S1 => rw [k] at p; exact p
    | ex _ _ => rw [k] at p; exact p
    | bad => rw [k] at p; exact p
  refine (es_two (tG.run (Wq := WL T) R p')).mono fun vs H1 ⟨two, ow1, S1, ws, g, s, R1, wl, p1⟩ => ?_
  cases k1 : looksI false env ws with
  | none => rw [k1] at p1; exact p1.elim
  | some ds =>
    cases k2 : seqsD ds with
    | none => rw [k1] at p1; simp only [Res.opt, k2] at p1; exact p1.elim
    | some ls =>
      cases k3 : zipD ls with
      | none => rw [k1] at p1; simp only [Res.opt, k2, k3] at p1; exact p1.elim
      | some r =>
        rw [k1] at p1
        simp only [Res.opt, k2, k3, Res.bind_ok] at p1
        obtain ⟨qs, rfl, pq⟩ := looksI_st (X := X) R1 wl k1 k2
        match ls, k3, qs, pq, two with
        | [l1, l2], k3, [(b1, a1, v1), (b2, a2, v2)], .cons q1 (.cons q2 .nil), _ =>
          cases k3
          split at p1
          · rename_i hl
            refine ⟨b1, a1, v1, b2, a2, v2, rfl, q1.sq H1 _ (Ext.refl _) fun _ _ => rfl, q2.sq H1 _ (Ext.refl _) fun _ _ => rfl, ?_, fun U H' hU acc => ?_⟩
            · have e1 : l1.length = v1.length := q1.els.length
              have e2 : l2.length = v2.length := q2.els.length
              rw [zip2D, List.length_map, List.length_zip] at hl
              rw [sizeLine_eq, ← e1, ← e2]
              omega
            · exact p1.mkd R1 _ _ acc.same (lz_rp R1.track q1.els q2.els acc hU)
          · exact p1.elim
        | [l1, l2, l3], k3, [_, _, _], _, two => cases two
theorem x_lz {a b : E} {ea eb : Expr} {p0 p pos pos0 : Pos} (hc : X.calm = true) (hg : Gl X "zip") (hm : X.mg "zip" = none) (hgl : Gl X "list") (hml : X.mg "list" = none) (ha : PA X [ea, eb] (tIs T Wx ((Es.cons a (.cons b .nil)).den phi))) (hs : starEach [ea, eb] X.env = (false, eval ea X.env) :: starEach [eb] X.env)
    (hpl : (backTo pos (starEach [eb] X.env)).any (·.1) = false) : PE X (.Call (.Name "list" p0) [.Call (.Name "zip" p) [ea, eb] [] pos] [] pos0) (tI T Wx ((E.col false (.zp (.cons a (.cons b .nil)))).den phi)) := by
  refine ⟨fun pins s σ H Q I h => ?_⟩
  refine Call_ (ld_blt I hgl hml boot_list (PyProof.Rows.callWith_type1 (args_cons ?_ rfl) rfl rfl))
  refine Call_ (ld_blt I hg hm PyProof.Rows.boot_zip (PyProof.Rows.callWith_type1 (thn (ha.run pos pins s σ H _ I (lz_imp (X := X) h)) fun us s1 ⟨vs, H1, I1, r1, q1⟩ => ?_) hs hpl))
  obtain ⟨b1, a1, v1, b2, a2, v2, rfl, hq1, hq2, hn, q⟩ := q1
  obtain ⟨u1, u2, rfl, r1, r2⟩ := vals2 r1
  cases r1
  cases r2
  obtain ⟨its1, rv1, p1, _⟩ := ASq.is I1 hq1
  obtain ⟨its2, rv2, p2, _⟩ := ASq.is I1 hq2
  have l1 := p1.lt
  have l2 := p2.lt
  refine call_zipA2 b1 b2 p1 p2 fun h' hz hTI hTO w1 w2 hk => args_nil ?_
  have I2 : L2.Inv X pins σ H1 { s1 with heap := h' } := I1.kept (t' := s1.toks) hk
  have nn := z2_ne s1.heap.objs.size
  have sep : ZipSep2 (s1.heap.objs.size + 4) (s1.heap.objs.size + 2) (s1.heap.objs.size + 3) s1.heap.objs.size (s1.heap.objs.size + 1) [s1.heap.objs.size, a1] [s1.heap.objs.size + 1, a2] := by
    obtain ⟨n1, n2, n3, n4, n5, n6, n7, n8, n9, n10⟩ := nn
    have g : ∀ (k : Nat) (a : Addr), a < s1.heap.objs.size → s1.heap.objs.size + k ≠ a := fun k a h => lt_le_ne h (Nat.le_add_right _ _)
    refine ⟨n1, n2, n3, n4, by simp, ?_, ?_, n5, by simp, ?_, ?_, ?_, ?_⟩ <;> simp only [List.mem_cons, List.not_mem_nil, or_false, not_or]
    · exact ⟨n6, g 4 a1 l1⟩
    · exact ⟨n8, g 3 a1 l1⟩
    · exact ⟨n7, g 4 a2 l2⟩
    · exact ⟨n9, g 3 a2 l2⟩
    · exact ⟨n10, g 0 a2 l2⟩
    · exact ⟨Ne.symm n10, g 1 a1 l1⟩
  refine call_lz (I2.ok.hd hc) I2 sep (Nat.ne_of_lt l1) (Nat.ne_of_lt (Nat.lt_succ_of_lt l2)) rv1 rv2 hn hz hTI hTO ⟨w1, p1.at fun o e => hk _ _ e⟩ ⟨w2, p2.at fun o e => hk _ _ e⟩ (fun c hc => ?_) fun U H' hU acc => q U H' hU acc
  have hle : s1.heap.objs.size ≤ c := z2_ge _ _ (by
    have e : c = s1.heap.objs.size + 4 ∨ c = s1.heap.objs.size + 3 ∨ c = s1.heap.objs.size ∨ c = s1.heap.objs.size + 1 := by simpa using hc
    rcases e with x | x | x | x <;> simp [x])
  exact I1.fpOk hle (I1.hok.fresh hle)
end
end Rg
set_option Elab.async false
set_option linter.all false
set_option maxRecDepth 100000
set_option maxHeartbeats 4000000
namespace Rg
open PySem PySem.Spec PyProof.Rows L2
abbrev nSet (led : Bool) : Obj := { cls := .type "set", dict := none, data := .set #[] 0 (.fresh 0 0 led) }
theorem cntT_succ {xs : List Str} {i : Nat} {x : Str} (h : xs[i]? = some x) : cntT xs (i + 1) = if sawT xs i x = true then cntT xs i else cntT xs i + 1 := by
  simp only [cntT, h]
theorem cntT_le (xs : List Str) : ∀ i, cntT xs i ≤ i
  | 0 => Nat.le_refl _
  | i + 1 => by
    have := cntT_le xs i
    simp only [cntT]
    split
    · split <;> omega
    · omega
theorem sawT_succ {xs : List Str} {i : Nat} {x : Str} (h : xs[i]? = some x) (y : Str) : (sawT xs i y || decide (y = x)) = sawT xs (i + 1) y := by
  unfold sawT
  rw [List.take_add_one, h, List.any_append]
  simp only [Option.toList_some, List.any_cons, List.any_nil, Bool.or_false]
  congr 1
  by_cases e : y = x
  · simp [e]
  · have hb : (x == y) = false := beq_eq_false_iff_ne.mpr (Ne.symm e)
    rw [hb]
    simp [e]
section
variable {P : Program} {w : World} {A : Around} {E : Value → Shared → Prop} {s : Shared}
theorem loopT {I : Addr} {fp wr : List Addr} {G : Array GenState → Array GenState → Prop} {n : Nat} {Pv : Nat → Value → Prop} {St : Nat → Shared → Prop} {R : Result → Shared → Prop} (W : WalksS P w A.in1 I fp wr G n Pv St) (U : Addr) (hU : U ∉ fp) (xs : List Str) (hn : xs.length = n)
    (hb : n + 1 < scanBound) (hval : ∀ i v, Pv i v → ∃ x t, xs[i]? = some x ∧ v = .str x t) :
    ∀ (k i : Nat) (s : Shared), n - i = k → i ≤ n → St i s → s.heap.SetOf (PySem.strKind P w) U (sawT xs i) (cntT xs i) →
      (∀ s', Moved (U :: wr) G s s' → s'.heap.SetOf (PySem.strKind P w) U (sawT xs n) (cntT xs n) → R (.ok (.ret .none)) s') →
      codeAny (model P w) A (Code.builtin "set.update.loop" (Args.mk [.ref U, .ref I] [])) R s := by
  have hUw : U ∉ wr := fun z => hU (W.sub _ z)
  have hsub : ∀ b ∈ wr, b ∈ U :: wr := fun b z => List.mem_cons.mpr (.inr z)
  intro k
  induction k with
  | zero =>
    intro i s hk hi hst hS hR
    obtain rfl : i = n := by omega
    refine codeAny_builtin F.entry_set_update_loop ?_
    rw [Around.under_plainId F.plain_set_update_loop _]
    refine wpAny_bind (W.done s _ _ hst fun s' hm => ?_)
    exact wpAny_pure (hR s' (hm.mono hsub) (by
      obtain ⟨o, es, ep, t, ho, r⟩ := hS
      exact ⟨o, es, ep, t, hm.heap U _ hUw ho, r⟩))
  | succ k ih =>
    intro i s hk hi hst hS hR
    have hlt : i < n := by omega
    refine codeAny_builtin F.entry_set_update_loop ?_
    rw [Around.under_plainId F.plain_set_update_loop _]
    refine wpAny_bind (W.item i s _ _ hlt hst fun v s1 hP hst1 hm => ?_)
    obtain ⟨x, t, hx, rfl⟩ := hval i v hP
    have hS1 : s1.heap.SetOf (PySem.strKind P w) U (sawT xs i) (cntT xs i) := by
      obtain ⟨o, es, ep, tb, ho, r⟩ := hS
      exact ⟨o, es, ep, tb, hm.heap U _ hUw ho, r⟩
    show wpAny _ A.in1 (holding [Value.str x t] (setAdd U (.str x t)) >>= _) _ _ s1
    refine wpAny_bind (wpAny_holding ?_)
    unfold setAdd
    refine wpAny_holding (wpAny_bind ((PySem.strKind P w).pyHash (k := x) (strKind_is _ _ _ _) ?_))
    refine wpAny_setAddHashed_of (knd := PySem.strKind P w) (s := { s1 with toks := s1.toks + 1 }) (strKind_is _ _ _ _) rfl hS1 (by have := cntT_le xs i; omega) fun h' sb hS2 => ?_
    have hS3 : h'.SetOf (PySem.strKind P w) U (sawT xs (i + 1)) (cntT xs (i + 1)) := SetOf_congr hS2 (fun y => sawT_succ hx y) (by rw [cntT_succ hx])
    refine wpAny_pure (And.intro (plainId_quiet F.plain_set_update_loop _) (ih (i + 1) _ (by omega) hlt (W.frame _ s1 _ _ hst1 (Nat.le_succ _) fun b z o e => ?_) hS3 fun s2 hm2 hS2' => ?_))
    · rw [sb.2 b fun q : b = U => hU (by rw [← q]; exact z)]; exact e
    · refine hR s2 (Moved.trans W.gtrans ((hm.mono hsub).then_heap (Nat.le_succ _) fun b o z e => ?_) hm2) hS2'
      rw [sb.2 b fun q : b = U => z (by rw [q]; exact List.mem_cons_self)]; exact e
end
section
variable {P : Program} {w : World} {A : Around} {E : Value → Shared → Prop} {s : Shared}
set_option maxHeartbeats 3200000 in
theorem call_setT {l : Addr} {items : Array Value} {xs : List Str} {Q : Value → Shared → Prop} (hh : A.handled = none) (hl : s.heap.IsTuple l items) (hi : StrsAre items.toList xs) (hb : xs.length + 1 < scanBound)
    (h : ∀ (h' : Heap) (tk : Nat), h'.SetOf (PySem.strKind P w) s.heap.objs.size (sawT xs xs.length) (cntT xs xs.length) → (∀ b o, b < s.heap.objs.size → s.heap.get? b = some o → h'.get? b = some o) → Q (.ref s.heap.objs.size) { s with heap := h', toks := tk }) :
    wpAny (model P w) A (call (Value.type "set") [Value.ref l]) Q E s := by
  have F1 := PySem.F.called_set
  obtain ⟨c, tl, hmro⟩ := F1.mro
  have hmade := F1.made
  have hsub := F1.sub
  refine wpAny_call (codeAny_of_tree ?_)
  show wpAny _ _ (callAny (Value.type "set") _) _ _ _
  refine wpAny_pure (And.intro (Code.quiet_builtin _ (by decide +kernel)) (codeAny_builtin PySem.F.entry_type_call ?_))
  rw [Around.under_plain (weight_type_call_type "set" [Value.ref l] []) rfl]
  have h1 := F1.notType
  have h2 := F1.canCreate
  have hct := PySem.F.typeCall_set_1 (Value.ref l)
  repeat (any_goals (first | assumption | wp_step))
  refine codeAny_mono (code_set_new_1 (Value.ref l) (E := E) (Q₁ := fun obj s₁ => ∃ led : Bool, obj = .ref s.heap.objs.size ∧ s₁ = { s with heap := s.heap.push (nSet led) }) fun led => ⟨led, rfl, rfl⟩) fun r s₁ hr => ?_
  cases r with
  | error e => exact hr
  | ok fl =>
    cases fl with
    | ret obj =>
      obtain ⟨led, rfl, rfl⟩ := hr
      have hS : (s.heap.push (nSet led)).get? s.heap.objs.size = some (nSet led) := Heap.get?_push_size _ rfl
      have hT : Shared.TypeIs { s with heap := s.heap.push (nSet led) } (.ref s.heap.objs.size) "set" := ⟨_, hS, rfl⟩
      have hli := F1.init.lookup
      have hbi := F1.init.bind (.ref s.heap.objs.size)
      repeat (any_goals (first | assumption | wp_step))
      refine codeAny_mono (codeAny_call_builtin (R := wants (fun r s₂ => r = .none ∧ ∃ h' tk, s₂ = { s with heap := h', toks := tk } ∧ h'.SetOf (PySem.strKind P w) s.heap.objs.size (sawT xs xs.length) (cntT xs xs.length) ∧
          (∀ b o, b < s.heap.objs.size → s.heap.get? b = some o → h'.get? b = some o)) E) F1.init.plain PySem.F.entry_set_init (check_set_init_1 hT ?_)) fun r₂ s₂ hr₂ => ?_
      · obtain ⟨ol, hol, hcl, nl, hdl⟩ := hl
        obtain ⟨ocls, odict, odata, oslots⟩ := ol
        simp only at hcl hdl
        subst hcl hdl
        have hol' := Heap.get?_push_of_some (nSet led) hol
        have e1 := PySem.F.sub_tuple_set
        have e2 := PySem.F.sub_tuple_frozenset
        have e3 : (Value.type "tuple" == Value.type "dict") = false := by decide
        have hl1 : (s.heap.push (nSet led)).IsTuple l items := ⟨_, hol', rfl, nl, rfl⟩
        unfold Builtin.«set.__init__» noKeywords Builtin.Frozenset.updateFrom
        generalize hPI : pyIter = PI
        wp_walk
        subst hPI
        refine wpAny_pyIter_tuple hl1 (wpAny_bind (wpAny_runValue ?_))
        have hlS : l < s.heap.objs.size := Heap.lt_size hol
        have hh3 : A.in1.in1.in1.handled = none := by simp [hh]
        have hsz1 : (s.heap.push (nSet led)).objs.size = s.heap.objs.size + 1 := Heap.size_push _ _
        have neI : l ≠ (s.heap.push (nSet led)).objs.size := by
          rw [hsz1]
          exact Nat.ne_of_lt (Nat.lt_succ_of_lt hlS)
        have hSf : s.heap.objs.size ∉ [(s.heap.push (nSet led)).objs.size, l] := by
          rw [hsz1]
          intro z
          rcases List.mem_cons.mp z with z | z
          · exact absurd z (Nat.ne_of_lt (Nat.lt_succ_self _))
          · rw [List.mem_singleton] at z
            exact absurd z (Nat.ne_of_gt hlS)
        have hsz : xs.length = items.size := by
          rw [← StrsAre.len_eq hi, Array.length_toList]
        have hval : ∀ (i : Nat) (v : Value), items[i]? = some v → ∃ x t, xs[i]? = some x ∧ v = .str x t := fun i v hv => by
          have hlt : i < xs.length := by
            rw [hsz]
            exact (Array.getElem?_eq_some_iff.mp hv).1
          obtain ⟨t, e⟩ := SS.strs_at hi i v (by rw [Array.getElem?_toList]; exact hv)
          refine ⟨xs[i], t, List.getElem?_eq_getElem hlt, ?_⟩
          rw [e, List.getD_eq_getElem?_getD, List.getElem?_eq_getElem hlt]
          rfl
        refine loopT ((Walks.tuple hh3 _ l neI items).toS) s.heap.objs.size hSf xs hsz (by omega) hval (items.size - 0) 0 _ (by omega) (Nat.zero_le _) ⟨⟨_, Heap.get?_push_size _ rfl, rfl, rfl⟩, (hl1.push _)⟩ ?hS0 ?hR
        case hS0 =>
          exact SetOf_congr ((setObjOf_fresh (knd := PySem.strKind P w) led).setOf (Heap.get?_push_of_some _ hS) (by unfold scanBound; omega)) (fun _ => rfl) rfl
        case hR =>
          intro s3 hm hS3
          obtain ⟨h', g', d', tk', os'⟩ := s3
          obtain rfl : g' = s.gens := hm.gens
          obtain rfl : d' = s.drawn := hm.drawn
          obtain rfl : os' = s.os := hm.os
          rw [← hsz] at hS3
          refine wpAny_pure (wpAny_pure ⟨rfl, h', tk', rfl, hS3, fun b o z e => ?_⟩)
          refine hm.heap b o (fun q => ?_) (Heap.get?_push_of_some _ (Heap.get?_push_of_some _ e))
          rcases List.mem_cons.mp q with q | q
          · exact absurd q (Nat.ne_of_lt z)
          · rw [List.mem_singleton, hsz1] at q
            exact absurd q (Nat.ne_of_lt (Nat.lt_succ_of_lt z))
      · cases r₂ with
        | error e => exact hr₂
        | ok fl₂ =>
          cases fl₂ with
          | ret r =>
            obtain ⟨rfl, h', tk, rfl, hS', hk'⟩ := hr₂
            repeat (any_goals (first | assumption | wp_step))
            exact h _ _ hS' hk'
          | _ => exact hr₂.elim
    | _ => exact hr.elim
end
end Rg
set_option Elab.async false
set_option linter.all false
set_option maxRecDepth 100000
set_option maxHeartbeats 4000000
namespace Rg
open PySem PySem.Spec PyProof.Rows L2
theorem star_cons {e : Expr} {es : List Expr} {env : Env} (h : notStar e = true) : starEach (e :: es) env = (false, eval e env) :: starEach es env := by
  cases e <;> first | rfl | cases h
theorem pl_ok {env : Env} {pos : Pos} : ∀ {es : List Expr}, allNS es = true → (backTo pos (starEach es env)).any (·.1) = false
  | [], _ => rfl
  | e :: es, h => by
    simp only [allNS, Bool.and_eq_true] at h
    rw [star_cons h.1]
    show (false || (backTo pos (starEach es env)).any (·.1)) = false
    rw [Bool.false_or]
    exact pl_ok h.2
theorem ns_all {env : Env} {pos : Pos} : ∀ {es : List Expr}, allNS es = true → (backTo pos (starEach es env)).all (!·.1) = true
  | [], _ => rfl
  | e :: es, h => by
    simp only [allNS, Bool.and_eq_true] at h
    rw [star_cons h.1]
    show (true && (backTo pos (starEach es env)).all (!·.1)) = true
    rw [Bool.true_and]
    exact ns_all h.2
theorem plainIx_ok {e : Expr} (h : plainIx e = true) : PlainIx e := by
  intro o i
  cases e <;> first | rfl | cases h
theorem plainIt_ok {e : Expr} (h : plainIt e = true) (env : Env) (x : Value) : foldedSetIterable e env x = pure x := by
  cases e <;> first | rfl | cases h
theorem plainIt_gen {e : Expr} (h : plainIt e = true) (env : Env) (x : Value) : genFold e env x = pure x := by
  cases e <;> first | rfl | cases h
theorem attrOk_ok {o : Expr} {m : Str} {env : Env} (h : attrOk o = true) : attributeBase o m env (eval o env) = eval o env := by
  cases o with
  | Call f as ks pos =>
    cases f with
    | Name id p =>
      cases as with
      | nil =>
        cases ks with
        | nil =>
          have h' : (id != ("super" : Str)) = true := h
          unfold attributeBase
          dsimp only
          rw [h']
          rfl
        | cons _ _ => rfl
      | cons _ _ => rfl
    | _ => rfl
  | _ => rfl
theorem meth_eval {o : Expr} {m : Str} {apos pos : Pos} {args : List Expr} {env : Env} (h1 : attrOk o = true) (h2 : allNS args = true) (h3 : args.length < 30) (h4 : (apos.endLine == pos.line) = true) :
    eval (.Call (.Attribute o m apos) args [] pos) env = (do
      let ov ← eval o env
      standAt apos.atName
      let (f, first) ← holding [ov] (getMethod ov m (do return (← importBound o env).getD true))
      callWith pos f first (backTo pos (starEach args env)) (backToKw pos (keywordEach [] env))) := by
  have e0 : eval (.Call (.Attribute o m apos) args [] pos) env = (do
    let ov ← attributeBase o m env (eval o env)
    standAt apos.atName
    methodCall o m apos pos env ov (args.length + 0) (backTo pos (starEach args env)) (backToKw pos (keywordEach [] env))) := rfl
  rw [e0, attrOk_ok h1]
  have e1 : methodCallForm (args.length + 0) (backTo pos (starEach args env)) (backToKw pos (keywordEach [] env)) = true := by
    unfold methodCallForm
    rw [ns_all h2]
    show (true && true && decide (args.length + 0 + 0 < 30)) = true
    simp [h3]
  have e2 : ∀ ov, methodCall o m apos pos env ov (args.length + 0) (backTo pos (starEach args env)) (backToKw pos (keywordEach [] env)) = (do
      let (f, first) ← holding [ov] (getMethod ov m (do return (← importBound o env).getD true))
      callWith pos f first (backTo pos (starEach args env)) (backToKw pos (keywordEach [] env))) := fun ov => by
    unfold methodCall
    rw [e1]
    have e3 : methodCallPos true o env apos pos = pure pos := by
      unfold methodCallPos
      rw [h4]
      rfl
    rw [e3]
    rfl
  simp only [e2]
def valT : Expr → Bool
  | .UnaryOp .Not _ _ => false
  | .BoolOp _ _ _ => false
  | .IfExp _ _ _ _ => false
  | .Compare _ _ _ _ => false
  | _ => true
theorem valT_ok {e : Expr} (h : valT e = true) (env : Env) (wh : Sem Value) : isTrue e env wh = (do let v ← wh; standAt e.pos; holding [v] (truthy v)) := by
  cases e with
  | UnaryOp op _ _ => cases op <;> first | rfl | cases h
  | _ => first | rfl | cases h
theorem noComp_sw {e : Expr} (h : noComp e = true) (t : Option Expr) (l : Nat) (env : Env) : swapsWith e t l env = pure false := by
  cases e <;> first | rfl | cases h
theorem notTup_sw {t e : Expr} {env : Env} (h : notTup e = true) : swappedStores [t] e env = pure none := by
  cases t <;> cases e <;> first | rfl | cases h
end Rg
set_option Elab.async false
set_option linter.all false
set_option maxRecDepth 100000
set_option maxHeartbeats 4000000
namespace Rg
open PySem PySem.Spec PyProof.Rows L2
structure XiScope (ps : List Str) (sc : Scope) : Prop where
  kind : sc.kind = .function
  co : sc.isCoroutine = false
  gen : sc.isGenerator = false
  nd : ps.Nodup
  par : ∀ x ∈ ps, sc.names.lookup x = some .local
  nocell : ∀ y ∈ sc.names, y.2 ≠ .cell
  fre : ∀ y ∈ sc.names, y.2 = .free → y.1 = ("__class__" : Str)
  sup : sc.names.lookup ("super" : Str) = some .globalImplicit
  cls : sc.names.lookup ("__class__" : Str) = some .free
def xiCx (P : Program) (w : World) (K : PySem.W.Frag) (mg : Str → Option Value) (base : Heap) (N : List Str) (qual : Str) (scope : Scope) (f cda cc : Addr) (A : Around) (outer : List Env) (s : Shared) (H : Hp) (E : XK) : Cx where
  prog := P
  w := w
  K := K
  mg := mg
  base := base
  A := A.deeper (PySem.W.ksEnv qual scope s.heap.objs.size f (.ref cda) cc)
  N := N
  s_0 := s
  H_0 := H
  env := PySem.W.ksEnv qual scope s.heap.objs.size f (.ref cda) cc
  outer := outer
  stack := PySem.W.ksEnv qual scope s.heap.objs.size f (.ref cda) cc :: outer
  ex := []
  calm := true
  fn := fun _ => false
  pn := []
  xe := fun e s' => wpAny (model P w) (A.deeper (PySem.W.ksEnv qual scope s.heap.objs.size f (.ref cda) cc)) (leaving (PySem.W.ksEnv qual scope s.heap.objs.size f (.ref cda) cc) e)
    (fun _ s'' => CX P w outer H s E e s'') (fun e' s'' => CX P w outer H s E e' s'') s'
theorem zip_rev {ps : List Str} : ∀ {us : List Value} {i : Nat} {x : Str} {u : Value}, ps.Nodup → ps[i]? = some x → us[i]? = some u → (ps.zip us).reverse.lookup x = some u := by
  have key : ∀ (l : List (Str × Value)) (x : Str) (u : Value), (∀ v, (x, v) ∈ l → v = u) → (x, u) ∈ l → l.lookup x = some u := by
    intro l
    induction l with
    | nil => intro x u _ h; cases h
    | cons p l ih =>
      intro x u h1 h2
      obtain ⟨y, v⟩ := p
      rw [List.lookup_cons]
      cases hb : x == y with
      | true =>
        have e : x = y := eq_of_beq hb
        subst e
        rw [h1 v List.mem_cons_self]
      | false =>
        refine ih x u (fun v hv => h1 v (List.mem_cons_of_mem _ hv)) ?_
        rcases List.mem_cons.mp h2 with h2 | h2
        · cases h2
          simp at hb
        · exact h2
  intro us i x u nd h1 h2
  have hz : (ps.zip us)[i]? = some (x, u) := by
    rw [List.getElem?_zip_eq_some]
    exact ⟨h1, h2⟩
  refine key _ x u (fun v hv => ?_) (List.mem_reverse.mpr (List.mem_of_getElem? hz))
  obtain ⟨j, hj⟩ := List.getElem?_of_mem (List.mem_reverse.mp hv)
  rw [List.getElem?_zip_eq_some] at hj
  have ij := nodup_ix nd hj.1 h1
  rw [ij, h2] at hj
  exact (Option.some.inj hj.2).symm
section
variable {P : Program} {w : World} {K : PySem.W.Frag} {mg : Str → Option Value} {base : Heap} {ps : List Str} {qual : Str} {scope : Scope} {f cda cc : Addr} {A : Around} {outer : List Env} {s : Shared} {H : Hp} {E : XK} {us : List Value} {vs : List V}
theorem xi_start {h₁ : Heap} {tk : Nat} (S : XiScope ps scope) (hd : A.handled = none) (e0 : Env0 P w K mg base A outer s H) (hl : vs.length = ps.length) (r : Vals vs us) (hns : h₁.Ns s.heap.objs.size fun y => (ps.zip us).reverse.lookup y)
    (hk : ∀ b o, s.heap.get? b = some o → h₁.get? b = some o) (hcc : ∃ v o, base.get? cc = some o ∧ o.data = .cell v) : Inv (xiCx P w K mg base ps qual scope f cda cc A outer s H E) [] (start ps vs) H { s with heap := h₁, toks := tk } := by
  have noA : ∀ b : Addr, b ∉ (xiCx P w K mg base ps qual scope f cda cc A outer s H E).ex := fun b z => absurd (show b ∈ ([] : List Addr) from z) (by simp)
  have lk : ∀ {y c}, (xiCx P w K mg base ps qual scope f cda cc A outer s H E).env.cells.lookup y = some c → y = ("__class__" : Str) ∧ c = cc := fun {y c} h => by
    have h' : List.lookup y [(("__class__" : Str), cc)] = some c := h
    rw [List.lookup_cons] at h'
    cases hb : y == ("__class__" : Str) with
    | true =>
      rw [hb] at h'
      cases h'
      exact ⟨eq_of_beq hb, rfl⟩
    | false =>
      rw [hb] at h'
      cases h'
  obtain ⟨v, oc, h1, h2⟩ := hcc
  have hb := e0.bs _ _ h1
  have hcell : h₁.IsCell cc v := ⟨oc, hk _ _ hb.1, h2⟩
  refine ⟨⟨e0.mod, S.kind, rfl, rfl, Nat.le_refl _, fun y z c h1 h2 => (lk h1).1.trans (lk h2).1.symm, fun y hy => ?_, fun y c h _ => ?_, fun _ => hd, Around.frames_deeper e0.frames, .inr ⟨rfl, rfl⟩, fun b z => absurd z (noA b), e0.bs, e0.bsz, fun b _ _ => noA b, fun b z => absurd z (noA b), e0.funs, e0.frf⟩,
    rfl, e0.bare, Un.kept hk, ⟨_, hns, fun i y v h1 h2 h3 => ?_⟩, fun y c h => ⟨v, by rw [(lk h).2]; exact hcell⟩, e0.hok.fresh (Nat.le_refl _), fun y c h => by rw [(lk h).2]; exact hb.2, fun p hp => absurd (show p ∈ ([] : List (Addr × Obj)) from hp) (by simp), e0.hok.kept hk, ?_⟩
  · have hy : scope.names.lookup y = some .cell ∨ scope.names.lookup y = some .free := hy
    rcases hy with hy | hy
    · exact absurd rfl (S.nocell _ (PySem.mem_of_lookup hy))
    · have e := S.fre _ (PySem.mem_of_lookup hy) rfl
      dsimp only at e
      subst e
      exact ⟨cc, rfl⟩
  · cases h
  · have h1 : ps[i]? = some y := h1
    have hi : i < vs.length := by
      rw [hl]
      exact (List.getElem?_eq_some_iff.mp h1).1
    have ha : vs[i]? = some v := by
      unfold L2.start at h2
      rw [List.getElem?_append_left (by simpa using hi), List.getElem?_map] at h2
      cases e : vs[i]? with
      | none => rw [e] at h2; cases h2
      | some a => rw [e] at h2; cases h2; rfl
    obtain ⟨u, hu, rv⟩ := r.get ha
    exact ⟨u, rv, .inl ⟨S.par y (List.mem_of_getElem? h1), zip_rev S.nd h1 hu⟩⟩
  · unfold L2.start
    show _ = ps.length
    rw [List.length_append, List.length_map, List.length_replicate]
    omega
end
structure XcK (K : PySem.W.Frag) (mg : Str → Option Value) (P : Program) (D cda cc : Addr) : Prop where
  T : OexC K D
  code : ∃ oc od vs osl file tf, K.lookup cda = some ⟨oc, od, .fields vs, osl⟩ ∧ vs[2]? = some (.str file tf) ∧ ((P.main.file : Str) == file) = true
  cell : ∃ oc od osl, K.lookup cc = some ⟨oc, od, .cell (some (.ref D)), osl⟩
  cls : (PySem.W.clsIn K D).isSome = true
  sub : PySem.W.mroIn K D (.ref D) = some true
  sup : mg "super" = none
  opq : PySem.W.nsIn K cStatics "thirdparty.any" = some none
  ini : PySem.W.ks_superIn K D D "__init__" = some (some (.builtin "ValueError.__init__"))
  isV : PySem.W.subIn K (.ref D) (.type "ValueError") = some true
  top : (P.main.scope.names.lookup ("super" : Str)).isSome = false
theorem inst_exo {h : Heap} {a D t : Addr} (e : h.get? a = some ({ cls := .ref D, dict := none, data := .fields #[.ref t, .none, .none, .none, .bool false, .none] } : Obj)) :
    PySem.W.InstAt h a ({ cls := .ref D, dict := none, data := .fields #[.ref t, .none, .none, .none, .bool false, .none] } : Obj) D none := ⟨e, rfl, rfl, trivial⟩
section
variable {P : Program} {w : World} {K : PySem.W.Frag} {mg : Str → Option Value} {base : Heap}
theorem call_mw {X : Cx} {pins : List (Addr × Obj)} {σ : L2.St} {H : Hp} {s : Shared} {u a C : Addr} {us : List Value} {Q : Value → Shared → Prop} (T : OexC X.K C) (I : Inv X ((u, PySem.W.kxs_mw "ValueError.__init__" a) :: pins) σ H s) (e : H a = some (exo a C none)) (hl : us.length ≤ sizeLine)
    (h : ∀ s', Inv X ((u, PySem.W.kxs_mw "ValueError.__init__" a) :: pins) σ H s' → Q .none s') : wpAny (model X.prog X.w) X.A (call (.ref u) us) Q X.xe s := by
  obtain ⟨nm, q, N, bs, bm, sn, sub, ab, col, dd, k0, k1, k2, k3, k5, hC, hbm⟩ := T.cls
  obtain ⟨t1, ho⟩ := exo_at I.hok e
  have hu := (I.pin (u, PySem.W.kxs_mw "ValueError.__init__" a) (List.mem_append_right _ List.mem_cons_self)).1
  have hC' := I.kIn _ _ hC
  have fin : ∀ h' t2, (∀ b o, b ≠ a → s.heap.get? b = some o → h'.get? b = some o) → h'.get? a = some ({ cls := .ref C, dict := none, data := .fields #[.ref t2, .none, .none, .none, .bool false, .none] } : Obj) → Q .none { s with heap := h' } := fun h' t2 k hx => by
    have J := I.write (t' := s.toks) (x := a) (e := a) (o := exo a C none) (by rw [e]; exact True.intro) (.inl rfl) k ⟨_, hx⟩ (exo_ok hx)
    have eu : upd H a (exo a C none) = H := by
      funext b
      by_cases hb : b = a
      · rw [hb, upd_same, e]
      · rw [upd_ne hb]
    rw [eu] at J
    exact h _ J
  obtain ⟨hp, g, d, t, os⟩ := s
  refine wpAny_call (codeAny_of_tree ?_)
  show wpAny _ X.A.in1 (callAny (.ref u) (Args.mk us [])) _ _ _
  simp only [callAny]
  refine wpAny_bind (wpAny_load hu ?_)
  have m1 : (Value.type "method-wrapper" == Value.type "method" || Value.type "method-wrapper" == Value.type "builtin_function_or_method" || Value.type "method-wrapper" == Value.type "method-wrapper") = true := by decide
  simp only [PySem.W.kxs_mw, m1, if_true]
  refine PySem.W.KFB.if_so (by decide) ?_
  have FB := F.excBase_ValueError
  refine wpAny_bind (PySem.W.check_bound_init FB.toExcCallFacts hC' ho rfl ?_)
  refine wpAny_bind (wpAny_pure (wpAny_pure ?_))
  refine And.intro (plainId_quiet FB.init.plain _) (codeAny_builtin FB.initEntry ?_)
  exact PySem.W.exc_init_tree (t0 := t1) ho hl fun h' k hx _ => fin h' _ k hx
theorem xi_fn {k : Nat} {f D cda cc : Addr} {self name qual : Str} {rs ps : List Str} {params : Arguments} {arg : Expr} {rest : List Stmt} {scope : Scope} {dV kV doc pm ct oc : Value} {an od : Option Addr} {osl : Array (Option Value)} {sp : Sp} {p0 p1 ap cp ep : Pos}
    (lk : K.lookup f = some ⟨oc, od, .func (PySem.W.ksFn name qual params (.Expr (.Call (.Attribute (.Call (.Name "super" p0) [] [] p1) "__init__" ap) [arg] [] cp) ep :: rest) scope dV kV doc pm an (.ref cda) ct cc), osl⟩)
    (hcd : PySem.W.codeIn K (.ref cda) qual = true) (S : XiScope ps scope) (hps : ps = self :: rs) (hpar : ((params.posonlyargs ++ params.args).head?).map (·.arg) = some self) (B : XcK K mg P D cda cc) (hns : notStar arg = true) (hsw : noComp (.Call (.Attribute (.Call (.Name "super" p0) [] [] p1) "__init__" ap) [arg] [] cp) = true)
    (hline : (ap.endLine == cp.line) = true) (len : ∀ vs H Q E, sp vs H Q E → vs.length = ps.length)
    (hbody : ∀ (A : Around) (outer : List Env) (s : Shared) (H : Hp) (vs : List V) (Q : VK) (E : XK), Room k (A.deeper (PySem.W.ksEnv qual scope s.heap.objs.size f (.ref cda) cc)) → sp vs H Q E →
      ∃ (a : Addr) (ws : List V) (te : TE) (t : TS), vs = .ref a :: ws ∧ H a = some (exo a D none) ∧ PE (xiCx P w K mg base ps qual scope f cda cc A outer s H E) arg te ∧ PSs (xiCx P w K mg base ps qual scope f cda cc A outer s H E) rest t ∧
        (∀ Qq : VK, (∀ x, Qq x H) → te (start ps vs) H Qq) ∧ t { nx := fun _ H' => Q .non H', rt := Q } (start ps vs) H) :
    FnOk P w K mg base (CX P w) (k + 1) f (PySem.W.ksFn name qual params (.Expr (.Call (.Attribute (.Call (.Name "super" p0) [] [] p1) "__init__" ap) [arg] [] cp) ep :: rest) scope dV kV doc pm an (.ref cda) ct cc) ps sp := by
  refine ⟨len, fun A outer s H args us vs Q E hr e0 hb r hsp => ?_⟩
  have hl := len _ _ _ _ hsp
  have KX : K.In s.heap := e0.mod.kin.keeps fun b o e => (e0.bs b o e).1
  have KB : K.In base := e0.mod.kin
  have lim : s.heap.NoLimit := e0.mod.nolimit.keeps fun b o e => (e0.bs b o e).1
  obtain ⟨oc1, od1, cvs, osl1, file, tf, c1, c2, c3⟩ := B.code
  obtain ⟨oc2, od2, osl2, c4⟩ := B.cell
  obtain ⟨a, ws, te, t, rfl, ha, hpe, hps', h1, h2⟩ := hbody A outer s H vs Q E (hr.deeper _) hsp
  obtain ⟨ar, har, hself⟩ : ∃ ar, (params.posonlyargs ++ params.args).head? = some ar ∧ ar.arg = self := by
    cases z : (params.posonlyargs ++ params.args).head? with
    | none => rw [z] at hpar; cases hpar
    | some ar => rw [z] at hpar; cases hpar; exact ⟨ar, rfl, rfl⟩
  refine PySem.ks_codeAny_call_defAt (fd := PySem.W.ksFn name qual params (.Expr (.Call (.Attribute (.Call (.Name "super" p0) [] [] p1) "__init__" ap) [arg] [] cp) ep :: rest) scope dV kV doc pm an (.ref cda) ct cc) (binds := ps.zip us)
    hr.depth (KX _ _ lk) rfl lim (PySem.W.codeRec_of KX hcd) rfl hb S.nocell (fun y hy => S.par y.1 (List.of_mem_zip (show (y.1, y.2) ∈ ps.zip us from hy)).1) (fun h₁ hns1 hk1 => ?_) S.co S.gen S.kind
  have I : Inv (xiCx P w K mg base ps qual scope f cda cc A outer s H E) [] (start ps (.ref a :: ws)) H { s with heap := h₁, toks := s.toks + (ps.zip us).length } :=
    xi_start S hr.hd e0 hl r hns1 hk1 ⟨some (.ref D), _, KB _ _ c4, rfl⟩
  have fin : ∀ {fl : Flow} {s' : Shared}, SP (xiCx P w K mg base ps qual scope f cda cc A outer s H E) [] { nx := fun _ H' => Q .non H', rt := Q } fl s' → CR (CX P w) outer P w H s Q E (.ok (.ret (match fl with | .ret v => v | _ => .none))) s' := fun {fl s'} hs => by
    have mk : ∀ {σ' : L2.St} {H' : Hp} {v : V} {u : Value}, Inv (xiCx P w K mg base ps qual scope f cda cc A outer s H E) [] σ' H' s' → L2.RelV v u → Q v H' → CE outer P w H s Q u s' := fun {σ' H' v u} J rv q => ⟨v, H', J.os, J.bare, J.base, J.hok, rv, q⟩
    cases fl with
    | ret u =>
      obtain ⟨v, σ', H', J, rv, q⟩ := hs
      exact mk J rv q
    | next =>
      obtain ⟨σ', H', J, q⟩ := hs
      exact mk (v := V.non) (u := Value.none) J rfl q
    | brk =>
      obtain ⟨_, _, _, q⟩ := hs
      exact False.elim q
    | cont =>
      obtain ⟨_, _, _, q⟩ := hs
      exact False.elim q
  obtain ⟨u0, ur, rfl, r0, r'⟩ : ∃ u0 ur, us = u0 :: ur ∧ RelV (.ref a) u0 ∧ Vals ws ur := by
    cases r with
    | cons x y => exact ⟨_, _, rfl, x, y⟩
  obtain rfl : u0 = Value.ref a := r0
  have hsl : (ps.zip (Value.ref a :: ur)).reverse.lookup ar.arg = some (.ref a) := by
    rw [hself]
    exact zip_rev (i := 0) S.nd (by rw [hps]; rfl) rfl
  obtain ⟨t1, ho⟩ := exo_at I.hok ha
  have ho : h₁.get? a = _ := ho
  obtain ⟨cdD, hcD⟩ := Option.isSome_iff_exists.mp B.cls
  have KH : K.In h₁ := I.kIn
  have IA : PySem.W.InstAt h₁ a _ D none := inst_exo ho
  obtain ⟨oD, hD1, hD2⟩ : ∃ oD, h₁.get? D = some oD ∧ oD.data = .cls cdD := by
    have z := hcD
    unfold PySem.W.clsIn at z
    split at z
    · rename_i c' d' cd' sl' hh
      cases z
      exact ⟨_, KH _ _ hh, rfl⟩
    · cases z
  have hsw' : swapsWith (.Call (.Attribute (.Call (.Name "super" p0) [] [] p1) "__init__" ap) [arg] [] cp) none ep.line (PySem.W.ksEnv qual scope s.heap.objs.size f (.ref cda) cc) = pure false := noComp_sw hsw _ _ _
  have he : eval (.Call (.Attribute (.Call (.Name "super" p0) [] [] p1) "__init__" ap) [arg] [] cp) (PySem.W.ksEnv qual scope s.heap.objs.size f (.ref cda) cc) = (do
      let ov ← attributeBase (.Call (.Name "super" p0) [] [] p1) "__init__" (PySem.W.ksEnv qual scope s.heap.objs.size f (.ref cda) cc) (eval (.Call (.Name "super" p0) [] [] p1) (PySem.W.ksEnv qual scope s.heap.objs.size f (.ref cda) cc))
      standAt ap.atName
      let (g, first) ← holding [ov] (getMethod ov "__init__" (do return (← importBound (.Call (.Name "super" p0) [] [] p1) (PySem.W.ksEnv qual scope s.heap.objs.size f (.ref cda) cc)).getD true))
      callWith cp g first (backTo cp (starEach [arg] (PySem.W.ksEnv qual scope s.heap.objs.size f (.ref cda) cc))) []) := by
    have e0 : eval (.Call (.Attribute (.Call (.Name "super" p0) [] [] p1) "__init__" ap) [arg] [] cp) (PySem.W.ksEnv qual scope s.heap.objs.size f (.ref cda) cc) = (do
      let ov ← attributeBase (.Call (.Name "super" p0) [] [] p1) "__init__" (PySem.W.ksEnv qual scope s.heap.objs.size f (.ref cda) cc) (eval (.Call (.Name "super" p0) [] [] p1) (PySem.W.ksEnv qual scope s.heap.objs.size f (.ref cda) cc))
      standAt ap.atName
      methodCall (.Call (.Name "super" p0) [] [] p1) "__init__" ap cp (PySem.W.ksEnv qual scope s.heap.objs.size f (.ref cda) cc) ov (1 + 0) (backTo cp (starEach [arg] (PySem.W.ksEnv qual scope s.heap.objs.size f (.ref cda) cc))) (backToKw cp (keywordEach [] (PySem.W.ksEnv qual scope s.heap.objs.size f (.ref cda) cc)))) := rfl
    rw [e0]
    have e1 : methodCallForm (1 + 0) (backTo cp (starEach [arg] (PySem.W.ksEnv qual scope s.heap.objs.size f (.ref cda) cc))) (backToKw cp (keywordEach [] (PySem.W.ksEnv qual scope s.heap.objs.size f (.ref cda) cc))) = true := by
      unfold methodCallForm
      rw [ns_all (es := [arg]) (by show (notStar arg && true) = true; rw [hns]; rfl)]
      rfl
    have e2 : ∀ ov, methodCall (.Call (.Name "super" p0) [] [] p1) "__init__" ap cp (PySem.W.ksEnv qual scope s.heap.objs.size f (.ref cda) cc) ov (1 + 0) (backTo cp (starEach [arg] (PySem.W.ksEnv qual scope s.heap.objs.size f (.ref cda) cc))) (backToKw cp (keywordEach [] (PySem.W.ksEnv qual scope s.heap.objs.size f (.ref cda) cc))) = (do
        let (g, first) ← holding [ov] (getMethod ov "__init__" (do return (← importBound (.Call (.Name "super" p0) [] [] p1) (PySem.W.ksEnv qual scope s.heap.objs.size f (.ref cda) cc)).getD true))
        callWith cp g first (backTo cp (starEach [arg] (PySem.W.ksEnv qual scope s.heap.objs.size f (.ref cda) cc))) (backToKw cp (keywordEach [] (PySem.W.ksEnv qual scope s.heap.objs.size f (.ref cda) cc)))) := fun ov => by
      unfold methodCall
      rw [e1]
      have e3 : methodCallPos true (.Call (.Name "super" p0) [] [] p1) (PySem.W.ksEnv qual scope s.heap.objs.size f (.ref cda) cc) ap cp = pure cp := by
        unfold methodCallPos
        rw [hline]
        rfl
      rw [e3]
      rfl
    simp only [e2]
    rfl
  show _root_.PySem.wpAt (model P w) (A.deeper (PySem.W.ksEnv qual scope s.heap.objs.size f (.ref cda) cc)) (.func _ (PySem.W.ksEnv qual scope s.heap.objs.size f (.ref cda) cc)) (execs _ (PySem.W.ksEnv qual scope s.heap.objs.size f (.ref cda) cc)) _ _ _
  refine PySem.ks_wpAt_execs_cons (PySem.ks_wpAt_Expr_any (PySem.ks_wpAt_MethodCall ?_ he) I.quiet hsw')
  refine PySem.ks_wpAt_super_base S.sup S.cls (by decide) rfl (KH _ _ lk) rfl har rfl (KH _ _ c1) rfl c2 c3 B.top ?_
  have hk : (PySem.W.ksEnv qual scope s.heap.objs.size f (.ref cda) cc).scope.kind = .function := S.kind
  obtain ⟨mb, b1, b2⟩ := I.mod.blt
  have hbt : bootBuiltins "super" = some (.type "super") := by first | rfl | decide +kernel | kernel_rfl
  refine PySem.W.ks_loadName_global hk S.sup (Calls.loadGlobal_builtin (mg := mg) (mb := mb) (v := .type "super") (env := PySem.W.ksEnv qual scope s.heap.objs.size f (.ref cda) cc) (s := { s with heap := h₁, toks := s.toks + (ps.zip (Value.ref a :: ur)).length }) (I.mod.glob.keeps I.bk) B.sup (b1.keeps I.bk) ((b2 "super" (by decide)).trans hbt) ?_)
  refine ⟨rfl, wpAny_loadName_free hk S.cls rfl ⟨_, KH _ _ c4, rfl⟩ ?_⟩
  refine wpAny_loadName_local hk (S.par _ (by rw [hself, hps]; exact List.mem_cons_self)) hns1 hsl ?_
  refine PySem.ks_wpAny_isType_cls hD1 hD2 ⟨rfl, ?_⟩
  refine PySem.ks_wpAny_call_super hD1 hD2 ho rfl (fun c e => by cases e) (PySem.W.looks_mroIn KH B.sub) fun h2' e2 k2 => ?_
  have I2 := I.kept (t' := s.toks + (ps.zip (Value.ref a :: ur)).length) k2
  have KH2 : K.In h2' := I2.kIn
  have ho2 := k2 _ _ ho
  have hxD : a ≠ D := PySem.W.ks_ne KH IA hcD
  have hisV : PySem.W.Looks (model P w) h2' (isInstance (.ref a) (.type "ValueError")) true := (inst_exo ho2).type.andThen (PySem.W.looks_subIn KH2 B.isV)
  have hmro : PySem.W.Looks (model P w) h2' (mroOf (.ref D)) cdD.mro := fun A Q E s k q => wpAny_bind ((PySem.W.looks_clsIn KH2 hcD) A _ E s k (wpAny_pure q))
  have hini := B.ini
  unfold PySem.W.ks_superIn at hini
  rw [hcD] at hini
  refine PySem.W.kxs_getMethod PySem.W.kxs_ValueError e2 (PySem.W.looks_opaque KH2 B.opq) hmro rfl KH2 hini hisV hxD (by decide) ?_
  dsimp only
  have k3 : ∀ b o, h2'.get? b = some o → (h2'.push (PySem.W.kxs_mw "ValueError.__init__" a)).get? b = some o := fun b o e => Heap.get?_push_of_some _ e
  have I3 := I2.kept (t' := s.toks + (ps.zip (Value.ref a :: ur)).length + 1) k3
  have I4 : Inv (xiCx P w K mg base ps qual scope f cda cc A outer s H E) [(h2'.objs.size, PySem.W.kxs_mw "ValueError.__init__" a)] (start ps (.ref a :: ws)) H _ := I3.pins_of fun p hp => by
    rw [List.mem_singleton] at hp
    subst hp
    exact ⟨Heap.get?_push_at rfl rfl, I2.hok.fresh (Nat.le_refl _), Nat.ne_of_gt I2.lt, I2.nofs (Nat.le_refl _), fun v z => by cases z⟩
  have hA : PA (xiCx P w K mg base ps qual scope f cda cc A outer s H E) [arg] (tCons te tNil) := pa_cons hpe pa_nil (star_cons hns)
  have hrun := hA.run cp _ _ _ H (fun vs H1 => H1 = H ∧ vs.length = 1) I4 (h1 _ fun x => ⟨rfl, rfl⟩)
  refine PySem.W.kxs_callWith (i := "ValueError.__init__") (x := a) (pl_ok (es := [arg]) (by show (notStar arg && true) = true; rw [hns]; rfl)) ?_
  have hst : starEach [arg] (PySem.W.ksEnv qual scope s.heap.objs.size f (.ref cda) cc) = (false, eval arg (PySem.W.ksEnv qual scope s.heap.objs.size f (.ref cda) cc)) :: starEach [] (PySem.W.ksEnv qual scope s.heap.objs.size f (.ref cda) cc) := star_cons hns
  have hst' : starEach [arg] (xiCx P w K mg base ps qual scope f cda cc A outer s H E).env = (false, eval arg (PySem.W.ksEnv qual scope s.heap.objs.size f (.ref cda) cc)) :: starEach [] (PySem.W.ksEnv qual scope s.heap.objs.size f (.ref cda) cc) := hst
  rw [hst'] at hrun
  rw [hst]
  refine Calls.evalArgs_plain (wpAny_mono hrun (fun vs' s5 hh => ?_) fun e s' q => q)
  obtain ⟨vs5, H5, I5, r5, rfl, hlen⟩ := hh
  refine ⟨(I5.pin _ (List.mem_append_right _ List.mem_cons_self)).1, ?_⟩
  refine call_mw B.T I5 ha (by show vs'.length ≤ sizeLine; rw [← r5.length, hlen, sizeLine_eq]; omega) fun s6 J => ?_
  have J' : Inv (xiCx P w K mg base ps qual scope f cda cc A outer s H5 E) [] (start ps (.ref a :: ws)) H5 s6 := J.pins_of fun p hp => by cases hp
  exact wpAt_of_wpAny (wpAny_mono (hps'.run [] s6 _ H5 _ J' h2) (fun fl s' q => fin q) fun e s' q => q)
end
end Rg
set_option Elab.async false
set_option linter.all false
set_option maxRecDepth 100000
set_option maxHeartbeats 4000000
namespace Rg
open PySem PySem.Spec PyProof.Rows L2
def FmV (y : V) : Prop := (∃ z : Str, y = .str z ∧ z.length ≤ 1000) ∨ ∃ i : Int, y = .int i ∧ i.natAbs.log2 < 100
theorem fmV_of {T : Tab} {hr : AS} {ow : Ow} {H : Hp} {d : D} {v : V} (h : WR T hr ow H (.d d) v) (e : fmD d = true) : FmV v := by
  cases d with
  | str z => cases h; exact .inl ⟨z, rfl, by simpa [fmD] using e⟩
  | int i => cases h; exact .inr ⟨i, rfl, by simpa [fmD] using e⟩
  | _ => cases e
def usX (T : Tab) (ns : List Nat) (ys : List V) : List (Str × V) := ((ns.map T.fld).zip ys).reverse
def spX (T : Tab) (C : Addr) (ns : List Nat) : Sp := fun vs H Q _ => ∃ (a : Addr) (ys : List V), vs = .ref a :: ys ∧ ys.length = ns.length ∧ H a = some (exo a C none) ∧ (∀ y ∈ ys, FmV y) ∧
  ∀ dx, H dx = none → dx ≠ a → Q .non (upd (upd H dx (exd dx (usX T ns ys))) a (exo a C (some dx)))
structure Xd (P : Program) (w : World) (K : PySem.W.Frag) (mg : Str → Option Value) (base : Heap) (T : Tab) (x : Str) (c : Nat) (ns : List Nat) (k : Nat) : Prop where
  ex : ∃ (C f : Addr) (fd : FuncData) (ps : List Str), T.xcl c = some C ∧ mg x = some (.ref C) ∧ OexC K C ∧ PySem.W.findIn K (.ref C) "__init__" = some (some (.ref f)) ∧ PySem.W.typeIn K (.ref f) = some (.type "function") ∧
    FnOk P w K mg base (CX P w) k f fd ps (spX T C ns) ∧ Binds K fd ps []
section
variable {X : Cx} {T : Tab} {Wx : WX} {phi : Nat → Fn}
theorem rpF_zip {hr : AS} {ow : Ow} {H : Hp} : ∀ {ns : List Nat} {ws : List W} {ds : List D} {ys : List V}, allDat ws = some ds → WL T hr ow H ws ys → RpF T (hide (hid hr ow) H) (ns.zip ds) ((ns.map T.fld).zip ys)
  | [], _, _, _, _, _ => by
    simp only [List.zip_nil_left, List.map_nil]
    exact .nil
  | n :: ns, [], ds, _, e, .nil => by
    cases e
    simp only [List.zip_nil_right]
    exact .nil
  | n :: ns, .d x :: ws, ds, _, e, .cons h r => by
    dsimp only [allDat] at e
    cases k : allDat ws with
    | none => rw [k] at e; cases e
    | some xs =>
      rw [k] at e
      cases e
      exact .cons h (rpF_zip k r)
  | n :: ns, .l p :: ws, ds, _, e, _ => by cases e
theorem rpF_app {H : Hp} : ∀ {a b : List (Nat × D)} {us vs : List (Str × V)}, RpF T H a us → RpF T H b vs → RpF T H (a ++ b) (us ++ vs)
  | _, _, _, _, .nil, s => s
  | _, _, _, _, .cons h r, s => .cons h (rpF_app r s)
theorem rpF_rev {H : Hp} : ∀ {a : List (Nat × D)} {us : List (Str × V)}, RpF T H a us → RpF T H a.reverse us.reverse
  | _, _, .nil => .nil
  | _, _, .cons h r => by
    rw [List.reverse_cons, List.reverse_cons]
    exact rpF_app (rpF_rev r) (.cons h .nil)
theorem allDat_len : ∀ {ws : List W} {ds : List D}, allDat ws = some ds → ws.length = ds.length
  | [], _, e => by cases e; rfl
  | .d x :: ws, ds, e => by
    dsimp only [allDat] at e
    cases k : allDat ws with
    | none => rw [k] at e; cases e
    | some xs =>
      rw [k] at e
      cases e
      rw [List.length_cons, List.length_cons, allDat_len k]
  | .l p :: ws, _, e => by cases e
theorem fmVs_of {hr : AS} {ow : Ow} {H : Hp} : ∀ {ws : List W} {ds : List D} {ys : List V}, allDat ws = some ds → WL T hr ow H ws ys → ds.all fmD = true → ∀ y ∈ ys, FmV y
  | [], _, _, e, .nil, _ => fun y hy => by cases hy
  | .d x :: ws, ds, _, e, .cons h r, ha => by
    dsimp only [allDat] at e
    cases k : allDat ws with
    | none => rw [k] at e; cases e
    | some xs =>
      rw [k] at e
      cases e
      simp only [List.all_cons, Bool.and_eq_true] at ha
      intro y hy
      rcases List.mem_cons.mp hy with rfl | hy
      · exact fmV_of h ha.1
      · exact fmVs_of k r ha.2 y hy
  | .l p :: ws, _, _, e, _, _ => by cases e
theorem wl_len' {hr : AS} {ow : Ow} {H : Hp} : ∀ {ws : List W} {vs : List V}, WL T hr ow H ws vs → ws.length = vs.length
  | _, _, .nil => rfl
  | _, _, .cons _ r => by rw [List.length_cons, List.length_cons, wl_len' r]
theorem del_upd {H1 : Hp} {a dx : Addr} {o p q r : HO} (ha : H1 a = none) (hd : dx ≠ a) : upd (del (upd (upd (upd H1 a o) dx p) a q) a) dx r = upd H1 dx r := by
  funext b
  by_cases e : b = dx
  · rw [e, upd_same, upd_same]
  · rw [upd_ne e, upd_ne e]
    by_cases e2 : b = a
    · rw [e2, del_same, ha]
    · rw [del_ne e2, upd_ne e2, upd_ne e, upd_ne e2]
theorem rais_imp {c : Nat} {C : Addr} {ns : List Nat} {l : Es} {Dn : Ends} {σ : L2.St} {H : Hp} (hC : T.xcl c = some C) (h : tS T Wx ((St.rais c ns l).den phi) Dn σ H) : ns.length ≤ 900 →
    tMkO C (spX T C ns) [] (tIs T Wx (l.den phi)) σ H fun cls d H' => Wx cls d σ H' := by
  intro hn
  obtain ⟨hr, ow, env, S, R, p⟩ := h
  simp only [St.den] at p
  refine (tG.out (Wq := WL T) R p).mono fun vs H1 ⟨ow1, S1, ws, g, s, R1, wl, p1⟩ => ?_
  obtain ⟨ds, hds, p2⟩ := Out_opt p1
  split at p2
  · rename_i hc
    have hl : vs.length = ns.length := by rw [← wl_len' wl, allDat_len hds, hc.1]
    refine ⟨by omega, fun a ha => ?_⟩
    rw [List.append_nil]
    refine ⟨a, vs, rfl, hl, upd_same, fmVs_of hds wl hc.2, fun dx hdx ne => ⟨rfl, dx, _, upd_same, by rw [upd_ne ne]; exact upd_same, ?_, ?_⟩⟩
    · rw [upd_ne ne] at hdx
      exact hdx
    · rw [upd_ne ne] at hdx
      rw [del_upd ha ne]
      have sm : Same H1 (upd H1 dx (.xd (usX T ns vs))) := same_new hdx
      have g2 := Gr.same R1 sm
      have nh : ¬ hid hr (owD ow1) dx := fun z => R1.strip.track dx z hdx
      have g3 := Gr.same R1.strip sm
      refine p2 (.ref C) (some dx) (owD ow1) _ g2.strip (R1.strip.same sm) ⟨C, dx, usX T ns vs, rfl, hC, rfl, nh, upd_same, ?_⟩ σ
      refine (rpF_rev (rpF_zip (ns := ns) hds wl)).mono (ext_strip.trans g3.ext)
  · exact p2.elim
theorem x_rais {c k j : Nat} {ns : List Nat} {l : Es} {x : Str} {e : Expr} {es : List Expr} {p pos rpos : Pos} (hn : ns.length ≤ 900) (hc : X.calm = true) (tk : Takes X Wx) (cd : Xd X.prog X.w X.K X.mg X.base T x c ns k) (hr : Room j X.A) (hk : k + 1 ≤ j) (hg : Gl X x) (ha : PA X (e :: es) (tIs T Wx (l.den phi)))
    (hdb : (x == ("__debug__" : Str)) = false) (he : starEach (e :: es) X.env = (false, eval e X.env) :: starEach es X.env) (hpl : (backTo pos (starEach es X.env)).any (·.1) = false) :
    PS X (.Raise (some (.Call (.Name x p) (e :: es) [] pos)) none rpos) (tS T Wx ((St.rais c ns l).den phi)) := by
  obtain ⟨C, f, fd, ps, hC, hm, T1, iC, tI', F1, b⟩ := cd.ex
  exact PS.imp (ps_raise hc tk (pmk_oex T1 iC tI' F1 (hr.mono hk) b .nil (passes_call LamX.takes0 fun _ _ _ _ h => h) hg hm ha hdb he hpl)) fun D σ H z => rais_imp hC z hn
end
end Rg
set_option Elab.async false
set_option linter.all false
set_option maxRecDepth 100000
set_option maxHeartbeats 4000000
namespace Rg
open PySem PySem.Spec PyProof.Rows L2
section
variable {X : Cx}
theorem fmV_fmt {te : TE} {σ : L2.St} {H : Hp} {y : V} (h : FmV y) {te : TE} (ht : ∀ Q : VK, Q y H → te σ H Q) {acc : Str} {Q : Str → Hp → Prop} {ts : List TE} (ha : acc.length ≤ 4000) (hq : ∀ z : Str, z.length ≤ acc.length + 1000 → tJs ts z σ H Q) : tJs (tFmt te :: ts) acc σ H Q := by
  refine ht _ ?_
  rcases h with ⟨z, rfl, hz⟩ | ⟨i, rfl, hi⟩
  · refine .inl ⟨z, rfl, by rw [sizeLine_eq]; omega, z, rfl, ?_, hq _ ?_⟩
    · rw [Str.length_append, sizeLine_eq]; omega
    · rw [Str.length_append]; omega
  · have hl : (toString i).length ≤ 101 := int_text_length_le (by decide) hi
    have hl2 : (Str.ofString (toString i)).length ≤ 101 := by rw [PySem.ofString_length]; exact hl
    refine .inr ⟨i, rfl, by omega, _, rfl, ?_, hq _ ?_⟩
    · rw [Str.length_append, sizeLine_eq]; omega
    · rw [Str.length_append]; omega
end
section
variable {P : Program} {w : World} {K : PySem.W.Frag} {mg : Str → Option Value} {base : Heap} {T : Tab}
theorem xi1_fn {k n : Nat} {f D cda cc : Addr} {self x fl name qual pre : Str} {params : Arguments} {scope : Scope} {dV kV doc pm ct oc : Value} {an od : Option Addr} {osl : Array (Option Value)} {p0 p1 ap cp ep q1 q2 q3 jp q4 q5 q6 q7 : Pos} {j : Nat}
    (lk : K.lookup f = some ⟨oc, od, .func (PySem.W.ksFn name qual params [.Expr (.Call (.Attribute (.Call (.Name "super" p0) [] [] p1) "__init__" ap) [.JoinedStr [.Constant (.str pre) j q1, .FormattedValue (.Name x q2) (-1) none q3] jp] [] cp) ep,
      .Assign [.Attribute (.Name self q4) fl q5] (.Name x q6) q7] scope dV kV doc pm an (.ref cda) ct cc), osl⟩)
    (hcd : PySem.W.codeIn K (.ref cda) qual = true) (S : XiScope [self, x] scope) (hpar : ((params.posonlyargs ++ params.args).head?).map (·.arg) = some self) (B : XcK K mg P D cda cc) (hline : (ap.endLine == cp.line) = true)
    (hpre : pre.length ≤ 1000) (hfl : T.fld n = fl) (hno : PySem.W.findIn K (.ref D) fl = some none) (d1 : (self == ("__debug__" : Str)) = false) (d2 : (self == ("__classdict__" : Str)) = false) (d3 : (x == ("__debug__" : Str)) = false) (d4 : (x == ("__classdict__" : Str)) = false) :
    FnOk P w K mg base (CX P w) (k + 1) f (PySem.W.ksFn name qual params [.Expr (.Call (.Attribute (.Call (.Name "super" p0) [] [] p1) "__init__" ap) [.JoinedStr [.Constant (.str pre) j q1, .FormattedValue (.Name x q2) (-1) none q3] jp] [] cp) ep,
      .Assign [.Attribute (.Name self q4) fl q5] (.Name x q6) q7] scope dV kV doc pm an (.ref cda) ct cc) [self, x] (spX T D [n]) := by
  refine xi_fn lk hcd S rfl hpar B rfl rfl hline (fun vs H Q E ⟨a, ys, e, hl, _⟩ => by rw [e, List.length_cons, hl]; rfl) fun A outer s H vs Q E hr hsp => ?_
  obtain ⟨a, ys, rfl, hl, ha, hf, hq⟩ := hsp
  obtain ⟨y, rfl⟩ : ∃ y, ys = [y] := by
    match ys, hl with
    | [y], _ => exact ⟨y, rfl⟩
  have hy := hf y List.mem_cons_self
  have v0 : Vis (xiCx P w K mg base [self, x] qual scope f cda cc A outer s H E).env.scope self := .inl (S.par _ List.mem_cons_self)
  have v1 : Vis (xiCx P w K mg base [self, x] qual scope f cda cc A outer s H E).env.scope x := .inl (S.par _ (List.mem_cons_of_mem _ List.mem_cons_self))
  have e1 := fun pos => pe_var (X := xiCx P w K mg base [self, x] qual scope f cda cc A outer s H E) (i := 1) (pos := pos) rfl v1 d3 d4
  have e0 := fun pos => pe_var (X := xiCx P w K mg base [self, x] qual scope f cda cc A outer s H E) (i := 0) (pos := pos) rfl v0 d1 d2
  refine ⟨a, [y], _, _, rfl, ha, pe_joined (PJ.cons pe_str (PJ.cons (pe_fmt (e1 q2)) PJ.nil)), pss_one (ps_ost (e0 q4) (e1 q6)), fun Qq hQ => ?_, ?_⟩
  · refine ⟨pre, rfl, ?_, fmV_fmt (te := tVar 1) hy (fun Q h => ⟨y, rfl, h⟩) ?_ fun z hz => hQ _⟩
    · rw [Str.length_append, sizeLine_eq]
      show 0 + _ ≤ _
      omega
    · rw [Str.length_append]
      show 0 + _ ≤ _
      omega
  · refine ⟨y, rfl, .ref a, rfl, a, D, rfl, B.T, hno, .inl ⟨ha, fun dx hd ne => ?_⟩⟩
    rw [← hfl]
    exact hq dx hd ne
end
end Rg
set_option Elab.async false
set_option linter.all false
set_option maxRecDepth 100000
set_option maxHeartbeats 4000000
namespace Rg
open PySem PySem.Spec PyProof.Rows L2
abbrev rtOnly (D : Ends) : Ends := { nx := fun _ _ => False, rt := D.rt }
def wAsM (K : PySem.W.Frag) (Wout : WX) (i : Nat) (D : Ends) : List (Value × (Addr → Value → Option Addr → TS)) → WX
  | [] => Wout
  | (c, ts) :: r => fun cls d σ H => ∃ b, PySem.W.exmOne K cls c = some b ∧ (b = true → ∀ a, H a = none → ts a cls d (rtOnly D) (σ.set i (some (.ref a))) H) ∧ (b = false → wAsM K Wout i D r cls d σ H)
inductive HdsAs (X : Cx) (n : Str) : List ExceptHandler → List (Value × (Addr → Value → Option Addr → TS)) → Prop
  | nil : HdsAs X n [] []
  | cons {x : Str} {c : Value} {ts : Addr → Value → Option Addr → TS} {b₀ : Stmt} {su : List Stmt} {np p' : Pos} {hds : List ExceptHandler} {l : List (Value × (Addr → Value → Option Addr → TS))} (hc : Names X x c)
      (hsu : ∀ (a : Addr) (oe : Obj) (cls : Value) (d : Option Addr) (pn : List (Addr × Obj)), Zc cls d oe → (∃ vs, oe.data = .fields vs) → PSs (X.suite a ((a, oe) :: pn)) (b₀ :: su) (ts a cls d)) (r : HdsAs X n hds l) :
      HdsAs X n (.ExceptHandler (some (.Name x np)) (some n) (b₀ :: su) p' :: hds) ((c, ts) :: l)
section
variable {X : Cx} {n : Str} {i : Nat} {body : List Stmt} {h₀ : ExceptHandler} {hds : List ExceptHandler} {l : List (Value × (Addr → Value → Option Addr → TS))} {pos : Pos} {tb : WX → TS} {Wout : WX}
theorem ps_try_asM (hs : X.stack = X.env :: X.outer) (hf : X.env.frame = some X.env.locals) (hN : X.N.Nodup) (hi : X.N[i]? = some n) (hln : X.env.kindOf n = some .local) (tk : Takes X Wout)
    (hb : ∀ (W : WX) (pn : List (Addr × Obj)) (xe : Value → Shared → Prop), Takes (X.tr pn xe) W → PassesOwn (model X.prog X.w) X.A X.env xe → PSs (X.tr pn xe) body (tb W))
    (hh : HdsAs X n (h₀ :: hds) l) : PS X (.Try body (h₀ :: hds) [] [] pos) (fun D σ H => tb (wAsM X.K Wout i D l) D σ H) := by
  refine PS.mk fun pins s σ H D I h => ?_
  have ok := I.ok
  have hfr : X.A.frames = some (X.env :: X.outer) := (ok.frames).trans (by rw [hs])
  have hloc : L2.Loc X.env.scope n := .inl hln
  refine wpAny_Try_except ?_
  refine wpAny_mono ((hb (wAsM X.K Wout i D l) (X.pn ++ pins)
      (fun e s₁ => wpAny (model X.prog X.w) X.A (noteFrame e X.env) (fun _ s₂ => wpAny (model X.prog X.w) X.A (setFlight e none) (fun _ s₃ => wpAny (model X.prog X.w) X.A (handleBy e X.env (h₀ :: hds)) (SP X pins D) X.xe s₃) X.xe s₂) X.xe s₁)
      (fun u s' xx => ?_) PassesOwn.looking).run [] s σ H D (I.toTry _) h) (fun f s1 hsp => ?_) (fun e s1 he => he)
  · obtain ⟨a, B, sI, pins', σ', H', cls, d, rfl, J', nb, up, sky, na, os, ag, wq⟩ := xx
    have J : L2.Inv X pins σ' H' sI := J'.ofTry ok
    have sky2 : Sky B (X.env :: X.outer) a (Zc cls d) X.env.locals s'.heap := hs ▸ sky
    show wpAny (model X.prog X.w) X.A (noteFrame (Value.ref a) X.env) _ _ _
    refine Sky.land Zc.steady hfr hf sky2 fun h3 fl3 up3 => ?_
    have J3 : L2.Inv X pins σ' H' { s' with heap := h3 } := J.landed nb fl3.1 (up.trans up3) os ag
    obtain ⟨oe3, vs3, he3, hz3, hd3⟩ := fl3.there
    have nfr : a ∉ frs (X.env :: X.outer) := fun hm => by
      obtain ⟨_, o', e', hnf⟩ := fl3.2.2.1.mem hm
      rw [he3] at e'
      cases e'
      exact hnf _ hd3
    have nL : a ≠ X.env.locals := fun z => nfr (List.mem_filterMap.mpr (Exists.intro X.env ⟨List.mem_cons_self, by rw [hf, z]⟩))
    have nF : a ∉ X.fs := fun hm => by
      obtain ⟨e, he, q⟩ := List.mem_filterMap.mp hm
      exact nfr (List.mem_filterMap.mpr (Exists.intro e ⟨List.mem_cons_of_mem _ he, q⟩))
    have S3 := J3.suite he3 hd3 na nL nF
    have go : ∀ {hds' : List ExceptHandler} {l' : List (Value × (Addr → Value → Option Addr → TS))}, HdsAs X n hds' l' → wAsM X.K Wout i D l' cls d σ' H' → wpAny (model X.prog X.w) X.A (handleBy (Value.ref a) X.env hds') (SP X pins D) X.xe { s' with heap := h3 } := by
      intro hds' l' hk
      induction hk with
      | nil =>
        intro wq
        refine wpAny_handleBy_nil ?_
        obtain ⟨k1, k2, k3, oe, vs, T, oT, ts', he, hz, hd, h1, hr⟩ := id fl3
        unfold PySem.passOn
        refine wpAny_bind (wpAny_field he hd h1 ?_)
        rw [if_neg (show ¬ ((Value.ref T == Value.none) = true) by simp)]
        have fin : wpAny (model X.prog X.w) X.A (setFlight (Value.ref a) X.env.frame) (fun _ s4 => wpAny (model X.prog X.w) X.A (throw (Value.ref a) : Sem Flow) (SP X pins D) X.xe s4) X.xe { s' with heap := h3 } := by
          rw [hf]
          refine HandSPX.setFlight_upZ fl3 fun h4 hh4 up4 => wpAny_throw (tk _ _ ?_)
          exact Exists.intro a ⟨B, sI, pins, σ', H', cls, d, rfl, J, nb, (up.trans up3).trans up4, .inr (.inr (by rw [hs]; exact hh4)), na, os, ag, wq⟩
        first
          | exact wpAny_bind (wpAny_pure (wpAny_bind fin))
          | exact wpAny_bind fin
      | @cons x c ts b₀ su np p' hds2 l2 hc hsu r ih =>
        intro wq
        obtain ⟨b, hb1, hyes, hno⟩ := wq
        refine wpAny_handleBy_cons (codeAny_handlers_test ?_) (by intro q; cases q)
        have LT : PySem.W.Looks (model X.prog X.w) h3 (typeOf (Value.ref a)) cls := fun A Q E s k q => wpAny_typeOf_ref (k _ _ he3) (by rw [hz3.1]; exact q)
        have LM := PySem.W.exm_one (M := model X.prog X.w) (J3.kIn) LT hb1
        have test : ∀ {Q : Value → Shared → Prop} {E : Value → Shared → Prop}, Q c { s' with heap := h3 } → wpAny (model X.prog X.w) (X.A.mark (some (Value.ref a))) (eval (.Name x np) X.env) Q E { s' with heap := h3 } := fun {Q E} q => by
          obtain ⟨hg, hdbg, hm | ⟨hm, hv, hnn⟩⟩ := hc
          · exact ld_glob (X := X.suite a ((a, oe3) :: (X.pn ++ pins))) S3 hg hm q hdbg
          · exact ld_blt (X := X.suite a ((a, oe3) :: (X.pn ++ pins))) S3 hg hm hv q hnn hdbg
        refine test (LM.here ?_)
        cases b with
        | true =>
          refine codeAny_handlers_suite_as ?_
          refine HandSPX.lands_againZ fl3 fun h4 fl4 up4 => ?_
          have J4 : L2.Inv X pins σ' H' { s' with heap := h4 } := J.landed nb fl4.1 ((up.trans up3).trans up4) os ag
          obtain ⟨oe4, vs4, he4, hz4, hd4⟩ := fl4.there
          have S4 := J4.suite he4 hd4 na nL nF
          refine store_ok (X := X.suite a ((a, oe4) :: (X.pn ++ pins))) (v := .ref a) S4 hN hi hloc rfl (fun s5 S5 => ?_) (.inr hln)
          refine wpAny_mono ((hsu a oe4 cls d (X.pn ++ pins) hz4 ⟨_, hd4⟩).run [] s5 _ H' _ S5 (hyes rfl a na)) (fun f s6 hsp => ?_) (fun _ _ z => False.elim z)
          cases f with
          | next => obtain ⟨_, _, _, q6⟩ := hsp; exact q6.elim
          | brk => obtain ⟨_, _, _, q6⟩ := hsp; exact q6.elim
          | cont => obtain ⟨_, _, _, q6⟩ := hsp; exact q6.elim
          | ret u =>
            obtain ⟨v6, σ6, H6, S6, r6, q6⟩ := hsp
            exact gone_ok (S6.unsuite ok) hN hi hln fun s7 J7 => ⟨_, _, _, J7, r6, q6⟩
        | false =>
          show wpAny _ X.A (handleBy (Value.ref a) X.env hds2) _ _ _
          exact ih (hno rfl)
    exact go hh wq
  · cases f with
    | next =>
      obtain ⟨σ', H', J', q⟩ := hsp
      exact wpAny_execs_nil (Exists.intro σ' ⟨H', J'.ofTry ok, q⟩)
    | brk =>
      obtain ⟨σ', H', J', q⟩ := hsp
      exact Exists.intro σ' ⟨H', J'.ofTry ok, q⟩
    | cont =>
      obtain ⟨σ', H', J', q⟩ := hsp
      exact Exists.intro σ' ⟨H', J'.ofTry ok, q⟩
    | ret u =>
      obtain ⟨v, σ', H', J', r, q⟩ := hsp
      exact Exists.intro v ⟨σ', H', J'.ofTry ok, r, q⟩
end
structure HxC (K : PySem.W.Frag) (D : Addr) : Prop where
  xf : XfC K D
  hc : (PySem.W.clsIn K D).isSome = true
  ha : PySem.W.findIn K (.ref D) "__class__" = some (some (.builtin "object.__class__"))
  hn : PySem.W.specialIn K (.builtin "object.__class__") "__get__" = some (some (.builtin "getset_descriptor.__get__"))
  ht : PySem.W.takesIn K (.builtin "object.__class__") = some true
  hm : PySem.W.mroIn K D (.type "object") = some true
def rIsX (K : PySem.W.Frag) (D a dd : Addr) : List V → Hp → VK → Prop := fun xs H Q => ∃ (c : V) (cv : Value) (us : List (Str × V)), xs = [.ref a, c] ∧ (∀ u, RelV c u → u = cv) ∧ PySem.W.kitOne K (.ref D) cv = some true ∧ H dd = some (.xd us) ∧ Q (.bl true) H
theorem call_isX {X : Cx} {a D dd : Addr} {oe : Obj} {pn : List (Addr × Obj)} (C : HxC X.K D) (hz : Zc (.ref D) (some dd) oe) (hf : ∃ vs, oe.data = .fields vs) : CallR (X.suite a ((a, oe) :: pn)) (.builtin "isinstance") (rIsX X.K D a dd) := by
  intro pins s σ H xs us Q I r h
  obtain ⟨c, cv, fs, rfl, hcv, e, hd, q⟩ := h
  cases r with
  | cons rx rr =>
    cases rr with
    | cons rt rr =>
      cases rr
      cases rx
      obtain rfl := hcv _ rt
      obtain ⟨hget, _⟩ := I.pin (a, oe) (List.mem_append_left _ List.mem_cons_self)
      obtain ⟨vs, hv⟩ := hf
      have hx : ObjOk X.prog X.w H s.heap dd (.xd fs) := I.hok dd _ hd
      obtain ⟨mA, hns, _⟩ := hx
      obtain ⟨od, _, _, ho, _⟩ := hns
      have J : PySem.W.InstAt s.heap a oe D (some od) := by
        obtain ⟨oc, od', oda, osl⟩ := oe
        obtain ⟨h1, h2⟩ := hz
        dsimp only at h1 h2 hv
        subst h1 h2 hv
        exact ⟨hget, rfl, rfl, ho⟩
      exact PySem.W.kia_one (PySem.W.kitx_exc C.hc C.xf.ga C.xf.gg C.xf.exC C.ha C.hn C.ht C.hm) I.kIn J e (fun z => nomatch z) fun tk => ⟨.bl true, H, I.kept (t' := tk) fun _ _ z => z, rfl, q⟩
end Rg
set_option Elab.async false
set_option linter.all false
set_option maxRecDepth 100000
set_option maxHeartbeats 4000000
namespace Rg
open PySem PySem.Spec PyProof.Rows L2
def tsX (K : PySem.W.Frag) (i : Nat) (C : Addr) (s : Str) (fs : List Str) : Addr → Value → Option Addr → TS := fun a cls d D σ H => σ[i]? = some (some (.ref a)) ∧ cls = .ref C ∧
  ∃ (dd : Addr) (us : List (Str × V)) (vs : List V), d = some dd ∧ H dd = some (.xd us) ∧ fs.mapM (fun f => us.lookup f) = some vs ∧ ∀ p o, H p = none → o.dict = none → D.rt (.ref p) (upd H p (.frz o (.tup (.str s :: (vs ++ [.bl true])))))
structure HxK (K : PySem.W.Frag) (C R : Addr) (fs : List Str) : Prop where
  hx : HxC K C
  no : ∀ f ∈ fs, PySem.W.findIn K (.ref C) f = some none
  isR : PySem.W.kitOne K (.ref C) (.ref R) = some true
  isV : PySem.W.kitOne K (.ref C) (.type "ValueError") = some true
section
variable {X : Cx} {n rn cn s : Str} {i j k : Nat} {C R : Addr}
theorem names_in {x : Str} (hg : Gl X x) (hd : (x == ("__debug__" : Str)) = false) {c : Value} (hm : X.mg x = some c) : Names X x c := ⟨hg, hd, .inl hm⟩
theorem pe_isRV {a dd : Addr} {oe : Obj} {pn : List (Addr × Obj)} {p1 p2 p3 p4 p5 p6 p7 p8 p9 : Pos} (hi : X.N[i]? = some n) (hv : Vis X.env.scope n) (n1 : (n == ("__debug__" : Str)) = false) (n2 : (n == ("__classdict__" : Str)) = false)
    (gi : Gl X "isinstance") (mi : X.mg "isinstance" = none) (gr : Gl X rn) (mr : X.mg rn = some (.ref R)) (r1 : (rn == ("__debug__" : Str)) = false) (gv : Gl X "ValueError") (mv : X.mg "ValueError" = none) {fs : List Str} (B : HxK X.K C R fs)
    (hz : Zc (.ref C) (some dd) oe) (hf : ∃ vs, oe.data = .fields vs) :
    PE (X.suite a ((a, oe) :: pn)) (.BoolOp .And [.Call (.Name "isinstance" p1) [.Name n p2, .Name rn p3] [] p4, .Call (.Name "isinstance" p5) [.Name n p6, .Name "ValueError" p7] [] p8] p9)
      (fun σ H Q => σ[i]? = some (some (.ref a)) ∧ (∃ us, H dd = some (.xd us)) ∧ Q (.bl true) H) := by
  have cr := call_isX (X := X) (a := a) (dd := dd) (pn := pn) B.hx hz hf
  have en : ∀ p, PE (X.suite a ((a, oe) :: pn)) (.Name n p) (tVar i) := fun p => pe_var hi hv n1 n2
  have er : PE (X.suite a ((a, oe) :: pn)) (.Name rn p3) (tC (.ref R)) := pe_glob gr mr rfl r1
  have ev : PE (X.suite a ((a, oe) :: pn)) (.Name "ValueError" p7) (tC (.ty "ValueError")) := pe_bltn (u := .type "ValueError") gv mv PyProof.Rows.Boot.«ValueError» rfl (by decide) (by decide)
  have c1 : PE (X.suite a ((a, oe) :: pn)) (.Call (.Name "isinstance" p1) [.Name n p2, .Name rn p3] [] p4) _ := pe_callB cr gi mi isi_boot (pa_cons (en p2) (pa_cons er pa_nil rfl) rfl) (by decide) (by decide) rfl rfl
  have c2 : PE (X.suite a ((a, oe) :: pn)) (.Call (.Name "isinstance" p5) [.Name n p6, .Name "ValueError" p7] [] p8) _ := pe_callB cr gi mi isi_boot (pa_cons (en p6) (pa_cons ev pa_nil rfl) rfl) (by decide) (by decide) rfl rfl
  refine PE.imp (pe_and c1 (pe_one c2)) fun σ H Q ⟨h1, ⟨us, h2⟩, q⟩ => ?_
  refine ⟨.ref a, h1, .ref R, .ref R, us, rfl, fun u e => e, B.isR, h2, true, rfl, ?_⟩
  rw [if_pos rfl]
  exact ⟨.ref a, h1, .ty "ValueError", .type "ValueError", us, rfl, fun u e => e, B.isV, h2, q⟩
theorem hd_one {fl : Str} {np p1 p2 p3 p4 p5 p6 p7 p8 p9 q1 q2 q3 q4 q5 p' : Pos} {hds : List ExceptHandler} {l : List (Value × (Addr → Value → Option Addr → TS))} (hi : X.N[i]? = some n) (hln : X.env.kindOf n = some .local) (n1 : (n == ("__debug__" : Str)) = false) (n2 : (n == ("__classdict__" : Str)) = false)
    (gi : Gl X "isinstance") (mi : X.mg "isinstance" = none) (gr : Gl X rn) (mr : X.mg rn = some (.ref R)) (r1 : (rn == ("__debug__" : Str)) = false) (gv : Gl X "ValueError") (mv : X.mg "ValueError" = none) (B : HxK X.K C R [fl]) (hc : Names X cn (.ref C)) (r : HdsAs X n hds l) :
    HdsAs X n (.ExceptHandler (some (.Name cn np)) (some n) [.Return (some (.Tuple [.Constant (.str s) j q1, .Attribute (.Name n q2) fl q3,
      .BoolOp .And [.Call (.Name "isinstance" p1) [.Name n p2, .Name rn p3] [] p4, .Call (.Name "isinstance" p5) [.Name n p6, .Name "ValueError" p7] [] p8] p9] k q4)) q5] p' :: hds) ((.ref C, tsX X.K i C s [fl]) :: l) := by
  refine .cons hc (fun a oe cls d pn hz hf => ?_) r
  refine ⟨fun pins s σ H D I h => ?_⟩
  obtain ⟨h1, rfl, dd, us, vs, rfl, h2, h3, q⟩ := h
  have hv : Vis X.env.scope n := .inl hln
  obtain ⟨v, hl, rfl⟩ : ∃ v, us.lookup fl = some v ∧ vs = [v] := by
    simp only [List.mapM_cons, List.mapM_nil] at h3
    cases e : us.lookup fl with
    | none => rw [e] at h3; cases h3
    | some v => rw [e] at h3; cases h3; exact ⟨v, rfl, rfl⟩
  refine (pss_one (ps_ret (pe_tupF (pa_cons pe_str (pa_cons (pe_xf B.hx.xf (B.no fl List.mem_cons_self) hz hf (pe_var (i := i) hi hv n1 n2)) (pa_cons (pe_isRV hi hv n1 n2 gi mi gr mr r1 gv mv B hz hf) pa_nil rfl) rfl) rfl)))).run pins s σ H D I ?_
  refine ⟨.ref a, h1, rfl, rfl, dd, us, v, rfl, h2, hl, h1, ⟨us, h2⟩, ?_, fun p o hp ho => q p o hp ho⟩
  show 3 ≤ sizeLine
  decide
theorem hd_two {fl gl : Str} {np p1 p2 p3 p4 p5 p6 p7 p8 p9 q1 q2 q3 q4 q5 q6 q7 p' : Pos} {hds : List ExceptHandler} {l : List (Value × (Addr → Value → Option Addr → TS))} (hi : X.N[i]? = some n) (hln : X.env.kindOf n = some .local) (n1 : (n == ("__debug__" : Str)) = false) (n2 : (n == ("__classdict__" : Str)) = false)
    (gi : Gl X "isinstance") (mi : X.mg "isinstance" = none) (gr : Gl X rn) (mr : X.mg rn = some (.ref R)) (r1 : (rn == ("__debug__" : Str)) = false) (gv : Gl X "ValueError") (mv : X.mg "ValueError" = none) (B : HxK X.K C R [fl, gl]) (hc : Names X cn (.ref C)) (r : HdsAs X n hds l) :
    HdsAs X n (.ExceptHandler (some (.Name cn np)) (some n) [.Return (some (.Tuple [.Constant (.str s) j q1, .Attribute (.Name n q2) fl q3, .Attribute (.Name n q6) gl q7,
      .BoolOp .And [.Call (.Name "isinstance" p1) [.Name n p2, .Name rn p3] [] p4, .Call (.Name "isinstance" p5) [.Name n p6, .Name "ValueError" p7] [] p8] p9] k q4)) q5] p' :: hds) ((.ref C, tsX X.K i C s [fl, gl]) :: l) := by
  refine .cons hc (fun a oe cls d pn hz hf => ?_) r
  refine ⟨fun pins s σ H D I h => ?_⟩
  obtain ⟨h1, rfl, dd, us, vs, rfl, h2, h3, q⟩ := h
  have hv : Vis X.env.scope n := .inl hln
  obtain ⟨v, w, hl, hl2, rfl⟩ : ∃ v w, us.lookup fl = some v ∧ us.lookup gl = some w ∧ vs = [v, w] := by
    simp only [List.mapM_cons, List.mapM_nil] at h3
    cases e : us.lookup fl with
    | none => rw [e] at h3; cases h3
    | some v =>
      cases e2 : us.lookup gl with
      | none => rw [e, e2] at h3; cases h3
      | some w => rw [e, e2] at h3; cases h3; exact ⟨v, w, rfl, rfl, rfl⟩
  refine (pss_one (ps_ret (pe_tupF (pa_cons pe_str (pa_cons (pe_xf B.hx.xf (B.no fl List.mem_cons_self) hz hf (pe_var (i := i) hi hv n1 n2)) (pa_cons (pe_xf B.hx.xf (B.no gl (List.mem_cons_of_mem _ List.mem_cons_self)) hz hf (pe_var (i := i) hi hv n1 n2))
    (pa_cons (pe_isRV hi hv n1 n2 gi mi gr mr r1 gv mv B hz hf) pa_nil rfl) rfl) rfl) rfl)))).run pins s σ H D I ?_
  refine ⟨.ref a, h1, rfl, rfl, dd, us, v, rfl, h2, hl, .ref a, h1, rfl, rfl, dd, us, w, rfl, h2, hl2, h1, ⟨us, h2⟩, ?_, fun p o hp ho => q p o hp ho⟩
  show 4 ≤ sizeLine
  decide
end
abbrev Hl := List (Addr × Str × List Str)
def hearW (K : PySem.W.Frag) (Q : VK) : Hl → Value → Option Addr → Hp → Prop
  | [] => fun _ _ _ => False
  | (C, s, fs) :: r => fun cls d H => ∃ b, PySem.W.exmOne K cls (.ref C) = some b ∧ (b = true → cls = .ref C ∧ ∃ (dd : Addr) (us : List (Str × V)) (vs : List V), d = some dd ∧ H dd = some (.xd us) ∧ fs.mapM (fun f => us.lookup f) = some vs ∧
      ∀ p o, H p = none → o.dict = none → Q (.ref p) (upd H p (.frz o (.tup (.str s :: (vs ++ [.bl true])))))) ∧ (b = false → hearW K Q r cls d H)
def tsL (K : PySem.W.Frag) (i : Nat) (hl : Hl) : List (Value × (Addr → Value → Option Addr → TS)) := hl.map fun h => (.ref h.1, tsX K i h.1 h.2.1 h.2.2)
theorem hear_as {K : PySem.W.Frag} {i : Nat} {D : Ends} {cls : Value} {d : Option Addr} {σ : L2.St} {H : Hp} (hi : i < σ.length) : ∀ {hl : Hl}, hearW K D.rt hl cls d H → wAsM K (fun _ _ _ _ => False) i D (tsL K i hl) cls d σ H
  | [], h => h
  | (C, s, fs) :: r, ⟨b, h1, h2, h3⟩ => by
    refine ⟨b, h1, fun hb a na => ?_, fun hb => hear_as hi (h3 hb)⟩
    obtain ⟨e, dd, us, vs, q1, q2, q3, q4⟩ := h2 hb
    exact ⟨List.getElem?_set_self hi, e, dd, us, vs, q1, q2, q3, q4⟩
def TTh (K : PySem.W.Frag) (hl : Hl) : (XK → Hp → VK → Prop) → Hp → VK → Prop := fun tl H Q =>
  tl (fun cls d H' => hearW K Q hl cls d H') H fun _ H' => ([] : List V).length ≤ sizeLine ∧ ∀ p o, H' p = none → o.dict = none → Q (.ref p) (upd H' p (.frz o (.tup [])))
theorem hear_gives {X : Cx} {Ng : List Str} {x a n q : Str} {sg : Scope} {g : Addr} {cdg : Value} {kk : Nat} {hds : List ExceptHandler} {h₀ : ExceptHandler} {hl : Hl} {p1 p2 p3 p8 p9 p10 : Pos} (hN : Ng = [a, n]) (nd : Ng.Nodup) (hln : sg.names.lookup n = some .local)
    (hh : ∀ (s : Shared) (H : Hp), HdsAs (cxOf C8.CX0 X.prog X.w X.K X.mg X.base Ng x sg g cdg X.A X.stack s H C8.E0).nox n (h₀ :: hds) (tsL X.K 1 hl)) :
    LamX.GivesTo X Ng x sg g cdg [.Try [.Expr (.Call (.Name a p1) [] [] p2) p3] (h₀ :: hds) [] [] p8, .Return (some (.Tuple [] kk p9)) p10] a q (TTh X.K hl) := by
  subst hN
  intro f c' s H Q tl act hc h
  refine ⟨_, pss_cons (ps_try_asM (X := (cxOf C8.CX0 X.prog X.w X.K X.mg X.base [a, n] x sg g cdg X.A X.stack s H C8.E0).nox) (i := 1) (n := n)
      (tb := fun W D σ H => ∃ Ech : XK, (∀ cls d σ' H', σ'.length = 2 → Ech cls d H' → W cls d σ' H') ∧ σ.length = 2 ∧ σ[0]? = some (some (.ref f)) ∧ H c' = some (LamX.CodeO c' q) ∧ tl Ech H fun _ H' => D.nx σ H')
      rfl rfl nd rfl hln LamX.takes0 (fun W pn xe tk _ => ?_) (hh s H)) (pss_one (ps_ret (pe_tupF pa_nil))), ?_⟩
  · refine ⟨fun pins s' σ H' D I h' => ?_⟩
    obtain ⟨Ech, hW, h0, h1, h2, h3⟩ := h'
    have hp := act (fun cls d σ' H' => σ'.length = 2 → W cls d σ' H') pn xe Ech p1 p2 (fun u s' xx => by
      obtain ⟨a', B, sI, pins', σ', H', cls, d, e, J, nb, up, sky, na, os, ag, wq⟩ := xx
      exact tk u s' ⟨a', B, sI, pins', σ', H', cls, d, e, J, nb, up, sky, na, os, ag, wq J.len⟩) (fun cls d σ' H' hE hlen => hW cls d σ' H' hlen hE)
    have hq := pss_one (ps_expr (pos := p3) hp rfl)
    exact hq.run pins s' σ H' D I ⟨h1, h2, h3⟩
  · refine ⟨fun cls d H' => hearW X.K Q hl cls d H', fun cls d σ' H' hlen hE => ?_, rfl, rfl, hc, ?_⟩
    · exact hear_as (D := { nx := _, rt := Q, bk := _, ct := _ }) (by omega) hE
    · exact h
end Rg
set_option Elab.async false
set_option linter.all false
set_option maxRecDepth 100000
set_option maxHeartbeats 4000000
namespace Rg
open PySem PySem.Spec PyProof.Rows L2
section
variable {X : Cx} {pins : List (Addr × Obj)} {σ : L2.St} {H : Hp} {s : Shared}
abbrev lamQ (X : Cx) : Str := X.env.qual ++ "<lambda>"
abbrev lamO (X : Cx) (params : Arguments) (body : Expr) (scope : Scope) (pm : Value) (c' : Addr) (ctv : Value) : Obj := PySem.W.kla_obj "<lambda>" (lamQ X) params body scope (cloFrom X.env.cells scope.names []) pm c' ctv
theorem lam_mk {T : List (Addr × Str)} {c P : Addr} {params : Arguments} {body : Expr} {scope : Scope} {pos : Pos} {E : Value → Shared → Prop} {Q : Value → Shared → Prop} (I : L2.Inv X pins σ H s) (TB : LamX.TabB X.base X.mg c P) (hcode : X.env.code = .ref c) (hm : (P, lamQ X) ∈ T)
    (hu : ∀ p ∈ T, p.1 = P → p.2 = lamQ X) (hT : LamX.Tabs T H) (hdef : defaultsOf params X.env = ([], [])) (hfree : ∀ y ∈ scope.names, y.2 = .free → ∃ c, X.env.cells.lookup y.1 = some c)
    (h : ∀ (f c' : Addr) (pm ctv : Value) (H1 : Hp) (s' : Shared), L2.Inv X pins σ H1 s' → (∀ b o, b ≠ P → H b = some o → H1 b = some o) → LamX.Tabs T H1 → s'.heap.get? f = some (lamO X params body scope pm c' ctv) → H1 f = none → f ∉ frs X.stack → H1 c' = some (LamX.CodeO c' (lamQ X)) → Q (.ref f) s') :
    wpAny (model X.prog X.w) X.A (eval (.Lambda params body scope pos) X.env) Q E s := by
  obtain ⟨ps, hP, ht, ha⟩ := hT _ hm
  refine PySem.W.kla_eval hdef ?_
  have bP := TB.bm.keeps I.bk
  have hP' : s.heap.get? P = some { cls := .none, data := .fields ps } := I.hok P _ hP
  have nofr : ∀ f, s.heap.objs.size ≤ f → f ∉ frs X.stack := fun f hf z => (List.mem_cons.mp (I.stkSub _ z)).elim (fun e => absurd I.lt (by rw [← e]; exact Nat.not_lt.mpr hf)) (I.nofs hf)
  have cl := closure_ok (env := X.env) hfree
  have gl := I.mod.glob.keeps I.bk
  have cd := TB.code.keeps I.bk
  cases hc : codeAmong pos ps.toList with
  | some cv =>
    obtain ⟨c', rfl, hco⟩ := ha pos cv hc
    refine PySem.W.kla_makeFunctionHit (mg := X.mg) (c := c) (P := P) (ps := ps) cl I.ok.glob gl hcode cd hP' ht hc bP fun ctv h' tk hx hsz => ?_
    have I1 : L2.Inv X pins σ H { s with heap := h'.push (lamO X params body scope ((X.mg "__name__").getD .none) c' ctv), toks := tk } := I.kept fun b o e => Heap.get?_push_of_some _ (hx b o e)
    exact h h'.objs.size c' ((X.mg "__name__").getD .none) ctv H _ I1 (fun b o _ e => e) hT (Heap.get?_push_size _ rfl) (I.hok.fresh hsz) (nofr _ hsz) hco
  | none =>
    refine PySem.W.kla_makeFunction (mg := X.mg) (c := c) (P := P) (ps := ps) cl I.ok.glob gl hcode cd hP' ht hc TB.gP bP fun c' ctv h' tk hx hge hlt hrec htb => ?_
    obtain ⟨c2, oc, vs, t, e2, hoc, hd, hv⟩ := hrec
    obtain rfl : c' = c2 := Value.ref.inj e2
    have hsz := Nat.le_trans hge (Nat.le_of_lt hlt)
    have nC : H c' = none := I.hok.fresh hge
    have I1 := LamX.inv_table (t' := tk) (more := #[rawInt pos.line, rawInt pos.col, .ref c']) (h' := h'.push (lamO X params body scope ((X.mg "__name__").getD .none) c' ctv)) I hP (fun b o hb e => Heap.get?_push_of_some _ (hx b o hb e))
      (Heap.get?_push_of_some _ htb) hge (Exists.intro oc ⟨vs, t, Heap.get?_push_of_some _ hoc, hd, hv⟩)
    have hE : ∀ b o, b ≠ P → H b = some o → upd (upd H P (.tbl (ps ++ #[rawInt pos.line, rawInt pos.col, .ref c']))) c' (LamX.CodeO c' (lamQ X)) b = some o := fun b o n e => by
      rw [upd_ne (ne_of_none e nC), upd_ne n]
      exact e
    have nP : ∀ {b : Addr} {q : Str}, H b = some (LamX.CodeO b q) → b ≠ P := fun {b q} e z => by
      rw [z, hP] at e
      exact LamX.codeO_ne ps (Option.some.inj e).symm
    have eL : (ps ++ #[rawInt pos.line, rawInt pos.col, .ref c']).toList = ps.toList ++ [rawInt pos.line, rawInt pos.col, .ref c'] := by simp
    have n1 : h'.objs.size ≠ c' := Nat.ne_of_gt hlt
    have n2 : h'.objs.size ≠ P := Nat.ne_of_gt (Nat.lt_of_lt_of_le (Heap.lt_size hP') hsz)
    refine h h'.objs.size c' ((X.mg "__name__").getD .none) ctv _ _ I1 hE (fun p hp => ?_) (Heap.get?_push_size _ rfl) (by rw [upd_ne n1, upd_ne n2]; exact I.hok.fresh hsz) (nofr _ hsz) upd_same
    by_cases hb : p.1 = P
    · rw [hu p hp hb, hb]
      refine ⟨_, by rw [upd_ne (ne_of_none hP nC), upd_same], by rw [eL]; exact PySem.TriplesOk_snoc _ _ _ _ ht, fun p' cv hcv => ?_⟩
      rw [eL] at hcv
      rcases LamX.among_app _ ht hcv with z | z
      · obtain ⟨c0, e1, e2⟩ := ha p' cv z
        exact ⟨c0, e1, hE _ _ (nP e2) e2⟩
      · exact ⟨c', z, upd_same⟩
    · obtain ⟨qs, a1, a2, a3⟩ := hT p hp
      refine ⟨qs, hE _ _ hb a1, a2, fun p' cv hcv => ?_⟩
      obtain ⟨c0, e1, e2⟩ := a3 p' cv hcv
      exact ⟨c0, e1, hE _ _ (nP e2) e2⟩
end
section
variable {T : Tab}
theorem Rel.lam {hr : AS} {ow : Ow} {env : List Slot} {S : List Cell} {σ : L2.St} {H H' : Hp} {P : Addr} {q : Str} (R : Rel T hr ow H env S σ) (hP : (P, q) ∈ T.lams) (k : ∀ b o, b ≠ P → H b = some o → H' b = some o) (tl : LamX.Tabs T.lams H') :
    Rel T hr ow H' env S σ ∧ Gr hr ow H ow H' ∧ Slo ow H ow H' := by
  obtain ⟨ps, tp, _⟩ := R.tab.2 _ hP
  have neP : ∀ {b : Addr}, Nfx (H b) → b ≠ P := fun {b} n z => n.1 ps (by rw [z]; exact tp)
  have at_ : ∀ a, hid hr ow a → H' a = H a := fun a z => by
    cases e : H a with
    | none => exact absurd e (R.track a z)
    | some o => exact k a o (neP (R.nt a z)) e
  have st : Stp H H' := fun a o e n => k a o (fun z => by rw [z, tp] at e; cases e; exact n ps rfl) e
  have g : Gr hr ow H ow H' := ⟨(hide_mono st).ext, fun _ _ h => h, fun a z => at_ a (.inl z)⟩
  refine ⟨R.keep g (fun p a z => at_ a (.inr ⟨p, z⟩)) ⟨fun Q hQ => ?_, tl⟩, g, fun _ => rfl, fun i a z => at_ a (.inr ⟨_, z⟩)⟩
  obtain ⟨qs, h1, h2⟩ := R.tab.1 Q hQ
  exact ⟨qs, k _ _ (fun z => T.dj Q hQ _ hP z.symm) h1, h2⟩
theorem Rel.anyS {hr : AS} {ow : Ow} {H : Hp} {S : List Cell} {σ σ' : L2.St} (R : Rel T hr ow H [] S σ) : Rel T hr ow H [] S σ' := ⟨fun i => R.sl i, R.st, R.so, R.inj, R.dis, R.hrt, R.tab, Nat.zero_le _, R.hnt⟩
end
structure HdOk (P : Program) (w : World) (K : PySem.W.Frag) (mg : Str → Option Value) (base : Heap) (T : Tab) (x : Str) : Prop where
  ex : ∃ (g : Addr) (a : Str) (Ng : List Str) (pg : Arguments) (bg : List Stmt) (sg : Scope) (dV kV doc pm cdv ct oc : Value) (an od : Option Addr) (osl : Array (Option Value)) (hl : Hl), mg x = some (.ref g) ∧ PySem.W.keepIn K (.ref g) = true ∧
    K.lookup g = some ⟨oc, od, .func (PySem.W.fnOf x x pg bg sg dV kV doc pm an cdv ct), osl⟩ ∧ PySem.W.codeIn K cdv x = true ∧ L2.Binds K (PySem.W.fnOf x x pg bg sg dV kV doc pm an cdv ct) [a] [] ∧ FnScope Ng [a] sg ∧ Ng[0]? = some a ∧ Vis sg a ∧
    (a == ("__debug__" : Str)) = false ∧ (a == ("__classdict__" : Str)) = false ∧
    (∀ X : Cx, X.prog = P → X.w = w → X.K = K → X.mg = mg → X.base = base → ∀ q, LamX.GivesTo X Ng x sg g cdv bg a q (TTh K hl)) ∧
    ∃ c1 c2 c3 c4, T.xcl 101 = some c1 ∧ T.xcl 102 = some c2 ∧ T.xcl 103 = some c3 ∧ T.xcl 104 = some c4 ∧
      hl = [(c1, ("bad" : Str), [T.fld 101]), (c2, ("barred" : Str), [T.fld 102]), (c3, ("refused" : Str), [T.fld 103]), (c4, ("unread" : Str), [T.fld 104, T.fld 103])] ∧
      [c1, c2, c3, c4].Nodup ∧ ∀ i j, i ∈ [c1, c2, c3, c4] → j ∈ [c1, c2, c3, c4] → PySem.W.exmOne K (.ref i) (.ref j) = some (decide (i = j))
end Rg
set_option Elab.async false
set_option linter.all false
set_option maxRecDepth 100000
set_option maxHeartbeats 4000000
namespace Rg
open PySem PySem.Spec PyProof.Rows L2
section
variable {T : Tab} {K : PySem.W.Frag}
theorem lk_one {f : Str} {v : V} : [f].mapM (fun g => [(f, v)].lookup g) = some [v] := by
  simp [List.mapM_cons, List.lookup]
theorem hear_ex {hr : AS} {ow : Ow} {H : Hp} {env : List Slot} {S : List Cell} {σ : L2.St} {x : Xc} {cls : Value} {d : Option Addr} {d0 : D} {Q : VK} {c1 c2 c3 c4 : Addr} (hinj : ∀ n m, T.fld n = T.fld m → n = m) (h1 : T.xcl 101 = some c1) (h2 : T.xcl 102 = some c2) (h3 : T.xcl 103 = some c3) (h4 : T.xcl 104 = some c4)
    (nd : [c1, c2, c3, c4].Nodup) (hx : ∀ i j, i ∈ [c1, c2, c3, c4] → j ∈ [c1, c2, c3, c4] → PySem.W.exmOne K (.ref i) (.ref j) = some (decide (i = j))) (R : Rel T hr ow H env S σ) (xr : XR T hr ow H x cls d) (e : heardOf x = some d0) (m : Mkd T (hid hr ow) H d0 Q) :
    hearW K Q [(c1, ("bad" : Str), [T.fld 101]), (c2, ("barred" : Str), [T.fld 102]), (c3, ("refused" : Str), [T.fld 103]), (c4, ("unread" : Str), [T.fld 104, T.fld 103])] cls d H := by
  obtain ⟨C, a, us, rfl, hC, rfl, nh, hus, rf⟩ := xr
  simp only [List.nodup_cons, List.mem_cons, List.not_mem_nil, or_false, not_or, not_false_eq_true, List.nodup_nil, and_true] at nd
  obtain ⟨⟨n12, n13, n14⟩, ⟨n23, n24⟩, n34⟩ := nd
  have m1 : c1 ∈ [c1, c2, c3, c4] := by simp
  have m2 : c2 ∈ [c1, c2, c3, c4] := by simp
  have m3 : c3 ∈ [c1, c2, c3, c4] := by simp
  have m4 : c4 ∈ [c1, c2, c3, c4] := by simp
  have no : ∀ {i j : Addr} {p q : Prop}, i ∈ [c1, c2, c3, c4] → j ∈ [c1, c2, c3, c4] → j ≠ i → q → ∃ b, PySem.W.exmOne K (.ref i) (.ref j) = some b ∧ (b = true → p) ∧ (b = false → q) := fun {i j p q} hi hj n hq =>
    ⟨false, by rw [hx _ _ hi hj, decide_eq_false (Ne.symm n)], fun z => (by cases z), fun _ => hq⟩
  have yes : ∀ {i : Addr} {p q : Prop}, i ∈ [c1, c2, c3, c4] → p → ∃ b, PySem.W.exmOne K (.ref i) (.ref i) = some b ∧ (b = true → p) ∧ (b = false → q) := fun {i p q} hi hp =>
    ⟨true, by rw [hx _ _ hi hi, decide_eq_true rfl], fun _ => hp, fun z => (by cases z)⟩
  have one : ∀ {n : Nat} {dx : D} {s : Str} {C' : Addr}, x.2 = [(n, dx)] → d0 = .tup [.str s, dx, .bl true] → C' = C → Value.ref C = Value.ref C' ∧ ∃ (dd : Addr) (us' : List (Str × V)) (vs : List V), some a = some dd ∧ H dd = some (.xd us') ∧ [T.fld n].mapM (fun f => us'.lookup f) = some vs ∧
      ∀ p o, H p = none → o.dict = none → Q (.ref p) (upd H p (.frz o (.tup (.str s :: (vs ++ [.bl true]))))) := fun {n dx s C'} ex ed ec => by
    rw [ex] at rf
    subst ec ed
    cases rf with
    | cons r0 r1 =>
      cases r1
      exact ⟨rfl, a, _, _, rfl, hus, lk_one, fun p o hp ho => m.tup R.track (.cons (.str _) (.cons r0 (.cons (.bl _) .nil))) hp ho⟩
  obtain ⟨k, fs⟩ := x
  dsimp only at hC rf one
  unfold heardOf at e
  dsimp only at e
  split at e
  · rename_i hk
    subst hk
    rw [h1] at hC
    cases hC
    split at e
    · cases e
      exact yes m1 (one rfl rfl rfl)
    · cases e
  · split at e
    · rename_i hk
      subst hk
      rw [h2] at hC
      cases hC
      split at e
      · cases e
        exact no m2 m1 n12 (yes m2 (one rfl rfl rfl))
      · cases e
    · split at e
      · rename_i hk
        subst hk
        rw [h3] at hC
        cases hC
        split at e
        · cases e
          exact no m3 m1 n13 (no m3 m2 n23 (yes m3 (one rfl rfl rfl)))
        · cases e
      · split at e
        · rename_i hk
          subst hk
          rw [h4] at hC
          cases hC
          split at e
          · cases e
            refine no m4 m1 n14 (no m4 m2 n24 (no m4 m3 n34 (yes m4 ?_)))
            cases rf with
            | @cons _ _ v _ _ r0 r1 =>
              cases r1 with
              | @cons _ _ v2 _ _ r2 r3 =>
                cases r3
                refine ⟨rfl, a, _, [v2, v], rfl, hus, ?_, fun p o hp ho => m.tup R.track (.cons (.str _) (.cons r2 (.cons r0 (.cons (.bl _) .nil)))) hp ho⟩
                have ne : (T.fld 104 == T.fld 103) = false := beq_eq_false_iff_ne.mpr fun z => absurd (hinj _ _ z) (by decide)
                simp [List.mapM_cons, List.lookup, ne]
          · cases e
        · cases e
end
section
variable {X : Cx} {T : Tab} {Wx : WX} {phi : Nat → Fn}
theorem x_heard {k : Nat} {x : Str} {e : E} {c P : Addr} {params : Arguments} {body : Expr} {scope : Scope} {p lpos pos : Pos} (hinj : ∀ n m, T.fld n = T.fld m → n = m) (hd : HdOk X.prog X.w X.K X.mg X.base T x) (hg : Gl X x) (hdb : (x == ("__debug__" : Str)) = false) (TB : LamX.TabB X.base X.mg c P)
    (hcode : X.env.code = .ref c) (hmT : (P, lamQ X) ∈ T.lams) (hu : ∀ p ∈ T.lams, p.1 = P → p.2 = lamQ X) (hr : Room (k + 2) X.A) (L : LamX.LamS X.env.scope scope) (hdef : defaultsOf params X.env = ([], []))
    (hbind : ∀ (q : Str) (cl : List (Str × Addr)) (pm cv ctv : Value), bindArgs (PySem.W.kla_fn "<lambda>" q params body scope cl pm cv ctv) ⟨[], []⟩ = pure [])
    (hbody : ∀ (A : Around) (outer : List Env) (s : Shared) (H : Hp) (E : XK) (f c' : Addr), Room k (A.deeper (LamX.lamEnv X scope s.heap.objs.size f c')) → PE (LamX.lamCx X A outer s H E scope f c') body (tI T (fun cls d _ H' => E cls d H') (e.den phi))) :
    PE X (.Call (.Name x p) [.Lambda params body scope lpos] [] pos) (tI T Wx ((E.heard e).den phi)) := by
  obtain ⟨g, a, Ng, pg, bg, sg, dV, kV, doc, pm, cdv, ct, oc, an, od, osl, hl, hm, hk, lk, hcg, hb, Sg, hNg, hva, ha1, ha2, hG, c1, c2, c3, c4, h1, h2, h3, h4, rfl, nd, hx⟩ := hd.ex
  refine ⟨fun pins s σ H Q I h => ?_⟩
  obtain ⟨hr0, ow, env, S, R, q⟩ := h
  simp only [E.den] at q
  refine wpAny_Call_Name_kw (ld_glob I hg hm ?_ hdb)
  refine PySem.W.callWith_K (h₀ := X.base) I.ok.mod.kin hk ?_ (by rfl) (by rfl)
  show wpAny _ _ (spliced ((false, eval (Expr.Lambda params body scope lpos) X.env) :: backTo pos (starEach [] X.env))) _ _ s
  refine Calls.spliced_cons (lam_mk I TB hcode hmT hu R.tab.2 hdef (L.has I.ok) fun f c' pm' ctv H1 s' I1 eN T1 hf hfn hfr hco => ?_)
  refine Calls.spliced_nil ⟨I1.kIn, ?_⟩
  obtain ⟨R1, g1, s1⟩ := R.lam hmT eN T1
  have tt : TTh X.K [(c1, ("bad" : Str), [T.fld 101]), (c2, ("barred" : Str), [T.fld 102]), (c3, ("refused" : Str), [T.fld 103]), (c4, ("unread" : Str), [T.fld 104, T.fld 103])] (fun E H' Q' => tI T (fun cls d _ H' => E cls d H') (e.den phi) σ H' Q') H1 Q := by
    refine ⟨hr0, ow, env, S, R1, ?_⟩
    cases k1 : e.den phi env S with
    | bad => rw [k1] at q; exact q
    | ok w S1 =>
      rw [k1] at q
      intro v ow' H' g s r wv
      have q' : Post T (WR T) hr0 ow env σ H (.ok (.d (.tup [])) S1) Q Wx := q
      have q2 : Post T (WR T) hr0 ow' env σ H' (.ok (.d (.tup [])) S1) Q Wx := Post.grow q' (g1.trans g) (s1.trans s)
      exact ⟨by show 0 ≤ _; omega, fun p o hp ho => (q2.mkd r).tup r.track .nil hp ho⟩
    | ex x S1 =>
      rw [k1] at q
      intro cls d ow' H' g s r xr σ'
      obtain ⟨d0, hd0, q'⟩ := Post.opt (q : Post T (WR T) hr0 ow env σ H (Res.opt (heardOf x) fun d => .ok (.d d) S1) Q Wx)
      have q2 : Post T (WR T) hr0 ow' env σ H' (.ok (.d d0) S1) Q Wx := Post.grow q' (g1.trans g) (s1.trans s)
      exact hear_ex hinj h1 h2 h3 h4 nd hx r xr hd0 (q2.mkd r)
  have rc : codeAny (model X.prog X.w) X.A (.call (.ref g) ⟨[.ref f], []⟩) (CR C8.CX0 X.stack X.prog X.w H1 s' Q C8.E0) s' := by
    refine LamX.run_ofS (N := Ng) (ps := [a]) (us := [.ref f]) (vs := [.ref f]) lk hcg Sg hr I1.env0 (hb s' [.ref f] I1.kIn rfl) (.cons rfl .nil) rfl fun hr' => ?_
    obtain ⟨t', ht', hq'⟩ := hG X rfl rfl rfl rfl rfl (lamQ X) f c' s' H1 Q (fun E H' Q' => tI T (fun cls d _ H' => E cls d H') (e.den phi) σ H' Q')
      (fun W pn xe E p1 p2 tk hW => LamX.pe_act (i := 0) I1 L hf hfn hfr (hbind _ _ _ _ _) tk hW hr' (fun A outer s H hr2 => hbody A outer s H E f c' hr2) hNg hva ha1 ha2) hco tt
    exact ⟨t', ht'.nox, hq'⟩
  refine wpAny_call (codeAny_mono rc fun r s2 hq => ?_)
  cases r with
  | error e => exact (show False from hq).elim
  | ok fl =>
    cases fl with
    | ret u => exact I1.after hq
    | next => exact False.elim hq
    | brk => exact False.elim hq
    | cont => exact False.elim hq
end
end Rg
set_option Elab.async false
set_option linter.all false
set_option maxRecDepth 100000
set_option maxHeartbeats 4000000
namespace Rg
open PySem PySem.Spec PyProof.Rows L2
theorem sEq_ok {a b : D} (h : sEq a b = true) : a = b := by
  cases a <;> cases b <;> simp only [sEq, decide_eq_true_eq, Bool.false_eq_true] at h <;> first | rfl | rw [h]
theorem sEqs_ok : ∀ {a b : List D}, sEqs a b = true → a = b
  | [], [], _ => rfl
  | a :: l, b :: r, h => by
    simp only [sEqs, Bool.and_eq_true] at h
    rw [sEq_ok h.1, sEqs_ok h.2]
  | [], _ :: _, h => by cases h
  | _ :: _, [], h => by cases h
theorem sEqp_ok : ∀ {a b : List (D × D)}, sEqp a b = true → a = b
  | [], [], _ => rfl
  | (a, a') :: l, (b, b') :: r, h => by
    simp only [sEqp, Bool.and_eq_true] at h
    rw [sEq_ok h.1.1, sEq_ok h.1.2, sEqp_ok h.2]
  | [], _ :: _, h => by cases h
  | _ :: _, [], h => by cases h
theorem binO_ok {o : O2} {op : Operator} (h : binO o op = true) : o.sem = binaryOp op := by
  cases o <;> cases op <;> first | rfl | cases h
theorem cmpO_ok {o : O2} {op : CmpOp} (h : cmpO o op = true) : o.sem = compareOp op := by
  cases o <;> cases op <;> first | rfl | cases h
end Rg
set_option Elab.async false
set_option linter.all false
set_option maxRecDepth 100000
set_option maxHeartbeats 4000000
namespace Rg
open PySem PySem.Spec PyProof.Rows L2
structure SgOk (G : Sg) (P : Program) (w : World) (K : PySem.W.Frag) (mg : Str → Option Value) (base : Heap) (T : Tab) (phi : Nat → Fn) : Prop where
  kk : T.K = K
  inj : ∀ n m, T.fld n = T.fld m → n = m
  fns : ∀ p ∈ G.fns, Cd P w K mg base T p.1 (phi p.2.1) p.2.2
  mts : ∀ p ∈ G.mts, ∃ C, T.cls p.1 = some C ∧ (∀ n, T.fld n ≠ p.2.1) ∧ Md P w K mg base T C p.2.1 (phi p.2.2.1) p.2.2.2
  prs : ∀ p ∈ G.prs, ∃ C, T.cls p.1 = some C ∧ Pd P w K mg base T C p.2.1 (phi p.2.2.1) p.2.2.2
  kls : ∀ p ∈ G.kls, ∃ C, T.cls p.2.1 = some C ∧ Kd P w K mg base T p.1 C (phi p.2.2.1) p.2.2.2
  fls : ∀ p ∈ G.fls, ∃ C, T.cls p.1 = some C ∧ T.fld p.2.1 = p.2.2 ∧ Cls K C ∧ NoAttr K C p.2.2
  gls : ∀ p ∈ G.gls, ∃ v u, mg p.1 = some u ∧ RelV v u ∧ ∀ H, Rp T H p.2 v
  cln : ∀ p ∈ G.cln, ∃ C, T.cls p.2 = some C ∧ mg p.1 = some (.ref C) ∧ KitOk T K (.own p.2)
  tys : ∀ n, n = "int" ∨ n = "bool" ∨ n = "str" ∨ n = "tuple" ∨ n = "list" ∨ n = "dict" → KitOk T K (.ty n)
  ins : ∀ c C, T.cls c = some C → C8.InsC K C
  blt : ∀ x ∈ bltNames, mg x = none
  kts : ∀ p ∈ G.kts, KtOk K mg p.1 p.2
  kds : ∀ p ∈ G.kds, KdOk T K w mg p.1 p.2
  xcs : ∀ p ∈ G.xcs, Xd P w K mg base T p.1 p.2.1 p.2.2.1 p.2.2.2
  hrd : ∀ x ∈ G.hrd, HdOk P w K mg base T x
structure Gd (c : Cc) (T : Tab) (phi : Nat → Fn) (Wx : WX) (X : Cx) : Prop where
  sg : SgOk c.G X.prog X.w X.K X.mg X.base T phi
  tk : Takes X Wx
  N : X.N = c.N
  nd : X.N.Nodup
  sc : X.env.scope = c.sc
  fn : ∀ x, c.own.names.lookup x = some .cell → X.fn x = true
  calm : X.calm = true
  room : Room c.j X.A
  code : c.q = true → ∃ a P, X.env.code = .ref a ∧ GxR.TabB X.base X.mg a P ∧ P ∈ T.tabs
  lam : c.lq = true → ∃ a P, X.env.code = .ref a ∧ LamX.TabB X.base X.mg a P ∧ (P, lamQ X) ∈ T.lams ∧ ∀ p ∈ T.lams, p.1 = P → p.2 = lamQ X
theorem takes_N {X : Cx} : Takes X wN := fun u s' ⟨a, B, sI, pins, σ, H, cls, d, e, I, nb, up, sky, na, os, ag, w⟩ => w.elim
section
variable {c : Cc} {T : Tab} {phi : Nat → Fn} {Wx : WX} {X : Cx}
theorem Gd.un (g : Gd c T phi Wx X) : X.A.units + 65 < cLine := by have := g.room.un; omega
theorem Gd.gl (g : Gd c T phi Wx X) {x : Str} (h : c.isGl x = true) : Gl X x ∧ (x == ("__debug__" : Str)) = false := by
  unfold Cc.isGl at h
  simp only [Bool.and_eq_true, decide_eq_true_eq] at h
  refine ⟨?_, beq_eq_false_iff_ne.mpr h.2⟩
  show X.env.scope.names.lookup x = _
  rw [g.sc]
  exact h.1
theorem Gd.vis (g : Gd c T phi Wx X) {i : Nat} {x : Str} (h : c.isVis i x = true) : X.N[i]? = some x ∧ Vis X.env.scope x ∧ (x == ("__debug__" : Str)) = false ∧ (x == ("__classdict__" : Str)) = false := by
  unfold Cc.isVis at h
  simp only [Bool.and_eq_true, decide_eq_true_eq] at h
  obtain ⟨⟨⟨h1, h2⟩, h3⟩, h4⟩ := h
  refine ⟨by rw [g.N]; exact h1, ?_, beq_eq_false_iff_ne.mpr h3, beq_eq_false_iff_ne.mpr h4⟩
  rw [g.sc]
  unfold Vis
  split at h2 <;> first | (rename_i e; exact .inl e) | (rename_i e; exact .inr (.inl e)) | (rename_i e; exact .inr (.inr e)) | cases h2
theorem Gd.lcl (g : Gd c T phi Wx X) {i : Nat} {x : Str} (h : c.isLoc i x = true) : X.N[i]? = some x ∧ L2.Loc X.env.scope x ∧ (X.fn x = true ∨ X.env.scope.names.lookup x = some .local) := by
  unfold Cc.isLoc at h
  simp only [Bool.and_eq_true, Bool.or_eq_true, decide_eq_true_eq] at h
  obtain ⟨h1, h2⟩ := h
  refine ⟨by rw [g.N]; exact h1, ?_⟩
  rw [g.sc]
  rcases h2 with h2 | ⟨h2, h3⟩
  · exact ⟨.inl h2, .inr h2⟩
  · exact ⟨.inr h2, .inl (g.fn x h3)⟩
theorem Gd.blt (g : Gd c T phi Wx X) {x : Str} (h : x ∈ bltNames) : X.mg x = none := g.sg.blt x h
theorem Gd.blk (g : Gd c T phi Wx X) (s : Shared) (H : Hp) (scope : Scope) (cl : List (Str × Addr)) (C : Addr) (fp : List Addr) : Gd (c.blk scope) T phi wN (X.blk s H scope (compEnvC scope cl C X.env) fp) :=
  ⟨g.sg, takes_N, g.N, g.nd, (by
    show relabel scope X.env = relS scope c.sc
    rw [← g.sc]
    rfl), (fun x h => by
    show (scope.names.lookup x == some .cell) = true
    rw [show scope.names.lookup x = some .cell from h]
    rfl), g.calm, g.room, g.code, g.lam⟩
theorem Gd.gen (g : Gd c T phi Wx X) (hj : 3 ≤ c.j) (s : Shared) (H : Hp) (scope : Scope) (hcell : noCell scope = true) (cl : List (Str × Addr)) (C : Addr) (code : Value) (fp : List Addr) :
    Gd (c.gen scope) T phi wN (genCx X X.A.in1.in1 s H (genEnv scope cl C code builtinsNs X.env) fp) :=
  ⟨g.sg, takes_N, g.N, g.nd, rfl, (fun x h => by
    have h' : scope.names.lookup x = some .cell := h
    exfalso
    unfold noCell at hcell
    rw [List.all_eq_true] at hcell
    have hm : (x, NameKind.cell) ∈ scope.names := by
      clear hcell h
      revert h'
      generalize scope.names = l
      induction l with
      | nil => intro h'; cases h'
      | cons y r ih =>
        intro h'
        obtain ⟨n, k⟩ := y
        rw [List.lookup_cons] at h'
        cases hb : x == n with
        | true =>
          rw [hb] at h'
          cases h'
          rw [show x = n from eq_of_beq hb]
          exact List.mem_cons_self
        | false =>
          rw [hb] at h'
          exact List.mem_cons_of_mem _ (ih h')
    have := hcell _ hm
    cases this), g.calm, (by
      have h3 : Room (c.j - 3 + 3) X.A := by rw [Nat.sub_add_cancel hj]; exact g.room
      exact (h3.in1).in1.deeper _), (fun z => by cases z), fun z => by cases z⟩
theorem Gd.lamb (g : Gd c T phi Wx X) {k : Nat} (hj : k = c.j - 2) {scope : Scope} (hl : LamX.lamSB c.sc scope = true) (A : Around) (outer : List Env) (s : Shared) (H : Hp) (E : XK) (f c' : Addr) (hr : Room k (A.deeper (LamX.lamEnv X scope s.heap.objs.size f c'))) :
    Gd (c.lam scope) T phi (fun cls d _ H' => E cls d H') (LamX.lamCx X A outer s H E scope f c') :=
  ⟨g.sg, takes_of rfl rfl rfl rfl, g.N, g.nd, rfl, (fun x h => by
    have L := LamX.lamS_by hl
    have h' : scope.names.lookup x = some .cell := h
    exact absurd rfl (L.own _ (PySem.mem_of_lookup h')).2), rfl, (by subst hj; exact hr), (fun z => by cases z), fun z => by cases z⟩
theorem own_map {N : List Str} {vs : List Nat} : (vs.map fun i => (N.getD i Str.empty, i)).map (·.2) = vs := by
  rw [List.map_map]
  exact List.map_id _
theorem blt_any {l : List Str} {x : Str} (h : x ∈ bltNames) : x ∈ bltNames := h
theorem asEach_cons {e : Expr} {es : List Expr} {env : Env} (h : notStar e = true) : assignEach (e :: es) env = (false, assign e env) :: assignEach es env := by
  cases e <;> first | rfl | cases h
theorem tgs_len (g : Gd c T phi Wx X) {env : Env} : ∀ {l : Tgs} {es : List Expr}, tgsOk c l es = true → (assignEach es env).length = l.len ∧ (assignEach es env).findIdx? (·.1) = none
  | .nil, es, h => by
    unfold tgsOk at h
    split at h
    · exact ⟨rfl, rfl⟩
    · cases h
  | .cons t l, es, h => by
    unfold tgsOk at h
    split at h
    · rename_i e es
      simp only [Bool.and_eq_true] at h
      obtain ⟨⟨h1, h2⟩, h3⟩ := h
      rw [asEach_cons h1]
      obtain ⟨i1, i2⟩ := tgs_len g h3
      refine ⟨by rw [List.length_cons, i1]; rfl, ?_⟩
      rw [List.findIdx?_cons, i2]
      rfl
    · cases h
mutual
theorem tg_ok (g : Gd c T phi Wx X) : ∀ (t : Tg) {e : Expr}, tgOk c t e = true → PG X e (gTg X.K t)
  | .nm i, e, h => by
    unfold tgOk at h
    split at h
    · obtain ⟨h1, h2, h3⟩ := g.lcl h
      exact pg_name g.nd h1 h2 h3
    · cases h
  | .tp l, e, h => by
    unfold tgOk at h
    split at h
    · obtain ⟨i1, i2⟩ := tgs_len g (env := X.env) h
      exact pg_tup g.calm (tgs_ok g l h) i1 i2
    · cases h
theorem tgs_ok (g : Gd c T phi Wx X) : ∀ (l : Tgs) {es : List Expr}, tgsOk c l es = true → PGs X es (gTgs X.K l)
  | .nil, es, h => by
    unfold tgsOk at h
    split at h
    · exact pgs_nil
    · cases h
  | .cons t l, es, h => by
    unfold tgsOk at h
    split at h
    · simp only [Bool.and_eq_true] at h
      obtain ⟨⟨h1, h2⟩, h3⟩ := h
      refine pgs_cons (tg_ok g t h2) (tgs_ok g l h3) ?_
      rw [asEach_cons h1]
      rfl
    · cases h
end
end
end Rg
set_option Elab.async false
set_option linter.all false
set_option maxRecDepth 100000
set_option maxHeartbeats 8000000
namespace Rg
open PySem PySem.Spec PyProof.Rows L2
section
variable {T : Tab} {phi : Nat → Fn}
theorem t_ite {Wx : WX} {X : Cx} {c a b : E} {ec ea eb : Expr} {pos : Pos} (hc : PT X ec (tT (tI T Wx (c.den phi)))) (ha : PT X ea (tT (tI T Wx (a.den phi)))) (hb : PT X eb (tT (tI T Wx (b.den phi)))) : PT X (.IfExp ec ea eb pos) (tT (tI T Wx ((E.ite c a b).den phi))) := by
  refine ⟨fun pins s σ H Q I h => ?_⟩
  have h' : tI T Wx ((E.ite c a b).den phi) σ H fun x H1 => ∃ d, x = .bl d ∧ Q d H1 := h
  simp only [E.den] at h'
  have h2 := (tG.bind1 (Wq := WR T) h').mono (Q' := fun x H1 => ∃ d, x = .bl d ∧ if d = true then tB (tI T Wx (a.den phi)) σ H1 Q else tB (tI T Wx (b.den phi)) σ H1 Q) fun v H1 ⟨hr, ow, env, S, x, R, wx, p⟩ => by
    obtain ⟨t, ht, p⟩ := p.opt
    refine ⟨t, isBl_of wx ht, ?_⟩
    cases t with
    | true => exact ⟨hr, ow, env, S, R, by simpa using p⟩
    | false => exact ⟨hr, ow, env, S, R, by simpa using p⟩
  refine isTrue_IfExp (thn (hc.run pins s σ H _ I h2) fun d s1 ⟨H1, I1, q1⟩ => ?_)
  cases d with
  | true => exact ha.run pins s1 σ H1 Q I1 q1
  | false => exact hb.run pins s1 σ H1 Q I1 q1
theorem x_k {Wx : WX} {X : Cx} {d : D} {e : Expr} (h : kOk d e = true) : PE X e (tI T Wx ((E.k d).den phi)) := by
  unfold kOk at h
  split at h
  · rw [sEq_ok h]; exact x_c pe_int (fun _ _ => rfl) fun _ => .int _
  · rw [sEq_ok h]; exact x_c pe_str (fun _ _ => rfl) fun _ => .str _
  · rw [sEq_ok h]; exact x_c pe_bl (fun _ _ => rfl) fun _ => .bl _
  · rw [sEq_ok h]; exact x_c pe_non (fun _ _ => rfl) fun _ => .non
  · cases h
theorem x_bi {c : Cc} {Wx : WX} {X : Cx} (g : Gd c T phi Wx X) {b : Bi} {l : Es} {x : Str} {e : Expr} {es : List Expr} {p pos : Pos} (hb : b.nm = some x) (hg : Gl X x) (ha : PA X (e :: es) (tIs T Wx (l.den phi)))
    (he : starEach (e :: es) X.env = (false, eval e X.env) :: starEach es X.env) (hpl : (backTo pos (starEach es X.env)).any (·.1) = false) : PE X (.Call (.Name x p) (e :: es) [] pos) (tI T Wx ((E.bi b l).den phi)) := by
  cases b <;> cases hb
  · exact x_biB (id := "len") call_lenB hg (g.blt (by decide)) (by decide +kernel) ha (by decide) (by decide) he hpl
  · exact x_biT (ty := "int") call_intB hg (g.blt (by decide)) (by decide +kernel) ha (by decide) (by decide) he hpl
  · exact x_biT (ty := "tuple") call_tupleB hg (g.blt (by decide)) (by decide +kernel) ha (by decide) (by decide) he hpl
  · exact x_biT (ty := "list") call_listB hg (g.blt (by decide)) (by decide +kernel) ha (by decide) (by decide) he hpl
  · exact x_biB (id := "sum") (call_sumB g.calm) hg (g.blt (by decide)) (by decide +kernel) ha (by decide) (by decide) he hpl
  · exact x_biB (id := "sorted") call_sortB hg (g.blt (by decide)) (by decide +kernel) ha (by decide) (by decide) he hpl
theorem cl_ok {c : Cc} {Wx : WX} {X : Cx} (g : Gd c T phi Wx X) {cl : Cl} {e : Expr} (h : clOk c cl e = true) : ∃ cv, clV T cl = some cv ∧ PE X e (tC cv) ∧ KitOk T X.K cl := by
  cases cl with
  | ty n =>
    cases e with
    | Name x p =>
      simp only [clOk, Bool.and_eq_true, Bool.or_eq_true, decide_eq_true_eq] at h
      obtain ⟨h1, h2⟩ := h
      obtain ⟨g1, g2⟩ := g.gl h1
      rcases h2 with ((((⟨rfl, rfl⟩ | ⟨rfl, rfl⟩) | ⟨rfl, rfl⟩) | ⟨rfl, rfl⟩) | ⟨rfl, rfl⟩) | ⟨rfl, rfl⟩
      · exact ⟨_, rfl, pe_bltn (u := .type "int") g1 (g.blt (by decide)) (by decide +kernel) rfl (by decide) (by decide), g.sg.tys _ (.inl rfl)⟩
      · exact ⟨_, rfl, pe_bltn (u := .type "bool") g1 (g.blt (by decide)) (by decide +kernel) rfl (by decide) (by decide), g.sg.tys _ (.inr (.inl rfl))⟩
      · exact ⟨_, rfl, pe_bltn (u := .type "str") g1 (g.blt (by decide)) (by decide +kernel) rfl (by decide) (by decide), g.sg.tys _ (.inr (.inr (.inl rfl)))⟩
      · exact ⟨_, rfl, pe_bltn (u := .type "tuple") g1 (g.blt (by decide)) (by decide +kernel) rfl (by decide) (by decide), g.sg.tys _ (.inr (.inr (.inr (.inl rfl))))⟩
      · exact ⟨_, rfl, pe_bltn (u := .type "list") g1 (g.blt (by decide)) (by decide +kernel) rfl (by decide) (by decide), g.sg.tys _ (.inr (.inr (.inr (.inr (.inl rfl)))))⟩
      · exact ⟨_, rfl, pe_bltn (u := .type "dict") g1 (g.blt (by decide)) (by decide +kernel) rfl (by decide) (by decide), g.sg.tys _ (.inr (.inr (.inr (.inr (.inr rfl)))))⟩
    | _ => cases h
  | own k =>
    cases e with
    | Name x p =>
      simp only [clOk, Bool.and_eq_true, List.any_eq_true, decide_eq_true_eq] at h
      obtain ⟨h1, q, h2, h3, h4⟩ := h
      obtain ⟨g1, g2⟩ := g.gl h1
      obtain ⟨C, k1, k2, k3⟩ := g.sg.cln q h2
      subst h3 h4
      exact ⟨.ref C, by show (T.cls q.2).map V.ref = _; rw [k1]; rfl, pe_glob g1 k2 rfl g2, k3⟩
    | _ => cases h
theorem cls_ok {c : Cc} {Wx : WX} {X : Cx} (g : Gd c T phi Wx X) : ∀ {l : List Cl} {es : List Expr}, allNS es = true → clsOk c l es = true → ∃ cvs, l.mapM (clV T) = some cvs ∧ cvs.length = l.length ∧ PA X es (tCs cvs) ∧ ∀ cl ∈ l, KitOk T X.K cl
  | [], [], _, _ => ⟨[], rfl, rfl, pa_cs_nil, fun _ h => by cases h⟩
  | [], _ :: _, _, h => by cases h
  | _ :: _, [], _, h => by cases h
  | a :: l, e :: es, hs, h => by
    simp only [clsOk, Bool.and_eq_true] at h
    simp only [allNS, Bool.and_eq_true] at hs
    obtain ⟨cv, h1, h2, h3⟩ := cl_ok g h.1
    obtain ⟨cvs, k1, k2, k3, k4⟩ := cls_ok g hs.2 h.2
    refine ⟨cv :: cvs, by rw [List.mapM_cons, h1, k1]; rfl, by rw [List.length_cons, k2, List.length_cons], pa_cs h2 k3 (star_cons hs.1), fun cl hc => ?_⟩
    rcases List.mem_cons.mp hc with rfl | hc
    · exact h3
    · exact k4 cl hc
theorem es_ns {c : Cc} : ∀ {l : Es} {es : List Expr}, chkEs l c es = true → allNS es = true
  | .nil, es, h => by
    unfold chkEs at h
    split at h
    · rfl
    · cases h
  | .cons a l, es, h => by
    unfold chkEs at h
    split at h
    · simp only [Bool.and_eq_true] at h
      show (_ && _) = true
      rw [h.1.1, es_ns h.2]
      rfl
    · cases h
theorem clOk_ns {c : Cc} {cl : Cl} {e : Expr} (h : clOk c cl e = true) : notStar e = true := by
  cases e <;> first | rfl | (cases cl <;> exact absurd h (by simp [clOk]))
theorem chkF_val {c : Cc} {f : Fr} {x : Expr} (h : chkF f c x = true) : valT x = true := by
  cases f <;> (unfold chkF at h; first | cases h | (split at h <;> first | rfl | cases h))
def valE : E → Bool
  | .o2 _ _ _ => false
  | .ch _ _ _ _ _ => false
  | .nt _ => false
  | .bo _ _ => false
  | .ite _ _ _ => false
  | .inK _ _ _ _ => false
  | _ => true
theorem chk_val {c : Cc} {r : E} {x : Expr} (hv : valE r = true) (h : chkE r c x = true) : valT x = true := by
  cases r with
  | fr f => unfold chkE at h; exact chkF_val h
  | k d => unfold chkE at h; unfold kOk at h; split at h <;> first | rfl | cases h
  | neg a =>
    unfold chkE at h
    split at h
    · split at h
      · rfl
      · cases h
    · cases h
  | o2 _ _ _ => cases hv
  | ch _ _ _ _ _ => cases hv
  | nt _ => cases hv
  | bo _ _ => cases hv
  | ite _ _ _ => cases hv
  | inK _ _ _ _ => cases hv
  | bi b l =>
    unfold chkE at h
    split at h
    · split at h <;> first | rfl | cases h
    · split at h <;> first | rfl | cases h
  | _ => (unfold chkE at h; first | cases h | (split at h <;> first | rfl | cases h))
theorem few_ok {env : Env} {pos : Pos} {e : Expr} (h : notStar e = true) : ((backTo pos (starEach [e] env)).all (fun x => !x.1) && (backToKw pos (keywordEach [] env)).all (fun x => x.1.isSome) && decide (([e] : List Expr).length + ([] : List Keyword).length + (if ([] : List Keyword).isEmpty then 0 else 1) < 30)) = true := by
  have := ns_all (env := env) (pos := pos) (es := [e]) (by show (notStar e && true) = true; rw [h]; rfl)
  rw [this]
  rfl
theorem noPar_ok {params : Arguments} (h : noPar params = true) (env : Env) : defaultsOf params env = ([], []) ∧ ∀ (body : Expr) (scope : Scope) (q : Str) (cl : List (Str × Addr)) (pm cv ctv : Value), bindArgs (PySem.W.kla_fn "<lambda>" q params body scope cl pm cv ctv) ⟨[], []⟩ = pure [] := by
  unfold noPar at h
  split at h
  · exact ⟨rfl, fun _ _ _ _ _ _ _ => rfl⟩
  · cases h
def tLenT (K : PySem.W.Frag) (ta : TE) : TE := fun σ H Q => ta σ H fun x H1 => ∃ (l : Addr) (xs : List Str), x = .ref l ∧ SqT K H1 l (xs.map V.str) ∧ xs.length ≤ 4000 ∧ Q (.int (cntT xs xs.length)) H1
theorem pe_lenT {X : Cx} {a : Expr} {ta : TE} {p p2 q pos : Pos} (hc : X.calm = true) (hg : Gl X "len") (hm : X.mg "len" = none) (hg2 : Gl X "set") (hm2 : X.mg "set" = none) (ha : PE X a ta) (na : starEach [a] X.env = (false, eval a X.env) :: starEach [] X.env) :
    PE X (.Call (.Name "len" p) [.Call (.Name "set" p2) [a] [] q] [] pos) (tLenT X.K ta) := by
  refine ⟨fun pins s σ H Q I h => ?_⟩
  refine Call_ (ld_blt I hg hm boot_len (PyProof.Rows.callWith_builtin1 (args_cons ?_ rfl) rfl rfl))
  refine Call_ (ld_blt I hg2 hm2 boot_set (PyProof.Rows.callWith_type1 (args_cons (thn (ha.run pins s σ H _ I h) fun v s1 ⟨x, H1, I1, r1, q1⟩ => args_nil ?_) na) na rfl))
  obtain ⟨l, xs, rfl, hq, hl, q1⟩ := q1
  cases r1
  obtain ⟨its, r, pl, hz⟩ := I1.tuple hq
  refine call_setT (I1.ok.hd hc) pl (by simpa using strsAre_of r) (by unfold scanBound; omega) fun h' tk hS hk => args_nil ?_
  obtain ⟨o, es, ep, t, ho, hex, hd, _, _, _, hf, hn⟩ := hS
  have I2 : L2.Inv X pins σ H1 { s1 with heap := h', toks := tk } := I1.kept fun b o e => hk b o (Heap.lt_size e) e
  exact call_len_set ho hex hd hf (by rw [hn]; have := cntT_le xs xs.length; omega) ⟨.int (cntT xs xs.length), H1, I2.tok _, ⟨_, by rw [hn]⟩, q1⟩
theorem strsL_rp {T : Tab} {H : Hp} : ∀ {l : List D} {xs : List Str} {vs : List V}, strsL l = some xs → RpL T H l vs → vs = xs.map V.str ∧ l.length = xs.length
  | [], _, _, e, .nil => by cases e; exact ⟨rfl, rfl⟩
  | d :: l, xs, _, e, .cons r0 r => by
    cases d with
    | str x =>
      dsimp only [strsL] at e
      cases k : strsL l with
      | none => rw [k] at e; cases e
      | some ys =>
        rw [k] at e
        cases e
        obtain ⟨rfl, h2⟩ := strsL_rp k r
        cases r0
        exact ⟨rfl, by rw [List.length_cons, List.length_cons, h2]⟩
    | _ => cases e
theorem x_lenset {c : Cc} {Wx : WX} {X : Cx} (g : Gd c T phi Wx X) {l : Es} {a : Expr} {p p2 q pos : Pos} (hg : Gl X "len") (hg2 : Gl X "set") (ha : PA X [a] (tIs T Wx (l.den phi))) (h1 : ∃ e, l = .cons e .nil ∧ PE X a (tI T Wx (e.den phi))) (hs : starEach [a] X.env = (false, eval a X.env) :: starEach [] X.env) :
    PE X (.Call (.Name "len" p) [.Call (.Name "set" p2) [a] [] q] [] pos) (tI T Wx ((E.bi .lenset l).den phi)) := by
  obtain ⟨e, rfl, he⟩ := h1
  refine PE.imp (pe_lenT g.calm hg (g.blt (by decide)) hg2 (g.blt (by decide)) he hs) fun σ H Q z => ?_
  simp only [E.den, Es.den] at z
  have z' : tI T Wx (fun env S => (e.den phi env S).bind fun x S1 => Res.opt (looks env S1 [x]) fun ds => Res.opt (Bi.lenset.f ds) fun d => .ok (.d d) S1) σ H Q := by
    obtain ⟨hr, ow, env, S, R, p⟩ := z
    refine ⟨hr, ow, env, S, R, ?_⟩
    dsimp only at p ⊢
    cases k : e.den phi env S with
    | ok x S1 => rw [k] at p; exact p
    | ex _ _ => rw [k] at p; exact p
    | bad => rw [k] at p; exact p
  refine (tG.bind1 (Wq := WR T) z').mono fun v H1 ⟨hr, ow, env, S, x, R, wx, p⟩ => ?_
  obtain ⟨ds, h1, p⟩ := p.opt
  obtain ⟨d, h2, p⟩ := p.opt
  have h1' : ∃ dx, look env S x = some dx ∧ ds = [dx] := by
    dsimp only [looks] at h1
    cases k : look env S x with
    | none => rw [k] at h1; cases h1
    | some dx => rw [k] at h1; cases h1; exact ⟨dx, rfl, rfl⟩
  obtain ⟨dx, hl, rfl⟩ := h1'
  have vw := look_vw R wx hl
  have h2' : lensetD dx = some d := h2
  unfold lensetD at h2'
  split at h2'
  · rename_i ls
    split at h2'
    · rename_i xs hxs
      split at h2'
      · rename_i hc
        cases h2'
        obtain ⟨ad, vs, rfl, rd, nh, rl⟩ := vw.tp
        obtain ⟨rfl, hlen⟩ := strsL_rp hxs rl
        refine ⟨ad, xs, rfl, ?_, hc, p.same R (.int _)⟩
        exact .inl (rd.elim .inl fun ⟨o, h⟩ => .inr ⟨o, h⟩)
      · cases h2'
    · cases h2'
  · cases h2'
theorem ne_cons {es : List Expr} (h : (!es.isEmpty) = true) : ∃ e r, es = e :: r := by
  cases es with
  | nil => cases h
  | cons e r => exact ⟨e, r, rfl⟩
theorem ns_cons {e : Expr} {es : List Expr} (h : allNS (e :: es) = true) : notStar e = true ∧ allNS es = true := by
  simpa only [allNS, Bool.and_eq_true] using h
theorem ksOk_ok : ∀ {ks : List Str} {keys : List (Option Expr)}, ksOk ks keys = true → keys.length = ks.length ∧ keys.all (·.isSome) = true
  | [], [], _ => ⟨rfl, rfl⟩
  | [], _ :: _, h => by cases h
  | _ :: _, [], h => by cases h
  | k :: ks, e :: es, h => by
    unfold ksOk at h
    split at h
    · rename_i q1 q2
      cases q1
    · rename_i q1 q2
      cases q1
      cases q2
      simp only [Bool.and_eq_true] at h
      obtain ⟨h1, h2⟩ := ksOk_ok h.2
      exact ⟨by simp [h1], by simp only [List.all_cons, h2]; rfl⟩
    · cases h
theorem chkEs_len : ∀ {l : Es} {c : Cc} {es : List Expr}, chkEs l c es = true → es.length = l.len
  | .nil, c, es, h => by
    unfold chkEs at h
    split at h
    · rfl
    · cases h
  | .cons a l, c, es, h => by
    unfold chkEs at h
    split at h
    · simp only [Bool.and_eq_true] at h
      show _ + 1 = _ + 1
      rw [chkEs_len h.2]
    · cases h
theorem any_fn {α : Type} {l : List α} {f : α → Bool} (h : l.any f = true) : ∃ p ∈ l, f p = true := by
  simpa only [List.any_eq_true] using h
end
end Rg
set_option Elab.async false
set_option linter.all false
set_option maxRecDepth 100000
set_option maxHeartbeats 8000000
namespace Rg
open PySem PySem.Spec PyProof.Rows L2
section
variable {T : Tab} {phi : Nat → Fn}
mutual
theorem sE : ∀ (r : E) {c : Cc} {Wx : WX} {X : Cx} (g : Gd c T phi Wx X) {x : Expr}, chkE r c x = true → PE X x (tI T Wx (r.den phi))
  | .nm i, c, Wx, X, g, x, h => by
    unfold chkE at h
    split at h
    · obtain ⟨h1, h2, h3, h4⟩ := g.vis h
      exact x_nm h1 h2 h3 h4
    · cases h
  | .k d, c, Wx, X, g, x, h => by
    unfold chkE at h
    exact x_k h
  | .gl y d, c, Wx, X, g, x, h => by
    unfold chkE at h
    split at h
    · simp only [Bool.and_eq_true, decide_eq_true_eq] at h
      obtain ⟨⟨rfl, h1⟩, h2⟩ := h
      obtain ⟨p, hp, h3⟩ := any_fn h2
      simp only [Bool.and_eq_true, decide_eq_true_eq] at h3
      obtain ⟨v, u, k1, k2, k3⟩ := g.sg.gls p hp
      rw [h3.1] at k1
      rw [sEq_ok h3.2] at k3
      exact x_gl (g.gl h1).1 k1 k2 k3 (g.gl h1).2
    · cases h
  | .o2 o a b, c, Wx, X, g, x, h => by
    unfold chkE at h
    split at h
    · simp only [Bool.and_eq_true] at h
      exact x_bin (binO_ok h.1.1 ▸ op2_ok g.sg.kk g.un o) (sE a g h.1.2) (sE b g h.2)
    · split at h
      · simp only [Bool.and_eq_true, Bool.not_eq_true'] at h
        exact x_cmp (cmpO_ok h.1.1.1 ▸ op2_ok g.sg.kk g.un o) (sE a g h.1.1.2) (sE b g h.1.2) h.2
      · cases h
    · cases h
  | .ch o o' a b d, c, Wx, X, g, x, h => by
    unfold chkE at h
    split at h
    · split at h
      · simp only [Bool.and_eq_true, Bool.not_eq_true'] at h
        obtain ⟨⟨⟨⟨⟨h1, h2⟩, h3⟩, h4⟩, h5⟩, h6⟩ := h
        exact x_ch (cmpO_ok h1 ▸ op2_ok g.sg.kk g.un o) (cmpO_ok h2 ▸ op2_ok g.sg.kk g.un o') (sE a g h3) (sE b g h4) (sE d g h5) h6
      · cases h
    · cases h
  | .neg a, c, Wx, X, g, x, h => by
    unfold chkE at h
    split at h
    · split at h
      · exact x_neg (sE a g h)
      · cases h
    · cases h
  | .nt a, c, Wx, X, g, x, h => by
    unfold chkE at h
    split at h
    · split at h
      · exact x_nt (sE a g h)
      · cases h
    · cases h
  | .bo isAnd l, c, Wx, X, g, x, h => by
    unfold chkE at h
    split at h
    · simp only [Bool.and_eq_true] at h
      exact sB l g h.1.1 h.1.2 h.2
    · cases h
  | .ite t a b, c, Wx, X, g, x, h => by
    unfold chkE at h
    split at h
    · simp only [Bool.and_eq_true] at h
      exact x_ite (sT t g h.1.1) (sE a g h.1.2) (sE b g h.2)
    · cases h
  | .tup l, c, Wx, X, g, x, h => by
    unfold chkE at h
    split at h
    · exact x_tup (sEs l g h)
    · cases h
  | .fr f, c, Wx, X, g, x, h => by
    unfold chkE at h
    exact x_fr (sF f g h)
  | .ix a b, c, Wx, X, g, x, h => by
    unfold chkE at h
    split at h
    · simp only [Bool.and_eq_true] at h
      exact x_ix (by have := g.un; omega) (sE a g h.1.2) (sE b g h.2) (plainIx_ok h.1.1)
    · cases h
  | .sl a lo hi, c, Wx, X, g, x, h => by
    unfold chkE at h
    split at h
    · split at h
      · simp only [Bool.and_eq_true] at h
        obtain ⟨⟨⟨h1, h2⟩, h3⟩, h4⟩ := h
        split at h1
        · exact x_sl (sE a g h2) (sO lo g h3) (sO hi g h4)
        · cases h1
      · cases h
    · cases h
  | .rev a, c, Wx, X, g, x, h => by
    unfold chkE at h
    split at h
    · split at h
      · simp only [Bool.and_eq_true, decide_eq_true_eq] at h
        obtain ⟨rfl, h⟩ := h
        exact x_rev (sE a g h)
      · cases h
    · cases h
  | .fl k n a, c, Wx, X, g, x, h => by
    unfold chkE at h
    split at h
    · simp only [Bool.and_eq_true] at h
      obtain ⟨⟨h1, h2⟩, h3⟩ := h
      obtain ⟨p, hp, h4⟩ := any_fn h1
      simp only [Bool.and_eq_true, decide_eq_true_eq] at h4
      obtain ⟨⟨rfl, rfl⟩, rfl⟩ := h4
      obtain ⟨C, k1, k2, k3, k4⟩ := g.sg.fls p hp
      exact x_fl k1 g.sg.inj k2 k3 k4 (sE a g h3) (attrOk_ok h2)
    · cases h
  | .pr k f a, c, Wx, X, g, x, h => by
    unfold chkE at h
    split at h
    · simp only [Bool.and_eq_true] at h
      obtain ⟨⟨h1, h2⟩, h3⟩ := h
      obtain ⟨p, hp, h4⟩ := any_fn h1
      simp only [Bool.and_eq_true, decide_eq_true_eq] at h4
      obtain ⟨⟨⟨rfl, rfl⟩, rfl⟩, h5⟩ := h4
      obtain ⟨C, k1, k2⟩ := g.sg.prs p hp
      exact x_pr k1 k2 g.room h5 (sE a g h3) (attrOk_ok h2)
    · cases h
  | .me k f a l, c, Wx, X, g, x, h => by
    unfold chkE at h
    split at h
    · split at h
      · simp only [Bool.and_eq_true] at h
        obtain ⟨⟨⟨⟨⟨h1, h2⟩, h3⟩, h4⟩, h5⟩, h6⟩ := h
        obtain ⟨p, hp, h7⟩ := any_fn h1
        simp only [Bool.and_eq_true, decide_eq_true_eq] at h7 h3
        obtain ⟨⟨⟨rfl, rfl⟩, rfl⟩, h8⟩ := h7
        obtain ⟨C, k1, k2, k3⟩ := g.sg.mts p hp
        have ns := es_ns h6
        have pa := sEs l g h6
        cases l with
        | nil =>
          unfold chkEs at h6
          split at h6
          · exact x_me0 g.tk k1 k2 k3 g.room h8 (sE a g h5) (meth_eval h2 ns h3 h4)
          · cases h6
        | cons a0 l0 =>
          unfold chkEs at h6
          split at h6
          · exact x_me g.tk k1 k2 k3 g.room h8 (sE a g h5) pa (star_cons (ns_cons ns).1) (pl_ok (ns_cons ns).2) (meth_eval h2 ns h3 h4)
          · cases h6
      · cases h
    · cases h
  | .mk k f data l, c, Wx, X, g, x, h => by
    unfold chkE at h
    split at h
    · split at h
      · simp only [Bool.and_eq_true] at h
        obtain ⟨⟨⟨h1, h2⟩, h3⟩, h4⟩ := h
        obtain ⟨p, hp, h5⟩ := any_fn h2
        simp only [Bool.and_eq_true, decide_eq_true_eq] at h5
        obtain ⟨⟨⟨rfl, rfl⟩, rfl⟩, h6⟩ := h5
        obtain ⟨C, k1, k2⟩ := g.sg.kls p hp
        obtain ⟨e, es', rfl⟩ := ne_cons h3
        have ns := ns_cons (es_ns h4)
        exact x_mk g.tk k1 k2 g.room h6 (g.gl h1).1 (sEs l g h4) (g.gl h1).2 (star_cons ns.1) (pl_ok ns.2)
      · cases h
    · cases h
  | .ca f l, c, Wx, X, g, x, h => by
    unfold chkE at h
    split at h
    · split at h
      · simp only [Bool.and_eq_true] at h
        obtain ⟨⟨h1, h2⟩, h4⟩ := h
        obtain ⟨p, hp, h5⟩ := any_fn h2
        simp only [Bool.and_eq_true, decide_eq_true_eq] at h5
        obtain ⟨⟨rfl, rfl⟩, h6⟩ := h5
        have k2 := g.sg.fns p hp
        have ns := es_ns h4
        have pa := sEs l g h4
        cases l with
        | nil =>
          unfold chkEs at h4
          split at h4
          · exact x_ca0 g.tk k2 g.room h6 (g.gl h1).1 (g.gl h1).2
          · cases h4
        | cons a0 l0 =>
          unfold chkEs at h4
          split at h4
          · exact x_ca g.tk k2 g.room h6 (g.gl h1).1 pa (g.gl h1).2 (star_cons (ns_cons ns).1) (pl_ok (ns_cons ns).2)
          · cases h4
      · cases h
    · cases h
  | .bi b l, c, Wx, X, g, x, h => by
    unfold chkE at h
    split at h
    · rename_i hb
      subst hb
      split at h
      · simp only [Bool.and_eq_true, decide_eq_true_eq] at h
        obtain ⟨⟨⟨⟨⟨rfl, rfl⟩, h1⟩, h2⟩, h3⟩, h4⟩ := h
        have pa := sEs l g h4
        cases l with
        | nil => unfold chkEs at h4; cases h4
        | cons a0 l0 =>
          cases l0 with
          | cons _ _ =>
            unfold chkEs at h4
            simp only [Bool.and_eq_true] at h4
            have h5 := h4.2
            unfold chkEs at h5
            cases h5
          | nil =>
            unfold chkEs at h4
            simp only [Bool.and_eq_true] at h4
            exact x_lenset g (g.gl h1).1 (g.gl h2).1 pa ⟨a0, rfl, sE a0 g h4.1.2⟩ (star_cons h3)
      · cases h
    · split at h
      · split at h
        · simp only [Bool.and_eq_true, decide_eq_true_eq] at h
          obtain ⟨⟨⟨h1, h2⟩, h3⟩, h4⟩ := h
          obtain ⟨e, es', rfl⟩ := ne_cons h3
          have ns := ns_cons (es_ns h4)
          exact x_bi g h2 (g.gl h1).1 (sEs l g h4) (star_cons ns.1) (pl_ok ns.2)
        · cases h
      · cases h
  | .mt m a l, c, Wx, X, g, x, h => by
    unfold chkE at h
    split at h
    · split at h
      · simp only [Bool.and_eq_true, decide_eq_true_eq] at h
        obtain ⟨⟨⟨⟨⟨⟨rfl, rfl⟩, h2⟩, h3⟩, h4⟩, h5⟩, h6⟩ := h
        exact x_count g.sg.kk g.un (sE a g h5) (sEs l g h6) (attrOk_ok h2) (few_ok h4) h3 (star_cons h4) rfl
      · cases h
    · cases h
  | .col isT it, c, Wx, X, g, x, h => by
    unfold chkE at h
    split at h
    · split at h
      · rename_i y p e1
        simp only [Bool.and_eq_true, Bool.or_eq_true, decide_eq_true_eq, Bool.not_eq_true'] at h
        obtain ⟨⟨⟨rfl, h1⟩, h2⟩, h3⟩ := h
        rcases h3 with ⟨h3, h4⟩ | ⟨rfl, h3⟩
        · have rg : PRg X e1 (tRgW T Wx (it.den phi false)) := by
            cases it with
            | rg1 a =>
              unfold chkI at h4
              split at h4
              · split at h4
                · simp only [Bool.and_eq_true, decide_eq_true_eq] at h4
                  obtain ⟨⟨⟨rfl, k1⟩, k2⟩, k3⟩ := h4
                  exact rg1_ok (g.gl k1).1 (g.blt (by decide)) (sE a g k3) (star_cons k2)
                · cases h4
              · cases h4
            | rg2 a b =>
              unfold chkI at h4
              split at h4
              · split at h4
                · simp only [Bool.and_eq_true, decide_eq_true_eq] at h4
                  obtain ⟨⟨⟨⟨⟨rfl, k1⟩, k2⟩, k3⟩, k4⟩, k5⟩ := h4
                  exact rg2_ok (g.gl k1).1 (g.blt (by decide)) (sE a g k4) (sE b g k5) (star_cons k2) (star_cons k3)
                · cases h4
              · cases h4
            | _ => cases h3
          cases isT with
          | true => exact x_tupRg g.calm (g.gl h1).1 (g.blt (by decide)) rg (star_cons h2)
          | false => exact x_lstRg g.calm (g.gl h1).1 (g.blt (by decide)) rg (star_cons h2)
        · split at h3
          · rename_i l
            split at h3
            · simp only [Bool.and_eq_true, decide_eq_true_eq] at h3
              obtain ⟨⟨⟨h4, rfl⟩, h5⟩, h6⟩ := h3
              have pa := sEs l g h6
              have ns := es_ns h6
              match l, h4, pa with
              | .cons a (.cons b .nil), _, pa => exact x_lz g.calm (g.gl h5).1 (g.blt (by decide)) (g.gl h1).1 (g.blt (by decide)) pa (star_cons (ns_cons ns).1) (pl_ok (ns_cons ns).2)
            · cases h3
          · cases h3
      · cases h
    · cases h
  | .qu isAll t it e1 vs, c, Wx, X, g, x, h => by
    unfold chkE at h
    split at h
    · split at h
      · split at h
        · simp only [Bool.and_eq_true, decide_eq_true_eq, List.isEmpty_iff, Bool.not_eq_true'] at h
          obtain ⟨⟨⟨⟨⟨⟨⟨⟨⟨⟨⟨⟨⟨⟨h1, h2⟩, rfl⟩, h3⟩, rfl⟩, rfl⟩, h4⟩, h5⟩, h6⟩, h7⟩, h8⟩, h9⟩, h10⟩, h11⟩, h12⟩ := h
          obtain ⟨a, P, k1, k2, k3⟩ := g.code h1
          rw [← g.N, ← g.sc] at h6
          have hv : ∀ j ∈ t.ix, j ∈ vs := fun j hj => by
            rw [List.all_eq_true] at h12
            simpa using h12 j hj
          have hcell : ∀ y ∈ Scope.names _, y.2 ≠ NameKind.cell := fun y hy e => by
            have h7' := h7
            unfold noCell at h7'
            rw [List.all_eq_true] at h7'
            have := h7' y hy
            rw [e] at this
            cases this
          have pq := fun p pos gpos => pe_quant isAll (p := p) (pos := pos) (gpos := gpos) (g := gTg X.K t) g.room (g.gl h3).1 (g.blt (by cases isAll <;> decide)) k2 k1 g.calm g.nd (sI it (m := false) g h5) (blkOk_by h6) hcell h8 h9
            (fun s H C code fp => tg_ok (g.gen h2 s H _ h7 _ C code fp) t h10) (fun s H C code fp => sE e1 (g.gen h2 s H _ h7 _ C code fp) h11) (plainIt_gen h4 X.env)
          simp only [own_map] at pq
          exact PE.imp (pq _ _ _) fun σ H Q z => qu_imp (X := X) k3 hv z
        · cases h
      · cases h
    · cases h
  | .isi a l, c, Wx, X, g, x, h => by
    unfold chkE at h
    split at h
    · split at h
      · simp only [Bool.and_eq_true, decide_eq_true_eq] at h
        obtain ⟨⟨⟨⟨rfl, h1⟩, h2⟩, h3⟩, h4⟩ := h
        have gm : X.mg "isinstance" = none := g.blt (by decide)
        split at h4
        · simp only [Bool.and_eq_true, decide_eq_true_eq] at h4
          obtain ⟨⟨n1, n2⟩, n3⟩ := h4
          obtain ⟨cvs, m1, m2, m3, m4⟩ := cls_ok g n1 n3
          exact x_isiT g.sg.ins m4 m1 (by omega) (g.gl h1).1 gm (sE a g h3) m3 (star_cons h2) rfl rfl
        · cases l with
          | nil => cases h4
          | cons cl r =>
            cases r with
            | cons _ _ => simp [clsOk] at h4
            | nil =>
              simp only [clsOk, Bool.and_true] at h4
              obtain ⟨cv, m1, m2, m3⟩ := cl_ok g h4
              have ns := clOk_ns h4
              exact x_isi1 g.sg.ins m3 m1 (g.gl h1).1 gm (sE a g h3) m2 (star_cons h2) (star_cons ns) (pl_ok (by show (_ && true) = true; rw [ns]; rfl))
      · cases h
    · cases h
  | .inK isIn a y l, c, Wx, X, g, x, h => by
    unfold chkE at h
    split at h
    · split at h
      · simp only [Bool.and_eq_true, Bool.or_eq_true, decide_eq_true_eq] at h
        obtain ⟨⟨⟨⟨h1, rfl⟩, h2⟩, h3⟩, h4⟩ := h
        rcases h4 with h4 | h4
        · obtain ⟨p, hp, h5⟩ := any_fn h4
          simp only [Bool.and_eq_true, decide_eq_true_eq] at h5
          obtain ⟨rfl, h6⟩ := h5
          obtain ⟨A, m1, m2⟩ := op_inT h1 (sEqs_ok h6 ▸ g.sg.kts p hp)
          exact x_inK m2 m1 (g.gl h2).1 (g.gl h2).2 (sE a g h3)
        · obtain ⟨p, hp, h5⟩ := any_fn h4
          simp only [Bool.and_eq_true, decide_eq_true_eq] at h5
          obtain ⟨rfl, h6⟩ := h5
          obtain ⟨A, m1, m2⟩ := op_inD h1 (g.sg.kds p hp)
          rw [sEqs_ok h6] at m2
          exact x_inK m2 m1 (g.gl h2).1 (g.gl h2).2 (sE a g h3)
      · cases h
    · cases h
  | .lenK y n, c, Wx, X, g, x, h => by
    unfold chkE at h
    split at h
    · simp only [Bool.and_eq_true, decide_eq_true_eq] at h
      obtain ⟨⟨⟨⟨rfl, h1⟩, rfl⟩, h2⟩, h3⟩ := h
      obtain ⟨p, hp, h5⟩ := any_fn h3
      simp only [Bool.and_eq_true, decide_eq_true_eq] at h5
      obtain ⟨rfl, rfl⟩ := h5
      exact x_lenK (g.sg.kts p hp) (g.gl h2).1 (g.gl h2).2 (g.gl h1).1 (g.blt (by decide))
    · cases h
  | .ixK a y l, c, Wx, X, g, x, h => by
    unfold chkE at h
    split at h
    · simp only [Bool.and_eq_true, decide_eq_true_eq] at h
      obtain ⟨⟨⟨⟨h1, rfl⟩, h2⟩, h3⟩, h4⟩ := h
      obtain ⟨p, hp, h5⟩ := any_fn h4
      simp only [Bool.and_eq_true, decide_eq_true_eq] at h5
      obtain ⟨rfl, h6⟩ := h5
      exact x_ixK (sEqp_ok h6 ▸ g.sg.kds p hp) (g.gl h2).1 (g.gl h2).2 (sE a g h3) (plainIx_ok h1)
    · cases h
  | .fs _, c, Wx, X, g, x, h => by
    unfold chkE at h
    cases h
  | .heard e1, c, Wx, X, g, x, h => by
    unfold chkE at h
    split at h
    · split at h
      · simp only [Bool.and_eq_true, decide_eq_true_eq] at h
        obtain ⟨⟨⟨⟨⟨⟨h1, h2⟩, h3⟩, h4⟩, h5⟩, h6⟩, h7⟩ := h
        obtain ⟨y, hy, rfl⟩ : ∃ y ∈ c.G.hrd, y = _ := by
          obtain ⟨y, hy, e⟩ := any_fn h4
          exact ⟨y, hy, by simpa using e⟩
        obtain ⟨a, P, k1, k2, k3, k4⟩ := g.lam h1
        obtain ⟨n1, n2⟩ := noPar_ok h6 X.env
        have hr : Room (c.j - 2 + 2) X.A := by rw [Nat.sub_add_cancel (by omega)]; exact g.room
        exact x_heard g.sg.inj (g.sg.hrd _ hy) (g.gl h3).1 (g.gl h3).2 k2 k1 k3 k4 hr (by have L := LamX.lamS_by h5; rw [← g.sc] at L; exact L) n1 (n2 _ _) fun A outer s H E f c' hr2 => sE e1 (g.lamb rfl h5 A outer s H E f c' hr2) h7
      · cases h
    · cases h
  | .eqW _ _ _ _ _, c, Wx, X, g, x, h => by
    unfold chkE at h
    cases h
theorem sT : ∀ (r : E) {c : Cc} {Wx : WX} {X : Cx} (g : Gd c T phi Wx X) {x : Expr}, chkE r c x = true → PT X x (tT (tI T Wx (r.den phi)))
  | .o2 o a b, c, Wx, X, g, x, h => by
    have h0 := h
    unfold chkE at h
    split at h
    · exact pt_val (sE (.o2 o a b) g h0) (valT_ok rfl _)
    · split at h
      · simp only [Bool.and_eq_true, Bool.not_eq_true'] at h
        exact t_cmp (cmpO_ok h.1.1.1 ▸ op2_ok g.sg.kk g.un o) (sE a g h.1.1.2) (sE b g h.1.2) h.2
      · cases h
    · cases h
  | .ch o o' a b d, c, Wx, X, g, x, h => by
    unfold chkE at h
    split at h
    · split at h
      · simp only [Bool.and_eq_true, Bool.not_eq_true'] at h
        obtain ⟨⟨⟨⟨⟨h1, h2⟩, h3⟩, h4⟩, h5⟩, h6⟩ := h
        exact t_ch (cmpO_ok h1 ▸ op2_ok g.sg.kk g.un o) (cmpO_ok h2 ▸ op2_ok g.sg.kk g.un o') (sE a g h3) (sE b g h4) (sE d g h5) h6
      · cases h
    · cases h
  | .inK isIn a y l, c, Wx, X, g, x, h => by
    unfold chkE at h
    split at h
    · split at h
      · simp only [Bool.and_eq_true, Bool.or_eq_true, decide_eq_true_eq] at h
        obtain ⟨⟨⟨⟨h1, rfl⟩, h2⟩, h3⟩, h4⟩ := h
        rcases h4 with h4 | h4
        · obtain ⟨p, hp, h5⟩ := any_fn h4
          simp only [Bool.and_eq_true, decide_eq_true_eq] at h5
          obtain ⟨rfl, h6⟩ := h5
          obtain ⟨A, m1, m2⟩ := op_inT h1 (sEqs_ok h6 ▸ g.sg.kts p hp)
          exact t_inK m2 m1 (g.gl h2).1 (g.gl h2).2 (sE a g h3)
        · obtain ⟨p, hp, h5⟩ := any_fn h4
          simp only [Bool.and_eq_true, decide_eq_true_eq] at h5
          obtain ⟨rfl, h6⟩ := h5
          obtain ⟨A, m1, m2⟩ := op_inD h1 (g.sg.kds p hp)
          rw [sEqs_ok h6] at m2
          exact t_inK m2 m1 (g.gl h2).1 (g.gl h2).2 (sE a g h3)
      · cases h
    · cases h
  | .nt a, c, Wx, X, g, x, h => by
    unfold chkE at h
    split at h
    · split at h
      · exact t_nt (sT a g h)
      · cases h
    · cases h
  | .bo isAnd l, c, Wx, X, g, x, h => by
    unfold chkE at h
    split at h
    · simp only [Bool.and_eq_true] at h
      exact (sW l g h.1.1 h.1.2 h.2).pt
    · cases h
  | .ite t a b, c, Wx, X, g, x, h => by
    unfold chkE at h
    split at h
    · simp only [Bool.and_eq_true] at h
      exact t_ite (sT t g h.1.1) (sT a g h.1.2) (sT b g h.2)
    · cases h
  | .nm i, c, Wx, X, g, x, h => pt_val (sE (.nm i) g h) (valT_ok (chk_val rfl h) _)
  | .k d, c, Wx, X, g, x, h => pt_val (sE (.k d) g h) (valT_ok (chk_val rfl h) _)
  | .gl y d, c, Wx, X, g, x, h => pt_val (sE (.gl y d) g h) (valT_ok (chk_val rfl h) _)
  | .neg a, c, Wx, X, g, x, h => pt_val (sE (.neg a) g h) (valT_ok (chk_val rfl h) _)
  | .tup l, c, Wx, X, g, x, h => pt_val (sE (.tup l) g h) (valT_ok (chk_val rfl h) _)
  | .fr f, c, Wx, X, g, x, h => pt_val (sE (.fr f) g h) (valT_ok (chk_val rfl h) _)
  | .ix a b, c, Wx, X, g, x, h => pt_val (sE (.ix a b) g h) (valT_ok (chk_val rfl h) _)
  | .sl a lo hi, c, Wx, X, g, x, h => pt_val (sE (.sl a lo hi) g h) (valT_ok (chk_val rfl h) _)
  | .rev a, c, Wx, X, g, x, h => pt_val (sE (.rev a) g h) (valT_ok (chk_val rfl h) _)
  | .fl k n a, c, Wx, X, g, x, h => pt_val (sE (.fl k n a) g h) (valT_ok (chk_val rfl h) _)
  | .pr k f a, c, Wx, X, g, x, h => pt_val (sE (.pr k f a) g h) (valT_ok (chk_val rfl h) _)
  | .me k f a l, c, Wx, X, g, x, h => pt_val (sE (.me k f a l) g h) (valT_ok (chk_val rfl h) _)
  | .mk k f d l, c, Wx, X, g, x, h => pt_val (sE (.mk k f d l) g h) (valT_ok (chk_val rfl h) _)
  | .ca f l, c, Wx, X, g, x, h => pt_val (sE (.ca f l) g h) (valT_ok (chk_val rfl h) _)
  | .bi b l, c, Wx, X, g, x, h => pt_val (sE (.bi b l) g h) (valT_ok (chk_val rfl h) _)
  | .mt m a l, c, Wx, X, g, x, h => pt_val (sE (.mt m a l) g h) (valT_ok (chk_val rfl h) _)
  | .col b i, c, Wx, X, g, x, h => pt_val (sE (.col b i) g h) (valT_ok (chk_val rfl h) _)
  | .qu b t i e v, c, Wx, X, g, x, h => pt_val (sE (.qu b t i e v) g h) (valT_ok (chk_val rfl h) _)
  | .isi a l, c, Wx, X, g, x, h => pt_val (sE (.isi a l) g h) (valT_ok (chk_val rfl h) _)
  | .lenK y n, c, Wx, X, g, x, h => pt_val (sE (.lenK y n) g h) (valT_ok (chk_val rfl h) _)
  | .ixK a y l, c, Wx, X, g, x, h => pt_val (sE (.ixK a y l) g h) (valT_ok (chk_val rfl h) _)
  | .fs l, c, Wx, X, g, x, h => pt_val (sE (.fs l) g h) (valT_ok (chk_val rfl h) _)
  | .heard a, c, Wx, X, g, x, h => pt_val (sE (.heard a) g h) (valT_ok (chk_val rfl h) _)
  | .eqW b k f a1 a2, c, Wx, X, g, x, h => pt_val (sE (.eqW b k f a1 a2) g h) (valT_ok (chk_val rfl h) _)
theorem sB : ∀ (l : Es) {isAnd : Bool} {op : BoolOp} {pos : Pos} {c : Cc} {Wx : WX} {X : Cx} (g : Gd c T phi Wx X) {es : List Expr}, boO isAnd op = true → chkEs l c es = true → (!es.isEmpty) = true → PE X (.BoolOp op es pos) (tI T Wx (l.denB phi isAnd))
  | .nil, isAnd, op, pos, c, Wx, X, g, es, ho, h, hn => by
    unfold chkEs at h
    split at h
    · cases hn
    · cases h
  | .cons a .nil, isAnd, op, pos, c, Wx, X, g, es, ho, h, hn => by
    unfold chkEs at h
    split at h
    · simp only [Bool.and_eq_true] at h
      obtain ⟨⟨h1, h2⟩, h3⟩ := h
      unfold chkEs at h3
      split at h3
      · exact x_bo1 (sE a g h2)
      · cases h3
    · cases h
  | .cons a (.cons b l), isAnd, op, pos, c, Wx, X, g, es, ho, h, hn => by
    unfold chkEs at h
    split at h
    · simp only [Bool.and_eq_true] at h
      obtain ⟨⟨h1, h2⟩, h3⟩ := h
      have h4 := h3
      unfold chkEs at h4
      split at h4
      · cases isAnd <;> cases op <;> first | cases ho | skip
        · exact x_or (sE a g h2) (sB (.cons b l) g rfl h3 rfl)
        · exact x_and (sE a g h2) (sB (.cons b l) g rfl h3 rfl)
      · cases h4
    · cases h
theorem sW : ∀ (l : Es) {isAnd : Bool} {op : BoolOp} {pos : Pos} {c : Cc} {Wx : WX} {X : Cx} (g : Gd c T phi Wx X) {es : List Expr}, boO isAnd op = true → chkEs l c es = true → (!es.isEmpty) = true → PW X (.BoolOp op es pos) (tT (tI T Wx (l.denB phi isAnd)))
  | .nil, isAnd, op, pos, c, Wx, X, g, es, ho, h, hn => by
    unfold chkEs at h
    split at h
    · cases hn
    · cases h
  | .cons a .nil, isAnd, op, pos, c, Wx, X, g, es, ho, h, hn => by
    unfold chkEs at h
    split at h
    · simp only [Bool.and_eq_true] at h
      obtain ⟨⟨h1, h2⟩, h3⟩ := h
      unfold chkEs at h3
      split at h3
      · cases isAnd <;> cases op <;> first | cases ho | skip
        · exact w_or1 (sT a g h2)
        · exact w_and1 (sT a g h2)
      · cases h3
    · cases h
  | .cons a (.cons b l), isAnd, op, pos, c, Wx, X, g, es, ho, h, hn => by
    unfold chkEs at h
    split at h
    · simp only [Bool.and_eq_true] at h
      obtain ⟨⟨h1, h2⟩, h3⟩ := h
      have h4 := h3
      unfold chkEs at h4
      split at h4
      · cases isAnd <;> cases op <;> first | cases ho | skip
        · exact w_or (sT a g h2) (sW (.cons b l) g rfl h3 rfl)
        · exact w_and (sT a g h2) (sW (.cons b l) g rfl h3 rfl)
      · cases h4
    · cases h
theorem sEs : ∀ (l : Es) {c : Cc} {Wx : WX} {X : Cx} (g : Gd c T phi Wx X) {es : List Expr}, chkEs l c es = true → PA X es (tIs T Wx (l.den phi))
  | .nil, c, Wx, X, g, es, h => by
    unfold chkEs at h
    split at h
    · exact a_nil
    · cases h
  | .cons a l, c, Wx, X, g, es, h => by
    unfold chkEs at h
    split at h
    · simp only [Bool.and_eq_true] at h
      exact a_cons (sE a g h.1.2) (sEs l g h.2) (star_cons h.1.1)
    · cases h
theorem sF : ∀ (f : Fr) {c : Cc} {Wx : WX} {X : Cx} (g : Gd c T phi Wx X) {x : Expr}, chkF f c x = true → PE X x (tF T Wx (f.den phi))
  | .lst l, c, Wx, X, g, x, h => by
    unfold chkF at h
    split at h
    · exact f_lst (sEs l g h)
    · cases h
  | .lc t it d e1 vs, c, Wx, X, g, x, h => by
    unfold chkF at h
    split at h
    · split at h
      · simp only [Bool.and_eq_true, decide_eq_true_eq] at h
        obtain ⟨⟨⟨⟨⟨⟨⟨rfl, h1⟩, h2⟩, h3⟩, h4⟩, h5⟩, h6⟩, h7⟩ := h
        rw [← g.N, ← g.sc] at h3
        have hv : ∀ j ∈ t.ix, j ∈ vs := fun j hj => by
          rw [List.all_eq_true] at h7
          simpa using h7 j hj
        have pq := fun pos => pe_lc (pos := pos) (g := gTg X.K t) g.calm g.nd (sI it (m := false) g h2) (blkOk_by h3) (fun s H C cl fp => tg_ok (g.blk s H _ cl C fp) t h4) (fun s H C cl fp => sTs d (g.blk s H _ cl C fp) h6) (fun s H C cl fp => sE e1 (g.blk s H _ cl C fp) h5) (plainIt_ok h1 X.env)
        simp only [own_map] at pq
        exact PE.imp (pq _) fun σ H Q z => lc_imp (X := X) hv z
      · cases h
    · cases h
  | .dct ks l, c, Wx, X, g, x, h => by
    unfold chkF at h
    split at h
    · simp only [Bool.and_eq_true, decide_eq_true_eq, Bool.not_eq_true'] at h
      obtain ⟨⟨⟨⟨h1, h2⟩, h3⟩, h4⟩, h5⟩ := h
      obtain ⟨k1, k2⟩ := ksOk_ok h1
      exact x_dct (sPs l g h2 h1 h4) h4 k2 (by rw [k1, chkEs_len h2, h4]) (by rintro rfl; rw [← k1] at h5; cases h5) (by omega) h3
    · cases h
theorem sPs : ∀ (l : Es) {c : Cc} {Wx : WX} {X : Cx} (g : Gd c T phi Wx X) {es : List Expr} {ks : List Str} {keys : List (Option Expr)} {pos : Pos}, chkEs l c es = true → ksOk ks keys = true → l.len = ks.length → PPs X pos keys es (trsOf T Wx phi ks l)
  | .nil, c, Wx, X, g, es, ks, keys, pos, h, hk, hn => by
    unfold chkEs at h
    split at h
    · cases ks with
      | nil => cases keys with
        | nil => exact pps_nil
        | cons _ _ => cases hk
      | cons _ _ => cases hn
    · cases h
  | .cons a l, c, Wx, X, g, es, ks, keys, pos, h, hk, hn => by
    unfold chkEs at h
    split at h
    · simp only [Bool.and_eq_true] at h
      unfold ksOk at hk
      split at hk
      · cases hn
      · simp only [Bool.and_eq_true, decide_eq_true_eq] at hk
        obtain ⟨rfl, hk⟩ := hk
        exact pps_cons pe_str (sE a g h.1.2) (sPs l g h.2 hk (Nat.succ.inj hn))
      · cases hk
    · cases h
theorem sO : ∀ (f : Eo) {c : Cc} {Wx : WX} {X : Cx} (g : Gd c T phi Wx X) {x : Option Expr}, chkO f c x = true → PO X x (tBd T Wx (f.den phi))
  | .none, c, Wx, X, g, x, h => by
    unfold chkO at h
    split at h
    · exact o_none
    · cases h
  | .some a, c, Wx, X, g, x, h => by
    unfold chkO at h
    split at h
    · exact o_some (sE a g h)
    · cases h
theorem sTs : ∀ (f : Eo) {c : Cc} {X : Cx} (g : Gd c T phi wN X) {x : List Expr}, chkT f c x = true → PTs X x (tTC T phi f)
  | .none, c, X, g, x, h => by
    unfold chkT at h
    split at h
    · exact pts_nil
    · cases h
  | .some a, c, X, g, x, h => by
    unfold chkT at h
    split at h
    · exact pts_one (sT a g h)
    · cases h
theorem sI : ∀ (f : It) {m : Bool} {c : Cc} {Wx : WX} {X : Cx} (g : Gd c T phi Wx X) {tg x : Expr}, chkI f c tg x = true → PI X tg x (tIt T Wx m (f.den phi m))
  | .e a, m, c, Wx, X, g, tg, x, h => by
    unfold chkI at h
    exact i_e (sE a g h)
  | .rg1 a, m, c, Wx, X, g, tg, x, h => by
    unfold chkI at h
    split at h
    · split at h
      · simp only [Bool.and_eq_true, decide_eq_true_eq] at h
        obtain ⟨⟨⟨rfl, h1⟩, h2⟩, h3⟩ := h
        exact i_rg1 (g.gl h1).1 (g.blt (by decide)) (sE a g h3) (star_cons h2)
      · cases h
    · cases h
  | .rg2 a b, m, c, Wx, X, g, tg, x, h => by
    unfold chkI at h
    split at h
    · split at h
      · simp only [Bool.and_eq_true, decide_eq_true_eq] at h
        obtain ⟨⟨⟨⟨⟨rfl, h1⟩, h2⟩, h3⟩, h4⟩, h5⟩ := h
        exact i_rg2 (g.gl h1).1 (g.blt (by decide)) (sE a g h4) (sE b g h5) (star_cons h2) (star_cons h3)
      · cases h
    · cases h
  | .en a, m, c, Wx, X, g, tg, x, h => by
    unfold chkI at h
    split at h
    · split at h
      · simp only [Bool.and_eq_true, decide_eq_true_eq] at h
        obtain ⟨⟨⟨⟨h0, rfl⟩, h1⟩, h2⟩, h3⟩ := h
        cases tg <;> first | cases h0 | skip
        exact i_en (g.gl h1).1 (g.blt (by decide)) (sE a g h3) (star_cons h2)
      · cases h
    · cases h
  | .zp l, m, c, Wx, X, g, tg, x, h => by
    unfold chkI at h
    split at h
    · split at h
      · simp only [Bool.and_eq_true, decide_eq_true_eq] at h
        obtain ⟨⟨⟨⟨h0, rfl⟩, h1⟩, h2⟩, h3⟩ := h
        cases tg <;> first | cases h0 | skip
        obtain ⟨e, es', rfl⟩ := ne_cons h2
        have ns := ns_cons (es_ns h3)
        exact i_zp (g.gl h1).1 (g.blt (by decide)) (sEs l g h3) (star_cons ns.1) (pl_ok ns.2)
      · cases h
    · cases h
  | .its _, m, c, Wx, X, g, tg, x, h => by
    unfold chkI at h
    cases h
end
end
end Rg
set_option Elab.async false
set_option linter.all false
set_option maxRecDepth 100000
set_option maxHeartbeats 8000000
namespace Rg
open PySem PySem.Spec PyProof.Rows L2
theorem pset_or {X : Cx} (hu : X.A.units + 1 < cLine) : PSet X (fun o i v H Q => rSetL o i v H Q ∨ rSetD o i v H Q) := fun pins s σ H o i v ov iv u Q I r1 r2 r3 h =>
  h.elim (set_list pins s σ H o i v ov iv u Q I r1 r2 r3) (set_dict hu pins s σ H o i v ov iv u Q I r1 r2 r3)
theorem asg_sub {o i : Expr} {pos : Pos} {env : Env} (h : plainIx i = true) (v : Value) : assign (.Subscript o i pos) env v = (do
      let ov ← holding [v] (eval o env)
      let iv ← holding [v, ov] (eval i env)
      standAt pos
      holding [v, ov, iv] (setItem ov iv v)
      release [v, ov, iv] []) := by
  cases i <;> first | rfl | cases h
theorem sw2 {x y : Str} {px py pt : Pos} {a b : Expr} {kt k2 : Nat} {pt2 : Pos} {env : Env} (hk : env.scope.kind = .function) (hx : env.scope.names.lookup x = some .local) (hy : env.scope.names.lookup y = some .local) (hl : (py.line == px.line) = true) (hxy : x ≠ y)
    (ha : notStar a = true) (hb : notStar b = true) (hf : ([a, b].all (foldedForSure 8)) = false) (hc : ([a, b].all (constantsAlone 8)) = false) :
    swappedStores [.Tuple [.Name x px, .Name y py] kt pt] (.Tuple [a, b] k2 pt2) env = pure (some [x, y]) := by
  have kx : env.kindOf x = some .local := hx
  have ky : env.kindOf y = some .local := hy
  have bk : env.blockKind = .function := by unfold Env.blockKind; rw [hk]; rfl
  have hd : [x, y].eraseDups = [x, y] := by
    have : (y == x) = false := beq_eq_false_iff_ne.mpr (Ne.symm hxy)
    simp [List.eraseDups_cons, this]
  unfold swappedStores
  simp only [List.length_cons, List.length_nil, bk, kx, ky, hl, hf, hc, Expr.pos, List.head?_cons, Option.map_some, Option.getD_some, List.filterMap_cons, List.filterMap_nil, beq_self_eq_true, Bool.and_self, if_true, hd]
  rw [if_neg (by decide)]
  split
  · rename_i h
    exfalso
    simp only [List.any_cons, List.any_nil, Bool.or_false, Bool.or_eq_true] at h
    rcases h with h | h
    · cases a <;> first | (cases ha; done) | cases h
    · cases b <;> first | (cases hb; done) | cases h
  · rfl
theorem sw3 {x y z : Str} {px py pz pt : Pos} {a b d : Expr} {kt k2 : Nat} {pt2 : Pos} {env : Env} (hk : env.scope.kind = .function) (hx : env.scope.names.lookup x = some .local) (hy : env.scope.names.lookup y = some .local) (hz : env.scope.names.lookup z = some .local)
    (hl : (py.line == px.line) = true) (hl' : (pz.line == px.line) = true) (hxy : x ≠ y) (hxz : x ≠ z) (hyz : y ≠ z)
    (ha : notStar a = true) (hb : notStar b = true) (hd : notStar d = true) (hf : ([a, b, d].all (foldedForSure 8)) = false) (hc : ([a, b, d].all (constantsAlone 8)) = false) :
    swappedStores [.Tuple [.Name x px, .Name y py, .Name z pz] kt pt] (.Tuple [a, b, d] k2 pt2) env = pure (some [x, y, z]) := by
  have kx : env.kindOf x = some .local := hx
  have ky : env.kindOf y = some .local := hy
  have kz : env.kindOf z = some .local := hz
  have bk : env.blockKind = .function := by unfold Env.blockKind; rw [hk]; rfl
  have hdd : [x, y, z].eraseDups = [x, y, z] := by
    have h1 : (y == x) = false := beq_eq_false_iff_ne.mpr (Ne.symm hxy)
    have h2 : (z == x) = false := beq_eq_false_iff_ne.mpr (Ne.symm hxz)
    have h3 : (z == y) = false := beq_eq_false_iff_ne.mpr (Ne.symm hyz)
    simp [List.eraseDups_cons, h1, h2, h3]
  unfold swappedStores
  simp only [List.length_cons, List.length_nil, bk, kx, ky, kz, hl, hl', hf, hc, Expr.pos, List.head?_cons, Option.map_some, Option.getD_some, List.filterMap_cons, List.filterMap_nil, beq_self_eq_true, Bool.and_self, if_true, hdd]
  rw [if_neg (by decide)]
  split
  · rename_i h
    exfalso
    simp only [List.any_cons, List.any_nil, Bool.or_false, Bool.or_eq_true] at h
    rcases h with h | h | h
    · cases a <;> first | (cases ha; done) | cases h
    · cases b <;> first | (cases hb; done) | cases h
    · cases d <;> first | (cases hd; done) | cases h
  · rfl
theorem sw_none {sc : Scope} {ts vs : List Expr} {kt k2 : Nat} {pt pt2 : Pos} {env : Env} (hs : env.scope = sc) (h : (swN sc ts).length ≠ ts.length) : swappedStores [.Tuple ts kt pt] (.Tuple vs k2 pt2) env = pure none := by
  subst hs
  unfold swappedStores
  dsimp only
  split
  · rfl
  · split
    · rfl
    · split
      · rfl
      · rename_i h3
        exfalso
        simp only [Bool.or_eq_true, bne_iff_ne, ne_eq, not_or, Decidable.not_not] at h3
        exact h h3.1
theorem lcSw_ok {c : Cc} {y : Str} {py : Pos} {e : Expr} {env : Env} {l : Nat} (hs : env.scope = c.sc) (hk : env.scope.kind = .function) (hc : noComp e = true ∨ ∃ a g s p, e = .ListComp a g s p) : swapsWith e (some (.Name y py)) l env = pure (lcSw c y py e) := by
  rcases hc with hc | ⟨a, g, s, p, rfl⟩
  · rw [noComp_sw hc]
    cases e <;> first | rfl | cases hc
  · have bk : env.blockKind = .function := by unfold Env.blockKind; rw [hk]; rfl
    have kd : env.kindOf y = c.sc.names.lookup y := by unfold Env.kindOf; rw [hs]
    unfold swapsWith lcSw
    simp only [bk, kd]
    simp [Expr.pos]
end Rg
set_option Elab.async false
set_option linter.all false
set_option maxRecDepth 100000
set_option maxHeartbeats 8000000
namespace Rg
open PySem PySem.Spec PyProof.Rows L2
section
variable {T : Tab} {phi : Nat → Fn}
theorem PS.ok {X : Cx} {st : Stmt} {t : TS} (h : X.Ok → PS X st t) : PS X st t := ⟨fun pins s σ H D I q => (h I.ok).run pins s σ H D I q⟩
theorem asgSw_ok {c : Cc} {X : Cx} (hs : X.env.scope = c.sc) {tg v : Expr} (h : asgSw c tg v = true) : swappedStores [tg] v X.env = pure none := by
  unfold asgSw at h
  simp only [Bool.or_eq_true] at h
  rcases h with (h | h) | h
  · cases tg <;> cases v <;> first | rfl | cases h
  · cases tg <;> cases v <;> first | rfl | cases h
  · split at h
    · exact sw_none hs (by simpa using h)
    · cases h
theorem fr_ok {c : Cc} {Wx : WX} {X : Cx} (g : Gd c T phi Wx X) {i : Nat} {f : Fr} {st : Stmt} (h : frOk c i f st = true) : PS X st (tAsg (tF T Wx (f.den phi)) (gName i)) := by
  unfold frOk at h
  split at h
  · split at h
    · rename_i v _ _ y py
      simp only [Bool.and_eq_true] at h
      obtain ⟨⟨h1, h2⟩, h3⟩ := h
      obtain ⟨k1, k2, k3⟩ := g.lcl h1
      refine PS.ok fun ok => ?_
      split at h3
      · rename_i hsw
        cases f with
        | lst l => unfold chkF at h2; split at h2 <;> first | cases h2 | cases hsw
        | dct _ _ => unfold chkF at h2; split at h2 <;> first | cases h2 | cases hsw
        | lc t it d e1 vs =>
          unfold chkF at h2
          split at h2
          · split at h2
            · simp only [Bool.and_eq_true, decide_eq_true_eq] at h2
              obtain ⟨⟨⟨⟨⟨⟨⟨rfl, h1⟩, h2⟩, h3⟩, h4⟩, h5⟩, h6⟩, h7⟩ := h2
              rw [← g.N, ← g.sc] at h3
              have hv : ∀ j ∈ t.ix, j ∈ vs := fun j hj => by
                rw [List.all_eq_true] at h7
                simpa using h7 j hj
              have hyl : X.env.scope.names.lookup y = some .local := by
                simp only [lcSw, Bool.and_eq_true, beq_iff_eq] at hsw
                rw [g.sc]
                exact hsw.1.1
              have hsw' : ∀ l, swapsWith _ (some (.Name y py)) l X.env = pure true := fun l => (lcSw_ok (l := l) g.sc ok.kind (.inr ⟨_, _, _, _, rfl⟩)).trans (by rw [hsw])
              have pq := fun spos => ps_setLc (spos := spos) (g := gTg X.K t) g.calm g.nd k1 hyl (hsw' _) (sI it (m := false) g h2) (blkOk_by h3) (fun s H C cl fp => tg_ok (g.blk s H _ cl C fp) t h4) (fun s H C cl fp => sTs d (g.blk s H _ cl C fp) h6) (fun s H C cl fp => sE e1 (g.blk s H _ cl C fp) h5) (plainIt_ok h1 X.env)
              simp only [own_map] at pq
              exact PS.imp (pq _) fun D σ H z => lc_imp (X := X) hv z
            · cases h2
          · cases h2
      · rename_i hsw
        have hf : lcSw c y py v = false := by simpa using hsw
        have hc : noComp v = true ∨ ∃ a g s p, v = .ListComp a g s p := by
          split at h3
          · exact .inr ⟨_, _, _, _, rfl⟩
          · exact .inl h3
        exact ps_set g.nd k1 k2 (sF f g h2) ((lcSw_ok g.sc ok.kind hc).trans (by rw [hf])) k3
    · cases h
  · cases h
theorem par_ok {c : Cc} {Wx : WX} {X : Cx} (g : Gd c T phi Wx X) {is : List Nat} {l : Es} {ns es : List Expr} {kt k2 : Nat} {pt pt2 pos : Pos} (h : parOk c is ns es = true) (ha : PA X es (tIs T Wx (l.den phi))) : PS X (.Assign [.Tuple ns kt pt] (.Tuple es k2 pt2) pos) (tS T Wx ((St.par is l).den phi)) := by
  refine PS.ok fun ok => ?_
  unfold parOk at h
  split at h
  · simp only [Bool.and_eq_true, decide_eq_true_eq, Bool.not_eq_true'] at h
    obtain ⟨⟨⟨⟨⟨⟨⟨⟨⟨⟨h1, h2⟩, h3⟩, h4⟩, h5⟩, h6⟩, h7⟩, h8⟩, h9⟩, h10⟩, h11⟩ := h
    rw [← g.N] at h1 h2
    rw [← g.sc] at h4 h5
    refine PS.imp (ps_par g.calm g.nd h1 h2 h3 h4 h5 ha (sw2 ok.kind h4 h5 h6 h7 h8 h9 h10 h11) rfl) fun D σ H z => ?_
    refine tG.mono (par_imp z) fun vs H1 ⟨e, q⟩ => ?_
    match vs, e, q with
    | [v, w], _, q => exact ⟨v, w, rfl, q⟩
  · simp only [Bool.and_eq_true, decide_eq_true_eq, Bool.not_eq_true'] at h
    obtain ⟨⟨⟨⟨⟨⟨⟨⟨⟨⟨⟨⟨⟨⟨⟨⟨⟨⟨h1, h2⟩, h3⟩, h4⟩, h5⟩, h6⟩, h7⟩, h8⟩, h9⟩, h10⟩, h11⟩, h12⟩, h13⟩, h14⟩, h15⟩, h16⟩, h17⟩, h18⟩, h19⟩ := h
    rw [← g.N] at h1 h2 h3
    rw [← g.sc] at h7 h8 h9
    refine PS.imp (ps_par3 g.calm g.nd h1 h2 h3 h4 h5 h6 h7 h8 h9 ha (sw3 ok.kind h7 h8 h9 h10 h11 h12 h13 h14 h15 h16 h17 h18 h19) rfl) fun D σ H z => ?_
    refine tG.mono (par_imp z) fun vs H1 ⟨e, q⟩ => ?_
    match vs, e, q with
    | [v, w, u], _, q => exact ⟨v, w, u, rfl, q⟩
  · cases h
end
end Rg
set_option Elab.async false
set_option linter.all false
set_option maxRecDepth 100000
set_option maxHeartbeats 8000000
namespace Rg
open PySem PySem.Spec PyProof.Rows L2
section
variable {T : Tab} {phi : Nat → Fn}
theorem noComp_sole {e t : Expr} (h : noComp e = true) (l : Nat) (env : Env) : swapsWithSole [t] e l env = pure false := noComp_sw h (some t) l env
theorem one_ok {c : Cc} {Wx : WX} {X : Cx} (g : Gd c T phi Wx X) {e : E} {v : Expr} (hn : notStar v = true) (h : PE X v (tI T Wx (e.den phi))) : PA X [v] (tCons (tI T Wx (e.den phi)) tNil) := pa_cons h pa_nil (star_cons hn)
mutual
theorem sS : ∀ (s : St) {c : Cc} {Wx : WX} {X : Cx} (g : Gd c T phi Wx X) (hp : PassesOwn (model X.prog X.w) X.A X.env X.xe) {st : Stmt}, chkS s c st = true → PS X st (tS T Wx (s.den phi))
  | .asg t e, c, Wx, X, g, hp, st, h => by
    unfold chkS at h
    split at h
    · split at h
      · simp only [Bool.and_eq_true] at h
        obtain ⟨⟨⟨⟨h1, h2⟩, h3⟩, h4⟩, h5⟩ := h
        exact PS.imp (ps_asg (sE e g h3) (tg_ok g t h2) (noComp_sw h4 _ _ _) (asgSw_ok g.sc h5) (by rw [asEach_cons h1]; rfl)) fun D σ H z => asg_imp (X := X) z
      · cases h
    · cases h
  | .own i f, c, Wx, X, g, hp, st, h => by
    unfold chkS at h
    exact PS.imp (fr_ok g h) fun D σ H z => own_imp z
  | .alc i f, c, Wx, X, g, hp, st, h => by
    unfold chkS at h
    exact PS.imp (fr_ok g h) fun D σ H z => alc_imp z
  | .sf k n o e, c, Wx, X, g, hp, st, h => by
    unfold chkS at h
    split at h
    · split at h
      · simp only [Bool.and_eq_true] at h
        obtain ⟨⟨⟨h1, h2⟩, h3⟩, h4⟩ := h
        obtain ⟨p, hp1, h5⟩ := any_fn h1
        simp only [Bool.and_eq_true, decide_eq_true_eq] at h5
        obtain ⟨⟨rfl, rfl⟩, rfl⟩ := h5
        obtain ⟨C, k1, k2, k3, k4⟩ := g.sg.fls p hp1
        exact PS.imp (ps_fld (sE o g h2) (sE e g h3) (noComp_sw h4 _ _ _)) fun D σ H z => sf_imp k1 g.sg.inj k2 k3 k4 z
      · cases h
    · cases h
  | .sfo _ _ _ _, c, Wx, X, g, hp, st, h => by unfold chkS at h; cases h
  | .si a i e, c, Wx, X, g, hp, st, h => by
    unfold chkS at h
    split at h
    · split at h
      · simp only [Bool.and_eq_true] at h
        obtain ⟨⟨⟨⟨h1, h2⟩, h3⟩, h4⟩, h5⟩ := h
        exact PS.imp (ps_asg (sE e g h4) (pg_sub (sE a g h2) (sE i g h3) (pset_or (by have := g.un; omega)) (asg_sub h1)) (noComp_sole h5 _ _) rfl rfl) fun D σ H z => si_imp z
      · cases h
    · cases h
  | .aug i o e, c, Wx, X, g, hp, st, h => by
    unfold chkS at h
    split at h
    · split at h
      · simp only [Bool.and_eq_true] at h
        obtain ⟨⟨h1, h2⟩, h3⟩ := h
        obtain ⟨k1, k2, k3⟩ := g.lcl h2
        unfold augO at h1
        split at h1
        · exact PS.imp (ps_aug g.nd k1 k2 (sE e g h3) ip_add k3) fun D σ H z => aug_int (fun _ _ => rfl) z
        · exact PS.imp (ps_aug g.nd k1 k2 (sE e g h3) ip_sub k3) fun D σ H z => aug_int (fun _ _ => rfl) z
        · cases h1
      · cases h
    · cases h
  | .augf _ _ _ _ _, c, Wx, X, g, hp, st, h => by unfold chkS at h; cases h
  | .app a e, c, Wx, X, g, hp, st, h => by
    unfold chkS at h
    split at h
    · simp only [Bool.and_eq_true, decide_eq_true_eq] at h
      obtain ⟨⟨⟨⟨⟨rfl, h2⟩, h3⟩, h4⟩, h5⟩, h6⟩ := h
      exact PS.imp (ps_expr (pe_mG (ty_lst (T := T)) F.plainAttrs_list F.slot_list_append F.type_list_append (show MtR X "list.append" rAppend from mt_append) (sE a g h5) (one_ok g h2 (sE e g h6)) (attrOk_ok h3) (few_ok h2) h4 (star_cons h2) rfl) rfl) fun D σ H z => app_imp z
    · cases h
  | .ext a e, c, Wx, X, g, hp, st, h => by
    unfold chkS at h
    split at h
    · simp only [Bool.and_eq_true, decide_eq_true_eq] at h
      obtain ⟨⟨⟨⟨⟨rfl, h2⟩, h3⟩, h4⟩, h5⟩, h6⟩ := h
      exact PS.imp (ps_expr (pe_mG (ty_lst (T := T)) F.plainAttrs_list F.slot_list_extend F.type_list_extend mt_extRd (sE a g h5) (one_ok g h2 (sE e g h6)) (attrOk_ok h3) (few_ok h2) h4 (star_cons h2) rfl) rfl) fun D σ H z => ext_imp z
    · cases h
  | .pop _, c, Wx, X, g, hp, st, h => by unfold chkS at h; cases h
  | .ex e, c, Wx, X, g, hp, st, h => by
    unfold chkS at h
    split at h
    · simp only [Bool.and_eq_true] at h
      exact PS.imp (ps_expr (sE e g h.1) (noComp_sw h.2 _ _ _)) fun D σ H z => ex_imp z
    · cases h
  | .ite t a b, c, Wx, X, g, hp, st, h => by
    unfold chkS at h
    split at h
    · simp only [Bool.and_eq_true] at h
      exact PS.imp (ps_if (sT t g h.1.1) (sSs a g hp h.1.2) (sSs b g hp h.2)) fun D σ H z => ite_imp z
    · cases h
  | .fr t it b, c, Wx, X, g, hp, st, h => by
    unfold chkS at h
    split at h
    · simp only [Bool.and_eq_true, List.isEmpty_iff] at h
      obtain ⟨⟨⟨⟨h1, h2⟩, h3⟩, h4⟩, rfl⟩ := h
      exact PS.imp (ps_for hp g.calm (sI it (m := true) g h2) (tg_ok g t h3) (sSs b g hp h4) (plainIt_ok h1 X.env)) fun D σ H z => fr_imp (X := X) z
    · cases h
  | .wh t b, c, Wx, X, g, hp, st, h => by
    unfold chkS at h
    split at h
    · simp only [Bool.and_eq_true, List.isEmpty_iff] at h
      obtain ⟨⟨h1, h2⟩, rfl⟩ := h
      exact PS.imp (ps_while hp (sT t g h1) (sSs b g hp h2)) fun D σ H z => wh_imp z
    · cases h
  | .ret e, c, Wx, X, g, hp, st, h => by
    unfold chkS at h
    split at h
    · split at h
      · exact PS.imp (ps_ret (sE e g h)) fun D σ H z => ret_imp z
      · cases h
    · cases h
  | .retn, c, Wx, X, g, hp, st, h => by
    unfold chkS at h
    split at h
    · split at h
      · cases h
      · exact PS.imp ps_retN fun D σ H z => retn_imp z
    · cases h
  | .rais k ns l, c, Wx, X, g, hp, st, h => by
    unfold chkS at h
    split at h
    · split at h
      · split at h
        · simp only [Bool.and_eq_true, decide_eq_true_eq] at h
          obtain ⟨⟨⟨⟨h1, h2⟩, h3⟩, h4⟩, h5⟩ := h
          obtain ⟨p, hp1, h6⟩ := any_fn h2
          simp only [Bool.and_eq_true, decide_eq_true_eq] at h6
          obtain ⟨⟨⟨rfl, rfl⟩, rfl⟩, h7⟩ := h6
          obtain ⟨e, es', rfl⟩ := ne_cons h4
          have ns := ns_cons (es_ns h5)
          exact x_rais h3 g.calm g.tk (g.sg.xcs p hp1) g.room h7 (g.gl h1).1 (sEs l g h5) (g.gl h1).2 (star_cons ns.1) (pl_ok ns.2)
        · cases h
      · cases h
    · cases h
  | .pass, c, Wx, X, g, hp, st, h => by
    unfold chkS at h
    split at h
    · exact PS.imp ps_pass fun D σ H z => pass_imp z
    · exact PS.imp ps_doc fun D σ H z => pass_imp z
    · cases h
  | .fz _, c, Wx, X, g, hp, st, h => by unfold chkS at h; cases h
  | .kl _, c, Wx, X, g, hp, st, h => by unfold chkS at h; cases h
  | .par is l, c, Wx, X, g, hp, st, h => by
    unfold chkS at h
    split at h
    · split at h
      · simp only [Bool.and_eq_true] at h
        exact par_ok g h.1 (sEs l g h.2)
      · cases h
    · cases h
theorem sSs : ∀ (l : Sts) {c : Cc} {Wx : WX} {X : Cx} (g : Gd c T phi Wx X) (hp : PassesOwn (model X.prog X.w) X.A X.env X.xe) {sts : List Stmt}, chkSs l c sts = true → PSs X sts (tS T Wx (l.den phi))
  | .nil, c, Wx, X, g, hp, sts, h => by
    unfold chkSs at h
    rw [List.isEmpty_iff] at h
    subst h
    exact PSs.imp pss_nil fun D σ H z => nil_imp z
  | .cons s l, c, Wx, X, g, hp, sts, h => by
    unfold chkSs at h
    split at h
    · rename_i hg
      refine PSs.imp (sSs l g hp h) fun D σ H z => ?_
      have z' := seq_imp z
      cases s <;> first | cases hg | skip
      · exact fz_imp z'
      · exact kl_imp z'
    · split at h
      · simp only [Bool.and_eq_true] at h
        exact PSs.imp (pss_cons (sS s g hp h.1) (sSs l g hp h.2)) fun D σ H z => seq_imp z
      · cases h
end
end
end Rg
set_option Elab.async false
set_option linter.all false
set_option maxRecDepth 100000
set_option maxHeartbeats 8000000
namespace Rg
open PySem PySem.Spec PyProof.Rows L2
section
variable {T : Tab} {phi : Nat → Fn}
theorem wl_len {hr : AS} {ow : Ow} {H : Hp} : ∀ {ws : List W} {vs : List V}, WL T hr ow H ws vs → ws.length = vs.length
  | _, _, .nil => rfl
  | _, _, .cons _ r => by rw [List.length_cons, List.length_cons, wl_len r]
theorem wl_get {hr : AS} {ow : Ow} {H : Hp} {ws : List W} {vs : List V} (h : WL T hr ow H ws vs) : ∀ {i : Nat} {w : W}, ws[i]? = some w → ∃ v, vs[i]? = some v ∧ WR T hr ow H w v := by
  induction h with
  | nil => intro i w e; cases e
  | cons h _ ih =>
    intro i w e
    cases i with
    | zero => cases e; exact ⟨_, rfl, h⟩
    | succ i => exact ih e
theorem noSlots_get : ∀ {ws : List W} {i : Nat} {w : W}, noSlots ws = true → ws[i]? = some w → noSlot w
  | .d x :: l, 0, w, h, e => by cases e; trivial
  | .l (.inr n) :: l, 0, w, h, e => by cases e; trivial
  | .l (.inl n) :: l, _, w, h, e => by cases h
  | .d x :: l, i + 1, w, h, e => noSlots_get (ws := l) h e
  | .l (.inr n) :: l, i + 1, w, h, e => noSlots_get (ws := l) h e
  | [], _, _, _, e => by cases e
def slots0 (ws : List W) (nN : Nat) : List Slot := ws.map .w ++ List.replicate (nN - ws.length) .un
theorem slots0_get {ws : List W} {nN i : Nat} : (slots0 ws nN).getD i .un = match ws[i]? with | some w => .w w | none => .un := by
  unfold slots0
  rw [List.getD_eq_getElem?_getD]
  by_cases h : i < ws.length
  · rw [List.getElem?_append_left (by rw [List.length_map]; exact h), List.getElem?_map, List.getElem?_eq_getElem h]
    rfl
  · rw [List.getElem?_append_right (by rw [List.length_map]; omega), List.getElem?_eq_none (l := ws) (by omega)]
    dsimp only
    cases e : (List.replicate (nN - ws.length) Slot.un)[i - (ws.map Slot.w).length]? with
    | none => rfl
    | some s =>
      have := List.mem_of_getElem? e
      rw [List.mem_replicate] at this
      rw [this.2]
      rfl
theorem rel_start {hr : AS} {ow : Ow} {H : Hp} {S : List Cell} {ws : List W} {vs : List V} {N : List Str} (R : Rel T hr ow H [] S []) (wl : WL T hr ow H ws vs) (hn : noSlots ws = true) (hN : vs.length ≤ N.length) : Rel T hr ow H (slots0 ws N.length) S (L2.start N vs) := by
  have hl := wl_len wl
  refine ⟨fun i => ?_, R.st, R.so, R.inj, R.dis, R.hrt, R.tab, ?_, R.hnt⟩
  · rw [slots0_get]
    have h0 : ow (.inl i) = none := R.sl i
    cases e : ws[i]? with
    | none => exact h0
    | some w =>
      obtain ⟨v, h1, h2⟩ := wl_get wl e
      refine ⟨h0, noSlots_get hn e, v, ?_, h2⟩
      have hi : i < vs.length := (List.getElem?_eq_some_iff.mp h1).1
      unfold L2.start
      rw [List.getElem?_append_left (by rw [List.length_map]; exact hi), List.getElem?_map, h1]
      rfl
  · unfold slots0 L2.start
    simp only [List.length_append, List.length_map, List.length_replicate]
    omega
theorem rel_trunc {hr : AS} {ow ow' : Ow} {H H' : Hp} {S S1 : List Cell} (R : Rel T hr ow H [] S []) (g : Gr hr ow H ow' H') (R1 : Rel T hr ow' H' [] S1 []) :
    ∃ ow2, Rel T hr ow2 H' [] (trunc S S1) [] ∧ Gr hr ow H ow2 H' ∧ Ext (hide (hid hr ow') H') (hide (hid hr ow2) H') ∧ ∀ a, hid hr ow2 a → hid hr ow' a := by
  unfold trunc
  split
  · rename_i h
    have e : S1 = S ++ S1.drop S.length := by
      have := List.take_append_drop S.length S1
      rw [h] at this
      exact this.symm
    rw [e] at R1
    refine ⟨cutO S.length ow', Rel.cut R R1, ⟨g.ext.trans ext_cut, fun n a h => ?_, g.hrq⟩, ext_cut, fun a z => z.elim .inl fun ⟨p, q⟩ => .inr ⟨p, cut_sub q⟩⟩
    rw [cut_lt (R.lt h)]
    exact g.cel n a h
  · exact ⟨ow', R1, g, Ext.refl _, fun _ h => h⟩
theorem XR.trunc {hr : AS} {ow' ow2 : Ow} {H' : Hp} {x : Xc} {cls : Value} {d : Option Addr} (h : XR T hr ow' H' x cls d) (e : Ext (hide (hid hr ow') H') (hide (hid hr ow2) H')) (s : ∀ a, hid hr ow2 a → hid hr ow' a) : XR T hr ow2 H' x cls d := by
  obtain ⟨C, a, us, h1, h2, h3, h4, h5, h6⟩ := h
  exact ⟨C, a, us, h1, h2, h3, fun z => h4 (s a z), h5, h6.mono e⟩
theorem mkFn_ok {np nN : Nat} {b : List Slot → List Cell → Out} {N : List Str} {vs : List V} {H : Hp} {Q : VK} {E : XK} (hN : N.length = nN) (hp : np ≤ nN) (h : Prom T (mkFn np nN b) vs H Q E) :
    vs.length = np ∧ tS T (fun cls d _ H' => E cls d H') b { nx := fun _ H' => Q .non H', rt := Q } (L2.start N vs) H := by
  obtain ⟨hr, ow, S, ws, R, wl, hn, p⟩ := h
  unfold mkFn at p
  by_cases hl : ws.length = np
  · rw [if_pos hl] at p
    have hv : vs.length = np := by rw [← wl_len wl]; exact hl
    refine ⟨hv, hr, ow, slots0 ws N.length, S, rel_start R wl hn (by omega), ?_⟩
    have es : slots0 ws N.length = ws.map .w ++ List.replicate (nN - np) .un := by
      unfold slots0
      rw [hN, hl]
    rw [es]
    cases k : b (ws.map .w ++ List.replicate (nN - np) .un) S with
    | nx e1 S1 =>
      rw [k] at p
      intro σ' ow' H' g R1
      obtain ⟨ow2, a1, a2, a3, a4⟩ := rel_trunc R g.strip R1.strip
      exact p .non ow2 H' a2 a1 .non
    | rt w S1 =>
      rw [k] at p
      intro v ow' H' g R1 wv
      cases w with
      | d x =>
        obtain ⟨ow2, a1, a2, a3, a4⟩ := rel_trunc R g R1
        exact p v ow2 H' a2 a1 (Rp.mono a3 wv)
      | l q => exact p v ow' H' g R1 wv
    | ex x S1 =>
      rw [k] at p
      intro cls d ow' H' g R1 xr σ'
      obtain ⟨ow2, a1, a2, a3, a4⟩ := rel_trunc R g R1
      exact p cls d ow2 H' a2 a1 (xr.trunc a3 a4)
    | bk e1 S1 => rw [k] at p; exact p.elim
    | ct e1 S1 => rw [k] at p; exact p.elim
    | bad => rw [k] at p; exact p.elim
  · rw [if_neg hl] at p
    exact p.elim
theorem def_ok {c : Cc} {P : Program} {w : World} {K : PySem.W.Frag} {mg : Str → Option Value} {base : Heap} {f : Addr} {name qual : Str} {params : Arguments} {body : List Stmt} {dV kV doc pm cdv ct oc : Value} {an od : Option Addr}
    {osl : Array (Option Value)} {ps : List Str} {b : Sts} {np nN : Nat} (sg : SgOk c.G P w K mg base T phi) (lk : K.lookup f = some ⟨oc, od, .func (PySem.W.fnOf name qual params body c.sc dV kV doc pm an cdv ct), osl⟩) (hcd : PySem.W.codeIn K cdv qual = true)
    (S : FnScope c.N ps c.sc) (hnp : ps.length = np) (hnN : c.N.length = nN) (hle : np ≤ nN) (hq : c.q = true → ∃ a P, cdv = .ref a ∧ GxR.TabB base mg a P ∧ P ∈ T.tabs) (hlq : c.lq = true → ∃ a P, cdv = .ref a ∧ LamX.TabB base mg a P ∧ (P, (qual ++ ".<locals>." : Str) ++ "<lambda>") ∈ T.lams ∧ ∀ p ∈ T.lams, p.1 = P → p.2 = (qual ++ ".<locals>." : Str) ++ "<lambda>") (h : chkSs b c body = true) :
    FnOk P w K mg base (CX P w) (c.j + 1) f (PySem.W.fnOf name qual params body c.sc dV kV doc pm an cdv ct) ps (Prom T (mkFn np nN (b.den phi))) := by
  refine fn_of lk hcd S (fun vs H Q E z => (mkFn_ok hnN hle z).1.trans hnp.symm) fun A outer s H vs Q E hr z => ?_
  refine ⟨_, sSs b (c := c) (Wx := fun cls d _ H' => E cls d H') (X := cxOf (CX P w) P w K mg base c.N qual c.sc f cdv A outer s H E) ⟨sg, takes_of rfl rfl rfl rfl, rfl, S.nd, rfl, fun _ _ => rfl, rfl, hr, hq, hlq⟩ (passes_of rfl) h, (mkFn_ok hnN hle z).2⟩
end
end Rg
set_option Elab.async false
set_option linter.all false
set_option maxRecDepth 100000
set_option maxHeartbeats 4000000
namespace Rg
open PySem PySem.Spec PyProof.Rows L2
noncomputable def phiOf : List Dx → Nat → Fn
  | [], _ => fun _ _ => .bad
  | d :: l, n => if n = d.ix then mkFn d.ps.length d.N.length (d.b.den (phiOf l)) else phiOf l n
end Rg
set_option Elab.async false
set_option linter.all false
set_option maxRecDepth 100000
set_option maxHeartbeats 4000000
namespace Rg
open PySem PySem.Spec PyProof.Rows L2
theorem zip_lk : ∀ {ps : List Str} {us : List Value} {x : Str}, ps.length = us.length → x ∈ ps → ((ps.zip us).lookup x).isSome = true
  | p :: ps, u :: us, x, hl, h => by
    rw [List.zip_cons_cons, List.lookup_cons]
    cases hb : x == p with
    | true => rfl
    | false =>
      rcases List.mem_cons.mp h with rfl | h
      · simp at hb
      · exact zip_lk (by simpa using hl) h
  | [], _, _, _, h => by cases h
  | _ :: _, [], _, hl, _ => by simp at hl
theorem zip_fm : ∀ {ps : List Str} {us : List Value}, ps.length = us.length → ps.Nodup → (ps.filterMap fun n => ((ps.zip us).lookup n).map fun v => (n, v)) = ps.zip us := by
  have key : ∀ (ps : List Str) (us : List Value) (l : List (Str × Value)), ps.length = us.length → ps.Nodup → (∀ x ∈ ps, l.lookup x = (ps.zip us).lookup x) → (ps.filterMap fun n => (l.lookup n).map fun v => (n, v)) = ps.zip us := by
    intro ps
    induction ps with
    | nil => intro us l _ _ _; rfl
    | cons p ps ih =>
      intro us l hl nd h
      cases us with
      | nil => simp at hl
      | cons u us =>
        have h0 := h p List.mem_cons_self
        rw [List.zip_cons_cons, List.lookup_cons, beq_self_eq_true] at h0
        have h0 : l.lookup p = some u := h0
        rw [List.filterMap_cons, h0]
        show (p, u) :: _ = _
        rw [List.zip_cons_cons]
        congr 1
        refine ih us l (by simpa using hl) (List.nodup_cons.mp nd).2 fun x hx => ?_
        rw [h x (List.mem_cons_of_mem _ hx), List.zip_cons_cons, List.lookup_cons]
        have ne : (x == p) = false := beq_eq_false_iff_ne.mpr fun e => (List.nodup_cons.mp nd).1 (by rw [← e]; exact hx)
        rw [ne]
  intro ps us hl nd
  exact key ps us _ hl nd fun _ _ => rfl
theorem bind_all {fd : FuncData} {as : List Arg} (hp : fd.params = ⟨[], as, none, [], [], none, []⟩) (hd : fd.defaults = .none) (nd : (as.map (·.arg)).Nodup) {us : List Value} (hl : us.length = (as.map (·.arg)).length) : bindArgs fd ⟨us, []⟩ = pure ((as.map (·.arg)).zip us) := by
  unfold bindArgs
  rw [hp, hd]
  have h1 : (decide (us.length > (as.map (·.arg)).length) && true) = false := by
    rw [Bool.and_true, decide_eq_false_iff_not]
    omega
  have h2 : ((as.map (·.arg)).take ((as.map (·.arg)).length - 0)).filter (fun n => (((as.map (·.arg)).zip us).lookup n).isNone) = [] := by
    rw [List.filter_eq_nil_iff]
    intro x hx
    have := zip_lk (us := us) hl.symm (List.mem_of_mem_take hx)
    cases e : ((as.map (·.arg)).zip us).lookup x with
    | none => rw [e] at this; cases this
    | some v => simp
  have h3 := zip_fm (us := us) hl.symm nd
  have h4 : us.length = as.length := by simpa using hl
  have e0 : seqItems? .none = pure none := rfl
  simp only [List.map_nil, List.nil_append, e0, List.append_nil]
  simp [h2, h3, h4]
  rw [if_neg ?_]
  · rw [List.filterMap_map] at h3
    exact congrArg pure h3
  · rw [List.drop_nil]
    show ¬ ((!(List.filter (fun n => (List.lookup n ((List.map (fun x => x.arg) as).zip us)).isNone) (List.take ((List.map (fun x => x.arg) as).length - 0) (List.map (fun x => x.arg) as))).isEmpty) = true)
    rw [h2]
    simp
end Rg
set_option Elab.async false
set_option linter.all false
set_option maxRecDepth 100000
set_option maxHeartbeats 4000000
namespace Rg
open PySem PySem.Spec PyProof.Rows L2
theorem parB_ok {ps : List Str} {p : Arguments} (h : parB ps p = true) : ∃ as : List Arg, p = ⟨[], as, none, [], [], none, []⟩ ∧ as.map (·.arg) = ps := by
  unfold parB at h
  split at h
  · exact ⟨_, rfl, by simpa using h⟩
  · cases h
theorem isNn_ok {v : Value} (h : isNn v = true) : v = .none := by
  cases v <;> first | rfl | cases h
theorem scB_ok {N ps : List Str} {sc : Scope} (h : scB N ps sc = true) : FnScope N ps sc := by
  unfold scB at h
  simp only [Bool.and_eq_true, Bool.not_eq_true', decide_eq_true_eq, List.all_eq_true] at h
  obtain ⟨⟨⟨⟨⟨⟨h1, h2⟩, h3⟩, h4⟩, h5⟩, h6⟩, h7⟩ := h
  refine ⟨?_, h2, h3, h4, h5, fun x hx => ?_, fun y hy e => ?_⟩
  · split at h1
    · rename_i e; exact e
    · cases h1
  · have := h6 x hx
    split at this
    · rename_i e; exact .inl e
    · rename_i e; exact .inr e
    · cases this
  · have := h7 y hy
    rw [e] at this
    cases this
theorem fnB_ok {K : PySem.W.Frag} {a : Addr} {qual : Str} {ps : List Str} {chk : Scope → List Stmt → Bool} (h : fnB K a qual ps chk = true) :
    ∃ (oc : Value) (od : Option Addr) (osl : Array (Option Value)) (name : Str) (params : Arguments) (body : List Stmt) (scope : Scope) (kV doc pm : Value) (an : Option Addr) (cdv ct : Value), K.lookup a = some ⟨oc, od, .func (PySem.W.fnOf name qual params body scope .none kV doc pm an cdv ct), osl⟩ ∧
      PySem.W.codeIn K cdv qual = true ∧ PySem.W.keepIn K (.ref a) = true ∧ parB ps params = true ∧ chk scope body = true := by
  unfold fnB at h
  split at h
  · rename_i oc od fd osl hl
    simp only [Bool.and_eq_true, decide_eq_true_eq, List.isEmpty_iff] at h
    obtain ⟨⟨⟨⟨⟨⟨⟨⟨h1, h2⟩, h3⟩, h4⟩, h5⟩, h6⟩, h7⟩, h8⟩, h9⟩ := h
    obtain ⟨n1, n2, n3, n4, n5, n6, n7, n8, n9, n10, n11, n12, n13, n14, n15⟩ := fd
    dsimp only at h1 h2 h4 h5 h6 h7 h8 h9
    have h8 := isNn_ok h8
    subst h1 h4 h5 h6 h8
    split at h9
    · exact ⟨oc, od, osl, n1, n3, _, n5, n9, n10, n11, n12, n13, n14, hl, h2, h3, h7, h9⟩
    · cases h9
  · cases h
theorem binds_par {K : PySem.W.Frag} {ps : List Str} {name qual : Str} {params : Arguments} {body : List Stmt} {scope : Scope} {kV doc pm cdv ct : Value} {an : Option Addr} (h : parB ps params = true) (nd : ps.Nodup) :
    (∀ (s : Shared) (us : List Value), us.length = ps.length → BindsTo s (PySem.W.fnOf name qual params body scope .none kV doc pm an cdv ct) ⟨us, []⟩ (ps.zip us)) ∧ Binds K (PySem.W.fnOf name qual params body scope .none kV doc pm an cdv ct) ps [] := by
  obtain ⟨as, rfl, rfl⟩ := parB_ok h
  have e : ∀ us : List Value, us.length = (as.map (·.arg)).length → bindArgs (PySem.W.fnOf name qual ⟨[], as, none, [], [], none, []⟩ body scope .none kV doc pm an cdv ct) ⟨us, []⟩ = pure ((as.map (·.arg)).zip us) := fun us hl => bind_all rfl rfl nd hl
  exact ⟨fun s us hl => .of_eq (e us hl), .all e⟩
theorem lk_mem {α : Type} {n : Nat} {s : α} : ∀ {l : List (Nat × α)}, l.lookup n = some s → (n, s) ∈ l
  | [], h => by cases h
  | (m, t) :: l, h => by
    rw [List.lookup_cons] at h
    cases hb : n == m with
    | true =>
      rw [hb] at h
      cases h
      rw [show n = m from eq_of_beq hb]
      exact List.mem_cons_self
    | false =>
      rw [hb] at h
      exact List.mem_cons_of_mem _ (lk_mem h)
theorem fld_head {l : List (Nat × Str)} (h : fldB l = true) {n : Nat} {s : Str} (e : l.lookup n = some s) (m : Nat) : s ≠ ⟨#[0, m]⟩ := fun z => by
  simp only [fldB, Bool.and_eq_true, List.all_eq_true, decide_eq_true_eq] at h
  have := h.2 _ (lk_mem e)
  rw [z] at this
  exact this rfl
theorem nodup_snd : ∀ {l : List (Nat × Str)}, (l.map (·.2)).Nodup → ∀ {n m : Nat} {s : Str}, (n, s) ∈ l → (m, s) ∈ l → n = m
  | [], _, _, _, _, h, _ => by cases h
  | p :: l, nd, n, m, s, h1, h2 => by
    rw [List.map_cons, List.nodup_cons] at nd
    rcases List.mem_cons.mp h1 with h1 | h1 <;> rcases List.mem_cons.mp h2 with h2 | h2
    · rw [← h1] at h2; exact (Prod.mk.inj h2).1.symm
    · exact absurd (List.mem_map.mpr ⟨_, h2, by rw [← h1]⟩) nd.1
    · exact absurd (List.mem_map.mpr ⟨_, h1, by rw [← h2]⟩) nd.1
    · exact nodup_snd nd.2 h1 h2
theorem fld_inj {l : List (Nat × Str)} (h : fldB l = true) (n m : Nat) (e : fldOf l n = fldOf l m) : n = m := by
  unfold fldOf at e
  cases e1 : l.lookup n with
  | none =>
    cases e2 : l.lookup m with
    | none =>
      rw [e1, e2] at e
      dsimp only at e
      have := congrArg (fun z : Str => z.cps[1]?) e
      simpa using this
    | some s => rw [e1, e2] at e; exact absurd e.symm (fld_head h e2 n)
  | some s =>
    cases e2 : l.lookup m with
    | none => rw [e1, e2] at e; exact absurd e (fld_head h e1 m)
    | some t =>
      rw [e1, e2] at e
      dsimp only at e
      subst e
      simp only [fldB, Bool.and_eq_true, decide_eq_true_eq] at h
      exact nodup_snd h.1 (lk_mem e1) (lk_mem e2)
theorem notFld_ok {l : List (Nat × Str)} {m : Str} (h : notFld l m = true) (n : Nat) : fldOf l n ≠ m := fun e => by
  simp only [notFld, Bool.and_eq_true, List.all_eq_true, decide_eq_true_eq] at h
  unfold fldOf at e
  cases e1 : l.lookup n with
  | none =>
    rw [e1] at e
    dsimp only at e
    rw [← e] at h
    exact h.2 rfl
  | some s =>
    rw [e1] at e
    exact h.1 _ (lk_mem e1) e
end Rg
set_option Elab.async false
set_option linter.all false
set_option maxRecDepth 100000
set_option maxHeartbeats 4000000
namespace Rg
open PySem PySem.Spec PyProof.Rows L2 He
section
variable {P : Program} {w : World} {K : PySem.W.Frag} {mg : Str → Option Value} {base : Heap} {T : Tab}
theorem SgOk.phi {G : Sg} {phi phi' : Nat → Fn} (h : SgOk G P w K mg base T phi) (e : ∀ i ∈ G.ixs, phi' i = phi i) : SgOk G P w K mg base T phi' := by
  have e1 : ∀ p ∈ G.fns, phi' p.2.1 = phi p.2.1 := fun p hp => e _ (List.mem_append_left _ (List.mem_map.mpr ⟨p, hp, rfl⟩))
  have e2 : ∀ p ∈ G.mts, phi' p.2.2.1 = phi p.2.2.1 := fun p hp => e _ (List.mem_append_right _ (List.mem_append_left _ (List.mem_map.mpr ⟨p, hp, rfl⟩)))
  have e3 : ∀ p ∈ G.prs, phi' p.2.2.1 = phi p.2.2.1 := fun p hp => e _ (List.mem_append_right _ (List.mem_append_right _ (List.mem_append_left _ (List.mem_map.mpr ⟨p, hp, rfl⟩))))
  have e4 : ∀ p ∈ G.kls, phi' p.2.2.1 = phi p.2.2.1 := fun p hp => e _ (List.mem_append_right _ (List.mem_append_right _ (List.mem_append_right _ (List.mem_map.mpr ⟨p, hp, rfl⟩))))
  exact ⟨h.kk, h.inj, fun p hp => by rw [e1 p hp]; exact h.fns p hp, fun p hp => by rw [e2 p hp]; exact h.mts p hp, fun p hp => by rw [e3 p hp]; exact h.prs p hp, fun p hp => by rw [e4 p hp]; exact h.kls p hp, h.fls, h.gls, h.cln, h.tys, h.ins, h.blt, h.kts, h.kds, h.xcs, h.hrd⟩
end
def tabT (P : Program) (w : World) (K : PySem.W.Frag) (F : Fx) (qs : List Defn) (ls : List (Defn × Str)) (dj : ∀ Q ∈ qs.map (fun p => (cT K p).2), ∀ p ∈ ls.map (fun p => ((cT K p.1).2, p.2)), p.1 ≠ Q) : Tab :=
  ⟨P, w, K, fun n => (F.cls.lookup n).map (ga K), fun n => (xNames.lookup n).map (ga K), fldOf F.flds, qs.map fun p => (cT K p).2, ls.map fun p => ((cT K p.1).2, p.2), dj⟩
section
variable {P : Program} {w : World} {K : PySem.W.Frag} {mg : Str → Option Value} {base : Heap} {F : Fx} {qs : List Defn} {ls : List (Defn × Str)} {dj : ∀ Q ∈ qs.map (fun p => (cT K p).2), ∀ p ∈ ls.map (fun p => ((cT K p.1).2, p.2)), p.1 ≠ Q}
theorem code_ref {a : Addr} {p : Defn} {oc : Value} {od : Option Addr} {osl : Array (Option Value)} {name qual : Str} {params : Arguments} {body : List Stmt} {scope : Scope} {dV kV doc pm cdv ct : Value} {an : Option Addr}
    (lk : K.lookup a = some ⟨oc, od, .func (PySem.W.fnOf name qual params body scope dV kV doc pm an cdv ct), osl⟩) (hc : PySem.W.codeIn K cdv qual = true) (e : fAd K p = a) : cdv = .ref (cT K p).1 := by
  obtain ⟨c, rfl⟩ := codeIn_ref hc
  rw [← e] at lk
  rw [show (cT K p).1 = codeOf K p from rfl, codeOf_eq lk rfl]
theorem Dx.fnOk {l : List Dx} {d : Dx} (h : SgOk (sgOf F l) P w K mg base (tabT P w K F qs ls dj) (phiOf l)) (TB : ∀ p ∈ qs, GxR.TabB base mg (cT K p).1 (cT K p).2) (LB : ∀ p ∈ ls, LamX.TabB base mg (cT K p.1).1 (cT K p.1).2)
    (lu : ∀ a ∈ ls, ∀ b ∈ ls, (cT K a.1).2 = (cT K b.1).2 → a.2 = b.2) (ok : d.ok F qs ls (sgOf F l) K = true) :
    ∃ (fd : FuncData), FnOk P w K mg base (CX P w) (d.j + 1) (d.kn.path K) fd d.ps (Prom (tabT P w K F qs ls dj) (phiOf (d :: l) d.ix)) ∧ PySem.W.keepIn K (.ref (d.kn.path K)) = true ∧ Binds K fd d.ps [] ∧ (∀ (s : Shared) (us : List Value), us.length = d.ps.length → BindsTo s fd ⟨us, []⟩ (d.ps.zip us)) ∧ ∃ oc od osl, K.lookup (d.kn.path K) = some ⟨oc, od, .func fd, osl⟩ := by
  unfold Dx.ok at ok
  simp only [Bool.and_eq_true, Bool.or_eq_true, Bool.not_eq_true', decide_eq_true_eq] at ok
  obtain ⟨⟨⟨⟨⟨⟨h1, h2⟩, h3⟩, h4⟩, h5⟩, h6⟩, h7⟩ := ok
  obtain ⟨oc, od, osl, name, params, body, scope, kV, doc, pm, an, cdv, ct, lk, hc, kp, hp, hchk⟩ := fnB_ok h1
  rw [Bool.and_eq_true] at hchk
  obtain ⟨b1, b2⟩ := binds_par (K := K) (name := name) (qual := d.qual) (params := params) (body := body) (scope := scope) (kV := kV) (doc := doc) (pm := pm) (cdv := cdv) (ct := ct) (an := an) hp h2
  refine ⟨_, ?_, kp, b2, b1, _, _, _, lk⟩
  rw [show phiOf (d :: l) d.ix = mkFn d.ps.length d.N.length (d.b.den (phiOf l)) from if_pos rfl]
  refine def_ok (c := d.cc (sgOf F l) scope) h lk hc (scB_ok hchk.1) rfl rfl h3 (fun hq => ?_) (fun hq => ?_) hchk.2
  · rcases h5 with h5 | h5
    · rw [show d.q = true from hq] at h5; cases h5
    · split at h5
      · rename_i p hp
        simp only [Bool.and_eq_true, decide_eq_true_eq] at h5
        exact ⟨_, _, code_ref lk hc h5.2, TB p h5.1, List.mem_map.mpr ⟨p, h5.1, rfl⟩⟩
      · cases h5
  · rcases h6 with h6 | h6
    · rw [show d.lq = true from hq] at h6; cases h6
    · split at h6
      · rename_i p hp
        simp only [Bool.and_eq_true, decide_eq_true_eq] at h6
        refine ⟨_, _, code_ref lk hc h6.2, LB _ h6.1, List.mem_map.mpr ⟨_, h6.1, rfl⟩, fun q hq2 e => ?_⟩
        obtain ⟨a, ha, rfl⟩ := List.mem_map.mp hq2
        exact lu a ha _ h6.1 e
      · cases h6
theorem clB_ok {c : Nat} {cn : Str} (h : clB F c cn = true) : (tabT P w K F qs ls dj).cls c = some (ga K cn) := by
  unfold clB at h
  show (F.cls.lookup c).map (ga K) = _
  split at h
  · rename_i y e
    rw [e, show y = cn by simpa using h]
    rfl
  · cases h
theorem Dx.step {h0 : Heap} {l : List Dx} {d : Dx} (X : K.In h0) (Gm : h0.Ns mainGlobals mg) (h : SgOk (sgOf F l) P w K mg base (tabT P w K F qs ls dj) (phiOf l)) (TB : ∀ p ∈ qs, GxR.TabB base mg (cT K p).1 (cT K p).2) (LB : ∀ p ∈ ls, LamX.TabB base mg (cT K p.1).1 (cT K p.1).2)
    (lu : ∀ a ∈ ls, ∀ b ∈ ls, (cT K a.1).2 = (cT K b.1).2 → a.2 = b.2) (ok : d.ok F qs ls (sgOf F l) K = true) : SgOk (sgOf F (d :: l)) P w K mg base (tabT P w K F qs ls dj) (phiOf (d :: l)) := by
  obtain ⟨fd, F1, kp, b, _, _⟩ := d.fnOk h TB LB lu ok
  unfold Dx.ok at ok
  simp only [Bool.and_eq_true, Bool.or_eq_true, Bool.not_eq_true', decide_eq_true_eq] at ok
  obtain ⟨⟨⟨⟨⟨⟨_, _⟩, _⟩, hk⟩, _⟩, _⟩, hx⟩ := ok
  have h2 : SgOk (sgOf F l) P w K mg base (tabT P w K F qs ls dj) (phiOf (d :: l)) := h.phi fun i hi => if_neg fun e => hx (by rw [← e]; exact hi)
  show SgOk ((sgOf F l).add d) P w K mg base _ _
  obtain ⟨kn, ix, qual, ps, N, j, q, lq, b0⟩ := d
  dsimp only at F1 kp b hk hx h2 ⊢
  cases kn with
  | fn x =>
    refine { h2 with fns := fun p hp => ?_ }
    rcases List.mem_cons.mp hp with rfl | hp
    · exact ⟨_, fd, ps, F1, glo_ok X Gm hk, kp, b⟩
    · exact h2.fns p hp
  | mt c cn m =>
    simp only [Kn.ok, Bool.and_eq_true] at hk
    obtain ⟨⟨⟨k1, k2⟩, k3⟩, k4⟩ := hk
    refine { h2 with mts := fun p hp => ?_ }
    rcases List.mem_cons.mp hp with rfl | hp
    · exact ⟨ga K cn, clB_ok k3, notFld_ok k4, ⟨_, fd, ps, He.cls_ok k2, meth_ok k1, F1, b⟩⟩
    · exact h2.mts p hp
  | pr c cn m =>
    simp only [Kn.ok, Bool.and_eq_true, decide_eq_true_eq] at hk
    obtain ⟨⟨⟨⟨⟨k1, k2⟩, k3⟩, k4⟩, k5⟩, k6⟩ := hk
    refine { h2 with prs := fun p hp => ?_ }
    rcases List.mem_cons.mp hp with rfl | hp
    · refine ⟨ga K cn, clB_ok k2, ⟨ma K (ga K cn) m, _, fd, ps, He.cls_ok k1, ⟨eqO_ok k3, eqO_ok k4, k5, ?_⟩, F1, b⟩⟩
      show ∃ rest, PySem.W.recIn K (ma K (ga K cn) m) "property" = some (.ref (match PySem.W.recIn K (ma K (ga K cn) m) "property" with | some (.ref g :: _) => g | _ => 0) :: rest)
      split at k6
      · rename_i g r e
        rw [e]
        exact ⟨r, rfl⟩
      · cases k6
    · exact h2.prs p hp
  | kl c cn =>
    simp only [Kn.ok, Bool.and_eq_true] at hk
    obtain ⟨⟨k1, k2⟩, k3⟩ := hk
    refine { h2 with kls := fun p hp => ?_ }
    rcases List.mem_cons.mp hp with rfl | hp
    · exact ⟨ga K cn, clB_ok k3, ⟨_, fd, ps, mkr_ok k1, F1, glo_ok X Gm k2, b⟩⟩
    · exact h2.kls p hp
theorem dxs_all {h0 : Heap} (X : K.In h0) (Gm : h0.Ns mainGlobals mg) (h : SgOk (sg0 F) P w K mg base (tabT P w K F qs ls dj) (phiOf [])) (TB : ∀ p ∈ qs, GxR.TabB base mg (cT K p).1 (cT K p).2) (LB : ∀ p ∈ ls, LamX.TabB base mg (cT K p.1).1 (cT K p.1).2)
    (lu : ∀ a ∈ ls, ∀ b ∈ ls, (cT K a.1).2 = (cT K b.1).2 → a.2 = b.2) : ∀ {l : List Dx}, dxsOk F qs ls K l = true → SgOk (sgOf F l) P w K mg base (tabT P w K F qs ls dj) (phiOf l)
  | [], _ => h
  | d :: l, ok => by
    simp only [dxsOk, Bool.and_eq_true] at ok
    exact Dx.step X Gm (dxs_all X Gm h TB LB lu ok.2) TB LB lu ok.1
end
end Rg
set_option Elab.async false
set_option linter.all false
set_option maxRecDepth 100000
set_option maxHeartbeats 4000000
namespace Rg
open PySem PySem.Spec PyProof.Rows L2 He
theorem glV_rp {T : Tab} {d : D} {v : V} (h : glV d = some v) (H : Hp) : Rp T H d v := by
  cases d <;> cases h
  · exact .non
  · exact .bl _
  · exact .int _
  · exact .str _
theorem relO_ok {T : Tab} {d : D} {u : Value} (h : relO d u = true) : ∃ v, RelV v u ∧ ∀ H, Rp T H d v := by
  unfold relO at h
  split at h
  · rename_i v e
    exact ⟨v, relB_ok h, glV_rp e⟩
  · cases h
theorem strsL_eq : ∀ {l : List D} {zs : List Str}, strsL l = some zs → l = zs.map D.str
  | [], _, h => by cases h; rfl
  | d :: l, zs, h => by
    cases d with
    | str x =>
      dsimp only [strsL] at h
      cases k : strsL l with
      | none => rw [k] at h; cases h
      | some ys =>
        rw [k] at h
        cases h
        rw [strsL_eq k]
        rfl
    | _ => cases h
theorem ent_ref : ∀ {es : List DictEntry} {l : List (D × D)}, entB es l = true → es.any (·.refKey) = false
  | [], _, _ => rfl
  | e :: es, [], h => by cases h
  | e :: es, p :: l, h => by
    simp only [entB, Bool.and_eq_true] at h
    obtain ⟨⟨h1, _⟩, h3⟩ := h
    rw [List.any_cons, ent_ref h3, Bool.or_false]
    split at h1
    · rename_i e1 _
      unfold DictEntry.refKey
      rw [e1]
    · cases h1
theorem ent_at {T : Tab} (z : Str) : ∀ {es : List DictEntry} {l : List (D × D)}, entB es l = true → match dfind l (.str z) with
    | none => es.find? (·.key.isStr z) = none ∧ (l.any fun p => decide (p.1 = .str z)) = false
    | some d => (∃ e v, es.find? (·.key.isStr z) = some e ∧ RelV v e.val ∧ ∀ H, Rp T H d v) ∧ (l.any fun p => decide (p.1 = .str z)) = true
  | [], [], _ => ⟨rfl, rfl⟩
  | [], _ :: _, h => by cases h
  | _ :: _, [], h => by cases h
  | e :: es, p :: l, h => by
    simp only [entB, Bool.and_eq_true] at h
    obtain ⟨⟨h1, h2⟩, h3⟩ := h
    have ih := ent_at (T := T) z h3
    split at h1
    · rename_i x t y e1 e2
      have exy : x = y := by simpa using h1
      subst exy
      by_cases hx : x = z
      · subst hx
        have q1 : dfind (p :: l) (.str x) = some p.2 := by
          unfold dfind
          rw [List.find?_cons, e2, decide_eq_true rfl]
          rfl
        rw [q1]
        obtain ⟨v, r1, r2⟩ := relO_ok (T := T) h2
        refine ⟨⟨e, v, ?_, r1, r2⟩, ?_⟩
        · rw [List.find?_cons]
          have : e.key.isStr x = true := by rw [e1]; exact beq_self_eq_true x
          rw [this]
        · rw [List.any_cons, e2, decide_eq_true rfl, Bool.true_or]
      · have nx : ¬ p.1 = .str z := by rw [e2]; exact fun q => hx (D.str.inj q)
        have q1 : dfind (p :: l) (.str z) = dfind l (.str z) := by
          unfold dfind
          rw [List.find?_cons, decide_eq_false nx]
        have q2 : (e :: es).find? (·.key.isStr z) = es.find? (·.key.isStr z) := by
          rw [List.find?_cons]
          have : e.key.isStr z = false := by rw [e1]; exact beq_eq_false_iff_ne.mpr hx
          rw [this]
        have q3 : ((p :: l).any fun p => decide (p.1 = .str z)) = l.any fun p => decide (p.1 = .str z) := by
          rw [List.any_cons, decide_eq_false nx, Bool.false_or]
        rw [q1, q2, q3]
        exact ih
    · cases h1
theorem kitB_ok {P : Program} {w : World} {K : PySem.W.Frag} {F : Fx} {qs : List Defn} {ls : List (Defn × Str)} {dj : ∀ Q ∈ qs.map (fun p => (cT K p).2), ∀ p ∈ ls.map (fun p => ((cT K p.1).2, p.2)), p.1 ≠ Q} {cl : Cl} {cv0 : V} (h : kitB F K cl (clU cv0) = true) (hc : clV (tabT P w K F qs ls dj) cl = some cv0) : KitOk (tabT P w K F qs ls dj) K cl := by
  intro d t cv e1 e2
  rw [hc] at e2
  cases e2
  simp only [kitB, Bool.and_eq_true, List.all_eq_true, decide_eq_true_eq] at h
  obtain ⟨h1, h2⟩ := h
  have sm : ∀ s ∈ sampD, tyD s = tyD d → isTy s cl = isTy d cl → tagV (tabT P w K F qs ls dj) d = some (.type (tyD d)) → PySem.W.kitOne K t (clU cv0) = some (isTy d cl) := fun s hs a b c => by
    rw [c] at e1
    cases e1
    have := h1 s hs
    rw [a, b] at this
    exact this
  cases d with
  | obj c l =>
    have e1 : ((F.cls.lookup c).map (ga K)).map Value.ref = some t := e1
    cases k : F.cls.lookup c with
    | none => rw [k] at e1; cases e1
    | some cn =>
      rw [k] at e1
      cases e1
      have := h2 _ (lk_mem k)
      rw [this]
      cases cl <;> rfl
  | non => exact sm .non (by simp [sampD]) rfl (by cases cl <;> rfl) rfl
  | bl b => exact sm (.bl true) (by simp [sampD]) rfl (by cases cl <;> rfl) rfl
  | int b => exact sm (.int 0) (by simp [sampD]) rfl (by cases cl <;> rfl) rfl
  | str b => exact sm (.str Str.empty) (by simp [sampD]) rfl (by cases cl <;> rfl) rfl
  | tp b l => exact sm (.tp true []) (by simp [sampD]) rfl (by cases cl <;> rfl) rfl
  | lst b => exact sm (.lst []) (by simp [sampD]) rfl (by cases cl <;> rfl) rfl
  | dct b l => exact sm (.dct false []) (by simp [sampD]) rfl (by cases cl <;> rfl) rfl
section
variable {P : Program} {w : World} {K : PySem.W.Frag} {mg : Str → Option Value} {base : Heap} {F : Fx} {qs : List Defn} {ls : List (Defn × Str)} {dj : ∀ Q ∈ qs.map (fun p => (cT K p).2), ∀ p ∈ ls.map (fun p => ((cT K p.1).2, p.2)), p.1 ≠ Q}
theorem prom_bad {T : Tab} {vs : List V} {H : Hp} {Q : VK} {E : XK} (h : Prom T (fun _ _ => .bad) vs H Q E) : False := by
  obtain ⟨_, _, _, _, _, _, _, p⟩ := h
  exact p
theorem fx_ok {h0 : Heap} (X : K.In h0) (Gm : h0.Ns mainGlobals mg) (hF : fxB F K = true) (hd : ∀ p ∈ F.kds, dicW K (ga K p.1) = some (keysIn w.params (keysD p.2))) (hx : ∀ p ∈ (sg0 F).xcs, Xd P w K mg base (tabT P w K F qs ls dj) p.1 p.2.1 p.2.2.1 p.2.2.2) (hh : ∀ x ∈ F.hrd, HdOk P w K mg base (tabT P w K F qs ls dj) x) :
    SgOk (sg0 F) P w K mg base (tabT P w K F qs ls dj) (phiOf []) := by
  simp only [fxB, Bool.and_eq_true, List.all_eq_true] at hF
  obtain ⟨⟨⟨⟨⟨⟨⟨⟨h1, h2⟩, h3⟩, h4⟩, h5⟩, h6⟩, h7⟩, h8⟩, h9⟩ := hF
  have clsK : ∀ {c : Nat} {C : Addr}, (tabT P w K F qs ls dj).cls c = some C → ∃ cn, (c, cn) ∈ F.cls ∧ F.cls.lookup c = some cn ∧ C = ga K cn := fun {c C} e => by
    have e : (F.cls.lookup c).map (ga K) = some C := e
    cases k : F.cls.lookup c with
    | none => rw [k] at e; cases e
    | some cn => rw [k] at e; cases e; exact ⟨cn, lk_mem k, rfl, rfl⟩
  refine ⟨rfl, fld_inj h1, fun p hp => ?_, fun p hp => (by cases hp), fun p hp => (by cases hp), fun p hp => (by cases hp), fun p hp => ?_, fun p hp => ?_, fun p hp => ?_, fun n hn => ?_, fun c C e => ?_, fun x hx' => free_ok X Gm (h9 x hx'), fun p hp => ?_, fun p hp => ?_, hx, hh⟩
  · obtain ⟨q, hq, rfl⟩ := List.mem_map.mp hp
    have b := h2 q hq
    simp only [baB, Bool.and_eq_true, decide_eq_true_eq] at b
    obtain ⟨⟨b1, b2⟩, b3⟩ := b
    obtain ⟨oc, od, osl, name, params, body, scope, kV, doc, pm, an, cdv, ct, lk, hc, kp, hp', _⟩ := fnB_ok b1
    exact ⟨ga K q.1, _, q.2.2, ⟨fun _ _ _ _ z => (prom_bad z).elim, fun _ _ _ _ _ _ _ _ _ _ _ _ _ z => (prom_bad z).elim⟩, glo_ok X Gm b2, kp, (binds_par (name := name) (qual := q.1) (body := body) (scope := scope) (kV := kV) (doc := doc) (pm := pm) (cdv := cdv) (ct := ct) (an := an) hp' b3).2⟩
  · obtain ⟨q, hq, rfl⟩ := List.mem_map.mp hp
    obtain ⟨⟨b1, b2⟩, b3⟩ := h3 q hq
    obtain ⟨cn, k⟩ := Option.isSome_iff_exists.mp b1
    have ec : clsOf F q.1 = cn := by unfold clsOf; rw [k]; rfl
    rw [ec] at b2 b3
    refine ⟨ga K cn, ?_, rfl, He.cls_ok b2, noat_ok b3⟩
    show (F.cls.lookup q.1).map (ga K) = _
    rw [k]
    rfl
  · have b := h4 p hp
    unfold glB at b
    split at b
    · rename_i u e
      obtain ⟨v, r1, r2⟩ := relO_ok (T := tabT P w K F qs ls dj) b
      exact ⟨v, u, PySem.W.mg_of X Gm e, r1, r2⟩
    · cases b
  · obtain ⟨q, hq, rfl⟩ := List.mem_map.mp hp
    have b := h7 q hq
    simp only [decide_eq_true_eq] at b
    obtain ⟨⟨⟨b1, b2⟩, b3⟩, _⟩ := b
    have hcl : (tabT P w K F qs ls dj).cls q.1 = some (ga K q.2) := by
      show (F.cls.lookup q.1).map (ga K) = _
      rw [b1]
      rfl
    exact ⟨ga K q.2, hcl, glo_ok X Gm b2, kitB_ok (cv0 := .ref (ga K q.2)) b3 (by show ((tabT P w K F qs ls dj).cls q.1).map V.ref = _; rw [hcl]; rfl)⟩
  · have hm : n ∈ tyNames := by
      rcases hn with rfl | rfl | rfl | rfl | rfl | rfl <;> decide
    exact kitB_ok (cv0 := .ty n) (h8 n hm) rfl
  · obtain ⟨cn, hm, _, rfl⟩ := clsK e
    have b := (h7 _ hm).2
    simp only [insB, Bool.and_eq_true, decide_eq_true_eq] at b
    obtain ⟨⟨⟨⟨⟨c1, c2⟩, c3⟩, c4⟩, c5⟩, c6⟩ := b
    exact ⟨He.cls_ok c1, eqO_ok c2, eqO_ok c3, c4, c5, c6⟩
  · have b := h5 p hp
    unfold ktB at b
    split at b
    · rename_i zs e
      rw [Bool.and_eq_true] at b
      refine ⟨ga K p.1, zs, glo_ok X Gm b.1, strsL_eq e, fun H => ?_⟩
      have := tupB_ok b.2 H
      rw [List.map_map] at this
      exact this
    · cases b
  · have b := h6 p hp
    simp only [kdB, Bool.and_eq_true] at b
    obtain ⟨b1, b2⟩ := b
    obtain ⟨es, n, kd⟩ := dicW_ok (hd p hp)
    refine ⟨ga K p.1, es, n, glo_ok X Gm b1, kd, fun z => ?_⟩
    rw [kd.at_] at b2
    have b2 : entB es.toList p.2 = true := b2
    have q := ent_at (T := tabT P w K F qs ls dj) z b2
    have nsv : ∀ r, es.toList.find? (·.key.isStr z) = r → PySem.W.nsIn K (ga K p.1) z = some (r.map (·.val)) := fun r hr => by
      unfold PySem.W.nsIn
      rw [kd.at_]
      dsimp only
      rw [hr]
      cases r with
      | some e => rfl
      | none =>
        dsimp only
        rw [ent_ref b2]
        rfl
    cases k : dfind p.2 (.str z) with
    | none =>
      rw [k] at q
      exact ⟨nsv _ q.1, q.2⟩
    | some d =>
      rw [k] at q
      obtain ⟨⟨e, v, q1, q2, q3⟩, q4⟩ := q
      exact ⟨⟨e.val, v, nsv _ q1, q2, q3⟩, q4⟩
end
end Rg
set_option Elab.async false
set_option linter.all false
set_option maxRecDepth 100000
set_option maxHeartbeats 4000000
namespace Rg
open PySem PySem.Spec PyProof.Rows L2 He
theorem xsB_ok {ps : List Str} {sc : Scope} (h : xsB ps sc = true) : XiScope ps sc := by
  unfold xsB at h
  simp only [Bool.and_eq_true, Bool.not_eq_true', decide_eq_true_eq, List.all_eq_true] at h
  obtain ⟨⟨⟨⟨⟨⟨⟨h1, h2⟩, h3⟩, h4⟩, h5⟩, h6⟩, h7⟩, h8⟩ := h
  refine ⟨?_, h2, h3, h4, h5, fun y hy e => ?_, fun y hy e => ?_, h7, h8⟩
  · split at h1
    · rename_i e; exact e
    · cases h1
  · have := h6 y hy
    rw [e] at this
    cases this
  · have := h6 y hy
    rw [e] at this
    simpa using this
theorem noDbg_ok {x : Str} (h : noDbg x = true) : (x == ("__debug__" : Str)) = false ∧ (x == ("__classdict__" : Str)) = false := by
  simpa only [noDbg, Bool.and_eq_true, Bool.not_eq_true'] using h
theorem oexB_ok {K : PySem.W.Frag} {C : Addr} (h : oexB K C = true) : OexC K C := by
  unfold oexB at h
  simp only [Bool.and_eq_true, decide_eq_true_eq] at h
  obtain ⟨⟨⟨⟨h1, h2⟩, h3⟩, h4⟩, h5⟩ := h
  refine ⟨?_, eqO_ok h2, h3, h4, h5⟩
  split at h1
  · rename_i t dd cd sl lk
    simp only [Bool.and_eq_true, decide_eq_true_eq] at h1
    obtain ⟨rfl, h1⟩ := h1
    split at h1
    · rename_i C' bm k0 k1 k2 k3 n k5 hm hs
      simp only [Bool.and_eq_true, decide_eq_true_eq, Bool.not_eq_true'] at h1
      obtain ⟨⟨⟨⟨rfl, rfl⟩, hh⟩, hdel⟩, hb⟩ := h1
      obtain ⟨nm, bs, mro, ns, qn, hd, sn, sub, ab, col, del⟩ := cd
      dsimp only at hm hdel hh
      subst hm hdel hh
      have hsl : sl = #[k0, k1, k2, k3, some (.builtin "ValueError.__new__"), k5] := by
        obtain ⟨l⟩ := sl
        simp only at hs
        rw [hs]
      subst hsl
      exact ⟨nm, qn, ns, bs, bm, sn, sub, ab, col, dd, k0, k1, k2, k3, k5, lk, hb⟩
    · cases h1
  · cases h1
theorem xcKB_ok {P : Program} {K : PySem.W.Frag} {mg : Str → Option Value} {h0 : Heap} {D cda cc : Addr} (X : K.In h0) (Gm : h0.Ns mainGlobals mg) (h : xcKB P K D cda cc = true) : XcK K mg P D cda cc := by
  unfold xcKB at h
  simp only [Bool.and_eq_true, decide_eq_true_eq, Bool.not_eq_true'] at h
  obtain ⟨⟨⟨⟨⟨⟨⟨⟨⟨h1, h2⟩, h3⟩, h4⟩, h5⟩, h6⟩, h7⟩, h8⟩, h9⟩, h10⟩ := h
  refine ⟨oexB_ok h1, ?_, ?_, h4, h5, free_ok X Gm h6, eqO_ok h7, eqO_ok h8, h9, h10⟩
  · split at h2
    · rename_i vs _ lk
      split at h2
      · rename_i file tf e
        exact ⟨_, _, vs, _, file, tf, lk, e, h2⟩
      · cases h2
    · cases h2
  · split at h3
    · rename_i D' _ lk
      have e : D' = D := by simpa using h3
      subst e
      exact ⟨_, _, _, lk⟩
    · cases h3
section
variable {P : Program} {w : World} {K : PySem.W.Frag} {mg : Str → Option Value} {base : Heap} {F : Fx} {qs : List Defn} {ls : List (Defn × Str)} {dj : ∀ Q ∈ qs.map (fun p => (cT K p).2), ∀ p ∈ ls.map (fun p => ((cT K p.1).2, p.2)), p.1 ≠ Q}
theorem xcB_ok {h0 : Heap} (X : K.In h0) (Gm : h0.Ns mainGlobals mg) {p : Str × Nat × Nat × Str} (h : xcB P F K p = true) : Xd P w K mg base (tabT P w K F qs ls dj) p.1 p.2.1 [p.2.2.1] 1 := by
  unfold xcB at h
  simp only [Bool.and_eq_true, decide_eq_true_eq] at h
  obtain ⟨⟨⟨⟨⟨⟨h1, h2⟩, h3⟩, h4⟩, h5⟩, h6⟩, h7⟩ := h
  have hcl : (tabT P w K F qs ls dj).xcl p.2.1 = some (ga K p.1) := by
    show (xNames.lookup p.2.1).map (ga K) = _
    rw [h1]
    rfl
  split at h7
  · rename_i oc od fd osl lk
    split at h7
    · rename_i a0 a1 cn cc cda e1 e2 e3
      simp only [Bool.and_eq_true, decide_eq_true_eq] at h7
      obtain ⟨⟨⟨⟨⟨⟨⟨⟨⟨k1, k2⟩, k3⟩, k4⟩, k5⟩, k6⟩, k7⟩, k8⟩, k9⟩, k10⟩ := h7
      replace k5 := isNn_ok k5
      obtain ⟨n1, n2, n3, n4, n5, n6, n7, n8, n9, n10, n11, n12, n13, n14, n15⟩ := fd
      dsimp only at e1 e2 e3 k2 k3 k4 k5 k7 k10
      subst e1 e2 e3 k1 k3 k4 k5
      split at k10
      · rename_i b
        unfold xiB at k10
        split at k10
        · simp only [Bool.and_eq_true, decide_eq_true_eq] at k10
          obtain ⟨⟨⟨⟨⟨⟨⟨⟨rfl, rfl⟩, rfl⟩, rfl⟩, rfl⟩, rfl⟩, rfl⟩, l1⟩, l2⟩ := k10
          have B := xcKB_ok X Gm k6
          have S := xsB_ok k7
          obtain ⟨g1, g2⟩ := noDbg_ok k8
          obtain ⟨g3, g4⟩ := noDbg_ok k9
          have b1 : ∀ bd, Binds K (PySem.W.ksFn n1 n2 ⟨[], [a0, a1], none, [], [], none, []⟩ bd n5 .none n9 n10 n11 n12 (.ref cda) n14 cc) [a0.arg, a1.arg] [] := fun bd => .all fun us hl => bind_all (as := [a0, a1]) rfl rfl S.nd hl
          exact ⟨ga K p.1, _, _, _, hcl, glo_ok X Gm h3, B.T, eqO_ok h4, h5, xi1_fn (T := tabT P w K F qs ls dj) (k := 0) lk k2 S rfl B l2 l1 h2 (eqO_ok h6) g1 g2 g3 g4, b1 _⟩
        · cases k10
      · cases k10
    · cases h7
  · cases h7
end
end Rg
set_option Elab.async false
set_option linter.all false
set_option maxRecDepth 100000
set_option maxHeartbeats 4000000
namespace Rg
open PySem PySem.Spec PyProof.Rows L2 He
theorem isRV_ok {n rn : Str} {e : Expr} (h : isRV n rn e = true) : ∃ p1 p2 p3 p4 p5 p6 p7 p8 p9 : Pos, e = .BoolOp .And [.Call (.Name "isinstance" p1) [.Name n p2, .Name rn p3] [] p4, .Call (.Name "isinstance" p5) [.Name n p6, .Name "ValueError" p7] [] p8] p9 := by
  unfold isRV at h
  split at h
  · simp only [Bool.and_eq_true, decide_eq_true_eq] at h
    obtain ⟨⟨⟨⟨⟨rfl, rfl⟩, rfl⟩, rfl⟩, rfl⟩, rfl⟩ := h
    exact ⟨_, _, _, _, _, _, _, _, _, rfl⟩
  · cases h
theorem hxB_ok {K : PySem.W.Frag} {C R : Addr} {fs : List Str} (h : hxB K C R fs = true) : HxK K C R fs := by
  simp only [hxB, Bool.and_eq_true, decide_eq_true_eq, List.all_eq_true] at h
  obtain ⟨⟨⟨⟨⟨⟨⟨⟨h1, h2⟩, h3⟩, h4⟩, h5⟩, h6⟩, h7⟩, h8⟩, h9⟩ := h
  exact ⟨⟨xfB_ok h1, h2, eqO_ok h3, eqO_ok h4, h5, h6⟩, fun f hf => eqO_ok (h7 f hf), h8, h9⟩
section
variable {X : Cx} {n rn cn s : Str} {i : Nat} {C R : Addr}
theorem hdB1_ok {fl : Str} {h0 : ExceptHandler} {hds : List ExceptHandler} {l : List (Value × (Addr → Value → Option Addr → TS))} (h : hdB1 n rn cn s fl h0 = true) (hi : X.N[i]? = some n) (hln : X.env.kindOf n = some .local) (n1 : (n == ("__debug__" : Str)) = false) (n2 : (n == ("__classdict__" : Str)) = false)
    (gi : Gl X "isinstance") (mi : X.mg "isinstance" = none) (gr : Gl X rn) (mr : X.mg rn = some (.ref R)) (r1 : (rn == ("__debug__" : Str)) = false) (gv : Gl X "ValueError") (mv : X.mg "ValueError" = none) (B : HxK X.K C R [fl]) (hc : Names X cn (.ref C)) (r : HdsAs X n hds l) :
    HdsAs X n (h0 :: hds) ((.ref C, tsX X.K i C s [fl]) :: l) := by
  unfold hdB1 at h
  split at h
  · simp only [Bool.and_eq_true, decide_eq_true_eq] at h
    obtain ⟨⟨⟨⟨⟨rfl, rfl⟩, rfl⟩, rfl⟩, rfl⟩, he⟩ := h
    obtain ⟨p1, p2, p3, p4, p5, p6, p7, p8, p9, rfl⟩ := isRV_ok he
    exact hd_one hi hln n1 n2 gi mi gr mr r1 gv mv B hc r
  · cases h
theorem hdB2_ok {fl gl : Str} {h0 : ExceptHandler} {hds : List ExceptHandler} {l : List (Value × (Addr → Value → Option Addr → TS))} (h : hdB2 n rn cn s fl gl h0 = true) (hi : X.N[i]? = some n) (hln : X.env.kindOf n = some .local) (n1 : (n == ("__debug__" : Str)) = false) (n2 : (n == ("__classdict__" : Str)) = false)
    (gi : Gl X "isinstance") (mi : X.mg "isinstance" = none) (gr : Gl X rn) (mr : X.mg rn = some (.ref R)) (r1 : (rn == ("__debug__" : Str)) = false) (gv : Gl X "ValueError") (mv : X.mg "ValueError" = none) (B : HxK X.K C R [fl, gl]) (hc : Names X cn (.ref C)) (r : HdsAs X n hds l) :
    HdsAs X n (h0 :: hds) ((.ref C, tsX X.K i C s [fl, gl]) :: l) := by
  unfold hdB2 at h
  split at h
  · simp only [Bool.and_eq_true, decide_eq_true_eq] at h
    obtain ⟨⟨⟨⟨⟨⟨⟨rfl, rfl⟩, rfl⟩, rfl⟩, rfl⟩, rfl⟩, rfl⟩, he⟩ := h
    obtain ⟨p1, p2, p3, p4, p5, p6, p7, p8, p9, rfl⟩ := isRV_ok he
    exact hd_two hi hln n1 n2 gi mi gr mr r1 gv mv B hc r
  · cases h
end
section
variable {P : Program} {w : World} {K : PySem.W.Frag} {mg : Str → Option Value} {base : Heap} {F : Fx} {qs : List Defn} {ls : List (Defn × Str)} {dj : ∀ Q ∈ qs.map (fun p => (cT K p).2), ∀ p ∈ ls.map (fun p => ((cT K p.1).2, p.2)), p.1 ≠ Q}
theorem hrB_ok {h0 : Heap} (X : K.In h0) (Gm : h0.Ns mainGlobals mg) {x : Str} (h : hrB F K x = true) : HdOk P w K mg base (tabT P w K F qs ls dj) x := by
  unfold hrB at h
  simp only [Bool.and_eq_true, List.all_eq_true, decide_eq_true_eq] at h
  obtain ⟨⟨⟨⟨⟨⟨⟨⟨⟨⟨⟨h1, h2⟩, h3⟩, h4⟩, h5⟩, h6⟩, x1⟩, x2⟩, x3⟩, x4⟩, nd⟩, ex⟩ := h
  split at h1
  · rename_i oc od fd osl lk
    split at h1
    · rename_i a0 e1
      simp only [Bool.and_eq_true, decide_eq_true_eq, List.isEmpty_iff, List.all_eq_true] at h1
      obtain ⟨⟨⟨⟨⟨⟨⟨⟨⟨⟨⟨⟨k1, k2⟩, k3⟩, k4⟩, k5⟩, k6⟩, k7⟩, k8⟩, k9⟩, k10⟩, k11⟩, k12⟩, k13⟩ := h1
      replace k7 := isNn_ok k7
      obtain ⟨n1, n2, n3, n4, n5, n6, n7, n8, n9, n10, n11, n12, n13, n14, n15⟩ := fd
      dsimp only at e1 k1 k2 k3 k4 k5 k6 k7 k8 k10 k11 k12 k13
      subst e1 k1 k2 k4 k5 k6 k7
      split at k13
      · rename_i b
        have S := scB_ok k8
        obtain ⟨g1, g2⟩ := noDbg_ok k9
        have bd : L2.Binds K (PySem.W.fnOf n2 n2 ⟨[], [a0], none, [], [], none, []⟩ b n5 .none n9 n10 n11 n12 n13 n14) [a0.arg] [] := .all fun us hl => bind_all (as := [a0]) rfl rfl (by simp) hl
        refine ⟨ga K n2, a0.arg, [a0.arg, "e"], _, b, n5, .none, n9, n10, n11, n13, n14, oc, n12, od, osl, [(ga K "BadArgument", ("bad" : Str), [fldOf F.flds 101]), (ga K "Barred", ("barred" : Str), [fldOf F.flds 102]), (ga K "Refused", ("refused" : Str), [fldOf F.flds 103]), (ga K "Unread", ("unread" : Str), [fldOf F.flds 104, fldOf F.flds 103])],
          glo_ok X Gm h3, h2, lk, k3, bd, S, rfl, .inl k10, g1, g2, fun Z z1 z2 z3 z4 z5 q => ?_, _, _, _, _, rfl, rfl, rfl, rfl, rfl, nd, fun i j hi hj => ex i hi j hj⟩
        subst z1 z2 z3 z4 z5
        unfold hearB at k13
        split at k13
        · simp only [Bool.and_eq_true, decide_eq_true_eq] at k13
          obtain ⟨⟨⟨⟨rfl, c1⟩, c2⟩, c3⟩, c4⟩ := k13
          have gg : ∀ y ∈ (["isinstance", "RosterError", "ValueError", "BadArgument", "Barred", "Refused", "Unread"] : List Str), n5.names.lookup y = some .globalImplicit := fun y hy => by
            have := k12 y hy
            simpa [glSc] using this
          have mm : ∀ y ∈ (["RosterError", "BadArgument", "Barred", "Refused", "Unread"] : List Str), Z.mg y = some (.ref (ga Z.K y)) := fun y hy => glo_ok X Gm (h4 y hy)
          have mi := free_ok X Gm h5
          have mv := free_ok X Gm h6
          refine (hear_gives (hl := [(ga Z.K "BadArgument", ("bad" : Str), [fldOf F.flds 101]), (ga Z.K "Barred", ("barred" : Str), [fldOf F.flds 102]), (ga Z.K "Refused", ("refused" : Str), [fldOf F.flds 103]), (ga Z.K "Unread", ("unread" : Str), [fldOf F.flds 104, fldOf F.flds 103])]) rfl S.nd k11 fun s H => ?_)
          have dbg : ∀ y ∈ (["BadArgument", "Barred", "Refused", "Unread"] : List Str), (y == ("__debug__" : Str)) = false := by decide
          have nm : ∀ y ∈ (["BadArgument", "Barred", "Refused", "Unread"] : List Str), Names ((cxOf C8.CX0 Z.prog Z.w Z.K Z.mg Z.base [a0.arg, "e"] n2 n5 (ga Z.K n2) n13 Z.A Z.stack s H C8.E0).nox) y (.ref (ga Z.K y)) := fun y hy => ⟨gg y (by simp only [List.mem_cons, List.not_mem_nil, or_false] at hy ⊢; rcases hy with rfl | rfl | rfl | rfl <;> simp), dbg y hy, .inl (mm y (List.mem_cons_of_mem _ hy))⟩
          exact hdB1_ok (i := 1) c1 rfl k11 (by decide) (by decide) (gg _ (by simp)) mi (gg _ (by simp)) (mm _ (by simp)) (by decide) (gg _ (by simp)) mv (hxB_ok x1) (nm _ (by simp))
            (hdB1_ok (i := 1) c2 rfl k11 (by decide) (by decide) (gg _ (by simp)) mi (gg _ (by simp)) (mm _ (by simp)) (by decide) (gg _ (by simp)) mv (hxB_ok x2) (nm _ (by simp))
            (hdB1_ok (i := 1) c3 rfl k11 (by decide) (by decide) (gg _ (by simp)) mi (gg _ (by simp)) (mm _ (by simp)) (by decide) (gg _ (by simp)) mv (hxB_ok x3) (nm _ (by simp))
            (hdB2_ok (i := 1) c4 rfl k11 (by decide) (by decide) (gg _ (by simp)) mi (gg _ (by simp)) (mm _ (by simp)) (by decide) (gg _ (by simp)) mv (hxB_ok x4) (nm _ (by simp)) .nil)))
        · cases k13
      · cases k13
    · cases h1
  · cases h1
end
end Rg
set_option Elab.async false
set_option linter.all false
set_option maxRecDepth 100000
set_option maxHeartbeats 4000000
namespace Rg
open PySem PySem.Spec PyProof.Rows L2 He
theorem rel_init {T : Tab} {H : Hp} (h1 : ∀ p ∈ T.tabs, H p = some (.tbl #[])) (h2 : ∀ p ∈ T.lams, H p.1 = some (.tbl #[])) : Rel T (fun _ => False) (fun _ => none) H [] [] [] :=
  ⟨fun _ => rfl, fun n c e => (by simp at e), fun _ _ => rfl, fun _ _ _ e => (by cases e), fun _ _ e => (by cases e), fun _ z => z.elim, ⟨fun P hP => ⟨#[], h1 P hP, trivial⟩, fun p hp => LamX.TabS.nil (h2 p hp)⟩, Nat.le_refl _, fun _ z => z.elim⟩
theorem rp_ints {T : Tab} {H : Hp} : ∀ ns : List Int, RpL T H (ns.map D.int) (ns.map V.int)
  | [] => .nil
  | n :: ns => .cons (.int n) (rp_ints ns)
theorem law_at {l : PySem.W.OpenLaw} {F : Fx} {d : Dx} {dxs : List Dx} {w : World} {K : PySem.W.Frag} {mg : Str → Option Value} {fa : Addr} {h : Heap} {x nm : Str} {n : Nat} (hd : d.kn = .fn nm) (hps : d.ps = [x]) (X : K.In h) (Gm : h.Ns mainGlobals mg) (c : SaysR l.prog F (d :: dxs) w h K) (hmg : mg nm = some (.ref fa))
    (hm : ∀ ns : List Int, ns.length ≤ n → (∀ z ∈ ns, Builtin.Int.intBits z ≤ 1048576) → ∃ S, phiOf (d :: dxs) d.ix [.d (.lst (ns.map D.int))] [] = .ok (.d (.bl true)) S) : LamX.LawAtS l w K (CX l.prog w) (d.j + 1) n x mg fa h := by
  have hex := c.ex
  simp only [exB, Bool.and_eq_true, List.all_eq_true] at hex
  obtain ⟨⟨⟨⟨⟨e1, e2⟩, e3⟩, e4⟩, e5⟩, e6⟩ := hex
  simp only [djB, Bool.and_eq_true, List.all_eq_true, Bool.not_eq_true', beq_eq_false_iff_ne, Bool.or_eq_true, decide_eq_true_eq] at e5
  have dj : ∀ Q ∈ (qsOf (d :: dxs)).map (fun p => (cT K p).2), ∀ p ∈ (lsOf (d :: dxs)).map (fun p => ((cT K p.1).2, p.2)), p.1 ≠ Q := fun Q hQ p hp => by
    obtain ⟨q, hq, rfl⟩ := List.mem_map.mp hQ
    obtain ⟨p', hp', rfl⟩ := List.mem_map.mp hp
    exact e5.1 q hq p' hp'
  have lu : ∀ a ∈ lsOf (d :: dxs), ∀ b ∈ lsOf (d :: dxs), (cT K a.1).2 = (cT K b.1).2 → a.2 = b.2 := fun a ha b hb e => (e5.2 a ha b hb).elim (fun z => absurd e z) id
  simp only [dxsOk, Bool.and_eq_true] at e4
  have ok := e4.1
  have all : ∀ base : Heap, K.In base → base.Ns mainGlobals mg → (∀ p ∈ (tfOf (d :: dxs)).map (cT K), LamX.TabB base mg p.1 p.2) → ∃ fd, FnOk l.prog w K mg base (CX l.prog w) (d.j + 1) (d.kn.path K) fd d.ps (Prom (tabT l.prog w K F (qsOf (d :: dxs)) (lsOf (d :: dxs)) dj) (phiOf (d :: dxs) d.ix)) ∧
      (∀ (s : Shared) (us : List Value), us.length = d.ps.length → BindsTo s fd ⟨us, []⟩ (d.ps.zip us)) ∧ ∃ oc od osl, K.lookup (d.kn.path K) = some ⟨oc, od, .func fd, osl⟩ := fun base KB GB TBs => by
    have TB : ∀ p ∈ qsOf (d :: dxs), GxR.TabB base mg (cT K p).1 (cT K p).2 := fun p hp => by
      have t := TBs _ (List.mem_map.mpr ⟨p, List.mem_append_left _ hp, rfl⟩)
      exact ⟨t.code, t.bm, t.gP⟩
    have LB : ∀ p ∈ lsOf (d :: dxs), LamX.TabB base mg (cT K p.1).1 (cT K p.1).2 := fun p hp => TBs _ (List.mem_map.mpr ⟨p.1, List.mem_append_right _ (List.mem_map.mpr ⟨p, hp, rfl⟩), rfl⟩)
    have S0 : SgOk (sg0 F) l.prog w K mg base (tabT l.prog w K F (qsOf (d :: dxs)) (lsOf (d :: dxs)) dj) (phiOf []) := fx_ok KB GB e1 c.kd (fun p hp => by
      obtain ⟨q, hq, rfl⟩ := List.mem_map.mp hp
      exact xcB_ok KB GB (e2 q hq)) fun y hy => hrB_ok KB GB (e3 y hy)
    obtain ⟨fd, F1, _, _, b1, b2⟩ := d.fnOk (dxs_all KB GB S0 TB LB lu e4.2) TB LB lu ok
    exact ⟨fd, F1, b1, b2⟩
  have okk := ok
  unfold Dx.ok at okk
  simp only [Bool.and_eq_true] at okk
  have hfa : ga K nm = fa := by
    have hk := okk.1.1.1.2
    rw [hd] at hk
    have := glo_ok X Gm hk
    rw [hmg] at this
    exact (Value.ref.inj (Option.some.inj this)).symm
  have hpath : d.kn.path K = fa := by rw [hd]; exact hfa
  obtain ⟨oc0, od0, osl0, name, params, body, scope, kV, doc, pm, an, cdv, ct, lk, hc, kp, hp, hchk⟩ := fnB_ok okk.1.1.1.1.1.1
  obtain ⟨b1, b2⟩ := binds_par (K := K) (name := name) (qual := d.qual) (params := params) (body := body) (scope := scope) (kV := kV) (doc := doc) (pm := pm) (cdv := cdv) (ct := ct) (an := an) hp (by rw [hps]; simp)
  have tfE : ∀ p ∈ tfOf (d :: dxs), h.get? (cT K p).2 = some { cls := .none, data := .fields #[] } := c.empty
  refine ⟨PySem.W.fnOf name d.qual params body scope .none kV doc pm an cdv ct, (tfOf (d :: dxs)).map (cT K), Prom (tabT l.prog w K F (qsOf (d :: dxs)) (lsOf (d :: dxs)) dj) (phiOf (d :: dxs) d.ix), fun p hp => ?_, fun p hp => ?_, fun p hp => ?_, fun s u => ?_, fun H a ns hl hb hT hS => ?_, fun base KB GB TBs => ?_⟩
  · obtain ⟨q, hq, rfl⟩ := List.mem_map.mp hp
    exact c.empty q hq
  · obtain ⟨q, hq, rfl⟩ := List.mem_map.mp hp
    exact c.out q hq
  · obtain ⟨q, hq, rfl⟩ := List.mem_map.mp hp
    exact PySem.W.codeHd_of_K X (c.hd q hq)
  · have := b1 s [u] (by rw [hps]; rfl)
    rw [hps] at this
    exact this
  · obtain ⟨S, e⟩ := hm ns hl hb
    have rd : Rd H a (.lst (ns.map V.int)) := by
      rcases hS with hS | ⟨o, its, m, ko, hc, _⟩
      · exact hS
      · exfalso
        have := List.all_eq_true.mp e6 _ (lookup_mem ko)
        dsimp only at this
        rw [hc] at this
        simp at this
    have R : Rel (tabT l.prog w K F (qsOf (d :: dxs)) (lsOf (d :: dxs)) dj) (fun _ => False) (fun _ => none) H [] [] [] := rel_init (fun p hp => by
        obtain ⟨q, hq, rfl⟩ := List.mem_map.mp hp
        exact hT _ (List.mem_map.mpr ⟨q, List.mem_append_left _ hq, rfl⟩)) fun p hp => by
        obtain ⟨q, hq, rfl⟩ := List.mem_map.mp hp
        exact hT _ (List.mem_map.mpr ⟨q.1, List.mem_append_right _ (List.mem_map.mpr ⟨q, hq, rfl⟩), rfl⟩)
    have nh : ∀ b, ¬ hid (fun _ => False) (fun _ => none) b := fun b z => z.elim id fun ⟨_, z⟩ => by cases z
    have rd2 : Rd (hide (hid (fun _ => False) (fun _ => none)) H) a (.lst (ns.map V.int)) := by
      unfold Rd at rd ⊢
      rw [hide_out (nh a)]
      exact rd
    refine ⟨_, _, _, [.d (.lst (ns.map D.int))], R, .cons (.lst rd2 (rp_ints ns)) .nil, rfl, ?_⟩
    rw [e]
    intro v ow' H' g R' wv
    cases wv
    rfl
  · obtain ⟨fd, F1, _, oc1, od1, osl1, lk1⟩ := all base KB GB TBs
    rw [lk] at lk1
    cases lk1
    rw [hpath, hps] at F1
    exact F1
end Rg
set_option Elab.async false
set_option linter.all false
set_option maxRecDepth 100000
set_option maxHeartbeats 4000000
set_option Elab.async false
set_option linter.all false
set_option maxRecDepth 100000
set_option maxHeartbeats 0
set_option Elab.async false
set_option linter.all false
set_option maxRecDepth 100000
set_option maxHeartbeats 4000000
namespace Rg.M
open PySem PySem.Spec PyProof.Rows L2
noncomputable def Res.bnd {α β : Type} (x : Res α) [c : Kt (α → List Cell → Res β)] : Res β := x.bind c.k
noncomputable def Res.ou {α : Type} (x : Res α) [c : Kt (α → List Cell → Out)] : Out := x.out c.k
@[simp] theorem Res.bnd_ok {α β : Type} (x : α) (S : List Cell) (k : α → List Cell → Res β) : @Res.bnd _ _ (.ok x S) (.mk k) = k x S := Eq.trans rfl rfl
@[simp] theorem Res.bnd_ex {α β : Type} (x : Xc) (S : List Cell) (k : α → List Cell → Res β) : @Res.bnd _ _ (.ex x S : Res α) (.mk k) = .ex x S := Eq.trans rfl rfl
@[simp] theorem Res.bnd_bad {α β : Type} (k : α → List Cell → Res β) : @Res.bnd _ _ (.bad : Res α) (.mk k) = .bad := Eq.trans rfl rfl
@[simp] theorem Res.op_some {α β : Type} (x : α) (k : α → Res β) : @Res.op _ _ (some x) (.mk k) = k x := Eq.trans rfl rfl
@[simp] theorem Res.op_none {α β : Type} (k : α → Res β) : @Res.op _ _ (none : Option α) (.mk k) = .bad := Eq.trans rfl rfl
@[simp] theorem Res.ou_ok {α : Type} (x : α) (S : List Cell) (k : α → List Cell → Out) : @Res.ou _ (.ok x S) (.mk k) = k x S := Eq.trans rfl rfl
@[simp] theorem Res.ou_ex {α : Type} (x : Xc) (S : List Cell) (k : α → List Cell → Out) : @Res.ou _ (.ex x S : Res α) (.mk k) = .ex x S := Eq.trans rfl rfl
@[simp] theorem Res.ou_bad {α : Type} (k : α → List Cell → Out) : @Res.ou _ (.bad : Res α) (.mk k) = .bad := Eq.trans rfl rfl
@[simp] theorem Out.op_some {α : Type} (x : α) (k : α → Out) : @Out.op _ (some x) (.mk k) = k x := Eq.trans rfl rfl
@[simp] theorem Out.op_none {α : Type} (k : α → Out) : @Out.op _ (none : Option α) (.mk k) = .bad := Eq.trans rfl rfl
@[simp] theorem Res.opt_some {α β : Type} (x : α) (k : α → Res β) : Res.opt (some x) k = k x := Eq.trans rfl rfl
@[simp] theorem Res.opt_none {α β : Type} (k : α → Res β) : Res.opt (none : Option α) k = .bad := Eq.trans rfl rfl
@[simp] theorem Out.opt_some {α : Type} (x : α) (k : α → Out) : Out.opt (some x) k = k x := Eq.trans rfl rfl
@[simp] theorem Out.opt_none {α : Type} (k : α → Out) : Out.opt (none : Option α) k = .bad := Eq.trans rfl rfl
def Out.sq (o : Out) [c : Kt (List Slot → List Cell → Out)] : Out := match o with
  | .nx env1 S1 => c.k env1 S1
  | .rt w S1 => .rt w S1
  | .bk env1 S1 => .bk env1 S1
  | .ct env1 S1 => .ct env1 S1
  | .ex x S1 => .ex x S1
  | .bad => .bad
@[simp] theorem Out.sq_nx (e : List Slot) (S : List Cell) (k : List Slot → List Cell → Out) : @Out.sq (Out.nx e S) (.mk k) = k e S := Eq.trans rfl rfl
@[simp] theorem Out.sq_rt (e : W) (S : List Cell) (k : List Slot → List Cell → Out) : @Out.sq (Out.rt e S) (.mk k) = .rt e S := Eq.trans rfl rfl
@[simp] theorem Out.sq_ex (e : Xc) (S : List Cell) (k : List Slot → List Cell → Out) : @Out.sq (Out.ex e S) (.mk k) = .ex e S := Eq.trans rfl rfl
@[simp] theorem Out.sq_bad (k : List Slot → List Cell → Out) : @Out.sq (Out.bad) (.mk k) = .bad := Eq.trans rfl rfl
noncomputable def fnEnd (S : List Cell) : Out → Res W
  | .nx _ S1 => .ok (.d .non) (trunc S S1)
  | .rt (.d x) S1 => .ok (.d x) (trunc S S1)
  | .rt w S1 => .ok w S1
  | .ex x S1 => .ex x (trunc S S1)
  | _ => .bad
@[simp] theorem fnEnd_nx (S : List Cell) (e : List Slot) (S1 : List Cell) : fnEnd S (.nx e S1) = .ok (.d .non) (trunc S S1) := Eq.trans rfl rfl
@[simp] theorem fnEnd_rt (S : List Cell) (x : D) (S1 : List Cell) : fnEnd S (.rt (.d x) S1) = .ok (.d x) (trunc S S1) := Eq.trans rfl rfl
@[simp] theorem fnEnd_ex (S : List Cell) (x : Xc) (S1 : List Cell) : fnEnd S (.ex x S1) = .ex x (trunc S S1) := Eq.trans rfl rfl
theorem mkFn_eq (np nN : Nat) (b : List Slot → List Cell → Out) (ws : List W) (S : List Cell) (h : ws.length = np) : mkFn np nN b ws S = fnEnd S (b (ws.map .w ++ List.replicate (nN - np) .un) S) := by
  unfold mkFn
  rw [if_pos h]
  generalize b _ S = o
  cases o with
  | rt w S1 => cases w <;> rfl
  | _ => rfl
@[simp] theorem trunc_self (S : List Cell) : trunc S S = S := by
  unfold trunc
  split <;> rfl
theorem trunc_len {S S1 : List Cell} (h : S1.length = S.length) : trunc S S1 = S1 := by
  unfold trunc
  split
  · next e => rw [← e, ← h, List.take_length]
  · rfl
@[simp] theorem trunc_cons (c c' : Cell) (S : List Cell) : trunc (c :: S) (c' :: S) = c' :: S := trunc_len rfl
@[simp] theorem trunc_app (S : List Cell) (c c' : Cell) : trunc (S ++ [c]) (S ++ [c']) = S ++ [c'] := trunc_len (by simp)
theorem set_app {α : Type} (S : List α) (c c' : α) : (S ++ [c]).set S.length c' = S ++ [c'] := by
  rw [List.set_append_right _ _ (Nat.le_refl _)]
  simp
@[simp] theorem LN_le (n : Nat) (h : n ≤ 16777216) : n ≤ LN := by rw [LN_val]; exact h
noncomputable def ifLN {α : Type} (n : Nat) (a b : α) : α := @ite _ (n ≤ LN) (Classical.propDecidable _) a b
theorem ifLN_eq {α : Type} (n : Nat) (a b : α) : (if n ≤ LN then a else b) = ifLN n a b := by
  unfold ifLN
  congr
theorem ifLN_eq2 {α : Type} (n : Nat) (a b : α) : (if n ≤ 16777216 then a else b) = ifLN n a b := by
  rw [← ifLN_eq]
  simp only [LN_val]
theorem ifLN_eq3 {α : Type} (c : Prop) [Decidable c] (n : Nat) (a b : α) : (if c ∧ n ≤ LN then a else b) = if c then ifLN n a b else b := by
  rw [← ifLN_eq]
  by_cases h : c <;> simp [h]
theorem ifLN_eq4 {α : Type} (c d : Prop) [Decidable c] [Decidable d] (n : Nat) (a b : α) : (if c ∧ d ∧ n ≤ LN then a else b) = if c ∧ d then ifLN n a b else b := by
  rw [← ifLN_eq]
  by_cases h : c <;> by_cases h' : d <;> simp [h, h']
@[simp] theorem ifLN_ok {α : Type} {n : Nat} (h : n ≤ LN) (a b : α) : ifLN n a b = a := if_pos h
noncomputable def rg1D (x : W) (S1 : List Cell) : Res (List D) := match x with
    | .d (.int j) => @ite _ (rgOk j = true) (Classical.propDecidable _) (.ok (rangeD 0 j.toNat) S1) .bad
    | _ => .bad
noncomputable def rg2D (x y : W) (S2 : List Cell) : Res (List D) := match x, y with
    | .d (.int i), .d (.int j) => @ite _ (rgOk i = true ∧ rgOk j = true) (Classical.propDecidable _) (.ok (rangeD i (j - i).toNat) S2) .bad
    | _, _ => .bad
@[simp] theorem rg1D_ok {j : Int} (h : rgOk j = true) (S : List Cell) : rg1D (.d (.int j)) S = .ok (rangeD 0 j.toNat) S := by
  show @ite _ (rgOk j = true) (Classical.propDecidable _) _ _ = _
  rw [if_pos h]
@[simp] theorem rg2D_ok {i j : Int} (h : rgOk i = true) (h' : rgOk j = true) (S : List Cell) : rg2D (.d (.int i)) (.d (.int j)) S = .ok (rangeD i (j - i).toNat) S := by
  show @ite _ (rgOk i = true ∧ rgOk j = true) (Classical.propDecidable _) _ _ = _
  rw [if_pos ⟨h, h'⟩]
theorem rg1D_eq (x : W) (S1 : List Cell) : rg1D x S1 = (match x with
    | .d (.int j) => if rgOk j = true then .ok (rangeD 0 j.toNat) S1 else .bad
    | _ => .bad) := by
  cases x with
  | d x => cases x <;> first | rfl | (simp only [rg1D]; congr)
  | l p => rfl
theorem rg2D_eq (x y : W) (S2 : List Cell) : rg2D x y S2 = (match x, y with
    | .d (.int i), .d (.int j) => if rgOk i = true ∧ rgOk j = true then .ok (rangeD i (j - i).toNat) S2 else .bad
    | _, _ => .bad) := by
  cases x with
  | d x =>
    cases y with
    | d y => cases x <;> cases y <;> first | rfl | (simp only [rg2D]; congr)
    | l p => cases x <;> rfl
  | l p => rfl
section
variable (phi : Nat → Fn) (env : List Slot) (S : List Cell)
@[simp] theorem den_snil : Sts.nil.den phi env S = (.nx env S) := by
  simp only [Sts.den]
  try rfl
@[simp] theorem den_scons (s : St) (l : Sts) : (Sts.cons s l).den phi env S = (@Out.sq (s.den phi env S) <| .mk fun e S1 => l.den phi e S1) := by
  simp only [Sts.den]
  try rfl
@[simp] theorem den_asg (t : Tg) (e : E) : (St.asg t e).den phi env S = (@Res.ou _ (e.den phi env S) <| .mk fun w S1 => asgW t w env S1) := by
  simp only [St.den]
  try rfl
@[simp] theorem den_own (i : Nat) (f : Fr) : (St.own i f).den phi env S = (@Res.ou _ (f.den phi env S) <| .mk fun c S1 => .nx (env.set i (.own c)) S1) := by
  simp only [St.den]
  try rfl
@[simp] theorem den_alc (i : Nat) (f : Fr) : (St.alc i f).den phi env S = (@Res.ou _ (f.den phi env S) <| .mk fun c S1 => .nx (env.set i (.w (.l (.inr S1.length)))) (S1 ++ [c])) := by
  simp only [St.den]
  try rfl
@[simp] theorem den_sf (c n : Nat) (o e : E) : (St.sf c n o e).den phi env S = (@Res.ou _ (e.den phi env S) <| .mk fun v S1 => @Res.ou _ (o.den phi env S1) <| .mk fun w S2 => match w, noSlots [v] with
    | .l (.inr m), true => match S2[m]? with
      | some (.ob c' fs) => if c' = c ∧ fs.length < 900 then .nx env (S2.set m (.ob c (putFs n v fs))) else .bad
      | _ => .bad
    | _, _ => .bad) := by
  simp only [St.den]
  try rfl
@[simp] theorem den_si (a i e : E) : (St.si a i e).den phi env S = (@Res.ou _ (e.den phi env S) <| .mk fun v S1 => @Res.ou _ (a.den phi env S1) <| .mk fun w S2 => @Res.ou _ (i.den phi env S2) <| .mk fun k S3 =>
      @Out.op _ (isDat v) <| .mk fun x => @Out.op _ (isDat k) <| .mk fun kd => @Out.op _ (cellAt env S3 w) <| .mk fun c => @Out.op _ (siC c kd x) <| .mk fun c' => @Out.op _ (putLoc env S3 w c') <| .mk fun p => .nx p.1 p.2) := by
  simp only [St.den]
  try rfl
@[simp] theorem den_app (a e : E) : (St.app a e).den phi env S = (@Res.ou _ (a.den phi env S) <| .mk fun w S1 => @Out.op _ ((cellAt env S1 w).bind lstC) <| .mk fun _ => @Res.ou _ (e.den phi env S1) <| .mk fun v S2 => @Out.op _ (isDat v) <| .mk fun x => @Out.op _ ((cellAt env S2 w).bind (appC x)) <| .mk fun c => @Out.op _ (putLoc env S2 w c) <| .mk fun p => .nx p.1 p.2) := by
  simp only [St.den]
  try rfl
@[simp] theorem den_ext (a e : E) : (St.ext a e).den phi env S = (@Res.ou _ (a.den phi env S) <| .mk fun w S1 => @Out.op _ ((cellAt env S1 w).bind lstC) <| .mk fun _ => @Res.ou _ (e.den phi env S1) <| .mk fun v S2 => @Out.op _ (isDat v) <| .mk fun x => @Out.op _ ((cellAt env S2 w).bind (extC x)) <| .mk fun c => @Out.op _ (putLoc env S2 w c) <| .mk fun p => .nx p.1 p.2) := by
  simp only [St.den]
  try rfl
@[simp] theorem den_pop (a : E) : (St.pop a).den phi env S = (@Res.ou _ (a.den phi env S) <| .mk fun w S1 => @Out.op _ ((cellAt env S1 w).bind popC) <| .mk fun c => @Out.op _ (putLoc env S1 w c) <| .mk fun p => .nx p.1 p.2) := by
  simp only [St.den]
  try rfl
@[simp] theorem den_ex (e : E) : (St.ex e).den phi env S = (@Res.ou _ (e.den phi env S) <| .mk fun _ S1 => .nx env S1) := by
  simp only [St.den]
  try rfl
@[simp] theorem den_site (c : E) (a b : Sts) : (St.ite c a b).den phi env S = (@Res.ou _ (c.den phi env S) <| .mk fun w S1 => @Out.op _ (isBl w) <| .mk fun t => if t = true then a.den phi env S1 else b.den phi env S1) := by
  simp only [St.den]
  try rfl
@[simp] theorem den_for (t : Tg) (it : It) (b : Sts) : (St.fr t it b).den phi env S = (@Res.ou _ (it.den phi true env S) <| .mk fun ds S1 => forL (fun x env2 S2 => @Out.op _ (t.set x env2) <| .mk fun env3 => b.den phi env3 S2) ds env S1) := by
  simp only [St.den]
  try rfl
@[simp] theorem den_wh (c : E) (b : Sts) : (St.wh c b).den phi env S = (whL (fun env2 S2 => c.den phi env2 S2) (fun env2 S2 => b.den phi env2 S2) fuel env S) := by
  simp only [St.den]
  try rfl
@[simp] theorem den_ret (e : E) : (St.ret e).den phi env S = (@Res.ou _ (e.den phi env S) <| .mk fun w S1 => match w with
    | .l (.inr n) => .rt (.l (.inr n)) S1
    | w => @Out.op _ (look env S1 w) <| .mk fun d => .rt (.d d) S1) := by
  simp only [St.den]
  try rfl
@[simp] theorem den_retn : St.retn.den phi env S = (.rt (.d .non) S) := by
  simp only [St.den]
  try rfl
@[simp] theorem den_pass : St.pass.den phi env S = (.nx env S) := by
  simp only [St.den]
  try rfl
@[simp] theorem den_rais (c : Nat) (ns : List Nat) (l : Es) : (St.rais c ns l).den phi env S = (@Res.ou _ (l.den phi env S) <| .mk fun ws S1 => @Out.op _ (allDat ws) <| .mk fun ds => if ns.length = ds.length ∧ ds.all fmD = true then .ex (c, (ns.zip ds).reverse) S1 else .bad) := by
  simp only [St.den]
  try rfl
@[simp] theorem den_fz (i : Nat) : (St.fz i).den phi env S = (match env.getD i .un with
    | .own c => @Out.op _ c.data <| .mk fun d => .nx (env.set i (.w (.d d))) S
    | _ => .bad) := by
  simp only [St.den]
  try rfl
@[simp] theorem den_kl (l : List Nat) : (St.kl l).den phi env S = (.nx (wipeS env l) S) := by
  simp only [St.den]
  try rfl
@[simp] theorem den_par (is : List Nat) (l : Es) : (St.par is l).den phi env S = (@Res.ou _ (l.den phi env S) <| .mk fun ws S1 => if noSlots ws = true ∧ is.length = ws.length then .nx (setAll env is ws) S1 else .bad) := by
  simp only [St.den]
  try rfl
@[simp] theorem den_aug (i : Nat) (o : O2) (e : E) : (St.aug i o e).den phi env S = (match env.getD i .un with
    | .w (.d (.int x)) => @Res.ou _ (e.den phi env S) <| .mk fun w S1 => match w with
      | .d (.int y) => @Out.op _ (o.f (.int x) (.int y)) <| .mk fun d => .nx (env.set i (.w (.d d))) S1
      | _ => .bad
    | _ => .bad) := by
  simp only [St.den]
  try rfl
@[simp] theorem den_nm (i : Nat) : (E.nm i).den phi env S = (match env.getD i .un with
    | .un => .bad
    | .w x => .ok x S
    | .own _ => .ok (.l (.inl i)) S) := by
  simp only [E.den]
  try rfl
@[simp] theorem den_k (c : D) : (E.k c).den phi env S = (.ok (.d c) S) := by
  simp only [E.den]
  try rfl
@[simp] theorem den_gl (x : Str) (c : D) : (E.gl x c).den phi env S = (.ok (.d c) S) := by
  simp only [E.den]
  try rfl
@[simp] theorem den_o2 (o : O2) (a b : E) : (E.o2 o a b).den phi env S = (@Res.bnd _ _ (a.den phi env S) <| .mk fun x S1 => @Res.bnd _ _ (b.den phi env S1) <| .mk fun y S2 => @Res.op _ _ (look env S2 x) <| .mk fun dx => @Res.op _ _ (look env S2 y) <| .mk fun dy => @Res.op _ _ (o.f dx dy) <| .mk fun d => .ok (.d d) S2) := by
  simp only [E.den]
  try rfl
@[simp] theorem den_ch (o o' : O2) (a b c : E) : (E.ch o o' a b c).den phi env S = (@Res.bnd _ _ (a.den phi env S) <| .mk fun x S1 => @Res.bnd _ _ (b.den phi env S1) <| .mk fun y S2 => @Res.op _ _ (look env S2 x) <| .mk fun dx => @Res.op _ _ (look env S2 y) <| .mk fun dy => @Res.op _ _ (o.f dx dy) <| .mk fun d => @Res.op _ _ (isBl (.d d)) <| .mk fun t =>
      if t = true then @Res.bnd _ _ (c.den phi env S2) <| .mk fun z S3 => @Res.op _ _ (look env S3 y) <| .mk fun dy' => @Res.op _ _ (look env S3 z) <| .mk fun dz => @Res.op _ _ (o'.f dy' dz) <| .mk fun d' => .ok (.d d') S3
      else .ok (.d (.bl false)) S2) := by
  simp only [E.den]
  try rfl
@[simp] theorem den_neg (a : E) : (E.neg a).den phi env S = (@Res.bnd _ _ (a.den phi env S) <| .mk fun x S1 => match x with
    | .d (.int i) => .ok (.d (.int (-i))) S1
    | _ => .bad) := by
  simp only [E.den]
  try rfl
@[simp] theorem den_nt (a : E) : (E.nt a).den phi env S = (@Res.bnd _ _ (a.den phi env S) <| .mk fun x S1 => @Res.op _ _ (isBl x) <| .mk fun b => .ok (.d (.bl (!b))) S1) := by
  simp only [E.den]
  try rfl
@[simp] theorem den_bo (isAnd : Bool) (l : Es) : (E.bo isAnd l).den phi env S = (l.denB phi isAnd env S) := by
  simp only [E.den]
  try rfl
@[simp] theorem den_ite (c a b : E) : (E.ite c a b).den phi env S = (@Res.bnd _ _ (c.den phi env S) <| .mk fun x S1 => @Res.op _ _ (isBl x) <| .mk fun t => if t = true then a.den phi env S1 else b.den phi env S1) := by
  simp only [E.den]
  try rfl
@[simp] theorem den_tup (l : Es) : (E.tup l).den phi env S = (@Res.bnd _ _ (l.den phi env S) <| .mk fun ws S1 => @Res.op _ _ (allDat ws) <| .mk fun ds => ifLN ds.length (.ok (.d (.tup ds)) S1) .bad) := by
  simp only [E.den, ifLN_eq]
  try rfl
@[simp] theorem den_fr (f : Fr) : (E.fr f).den phi env S = (@Res.bnd _ _ (f.den phi env S) <| .mk fun c S1 => @Res.op _ _ c.data <| .mk fun d => .ok (.d d) S1) := by
  simp only [E.den]
  try rfl
@[simp] theorem den_ix (a b : E) : (E.ix a b).den phi env S = (@Res.bnd _ _ (a.den phi env S) <| .mk fun x S1 => @Res.bnd _ _ (b.den phi env S1) <| .mk fun y S2 => @Res.op _ _ (look env S2 x) <| .mk fun dx => @Res.op _ _ (look env S2 y) <| .mk fun dy => @Res.op _ _ (ixD dx dy) <| .mk fun d => .ok (.d d) S2) := by
  simp only [E.den]
  try rfl
@[simp] theorem den_sl (a : E) (lo hi : Eo) : (E.sl a lo hi).den phi env S = (@Res.bnd _ _ (a.den phi env S) <| .mk fun x S1 => @Res.bnd _ _ (lo.den phi env S1) <| .mk fun y S2 => @Res.bnd _ _ (hi.den phi env S2) <| .mk fun z S3 =>
      @Res.op _ _ (look env S3 x) <| .mk fun dx => @Res.op _ _ (slD dx y z) <| .mk fun d => .ok (.d d) S3) := by
  simp only [E.den]
  try rfl
@[simp] theorem den_rev (a : E) : (E.rev a).den phi env S = (@Res.bnd _ _ (a.den phi env S) <| .mk fun x S1 => @Res.op _ _ (look env S1 x) <| .mk fun dx => @Res.op _ _ (revD dx) <| .mk fun d => .ok (.d d) S1) := by
  simp only [E.den]
  try rfl
@[simp] theorem den_fl (c n : Nat) (a : E) : (E.fl c n a).den phi env S = (@Res.bnd _ _ (a.den phi env S) <| .mk fun x S1 => @Res.op _ _ (flW S1 c n x) <| .mk fun w => .ok w S1) := by
  simp only [E.den]
  try rfl
@[simp] theorem den_pr (c f : Nat) (a : E) : (E.pr c f a).den phi env S = (@Res.bnd _ _ (a.den phi env S) <| .mk fun x S1 => if isOb S1 c x = true then (phi f [x] S1).noex else .bad) := by
  simp only [E.den]
  try rfl
@[simp] theorem den_me (c f : Nat) (a : E) (l : Es) : (E.me c f a l).den phi env S = (@Res.bnd _ _ (a.den phi env S) <| .mk fun x S1 => if isOb S1 c x = true then @Res.bnd _ _ (l.den phi env S1) <| .mk fun ws S2 => if noSlots ws = true then phi f (x :: ws) S2 else .bad else .bad) := by
  simp only [E.den]
  try rfl
@[simp] theorem den_mk (c f : Nat) (data : Bool) (l : Es) : (E.mk c f data l).den phi env S = (@Res.bnd _ _ (l.den phi env S) <| .mk fun ws S1 => if noSlots ws = true then
      @Res.bnd _ _ (phi f (.l (.inr S1.length) :: ws) (S1 ++ [.ob c []])) <| .mk fun w S2 =>
        match w with
        | .d .non => if data = true then @Res.op _ _ (madeD S1 S2 c) <| .mk fun ds => .ok (.d (.obj c ds)) S1 else .ok (.l (.inr S1.length)) S2
        | _ => .bad
      else .bad) := by
  simp only [E.den]
  try rfl
@[simp] theorem den_ca (f : Nat) (l : Es) : (E.ca f l).den phi env S = (@Res.bnd _ _ (l.den phi env S) <| .mk fun ws S1 => if noSlots ws = true then phi f ws S1 else .bad) := by
  simp only [E.den]
  try rfl
@[simp] theorem den_bi (b : Bi) (l : Es) : (E.bi b l).den phi env S = (@Res.bnd _ _ (l.den phi env S) <| .mk fun ws S1 => @Res.op _ _ (looks env S1 ws) <| .mk fun ds => @Res.op _ _ (b.f ds) <| .mk fun d => .ok (.d d) S1) := by
  simp only [E.den]
  try rfl
@[simp] theorem den_mt (m : Mt) (a : E) (l : Es) : (E.mt m a l).den phi env S = (@Res.bnd _ _ (a.den phi env S) <| .mk fun x S1 => @Res.op _ _ (look env S1 x) <| .mk fun d0 => if m.rc d0 = true then @Res.bnd _ _ (l.den phi env S1) <| .mk fun ws S2 => @Res.op _ _ (look env S2 x) <| .mk fun dx => @Res.op _ _ (looks env S2 ws) <| .mk fun ds =>
      if sameTy d0 dx = true then @Res.op _ _ (m.f dx ds) <| .mk fun d => .ok (.d d) S2 else .bad
      else .bad) := by
  simp only [E.den]
  try rfl
@[simp] theorem den_col (isT : Bool) (it : It) : (E.col isT it).den phi env S = (@Res.bnd _ _ (it.den phi false env S) <| .mk fun ds S1 => ifLN ds.length (.ok (.d (if isT = true then .tp false ds else .lst ds)) S1) .bad) := by
  simp only [E.den, ifLN_eq2]
  try rfl
@[simp] theorem den_qu (isAll : Bool) (t : Tg) (it : It) (e : E) (vs : List Nat) : (E.qu isAll t it e vs).den phi env S = (@Res.bnd _ _ (it.den phi false env S) <| .mk fun ds S1 => if noOwn env vs = true then
      Res.opt (quL isAll (fun x S2 => match t.set x (wipeS env vs) with
        | some env1 => (e.den phi env1 S2).tst
        | none => none) ds S1) fun r => .ok (.d (.bl r.1)) r.2
      else .bad) := by
  simp only [E.den]
  try rfl
@[simp] theorem den_isi (a : E) (l : List Cl) : (E.isi a l).den phi env S = (@Res.bnd _ _ (a.den phi env S) <| .mk fun x S1 => @Res.op _ _ (look env S1 x) <| .mk fun d => .ok (.d (.bl (l.any (isTy d)))) S1) := by
  simp only [E.den]
  try rfl
@[simp] theorem den_inK (isIn : Bool) (a : E) (x : Str) (l : List D) : (E.inK isIn a x l).den phi env S = (@Res.bnd _ _ (a.den phi env S) <| .mk fun x S1 => match x with
    | .d (.str t) => .ok (.d (.bl ((l.any fun y => decide (y = .str t)) == isIn))) S1
    | _ => .bad) := by
  simp only [E.den]
  try rfl
@[simp] theorem den_ixK (a : E) (x : Str) (l : List (D × D)) : (E.ixK a x l).den phi env S = (@Res.bnd _ _ (a.den phi env S) <| .mk fun x S1 => match x with
    | .d (.str t) => @Res.op _ _ (dfind l (.str t)) <| .mk fun d => .ok (.d d) S1
    | _ => .bad) := by
  simp only [E.den]
  try rfl
@[simp] theorem den_heard (e : E) : (E.heard e).den phi env S = (match e.den phi env S with
    | .ok _ S1 => .ok (.d (.tup [])) S1
    | .ex x S1 => @Res.op _ _ (heardOf x) <| .mk fun d => .ok (.d d) S1
    | .bad => .bad) := by
  simp only [E.den]
  try rfl
@[simp] theorem den_flst (l : Es) : (Fr.lst l).den phi env S = (@Res.bnd _ _ (l.den phi env S) <| .mk fun ws S1 => @Res.op _ _ (allDat ws) <| .mk fun ds => ifLN ds.length (.ok (.lst ds) S1) .bad) := by
  simp only [Fr.den, ifLN_eq]
  try rfl
@[simp] theorem den_flc (t : Tg) (it : It) (c : Eo) (e : E) (vs : List Nat) : (Fr.lc t it c e vs).den phi env S = (@Res.bnd _ _ (it.den phi false env S) <| .mk fun ds S1 => if noOwn env vs = true then ifLN ds.length
      (Res.opt (lcL (fun x S2 => match t.set x (wipeS env vs) with
        | some env1 => match c.denT phi env1 S2 with
          | some (true, S3) => match (e.den phi env1 S3).pure? with
            | some (.d y, S4) => some (some y, S4)
            | _ => none
          | some (false, S3) => some (none, S3)
          | none => none
        | none => none) ds S1) fun r => .ok (.lst r.1) r.2) .bad
      else .bad) := by
  simp only [Fr.den, ifLN_eq3]
  try rfl
noncomputable def dctE (ks : List Str) : Res (List W) → Res Cell
  | .ok ws S1 => Res.opt (allDat ws) fun ds => @ite _ (ks.length = ds.length ∧ ks.Nodup) (Classical.propDecidable _) (.ok (.dct false ((ks.map D.str).zip ds)) S1) .bad
  | _ => .bad
@[simp] theorem den_fdct (ks : List Str) (l : Es) : (Fr.dct ks l).den phi env S = dctE ks (l.den phi env S) := by
  simp only [Fr.den]
  unfold dctE
  cases l.den phi env S with
  | ok ws S1 =>
    dsimp only
    congr 1
    funext ds
    congr
  | _ => rfl
@[simp] theorem den_enil : Es.nil.den phi env S = (.ok [] S) := by
  simp only [Es.den]
  try rfl
@[simp] theorem den_econs (a : E) (l : Es) : (Es.cons a l).den phi env S = (@Res.bnd _ _ (a.den phi env S) <| .mk fun x S1 => @Res.bnd _ _ (l.den phi env S1) <| .mk fun xs S2 => .ok (x :: xs) S2) := by
  simp only [Es.den]
  try rfl
@[simp] theorem den_b1 (isAnd : Bool) (a : E) : (Es.cons a .nil).denB phi isAnd env S = (a.den phi env S) := by
  simp only [Es.denB]
  try rfl
@[simp] theorem den_b2 (isAnd : Bool) (a b : E) (l : Es) : (Es.cons a (.cons b l)).denB phi isAnd env S = (@Res.bnd _ _ (a.den phi env S) <| .mk fun x S1 => @Res.op _ _ (isBl x) <| .mk fun t => if t = isAnd then (Es.cons b l).denB phi isAnd env S1 else .ok (.d (.bl t)) S1) := by
  simp only [Es.denB]
  try rfl
@[simp] theorem den_onone : Eo.none.den phi env S = (.ok none S) := by
  simp only [Eo.den]
  try rfl
@[simp] theorem den_osome (a : E) : (Eo.some a).den phi env S = (@Res.bnd _ _ (a.den phi env S) <| .mk fun x S1 => match x with
    | .d (.int i) => .ok (some i) S1
    | _ => .bad) := by
  simp only [Eo.den]
  try rfl
@[simp] theorem den_tnone : Eo.none.denT phi env S = (some (true, S)) := by
  simp only [Eo.denT]
  try rfl
@[simp] theorem den_tsome (a : E) : (Eo.some a).denT phi env S = (a.den phi env S).tst := by
  simp only [Eo.denT]
  try rfl
@[simp] theorem den_ie (m : Bool) (a : E) : (It.e a).den phi m env S = (@Res.bnd _ _ (a.den phi env S) <| .mk fun x S1 => @Res.op _ _ (lookI m env x) <| .mk fun d => @Res.op _ _ (itemsD d) <| .mk fun ds => .ok ds S1) := by
  simp only [It.den]
  try rfl
@[simp] theorem den_irg1 (m : Bool) (a : E) : (It.rg1 a).den phi m env S = (@Res.bnd _ _ (a.den phi env S) <| .mk fun x S1 => rg1D x S1) := by
  show _ = (a.den phi env S).bind fun x S1 => rg1D x S1
  simp only [It.den, rg1D_eq]
  try rfl
@[simp] theorem den_irg2 (m : Bool) (a b : E) : (It.rg2 a b).den phi m env S = (@Res.bnd _ _ (a.den phi env S) <| .mk fun x S1 => @Res.bnd _ _ (b.den phi env S1) <| .mk fun y S2 => rg2D x y S2) := by
  show _ = (a.den phi env S).bind fun x S1 => (b.den phi env S1).bind fun y S2 => rg2D x y S2
  simp only [It.den, rg2D_eq]
  try rfl
@[simp] theorem den_ien (m : Bool) (a : E) : (It.en a).den phi m env S = (@Res.bnd _ _ (a.den phi env S) <| .mk fun x S1 => @Res.op _ _ (lookI m env x) <| .mk fun d => @Res.op _ _ (seqD d) <| .mk fun ds => .ok (enumD ds) S1) := by
  simp only [It.den]
  try rfl
@[simp] theorem den_izp (m : Bool) (l : Es) : (It.zp l).den phi m env S = (@Res.bnd _ _ (l.den phi env S) <| .mk fun xs S1 => @Res.op _ _ (looksI m env xs) <| .mk fun ds => @Res.op _ _ (seqsD ds) <| .mk fun ls => @Res.op _ _ (zipD ls) <| .mk fun r => .ok r S1) := by
  simp only [It.den]
  try rfl
@[simp] theorem den_iits (m : Bool) (a : E) : (It.its a).den phi m env S = (@Res.bnd _ _ (a.den phi env S) <| .mk fun x S1 => @Res.op _ _ (lookI m env x) <| .mk fun d => @Res.op _ _ (itemsI d) <| .mk fun ds => .ok ds S1) := by
  simp only [It.den]
  try rfl
end
@[simp] theorem look_d (env : List Slot) (S : List Cell) (x : D) : look env S (.d x) = some x := Eq.trans rfl rfl
@[simp] theorem look_c (env : List Slot) (S : List Cell) (n : Nat) : look env S (.l (.inr n)) = (match S[n]? with
  | some c => c.data
  | none => none) := rfl
@[simp] theorem looks_nil (env : List Slot) (S : List Cell) : looks env S [] = some [] := Eq.trans rfl rfl
@[simp] theorem looks_d (env : List Slot) (S : List Cell) (x : D) (l : List W) : looks env S (.d x :: l) = (looks env S l).map (x :: ·) := by
  simp only [looks, look_d]
  cases h : looks env S l <;> rfl
@[simp] theorem isBl_bl (b : Bool) : isBl (.d (.bl b)) = some b := Eq.trans rfl rfl
@[simp] theorem isDat_d (x : D) : isDat (.d x) = some x := Eq.trans rfl rfl
@[simp] theorem allDat_nil : allDat [] = some [] := Eq.trans rfl rfl
@[simp] theorem allDat_d (x : D) (l : List W) : allDat (.d x :: l) = (allDat l).map (x :: ·) := by
  simp only [allDat]
  cases h : allDat l <;> rfl
@[simp] theorem noSlots_nil : noSlots [] = true := Eq.trans rfl rfl
@[simp] theorem noSlots_d (x : D) (l : List W) : noSlots (.d x :: l) = noSlots l := Eq.trans rfl rfl
@[simp] theorem noSlots_c (n : Nat) (l : List W) : noSlots (.l (.inr n) :: l) = noSlots l := Eq.trans rfl rfl
@[simp] theorem lookI_d (m : Bool) (env : List Slot) (x : D) : lookI m env (.d x) = some x := Eq.trans rfl rfl
@[simp] theorem looksI_nil (m : Bool) (env : List Slot) : looksI m env [] = some [] := Eq.trans rfl rfl
@[simp] theorem looksI_d (m : Bool) (env : List Slot) (x : D) (l : List W) : looksI m env (.d x :: l) = (looksI m env l).map (x :: ·) := by
  simp only [looksI, lookI_d]
  cases h : looksI m env l <;> rfl
@[simp] theorem asgW_nm (i : Nat) (x : D) (env : List Slot) (S : List Cell) : asgW (.nm i) (.d x) env S = .nx (env.set i (.w (.d x))) S := Eq.trans rfl rfl
@[simp] theorem asgW_tp (l : Tgs) (x : D) (env : List Slot) (S : List Cell) : asgW (.tp l) (.d x) env S = (@Out.op _ ((Tg.tp l).set x env) <| .mk fun e => .nx e S) := Eq.trans rfl rfl
@[simp] theorem set_nm (i : Nat) (x : D) (env : List Slot) : (Tg.nm i).set x env = some (env.set i (.w (.d x))) := Eq.trans rfl rfl
@[simp] theorem set_tp (l : Tgs) (c : Bool) (xs : List D) (env : List Slot) : (Tg.tp l).set (.tp c xs) env = l.set xs env := Eq.trans rfl rfl
@[simp] theorem sets_nil (env : List Slot) : Tgs.nil.set [] env = some env := Eq.trans rfl rfl
@[simp] theorem sets_cons (i : Nat) (l : Tgs) (x : D) (xs : List D) (env : List Slot) : (Tgs.cons (.nm i) l).set (x :: xs) env = l.set xs (env.set i (.w (.d x))) := Eq.trans rfl rfl
@[simp] theorem wipe_nil (env : List Slot) : wipeS env [] = env := Eq.trans rfl rfl
@[simp] theorem wipe_cons (env : List Slot) (i : Nat) (r : List Nat) : wipeS env (i :: r) = (wipeS env r).set i .un := Eq.trans rfl rfl
@[simp] theorem noOwn_nil (env : List Slot) : noOwn env [] = true := Eq.trans rfl rfl
@[simp] theorem noOwn_cons (env : List Slot) (i : Nat) (r : List Nat) : noOwn env (i :: r) = ((match env.getD i .un with | .own _ => false | _ => true) && noOwn env r) := Eq.trans rfl rfl
@[simp] theorem pure_ok {α : Type} (x : α) (S : List Cell) : (Res.ok x S).pure? = some (x, S) := Eq.trans rfl rfl
@[simp] theorem tst_ok (b : Bool) (S : List Cell) : (Res.ok (.d (.bl b)) S).tst = some (b, S) := Eq.trans rfl rfl
@[simp] theorem noex_ok (w : W) (S : List Cell) : (Res.ok w S).noex = .ok w S := Eq.trans rfl rfl
@[simp] theorem isOb_d (S : List Cell) (c c' : Nat) (fs : List (Nat × D)) : isOb S c (.d (.obj c' fs)) = decide (c' = c) := Eq.trans rfl rfl
@[simp] theorem flW_d (S : List Cell) (c n c' : Nat) (fs : List (Nat × D)) : flW S c n (.d (.obj c' fs)) = if c' = c then (fs.lookup n).map .d else none := Eq.trans rfl rfl
@[simp] theorem setAll_nil (env : List Slot) : setAll env [] [] = env := Eq.trans rfl rfl
@[simp] theorem setAll_cons (env : List Slot) (i : Nat) (is : List Nat) (w : W) (ws : List W) : setAll env (i :: is) (w :: ws) = setAll (env.set i (.w w)) is ws := Eq.trans rfl rfl
theorem LN_dec (n : Nat) : (n ≤ LN) = (n ≤ 16777216) := by rw [LN_val]
@[simp] theorem data_lst (l : List D) : (Cell.lst l).data = some (.lst l) := Eq.trans rfl rfl
@[simp] theorem lenD_lst (l : List D) : lenD (.lst l) = some (.int l.length) := Eq.trans rfl rfl
@[simp] theorem lenD_tp (c : Bool) (l : List D) : lenD (.tp c l) = some (.int l.length) := Eq.trans rfl rfl
@[simp] theorem bif1 (b : Bi) (x : D) : b.f [x] = b.f1 x := Eq.trans rfl rfl
@[simp] theorem bi_len (x : D) : Bi.len.f1 x = lenD x := Eq.trans rfl rfl
@[simp] theorem bi_int (i : Int) : Bi.int.f1 (.int i) = some (.int i) := Eq.trans rfl rfl
@[simp] theorem bi_tup (l : List D) : Bi.tuple.f1 (.lst l) = some (.tup l) := Eq.trans rfl rfl
@[simp] theorem bi_lst1 (l : List D) : Bi.list.f1 (.lst l) = some (.lst l) := Eq.trans rfl rfl
@[simp] theorem bi_lst2 (c : Bool) (l : List D) : Bi.list.f1 (.tp c l) = some (.lst l) := Eq.trans rfl rfl
@[simp] theorem bi_lenset (x : D) : Bi.lenset.f1 x = lensetD x := Eq.trans rfl rfl
@[simp] theorem itemsD_lst (l : List D) : itemsD (.lst l) = some l := Eq.trans rfl rfl
@[simp] theorem itemsD_tp (c : Bool) (l : List D) : itemsD (.tp c l) = some l := Eq.trans rfl rfl
@[simp] theorem seqD_lst (l : List D) : seqD (.lst l) = some l := Eq.trans rfl rfl
@[simp] theorem seqD_tp (c : Bool) (l : List D) : seqD (.tp c l) = some l := Eq.trans rfl rfl
@[simp] theorem ixD_lst (l : List D) (i : Int) : ixD (.lst l) (.int i) = atI l i := Eq.trans rfl rfl
@[simp] theorem ixD_tp (c : Bool) (l : List D) (i : Int) : ixD (.tp c l) (.int i) = atI l i := Eq.trans rfl rfl
theorem atI_nat {α : Type} (xs : List α) (n : Nat) : atI xs (n : Int) = xs[n]? := by
  unfold atI ixN
  by_cases h : n < xs.length
  · rw [if_pos (by omega), if_pos (by omega)]
    simp
  · rw [if_pos (by omega), if_neg (by omega)]
    simp [List.getElem?_eq_none (Nat.le_of_not_lt h)]
theorem atI_pos {α : Type} (xs : List α) (i : Int) (h : 0 ≤ i) : atI xs i = xs[i.toNat]? := by
  obtain ⟨n, rfl⟩ := Int.eq_ofNat_of_zero_le h
  exact atI_nat xs n
@[simp] theorem atI_0 {α : Type} (a : α) (l : List α) : atI (a :: l) 0 = some a := atI_nat (a :: l) 0
@[simp] theorem atI_1 {α : Type} (a b : α) (l : List α) : atI (a :: b :: l) 1 = some b := atI_nat (a :: b :: l) 1
@[simp] theorem atI_2 {α : Type} (a b c : α) (l : List α) : atI (a :: b :: c :: l) 2 = some c := atI_nat (a :: b :: c :: l) 2
@[simp] theorem atI_3 {α : Type} (a b c d : α) (l : List α) : atI (a :: b :: c :: d :: l) 3 = some d := atI_nat (a :: b :: c :: d :: l) 3
@[simp] theorem atI_4 {α : Type} (a b c d e : α) (l : List α) : atI (a :: b :: c :: d :: e :: l) 4 = some e := atI_nat (a :: b :: c :: d :: e :: l) 4
theorem atI_m1 {α : Type} (xs : List α) (h : xs ≠ []) : atI xs (-1) = some (xs.getLast h) := by
  have h1 : 0 < xs.length := List.length_pos_iff.mpr h
  unfold atI ixN
  rw [if_neg (by omega), if_pos (by omega)]
  show xs[((-1 : Int) + xs.length).toNat]? = _
  rw [show ((-1 : Int) + xs.length).toNat = xs.length - 1 by omega, ← List.getLast?_eq_getElem?, List.getLast?_eq_some_getLast h]
@[simp] theorem atI_m1c3 {α : Type} (a b c : α) : atI [a, b, c] (-1) = some c := atI_m1 [a, b, c] (by simp)
@[simp] theorem atI_m1c4 {α : Type} (a b c d : α) : atI [a, b, c, d] (-1) = some d := atI_m1 [a, b, c, d] (by simp)
@[simp] theorem atI_m2c3 {α : Type} (a b c : α) : atI [a, b, c] (-2) = some b := Eq.trans rfl rfl
@[simp] theorem atI_m2c4 {α : Type} (a b c d : α) : atI [a, b, c, d] (-2) = some c := Eq.trans rfl rfl
@[simp] theorem f_add (i j : Int) : O2.f .add (.int i) (.int j) = some (.int (i + j)) := Eq.trans rfl rfl
@[simp] theorem f_sub (i j : Int) : O2.f .sub (.int i) (.int j) = some (.int (i - j)) := Eq.trans rfl rfl
theorem f_mul (i j : Int) (h : mulOk i j = true) : O2.f .mul (.int i) (.int j) = some (.int (i * j)) := by
  show (if mulOk i j = true then _ else _) = _
  rw [if_pos h]
theorem f_fdiv (i j : Int) (h : j ≠ 0 ∧ j.natAbs < 1073741824) : O2.f .fdiv (.int i) (.int j) = some (.int (i.fdiv j)) := by
  show (if j ≠ 0 ∧ j.natAbs < 1073741824 then _ else _) = _
  rw [if_pos h]
theorem f_mod (i j : Int) (h : j ≠ 0) : O2.f .mod (.int i) (.int j) = some (.int (i.fmod j)) := by
  show (if j ≠ 0 then _ else _) = _
  rw [if_pos h]
@[simp] theorem dEq_int (i j : Int) : dEq (.int i) (.int j) = decide (i = j) := by
  show (i == j) = _
  rw [Bool.eq_iff_iff]; simp
@[simp] theorem dEq_str (i j : Str) : dEq (.str i) (.str j) = decide (i = j) := by
  show (i == j) = _
  rw [Bool.eq_iff_iff]; simp
@[simp] theorem dEq_bl (i j : Bool) : dEq (.bl i) (.bl j) = decide (i = j) := by
  show (i == j) = _
  rw [Bool.eq_iff_iff]; simp
theorem f_eq (a b : D) (h : eqOk a b = true) : O2.f .eq a b = some (.bl (dEq a b)) := by
  show (if eqOk a b = true then _ else _) = _
  rw [if_pos h]
theorem f_ne (a b : D) (h : eqOk a b = true) : O2.f .ne a b = some (.bl (!dEq a b)) := by
  show (if eqOk a b = true then _ else _) = _
  rw [if_pos h]
@[simp] theorem f_eq_int (i j : Int) : O2.f .eq (.int i) (.int j) = some (.bl (decide (i = j))) := by rw [f_eq _ _ rfl, dEq_int]
@[simp] theorem f_ne_int (i j : Int) : O2.f .ne (.int i) (.int j) = some (.bl (!decide (i = j))) := by rw [f_ne _ _ rfl, dEq_int]
@[simp] theorem f_eq_str (i j : Str) : O2.f .eq (.str i) (.str j) = some (.bl (decide (i = j))) := by rw [f_eq _ _ rfl, dEq_str]
@[simp] theorem f_ne_str (i j : Str) : O2.f .ne (.str i) (.str j) = some (.bl (!decide (i = j))) := by rw [f_ne _ _ rfl, dEq_str]
@[simp] theorem f_eq_bl (i j : Bool) : O2.f .eq (.bl i) (.bl j) = some (.bl (decide (i = j))) := by rw [f_eq _ _ rfl, dEq_bl]
@[simp] theorem f_ne_bl (i j : Bool) : O2.f .ne (.bl i) (.bl j) = some (.bl (!decide (i = j))) := by rw [f_ne _ _ rfl, dEq_bl]
theorem ordOk_int (i j : Int) : ordOk (.int i) (.int j) = true := by
  unfold ordOk
  simp [D.pl, D.py, PySem.W.alike, PyData.depth]
theorem dLt_int (i j : Int) : dLt (.int i) (.int j) = decide (i < j) := PySem.W.dataLt_int i j
@[simp] theorem f_lt (i j : Int) : O2.f .lt (.int i) (.int j) = some (.bl (decide (i < j))) := by
  show (if ordOk _ _ = true then some (D.bl (dLt (.int i) (.int j))) else _) = _
  rw [if_pos (ordOk_int i j), dLt_int]
@[simp] theorem f_gt (i j : Int) : O2.f .gt (.int i) (.int j) = some (.bl (decide (j < i))) := by
  show (if ordOk _ _ = true then some (D.bl (dLt (.int j) (.int i))) else _) = _
  rw [if_pos (ordOk_int i j), dLt_int]
@[simp] theorem f_le (i j : Int) : O2.f .le (.int i) (.int j) = some (.bl (decide (i ≤ j))) := by
  show (if ordOk _ _ = true then some (D.bl (!dLt (.int j) (.int i))) else _) = _
  rw [if_pos (ordOk_int i j), dLt_int]
  simp [← Int.not_lt]
@[simp] theorem f_ge (i j : Int) : O2.f .ge (.int i) (.int j) = some (.bl (decide (j ≤ i))) := by
  show (if ordOk _ _ = true then some (D.bl (!dLt (.int i) (.int j))) else _) = _
  rw [if_pos (ordOk_int i j), dLt_int]
  simp [← Int.not_lt]
theorem strs_depth : ∀ l : List Str, PyData.depthAll (D.pys (l.map D.str)) = 0 ∧ D.pls (l.map D.str) = true
  | [] => ⟨rfl, rfl⟩
  | x :: l => by
    obtain ⟨a, b⟩ := strs_depth l
    simp only [List.map_cons, D.pys, D.pls, PyData.depthAll, D.py, PyData.depth, D.pl, a, b]
    exact ⟨rfl, rfl⟩
theorem f_isin_strs (a : Str) (l : List Str) : O2.f .isin (.str a) (.tup (l.map D.str)) = some (.bl (decide (a ∈ l))) := by
  obtain ⟨h1, h2⟩ := strs_depth l
  show (if eqOk (.tup (l.map D.str)) (.str a) = true then some (D.bl ((l.map D.str).any fun y => dEq y (.str a))) else none) = _
  rw [if_pos (by simp [eqOk, D.pl, D.py, PyData.depth, h1, h2, dLine])]
  congr 2
  rw [Bool.eq_iff_iff]
  simp [List.any_eq_true]
@[simp] theorem f_isin2 (a x y : Str) : O2.f .isin (.str a) (.tup [.str x, .str y]) = some (.bl (decide (a = x) || decide (a = y))) := by
  have h := f_isin_strs a [x, y]
  simp only [List.map_cons, List.map_nil] at h
  rw [h]
  congr 2
  rw [Bool.eq_iff_iff]
  simp
theorem f_notin_strs (a : Str) (l : List Str) : O2.f .notin (.str a) (.tup (l.map D.str)) = some (.bl (!decide (a ∈ l))) := by
  obtain ⟨h1, h2⟩ := strs_depth l
  show (if eqOk (.tup (l.map D.str)) (.str a) = true then some (D.bl (!(l.map D.str).any fun y => dEq y (.str a))) else none) = _
  rw [if_pos (by simp [eqOk, D.pl, D.py, PyData.depth, h1, h2, dLine])]
  congr 3
  rw [Bool.eq_iff_iff]
  simp [List.any_eq_true]
@[simp] theorem f_notin_strs4 (a x y z t : Str) : O2.f .notin (.str a) (.tup [.str x, .str y, .str z, .str t]) = some (.bl (!(decide (a = x) || decide (a = y) || decide (a = z) || decide (a = t)))) := by
  have h := f_notin_strs a [x, y, z, t]
  simp only [List.map_cons, List.map_nil] at h
  rw [h]
  congr 3
  rw [Bool.eq_iff_iff]
  simp [or_assoc]
theorem madeD_app (S : List Cell) (c : Nat) (fs : List (Nat × W)) : madeD S (S ++ [.ob c fs]) c = datFs fs := by
  unfold madeD
  simp
@[simp] theorem datFs_nil : datFs [] = some [] := Eq.trans rfl rfl
@[simp] theorem datFs_cons (n : Nat) (x : D) (l : List (Nat × W)) : datFs ((n, .d x) :: l) = (datFs l).map ((n, x) :: ·) := by
  simp only [datFs]
  cases h : datFs l <;> rfl
theorem quL_pure {f : D → List Cell → Option (Bool × List Cell)} {g : D → Bool} {S : List Cell} (q : Bool) : ∀ {ds : List D}, (∀ x ∈ ds, f x S = some (g x, S)) → quL q f ds S = some (if q = true then ds.all g else ds.any g, S)
  | [], _ => by cases q <;> rfl
  | x :: r, h => by
    have h1 := h x (by simp)
    have h2 := quL_pure (f := f) (g := g) (S := S) q (ds := r) fun y hy => h y (by simp [hy])
    unfold quL
    rw [h1]
    dsimp only
    cases q <;> cases hg : g x <;> simp [hg, h2]
theorem lcL_map {f : D → List Cell → Option (Option D × List Cell)} {g : D → Option D} {S : List Cell} : ∀ {ds : List D}, (∀ x ∈ ds, f x S = some (g x, S)) → lcL f ds S = some (ds.filterMap g, S)
  | [], _ => rfl
  | x :: r, h => by
    have h1 := h x (by simp)
    have h2 := lcL_map (f := f) (g := g) (S := S) (ds := r) fun y hy => h y (by simp [hy])
    unfold lcL
    rw [h1]
    cases hg : g x <;> simp [h2, hg]
theorem lcL_ex {f : D → List Cell → Option (Option D × List Cell)} {I : List Cell → Prop} {P : D → Prop} : ∀ {ds : List D} {S : List Cell}, I S → (∀ x ∈ ds, ∀ S1, I S1 → ∃ y S2, f x S1 = some (some y, S2) ∧ I S2 ∧ P y) →
    ∃ ys S2, lcL f ds S = some (ys, S2) ∧ I S2 ∧ ys.length = ds.length ∧ ∀ y ∈ ys, P y
  | [], S, i, _ => ⟨[], S, rfl, i, rfl, by simp⟩
  | x :: r, S, i, h => by
    obtain ⟨y, S2, e, i2, p⟩ := h x (by simp) S i
    obtain ⟨ys, S3, e2, i3, n, ps⟩ := lcL_ex (f := f) (I := I) (P := P) (ds := r) (S := S2) i2 fun z hz => h z (by simp [hz])
    refine ⟨y :: ys, S3, ?_, i3, by simp [n], by simpa using ⟨p, ps⟩⟩
    unfold lcL
    rw [e]
    simp [e2]
@[simp] theorem rangeD_length (lo : Int) (n : Nat) : (rangeD lo n).length = n := by simp [rangeD]
end Rg.M
set_option Elab.async false
set_option linter.all false
set_option maxRecDepth 100000
set_option maxHeartbeats 4000000
namespace Rg.M
open PySem PySem.Spec PyProof.Rows L2
def isNumber (v : D) (lo hi : Int) : Bool := match v with
  | .int i => decide (lo ≤ i) && decide (i ≤ hi)
  | _ => false
def SpIsNumber (f : Fn) : Prop := ∀ v lo hi S, f [.d v, .d (.int lo), .d (.int hi)] S = .ok (.d (.bl (isNumber v lo hi))) S
theorem is_number_ok (phi : Nat → Fn) : SpIsNumber (mkFn 3 3 (b_is_number.den phi)) := by
  intro v lo hi S
  cases v <;> simp [mkFn_eq, b_is_number, isNumber, isTy, tyD]
  next i => by_cases h : lo ≤ i <;> simp [h]
def SpCheck (f : Fn) : Prop := ∀ (b : Bool) (s : Str) S, s.length ≤ 1000 → f [.d (.bl b), .d (.str s)] S = if b = true then .ok (.d .non) S else .ex (101, [(101, .str s)]) S
theorem cntT_nd {xs : List Str} (nd : xs.Nodup) : ∀ i, i ≤ xs.length → cntT xs i = i
  | 0, _ => rfl
  | i + 1, h => by
    have ih := cntT_nd nd i (by omega)
    have hx : xs[i]? = some xs[i] := List.getElem?_eq_getElem (by omega)
    rw [cntT_succ hx, ih]
    rw [if_neg]
    intro e
    simp only [sawT, List.any_eq_true, beq_iff_eq] at e
    obtain ⟨y, hy, e⟩ := e
    subst e
    obtain ⟨j, hj⟩ := List.getElem?_of_mem hy
    rw [List.getElem?_take] at hj
    split at hj
    · rename_i hl
      have := nodup_ix nd hj hx
      omega
    · cases hj
theorem cntT_nodup {xs : List Str} (nd : xs.Nodup) : cntT xs xs.length = xs.length := cntT_nd nd _ (Nat.le_refl _)
theorem check_ok (phi : Nat → Fn) : SpCheck (mkFn 2 2 (b_check.den phi)) := by
  intro b s S h
  cases b <;> simp [mkFn_eq, b_check, fmD, h]
def isWord (v : D) : Bool := match v with
  | .str s => isWordS s
  | _ => false
def SpIsWord (f : Fn) : Prop := ∀ v S, (∀ s, v = .str s → s.length ≤ LN) → f [.d v] S = .ok (.d (.bl (isWord v))) S
theorem is_word_ok (phi : Nat → Fn) : SpIsWord (mkFn 1 2 (b_is_word.den phi)) := by
  intro v S h
  cases v with
  | str s =>
    have hl : lenD (.str s) = some (.int s.length) := by simp [lenD, h s rfl]
    simp [mkFn_eq, b_is_word, isTy, tyD, hl, isWord]
    by_cases h1 : 0 < s.length
    · have h1' : 1 ≤ (s.length : Int) := by omega
      simp [h1']
      by_cases h2 : s.length ≤ 8
      · have h2' : (s.length : Int) ≤ 8 := by omega
        simp [h2']
        by_cases h3 : s ∈ kept
        · rw [if_pos (by simpa [kept, eq_comm] using h3)]
          simp [isWordS, h3]
        · rw [if_neg (by simpa [kept, eq_comm] using h3)]
          simp [isWordS, h3, h2, itemsD]
          rw [quL_pure (g := fun x => match x with | .str a => decide (a.cps.getD 0 0 ∈ letters.cps.toList) | _ => false) true]
          · have h1'' : 1 ≤ s.length := h1
            simp [chars, List.all_map, Function.comp_def, letters, h1'']
            rw [Bool.eq_iff_iff]
            simp
            exact ⟨fun h i x => decide_eq_true (h i x), fun h i x => of_decide_eq_true (h i x)⟩
          · intro x hx
            simp only [chars, List.mem_map] at hx
            obtain ⟨c, _, rfl⟩ := hx
            simp [O2.f, letters]
      · have h2' : ¬ (s.length : Int) ≤ 8 := by omega
        simp [h2', isWordS, h2]
    · have h1' : ¬ 1 ≤ (s.length : Int) := by omega
      simp [h1', isWordS, h1]
      omega
  | _ => simp [mkFn_eq, b_is_word, isWord, isTy, tyD]
def areNumbers (v : D) (many lo hi : Int) : Bool := match v with | .tp _ l => decide ((l.length : Int) = many) && l.all (isNumber · lo hi) | _ => false
def SpAreNumbers (f : Fn) : Prop := ∀ v many lo hi S, f [.d v, .d (.int many), .d (.int lo), .d (.int hi)] S = .ok (.d (.bl (areNumbers v many lo hi))) S
theorem are_numbers_ok (phi : Nat → Fn) (h201 : SpIsNumber (phi 201)) : SpAreNumbers (mkFn 4 5 (b_are_numbers.den phi)) := by
  intro v many lo hi S
  cases v <;> simp [mkFn_eq, b_are_numbers, isTy, tyD, areNumbers]
  next c l =>
    by_cases h : (l.length : Int) = many <;> simp [h, h201 _ _ _ _]
    rw [quL_pure (g := (isNumber · lo hi)) true (fun x hx => by rfl)]
    simp
theorem strsL_map : ∀ l : List Str, strsL (l.map D.str) = some l
  | [] => rfl
  | x :: l => by simp [strsL, strsL_map l]
def SpAreWords (f : Fn) : Prop := ∀ (l : List Str) most S, (∀ s ∈ l, s.length ≤ LN) → l.Nodup → l.length ≤ 4000 → f [.d (.tup (l.map D.str)), .d (.int most)] S = .ok (.d (.bl (areWords l most))) S
theorem are_words_ok (phi : Nat → Fn) (h203 : SpIsWord (phi 203)) : SpAreWords (mkFn 2 3 (b_are_words.den phi)) := by
  intro l most S hl nd n
  simp [mkFn_eq, b_are_words, isTy, tyD]
  by_cases h1 : 0 < l.length
  · have h1' : 1 ≤ (l.length : Int) := by omega
    simp [h1']
    by_cases h2 : (l.length : Int) ≤ most
    · simp [h2]
      rw [quL_pure (g := isWord) true]
      · simp [List.all_map, Function.comp_def, isWord]
        by_cases h3 : ∃ x, x ∈ l ∧ isWordS x = false
        · have h3e : l.all isWordS = false := by simpa using h3
          simp [h3, areWords, h3e]
        · have h3e : l.all isWordS = true := by simpa using h3
          have ha : areWords l most = true := by
            simp [areWords, h3e, h2]
            omega
          rw [if_neg h3]
          simp [ha, lensetD, strsL_map, cntT_nodup nd, n]
      · intro x hx
        simp only [List.mem_map] at hx
        obtain ⟨s, hs, rfl⟩ := hx
        have := h203 (.str s) S (fun s' e => by injection e with e; rw [← e]; exact hl s hs)
        simp [this]
    · simp [h2, areWords]
  · have h1' : ¬ 1 ≤ (l.length : Int) := by omega
    simp [h1', areWords, h1]
    omega
def SpSize (f : Fn) : Prop := ∀ x y z (S : List Cell), f [.l (.inr S.length), .d x, .d y, .d z] (S ++ [.ob 1 []]) = .ok (.d .non) (S ++ [.ob 1 [(1, .d x), (2, .d y), (3, .d z)]])
theorem size_ok (phi : Nat → Fn) : SpSize (mkFn 4 4 (b_Size_init.den phi)) := by
  intro x y z S
  simp [mkFn_eq, b_Size_init, set_app, putFs]
def SpIsDay (f : Fn) : Prop := ∀ d p u v S, f [.d (sizeD d p u), .d v] S = .ok (.d (.bl (isNumber v 1 d))) S
theorem is_day_ok (phi : Nat → Fn) (h201 : SpIsNumber (phi 201)) : SpIsDay (mkFn 2 2 (b_Size_is_day.den phi)) := by
  intro d p u v S
  simp [mkFn_eq, b_Size_is_day, sizeD, h201 _ _ _ _]
def SpIsPerson (f : Fn) : Prop := ∀ d p u v S, f [.d (sizeD d p u), .d v] S = .ok (.d (.bl (isNumber v 0 (p - 1)))) S
theorem is_person_ok (phi : Nat → Fn) (h201 : SpIsNumber (phi 201)) : SpIsPerson (mkFn 2 2 (b_Size_is_person.den phi)) := by
  intro d p u v S
  simp [mkFn_eq, b_Size_is_person, sizeD, h201 _ _ _ _, List.lookup]
def SpIsDuty (f : Fn) : Prop := ∀ d p u v S, f [.d (sizeD d p u), .d v] S = .ok (.d (.bl (isNumber v 0 (u - 1)))) S
theorem is_duty_ok (phi : Nat → Fn) (h201 : SpIsNumber (phi 201)) : SpIsDuty (mkFn 2 2 (b_Size_is_duty.den phi)) := by
  intro d p u v S
  simp [mkFn_eq, b_Size_is_duty, sizeD, h201 _ _ _ _, List.lookup]
end Rg.M
set_option Elab.async false
set_option linter.all false
set_option maxRecDepth 100000
set_option maxHeartbeats 4000000
namespace Rg.M
open PySem PySem.Spec PyProof.Rows L2
@[simp] theorem ks_every_day : (Str.ofString "every" = Str.ofString "day") = False := eq_false (by decide +kernel)
@[simp] theorem ks_every_never : (Str.ofString "every" = Str.ofString "never") = False := eq_false (by decide +kernel)
@[simp] theorem ks_every_in : (Str.ofString "every" = Str.ofString "in") = False := eq_false (by decide +kernel)
@[simp] theorem ks_every_has : (Str.ofString "every" = Str.ofString "has") = False := eq_false (by decide +kernel)
@[simp] theorem ks_every_not : (Str.ofString "every" = Str.ofString "not") = False := eq_false (by decide +kernel)
@[simp] theorem ks_every_least : (Str.ofString "every" = Str.ofString "least") = False := eq_false (by decide +kernel)
@[simp] theorem ks_every_most : (Str.ofString "every" = Str.ofString "most") = False := eq_false (by decide +kernel)
@[simp] theorem ks_day_every : (Str.ofString "day" = Str.ofString "every") = False := eq_false (by decide +kernel)
@[simp] theorem ks_day_never : (Str.ofString "day" = Str.ofString "never") = False := eq_false (by decide +kernel)
@[simp] theorem ks_day_in : (Str.ofString "day" = Str.ofString "in") = False := eq_false (by decide +kernel)
@[simp] theorem ks_day_has : (Str.ofString "day" = Str.ofString "has") = False := eq_false (by decide +kernel)
@[simp] theorem ks_day_not : (Str.ofString "day" = Str.ofString "not") = False := eq_false (by decide +kernel)
@[simp] theorem ks_day_least : (Str.ofString "day" = Str.ofString "least") = False := eq_false (by decide +kernel)
@[simp] theorem ks_day_most : (Str.ofString "day" = Str.ofString "most") = False := eq_false (by decide +kernel)
@[simp] theorem ks_never_every : (Str.ofString "never" = Str.ofString "every") = False := eq_false (by decide +kernel)
@[simp] theorem ks_never_day : (Str.ofString "never" = Str.ofString "day") = False := eq_false (by decide +kernel)
@[simp] theorem ks_never_in : (Str.ofString "never" = Str.ofString "in") = False := eq_false (by decide +kernel)
@[simp] theorem ks_never_has : (Str.ofString "never" = Str.ofString "has") = False := eq_false (by decide +kernel)
@[simp] theorem ks_never_not : (Str.ofString "never" = Str.ofString "not") = False := eq_false (by decide +kernel)
@[simp] theorem ks_never_least : (Str.ofString "never" = Str.ofString "least") = False := eq_false (by decide +kernel)
@[simp] theorem ks_never_most : (Str.ofString "never" = Str.ofString "most") = False := eq_false (by decide +kernel)
@[simp] theorem ks_in_every : (Str.ofString "in" = Str.ofString "every") = False := eq_false (by decide +kernel)
@[simp] theorem ks_in_day : (Str.ofString "in" = Str.ofString "day") = False := eq_false (by decide +kernel)
@[simp] theorem ks_in_never : (Str.ofString "in" = Str.ofString "never") = False := eq_false (by decide +kernel)
@[simp] theorem ks_in_has : (Str.ofString "in" = Str.ofString "has") = False := eq_false (by decide +kernel)
@[simp] theorem ks_in_not : (Str.ofString "in" = Str.ofString "not") = False := eq_false (by decide +kernel)
@[simp] theorem ks_in_least : (Str.ofString "in" = Str.ofString "least") = False := eq_false (by decide +kernel)
@[simp] theorem ks_in_most : (Str.ofString "in" = Str.ofString "most") = False := eq_false (by decide +kernel)
@[simp] theorem ks_has_every : (Str.ofString "has" = Str.ofString "every") = False := eq_false (by decide +kernel)
@[simp] theorem ks_has_day : (Str.ofString "has" = Str.ofString "day") = False := eq_false (by decide +kernel)
@[simp] theorem ks_has_never : (Str.ofString "has" = Str.ofString "never") = False := eq_false (by decide +kernel)
@[simp] theorem ks_has_in : (Str.ofString "has" = Str.ofString "in") = False := eq_false (by decide +kernel)
@[simp] theorem ks_has_not : (Str.ofString "has" = Str.ofString "not") = False := eq_false (by decide +kernel)
@[simp] theorem ks_has_least : (Str.ofString "has" = Str.ofString "least") = False := eq_false (by decide +kernel)
@[simp] theorem ks_has_most : (Str.ofString "has" = Str.ofString "most") = False := eq_false (by decide +kernel)
@[simp] theorem ks_not_every : (Str.ofString "not" = Str.ofString "every") = False := eq_false (by decide +kernel)
@[simp] theorem ks_not_day : (Str.ofString "not" = Str.ofString "day") = False := eq_false (by decide +kernel)
@[simp] theorem ks_not_never : (Str.ofString "not" = Str.ofString "never") = False := eq_false (by decide +kernel)
@[simp] theorem ks_not_in : (Str.ofString "not" = Str.ofString "in") = False := eq_false (by decide +kernel)
@[simp] theorem ks_not_has : (Str.ofString "not" = Str.ofString "has") = False := eq_false (by decide +kernel)
@[simp] theorem ks_not_least : (Str.ofString "not" = Str.ofString "least") = False := eq_false (by decide +kernel)
@[simp] theorem ks_not_most : (Str.ofString "not" = Str.ofString "most") = False := eq_false (by decide +kernel)
@[simp] theorem ks_least_every : (Str.ofString "least" = Str.ofString "every") = False := eq_false (by decide +kernel)
@[simp] theorem ks_least_day : (Str.ofString "least" = Str.ofString "day") = False := eq_false (by decide +kernel)
@[simp] theorem ks_least_never : (Str.ofString "least" = Str.ofString "never") = False := eq_false (by decide +kernel)
@[simp] theorem ks_least_in : (Str.ofString "least" = Str.ofString "in") = False := eq_false (by decide +kernel)
@[simp] theorem ks_least_has : (Str.ofString "least" = Str.ofString "has") = False := eq_false (by decide +kernel)
@[simp] theorem ks_least_not : (Str.ofString "least" = Str.ofString "not") = False := eq_false (by decide +kernel)
@[simp] theorem ks_least_most : (Str.ofString "least" = Str.ofString "most") = False := eq_false (by decide +kernel)
@[simp] theorem ks_most_every : (Str.ofString "most" = Str.ofString "every") = False := eq_false (by decide +kernel)
@[simp] theorem ks_most_day : (Str.ofString "most" = Str.ofString "day") = False := eq_false (by decide +kernel)
@[simp] theorem ks_most_never : (Str.ofString "most" = Str.ofString "never") = False := eq_false (by decide +kernel)
@[simp] theorem ks_most_in : (Str.ofString "most" = Str.ofString "in") = False := eq_false (by decide +kernel)
@[simp] theorem ks_most_has : (Str.ofString "most" = Str.ofString "has") = False := eq_false (by decide +kernel)
@[simp] theorem ks_most_not : (Str.ofString "most" = Str.ofString "not") = False := eq_false (by decide +kernel)
@[simp] theorem ks_most_least : (Str.ofString "most" = Str.ofString "least") = False := eq_false (by decide +kernel)
theorem isNumber_lt {a u : Nat} (h : a < u) : isNumber (.int (a : Int)) 0 ((u : Int) - 1) = true := by
  simp [isNumber]; omega
theorem isNumber_le {a n : Nat} (h : a ≤ n) : isNumber (.int (a : Int)) 0 (n : Int) = true := by
  simp [isNumber]; omega
theorem isNumber_rg {k d : Nat} (h : 1 ≤ k) (h' : k ≤ d) : isNumber (.int (k : Int)) 1 (d : Int) = true := by
  simp [isNumber]; omega
def SpIsRule (f : Fn) : Prop := ∀ d p u (r : Rule) S, r.ok d p u → f [.d (sizeD d p u), .d r.D] S = .ok (.d (.bl true)) S
theorem flW_size1 (d p u : Nat) (S : List Cell) : flW S 1 1 (.d (sizeD d p u)) = some (.d (.int d)) := rfl
theorem flW_size2 (d p u : Nat) (S : List Cell) : flW S 1 2 (.d (sizeD d p u)) = some (.d (.int p)) := rfl
theorem flW_size3 (d p u : Nat) (S : List Cell) : flW S 1 3 (.d (sizeD d p u)) = some (.d (.int u)) := rfl
theorem isOb_size (d p u : Nat) (S : List Cell) : isOb S 1 (.d (sizeD d p u)) = true := rfl
theorem is_rule_in_ok (phi : Nat → Fn) (h201 : SpIsNumber (phi 201)) (h207 : SpIsDay (phi 207)) (h208 : SpIsPerson (phi 208)) (h209 : SpIsDuty (phi 209)) : SpIsRule (mkFn 2 3 (b_is_rule_in.den phi)) := by
  intro d p u r S h
  cases r <;> simp only [Rule.ok] at h <;>
    simp [mkFn_eq, b_is_rule_in, isTy, tyD, Rule.D, dfind, h201 _ _ _ _, h207 _ _ _ _ _, h208 _ _ _ _ _, h209 _ _ _ _ _, flW_size1, flW_size2, flW_size3, isOb_size, isNumber_lt, isNumber_le, isNumber_rg, h]
def SpIsWish (f : Fn) : Prop := ∀ d p u (r : Wish) S, r.ok d p u → f [.d (sizeD d p u), .d r.D] S = .ok (.d (.bl true)) S
theorem is_wish_in_ok (phi : Nat → Fn) (h201 : SpIsNumber (phi 201)) (h207 : SpIsDay (phi 207)) (h208 : SpIsPerson (phi 208)) (h209 : SpIsDuty (phi 209)) : SpIsWish (mkFn 2 3 (b_is_wish_in.den phi)) := by
  intro d p u r S h
  obtain ⟨q, a, k, on, w⟩ := r
  simp only [Wish.ok] at h
  have h9 : isNumber (.int (w : Int)) 1 9 = true := isNumber_rg (d := 9) h.2.2.2.2.1 h.2.2.2.2.2
  simp [mkFn_eq, b_is_wish_in, isTy, tyD, Wish.D, h201 _ _ _ _, h207 _ _ _ _ _, h208 _ _ _ _ _, h209 _ _ _ _ _, isOb_size, isNumber_lt, isNumber_le, isNumber_rg, h, h9]
def SpAreRules (f : Fn) : Prop := ∀ d p u (l : List Rule) S, l.length ≤ 12 → (∀ r ∈ l, r.ok d p u) → f [.d (sizeD d p u), .d (.tup (l.map Rule.D))] S = .ok (.d (.bl true)) S
theorem are_rules_ok (phi : Nat → Fn) (h210 : SpIsRule (phi 210)) : SpAreRules (mkFn 2 3 (b_are_rules_in.den phi)) := by
  intro d p u l S n h
  have n' : (l.length : Int) ≤ 12 := by omega
  simp [mkFn_eq, b_are_rules_in, isTy, tyD, n']
  rw [quL_pure (g := fun _ => true) true]
  · simp
  · intro x hx
    simp only [List.mem_map] at hx
    obtain ⟨r, hr, rfl⟩ := hx
    simp [h210 d p u r S (h r hr)]
def SpAreWishes (f : Fn) : Prop := ∀ d p u (l : List Wish) S, l.length ≤ 12 → (∀ r ∈ l, r.ok d p u) → f [.d (sizeD d p u), .d (.tup (l.map Wish.D))] S = .ok (.d (.bl true)) S
theorem are_wishes_ok (phi : Nat → Fn) (h211 : SpIsWish (phi 211)) : SpAreWishes (mkFn 2 3 (b_are_wishes_in.den phi)) := by
  intro d p u l S n h
  have n' : (l.length : Int) ≤ 12 := by omega
  simp [mkFn_eq, b_are_wishes_in, isTy, tyD, n']
  rw [quL_pure (g := fun _ => true) true]
  · simp
  · intro x hx
    simp only [List.mem_map] at hx
    obtain ⟨r, hr, rfl⟩ := hx
    simp [h211 d p u r S (h r hr)]
def SpWard (f : Fn) : Prop := ∀ (w : WardP) (S : List Cell), w.ok → f [.l (.inr S.length), .d (.int w.d), .d (wordsD w.people), .d (wordsD w.duties), .d (numsD w.burdens), .d (rulesD w.rules), .d (wishesD w.wishes)] (S ++ [.ob 2 []]) = .ok (.d .non) (S ++ [.ob 2 (w.fs.map fun p => (p.1, W.d p.2))])
theorem areNumbers_nums {l : List Nat} {n : Nat} {hi : Nat} (h : l.length = n) (h9 : ∀ b ∈ l, b ≤ hi) : areNumbers (numsD l) n 0 hi = true := by
  simp [areNumbers, numsD, h]
  intro b hb
  exact isNumber_le (h9 b hb)
theorem ward_ok (phi : Nat → Fn) (h201 : SpIsNumber (phi 201)) (h202 : SpCheck (phi 202)) (h204 : SpAreWords (phi 204)) (h205 : SpAreNumbers (phi 205)) (h206 : SpSize (phi 206)) (h212 : SpAreRules (phi 212)) (h213 : SpAreWishes (phi 213)) : SpWard (mkFn 7 8 (b_Ward_init.den phi)) := by
  intro w S h
  have e1 : isNumber (.int (w.d : Int)) 1 5 = true := isNumber_rg (d := 5) h.d1 h.d5
  have e2 := fun S => h204 w.people 4 S h.pl h.pn (by have := h.pe; simp [areWords] at this; omega)
  have e3 := fun S => h204 w.duties 3 S h.dl h.dn (by have := h.du; simp [areWords] at this; omega)
  have e4 := areNumbers_nums h.bl (hi := 9) h.b9
  have e5 := fun S => h212 w.d w.p w.u w.rules S h.rn h.ro
  have e6 := fun S => h213 w.d w.p w.u w.wishes S h.wn h.wo
  have l1 : (Str.ofString "days").length ≤ 1000 := by decide +kernel
  have l2 : (Str.ofString "people").length ≤ 1000 := by decide +kernel
  have l3 : (Str.ofString "duties").length ≤ 1000 := by decide +kernel
  have l4 : (Str.ofString "burdens").length ≤ 1000 := by decide +kernel
  have l5 : (Str.ofString "rules").length ≤ 1000 := by decide +kernel
  have l6 : (Str.ofString "wishes").length ≤ 1000 := by decide +kernel
  have hs := h206 (.int w.d) (.int w.people.length) (.int w.duties.length) (S ++ [.ob 2 []])
  have hm := madeD_app (S ++ [.ob 2 []]) 1 [(1, .d (.int w.d)), (2, .d (.int w.people.length)), (3, .d (.int w.duties.length))]
  simp only [List.length_append, List.length_cons, List.length_nil, List.append_assoc, List.cons_append, List.nil_append] at hs hm
  simp only [sizeD] at e5 e6
  have e4' : areNumbers (D.tup (w.burdens.map nD)) w.duties.length 0 9 = true := e4
  simp [mkFn_eq, b_Ward_init, wordsD, rulesD, wishesD, numsD, h201 _ _ _ _, h202 _ _ _ _, h205 _ _ _ _ _, e1, e2, e3, e4', e5, e6, l1, l2, l3, l4, l5, l6, h.pe, h.du, hs, hm, set_app, putFs, WardP.fs, sizeD]
def SpGet (g : WardP → D) (f : Fn) : Prop := ∀ (w : WardP) (S : List Cell), f [.d w.D] S = .ok (.d (g w)) S
theorem days_ok (phi : Nat → Fn) : SpGet (fun w => .int w.d) (mkFn 1 1 (b_Ward_days.den phi)) := by
  intro w S
  simp [mkFn_eq, b_Ward_days, WardP.D, WardP.fs, sizeD, List.lookup]
theorem people_ok (phi : Nat → Fn) : SpGet (fun w => wordsD w.people) (mkFn 1 1 (b_Ward_people.den phi)) := by
  intro w S
  simp [mkFn_eq, b_Ward_people, WardP.D, WardP.fs, List.lookup]
theorem duties_ok (phi : Nat → Fn) : SpGet (fun w => wordsD w.duties) (mkFn 1 1 (b_Ward_duties.den phi)) := by
  intro w S
  simp [mkFn_eq, b_Ward_duties, WardP.D, WardP.fs, List.lookup]
theorem burdens_ok (phi : Nat → Fn) : SpGet (fun w => numsD w.burdens) (mkFn 1 1 (b_Ward_burdens.den phi)) := by
  intro w S
  simp [mkFn_eq, b_Ward_burdens, WardP.D, WardP.fs, List.lookup]
theorem rules_ok (phi : Nat → Fn) : SpGet (fun w => rulesD w.rules) (mkFn 1 1 (b_Ward_rules.den phi)) := by
  intro w S
  simp [mkFn_eq, b_Ward_rules, WardP.D, WardP.fs, List.lookup]
theorem wishes_ok (phi : Nat → Fn) : SpGet (fun w => wishesD w.wishes) (mkFn 1 1 (b_Ward_wishes.den phi)) := by
  intro w S
  simp [mkFn_eq, b_Ward_wishes, WardP.D, WardP.fs, List.lookup]
def isWardD (v : D) : Bool := match v with
  | .obj c _ => decide (c = 2)
  | _ => false
def SpIsWard (f : Fn) : Prop := ∀ v S, f [.d v] S = .ok (.d (.bl (isWardD v))) S
theorem is_ward_ok (phi : Nat → Fn) : SpIsWard (mkFn 1 1 (b_is_ward.den phi)) := by
  intro v S
  cases v <;> simp [mkFn_eq, b_is_ward, isWardD, isTy]
theorem isOb_ward (w : WardP) (S : List Cell) : isOb S 2 (.d w.D) = true := rfl
theorem isWardD_ward (w : WardP) : isWardD w.D = true := rfl
def isTable (d p u : Nat) (v : D) : Bool := match v with
  | .tp _ l => decide (l.length = p) && l.all fun x => areNumbers x d 0 ((u : Int) - 1)
  | _ => false
def SpIsTable (f : Fn) : Prop := ∀ (w : WardP) v S, f [.d w.D, .d v] S = .ok (.d (.bl (isTable w.d w.p w.u v))) S
theorem is_table_ok (phi : Nat → Fn) (h205 : SpAreNumbers (phi 205)) (h215 : SpGet (fun w => .int w.d) (phi 215)) (h216 : SpGet (fun w => wordsD w.people) (phi 216)) (h217 : SpGet (fun w => wordsD w.duties) (phi 217)) : SpIsTable (mkFn 2 3 (b_is_table.den phi)) := by
  intro w v S
  cases v <;> simp [mkFn_eq, b_is_table, isTy, tyD, isTable, isOb_ward, h216 _ _, wordsD]
  next c l =>
    by_cases h : l.length = w.people.length
    · have h' : (l.length : Int) = w.people.length := by omega
      simp [h', h, isOb_ward, h216 _ _, h215 _ _, h217 _ _, wordsD, h205 _ _ _ _ _]
      rw [quL_pure (g := fun x => areNumbers x w.d 0 ((w.duties.length : Int) - 1)) true (fun x hx => by rfl)]
      simp
    · have h' : ¬ (l.length : Int) = w.people.length := by omega
      simp [h', h]
end Rg.M
set_option Elab.async false
set_option linter.all false
set_option maxRecDepth 100000
set_option maxHeartbeats 4000000
namespace Rg.M
open PySem PySem.Spec PyProof.Rows L2
theorem lcL_mapM {α β : Type} {f : D → List Cell → Option (Option D × List Cell)} {S : List Cell} (h : α → D) (g : α → Option β) (k : β → D) : ∀ {l : List α}, (∀ a ∈ l, f (h a) S = some ((g a).map k, S)) → lcL f (l.map h) S = some ((l.filterMap g).map k, S)
  | [], _ => rfl
  | x :: r, H => by
    have h1 := H x (by simp)
    have h2 := lcL_mapM h g k (f := f) (S := S) (l := r) fun y hy => H y (by simp [hy])
    simp only [List.map_cons, lcL]
    rw [h1]
    cases hg : g x <;> simp [h2, hg]
theorem lcL_filterM {α : Type} {f : D → List Cell → Option (Option D × List Cell)} {S : List Cell} (h : α → D) (c : α → Bool) {l : List α} (H : ∀ a ∈ l, f (h a) S = some (if c a = true then some (h a) else none, S)) : lcL f (l.map h) S = some ((l.filter c).map h, S) := by
  rw [lcL_mapM h (fun a => if c a = true then some a else none) h]
  · rw [← List.filterMap_eq_filter]
    rfl
  · intro a ha
    rw [H a ha]
    cases c a <;> rfl
theorem quL_M {α : Type} {f : D → List Cell → Option (Bool × List Cell)} {S : List Cell} (q : Bool) (h : α → D) (g : α → Bool) : ∀ {l : List α}, (∀ a ∈ l, f (h a) S = some (g a, S)) → quL q f (l.map h) S = some (if q = true then l.all g else l.any g, S)
  | [], _ => by cases q <;> rfl
  | x :: r, H => by
    have h1 := H x (by simp)
    have h2 := quL_M q h g (f := f) (S := S) (l := r) fun y hy => H y (by simp [hy])
    simp only [List.map_cons, quL]
    rw [h1]
    dsimp only
    cases q <;> cases hg : g x <;> simp [hg, h2]
theorem rangeD_map (lo : Int) (n : Nat) : rangeD lo n = (List.range n).map fun (i : Nat) => .int (lo + (i : Int)) := rfl
theorem enumD_map {α : Type} (h : α → D) (l : List α) : enumD (l.map h) = l.zipIdx.map fun p => .tp false [.int (p.2 : Int), h p.1] := by
  unfold enumD
  rw [List.zipIdx_map, List.map_map]
  rfl
theorem zip2D_map {α : Type} (h : α → D) (a b : List α) : zip2D (a.map h) (b.map h) = (a.zip b).map fun p => .tp false [h p.1, h p.2] := by
  unfold zip2D
  rw [List.zip_map, List.map_map]
  rfl
theorem rgOk_ok {i : Int} (h : -(2 ^ 62) ≤ i) (h' : i < 2 ^ 62) : rgOk i = true := by
  unfold rgOk
  rw [decide_eq_true h, decide_eq_true h']
  rfl
@[simp] theorem nD_int (n : Nat) : nD n = .int n := rfl
def lifeD (l : List Nat) : D := .tup (l.map nD)
def rosterD (r : List (List Nat)) : D := .tup (r.map lifeD)
theorem nums_depth : ∀ l : List Nat, PyData.depthAll (D.pys (l.map nD)) = 0 ∧ D.pls (l.map nD) = true
  | [] => ⟨rfl, rfl⟩
  | x :: l => by
    obtain ⟨a, b⟩ := nums_depth l
    simp only [List.map_cons, D.pys, D.pls, PyData.depthAll, nD, D.py, PyData.depth, D.pl]
    simp [a, b]
theorem atI_life {l : List Nat} {k : Nat} (h : 1 ≤ k) (h' : k ≤ l.length) : atI (l.map nD) ((k : Int) - 1) = some (nD (l.getD (k - 1) 0)) := by
  rw [atI_pos _ _ (by omega), show ((k : Int) - 1).toNat = k - 1 by omega]
  rw [List.getElem?_map, List.getElem?_eq_getElem (by omega)]
  have e : l.getD (k - 1) 0 = l[k - 1]'(by omega) := by
    rw [List.getD_eq_getElem?_getD, List.getElem?_eq_getElem (by omega)]
    rfl
  rw [e]
  rfl
theorem cnt_life (l : List Nat) (a : Nat) : Mt.count.f (lifeD l) [.int a] = some (.int (l.count a)) := by
  obtain ⟨h1, h2⟩ := nums_depth l
  show (if true = true ∧ eqOk (.tup (l.map nD)) (.int a) = true then some (D.int (countD (l.map nD) (.int a))) else none) = _
  rw [if_pos ⟨rfl, by simp [eqOk, D.pl, D.py, PyData.depth, h1, h2, dLine]⟩]
  congr 3
  unfold countD
  rw [List.countP_map, List.count_eq_countP]
  apply List.countP_congr
  intro x _
  simp [nD, Int.natCast_inj]
theorem sIx_min (n d k : Nat) : HT.sIx n d (some (k : Int)) = min k n := HT.sIx_nat n d k
theorem cut_ij {α : Type} (h : α → D) (l : List α) (i j : Nat) : cutD (l.map h) (some (i : Int)) (some (j : Int)) = ((l.drop i).take (j - i)).map h := by
  unfold cutD
  rw [HT.sIx_nat, HT.sIx_nat, List.length_map, ← List.map_drop, ← List.map_take]
  congr 1
  by_cases hi : i ≤ l.length
  · by_cases hj : j ≤ l.length
    · rw [Nat.min_eq_left hi, Nat.min_eq_left hj]
    · rw [Nat.min_eq_left hi, Nat.min_eq_right (by omega), List.take_of_length_le (by simp), List.take_of_length_le (by simp; omega)]
  · rw [Nat.min_eq_right (by omega : l.length ≤ i), List.drop_eq_nil_of_le (Nat.le_refl _), List.drop_eq_nil_of_le (by omega : l.length ≤ i)]
    simp
theorem cut_i {α : Type} (h : α → D) (l : List α) (i : Nat) : cutD (l.map h) (some (i : Int)) none = (l.drop i).map h := by
  unfold cutD
  rw [HT.sIx_nat, HT.sIx_none, List.length_map, ← List.map_drop, ← List.map_take]
  congr 1
  by_cases hi : i ≤ l.length
  · rw [Nat.min_eq_left hi, List.take_of_length_le (by simp)]
  · rw [Nat.min_eq_right (by omega : l.length ≤ i), List.drop_eq_nil_of_le (Nat.le_refl _), List.drop_eq_nil_of_le (by omega : l.length ≤ i)]
    simp
theorem cut_j {α : Type} (h : α → D) (l : List α) (j : Nat) : cutD (l.map h) none (some (j : Int)) = (l.take j).map h := by
  unfold cutD
  rw [HT.sIx_nat, HT.sIx_none, List.length_map]
  simp only [List.drop_zero, Nat.sub_zero]
  rw [← List.map_take]
  congr 1
  by_cases hj : j ≤ l.length
  · rw [Nat.min_eq_left hj]
  · rw [Nat.min_eq_right (by omega), List.take_of_length_le (Nat.le_refl _), List.take_of_length_le (by omega)]
def manyOn (r : List (List Nat)) (k a : Nat) : Nat := r.countP fun l => decide (l.getD (k - 1) 0 = a)
def SpManyOn (f : Fn) : Prop := ∀ (r : List (List Nat)) (k a : Nat) S, 1 ≤ k → r.length ≤ 1000 → (∀ l ∈ r, k ≤ l.length) → f [.d (rosterD r), .d (.int k), .d (.int a)] S = .ok (.d (.int (manyOn r k a))) S
theorem many_on_ok (phi : Nat → Fn) : SpManyOn (mkFn 3 4 (b_many_on.den phi)) := by
  intro r k a S h1 hr h2
  simp [mkFn_eq, b_many_on, rosterD]
  have hn : r.length ≤ LN := LN_le _ (by omega)
  simp [hn]
  rw [lcL_filterM lifeD (fun l => decide (l.getD (k - 1) 0 = a))]
  · simp [manyOn, List.countP_eq_length_filter]
  · intro l hl
    simp [lifeD, atI_life h1 (h2 l hl)]
    by_cases h : l[k - 1]?.getD 0 = a
    · simp [h]
    · simp [h, Int.natCast_inj]
def lifeKeeps : Rule → Nat → List Nat → Bool
  | .never a b, _, l => !decide ((a, b) ∈ l.zip l.tail)
  | .inr n a k, _, l => (List.range (l.length - k + 1)).all fun i => decide (((l.drop i).take k).count a ≤ n)
  | .has q a k, p, l => !decide (q = p) || decide (l.getD (k - 1) 0 = a)
  | .hasnt q a k, p, l => !decide (q = p) || !decide (l.getD (k - 1) 0 = a)
  | .least q n a, p, l => !decide (q = p) || decide (n ≤ l.count a)
  | .most q n a, p, l => !decide (q = p) || decide (l.count a ≤ n)
  | _, _, _ => true
def SpLifeKeeps (f : Fn) : Prop := ∀ (x : Rule) (q : Nat) (l : List Nat) (p u : Nat) S, l.length ≤ 1000 → x.ok l.length p u → f [.d x.D, .d (.int q), .d (lifeD l)] S = .ok (.d (.bl (lifeKeeps x q l))) S
theorem pairs_ok (l : List (Nat × Nat)) (a b : Nat) : O2.f .notin (.tup [.int a, .int b]) (.lst (l.map fun p => .tp false [.int p.1, .int p.2])) = some (.bl (!decide ((a, b) ∈ l))) := by
  have h : ∀ l : List (Nat × Nat), PyData.depthAll (D.pys (l.map fun p => D.tp false [.int p.1, .int p.2])) ≤ 1 ∧ D.pls (l.map fun p => D.tp false [.int p.1, .int p.2]) = true := by
    intro l
    induction l with
    | nil => exact ⟨by simp [D.pys, PyData.depthAll], rfl⟩
    | cons x l ih =>
      obtain ⟨a, b⟩ := ih
      simp only [List.map_cons, D.pys, D.pls, PyData.depthAll, D.py, PyData.depth, D.pl] at a b ⊢
      simp [b]
      omega
  obtain ⟨h1, h2⟩ := h l
  show (if eqOk (.lst _) (.tup [.int a, .int b]) = true then some (D.bl (!List.any (l.map _) fun y => dEq y (.tup [.int a, .int b]))) else none) = _
  rw [if_pos (by simp [eqOk, D.pl, D.pls, D.py, PyData.depth, h2, dLine]; omega)]
  congr 3
  rw [Bool.eq_iff_iff]
  simp [List.any_eq_true, dEq, D.py, D.pys, PyData.eqv, PyData.eqvAll, Int.natCast_inj]
theorem life_keeps_ok (phi : Nat → Fn) : SpLifeKeeps (mkFn 3 8 (b_life_keeps.den phi)) := by
  intro x q l p u S hl ok
  cases x with
  | every a n => simp [mkFn_eq, b_life_keeps, Rule.D, lifeKeeps]
  | day k a n => simp [mkFn_eq, b_life_keeps, Rule.D, lifeKeeps]
  | never a b =>
    have h1 := cut_i nD l 1
    simp only [Int.natCast_one, List.drop_one] at h1
    have h2 : l.length - 1 ≤ LN := LN_le _ (by omega)
    have h3 := pairs_ok (l.zip l.tail) a b
    simp [mkFn_eq, b_life_keeps, Rule.D, lifeKeeps, lifeD, slD, h1, seqsD, zipD, zip2D_map, -List.map_tail, h2, h3]
  | inr n a k =>
    simp only [Rule.ok] at ok
    have h1 : rgOk ((l.length : Int) - k + 1) = true := rgOk_ok (by omega) (by omega)
    have h2 : ((l.length : Int) - k + 1).toNat = l.length - k + 1 := by omega
    have h3 : l.length - k + 1 ≤ LN := LN_le _ (by omega)
    simp [mkFn_eq, b_life_keeps, Rule.D, lifeKeeps, lifeD, h1, h2, h3, rangeD_map]
    rw [lcL_mapM (fun i : Nat => D.int (i : Int)) (fun i => some ((l.drop i).take k)) lifeD]
    · simp
      rw [quL_M true (lifeD ∘ fun x => List.take k (List.drop x l)) (fun i => decide (((l.drop i).take k).count a ≤ n))]
      · simp
      · intro i hi
        have h1 := cnt_life ((l.drop i).take k) a
        simp only [lifeD, Function.comp_def] at h1 ⊢
        simp [Mt.rc, sameTy, h1, -List.map_take, -List.map_drop]
        try omega
    · intro i hi
      have h4 := cut_ij nD l i (i + k)
      simp only [Int.natCast_add, Nat.add_sub_cancel_left] at h4
      simp [slD, h4, lifeD]
  | has q' a k =>
    simp only [Rule.ok] at ok
    by_cases h : q' = q
    · simp [mkFn_eq, b_life_keeps, Rule.D, lifeKeeps, lifeD, h, atI_life ok.2.2.1 ok.2.2.2, Int.natCast_inj]
    · simp [mkFn_eq, b_life_keeps, Rule.D, lifeKeeps, lifeD, h, Int.natCast_inj]
  | hasnt q' a k =>
    simp only [Rule.ok] at ok
    by_cases h : q' = q
    · simp [mkFn_eq, b_life_keeps, Rule.D, lifeKeeps, lifeD, h, atI_life ok.2.2.1 ok.2.2.2, Int.natCast_inj]
    · simp [mkFn_eq, b_life_keeps, Rule.D, lifeKeeps, lifeD, h, Int.natCast_inj]
  | least q' n a =>
    have h1 := cnt_life l a
    simp only [lifeD] at h1
    by_cases h : q' = q
    · simp [mkFn_eq, b_life_keeps, Rule.D, lifeKeeps, lifeD, h, Mt.rc, sameTy, h1]
      try omega
    · simp [mkFn_eq, b_life_keeps, Rule.D, lifeKeeps, lifeD, h, Int.natCast_inj]
  | most q' n a =>
    have h1 := cnt_life l a
    simp only [lifeD] at h1
    by_cases h : q' = q
    · simp [mkFn_eq, b_life_keeps, Rule.D, lifeKeeps, lifeD, h, Mt.rc, sameTy, h1]
      try omega
    · simp [mkFn_eq, b_life_keeps, Rule.D, lifeKeeps, lifeD, h, Int.natCast_inj]
end Rg.M
set_option Elab.async false
set_option linter.all false
set_option maxRecDepth 100000
set_option maxHeartbeats 4000000
namespace Rg.M
open PySem PySem.Spec PyProof.Rows L2
def keepsR (d : Nat) : Rule → List (List Nat) → Bool
  | .every a n, r => (List.range d).all fun i => decide (manyOn r (i + 1) a = n)
  | .day k a n, r => decide (manyOn r k a = n)
  | x, r => r.zipIdx.all fun p => lifeKeeps x p.2 p.1
structure RosOk (d p u : Nat) (r : List (List Nat)) : Prop where
  n : r.length = p
  l : ∀ l ∈ r, l.length = d
  x : ∀ l ∈ r, ∀ a ∈ l, a < u
def SpKeepsRule (f : Fn) : Prop := ∀ (w : WardP) (r : List (List Nat)) (x : Rule) S, w.ok → RosOk w.d w.p w.u r → x.ok w.d w.p w.u → f [.d w.D, .d (rosterD r), .d x.D] S = .ok (.d (.bl (keepsR w.d x r))) S
theorem WardP.ok.p4 {w : WardP} (h : w.ok) : 1 ≤ w.p ∧ w.p ≤ 4 := by
  have := h.pe
  simp [areWords] at this
  exact ⟨by show 1 ≤ w.people.length; omega, by show w.people.length ≤ 4; omega⟩
theorem WardP.ok.u3 {w : WardP} (h : w.ok) : 1 ≤ w.u ∧ w.u ≤ 3 := by
  have := h.du
  simp [areWords] at this
  exact ⟨by show 1 ≤ w.duties.length; omega, by show w.duties.length ≤ 3; omega⟩
theorem rgOk_1 : rgOk 1 = true := rgOk_ok (by omega) (by omega)
theorem rgOk_d {d : Nat} (h : d ≤ 1000) : rgOk ((d : Int) + 1) = true := rgOk_ok (by omega) (by omega)
theorem keeps_rule_ok (phi : Nat → Fn) (h215 : SpGet (fun w => .int w.d) (phi 215)) (h225 : SpLifeKeeps (phi 225)) (h226 : SpManyOn (phi 226)) : SpKeepsRule (mkFn 3 6 (b_keeps_rule.den phi)) := by
  intro w r x S hw hr hx
  have hd := hw.d5
  have hp := hw.p4
  have hn : r.length ≤ 1000 := by rw [hr.n]; omega
  have L : (∀ a n, x ≠ .every a n) → (∀ k a n, x ≠ .day k a n) → keepsR w.d x r = r.zipIdx.all fun p => lifeKeeps x p.2 p.1 := by
    intro h1 h2
    cases x <;> first | rfl | exact absurd rfl (h1 _ _) | exact absurd rfl (h2 _ _ _)
  have Q : ∀ p ∈ r.zipIdx, ∀ S, phi 225 [.d x.D, .d (.int (p.2 : Int)), .d (lifeD p.1)] S = .ok (.d (.bl (lifeKeeps x p.2 p.1))) S := by
    intro p hp' S
    have hl := hr.l p.1 (List.fst_mem_of_mem_zipIdx hp')
    exact h225 x p.2 p.1 w.p w.u S (by omega) (by rw [hl]; exact hx)
  cases x with
  | every a n =>
    have h1 : rgOk ((w.d : Int) + 1) = true := rgOk_d (by omega)
    have h2 : rgOk 1 = true := rgOk_1
    have h3 : ((w.d : Int) + 1 - 1).toNat = w.d := by omega
    simp [mkFn_eq, b_keeps_rule, Rule.D, isOb_ward, h215 _ _, h1, h2, rangeD_map]
    rw [quL_M true (fun i : Nat => D.int (1 + (i : Int))) (fun i => decide (manyOn r (i + 1) a = n))]
    · simp [keepsR]
    · intro i hi
      have hi' : i < w.d := by simpa using hi
      have h4 := fun S => h226 r (1 + i) a S (by omega) hn (fun l hl => by rw [hr.l l hl]; omega)
      simp only [Int.natCast_add, Int.natCast_one] at h4
      simp [h4, Nat.add_comm 1 i, Int.natCast_inj]
  | day k a n =>
    simp only [Rule.ok] at hx
    have h4 := fun S => h226 r k a S hx.1 hn (fun l hl => by rw [hr.l l hl]; exact hx.2.1)
    simp [mkFn_eq, b_keeps_rule, Rule.D, h4, keepsR, Int.natCast_inj]
  | never a b =>
    rw [L (by intros; simp) (by intros; simp)]
    simp only [Rule.D] at Q
    simp [mkFn_eq, b_keeps_rule, Rule.D, rosterD, enumD_map]
    rw [quL_M true _ (fun p => lifeKeeps (.never a b) p.2 p.1) (fun p hp => by simp [Q p hp])]
    simp
  | inr n a k =>
    rw [L (by intros; simp) (by intros; simp)]
    simp only [Rule.D] at Q
    simp [mkFn_eq, b_keeps_rule, Rule.D, rosterD, enumD_map]
    rw [quL_M true _ (fun p => lifeKeeps (.inr n a k) p.2 p.1) (fun p hp => by simp [Q p hp])]
    simp
  | has q' a k =>
    rw [L (by intros; simp) (by intros; simp)]
    simp only [Rule.D] at Q
    simp [mkFn_eq, b_keeps_rule, Rule.D, rosterD, enumD_map]
    rw [quL_M true _ (fun p => lifeKeeps (.has q' a k) p.2 p.1) (fun p hp => by simp [Q p hp])]
    simp
  | hasnt q' a k =>
    rw [L (by intros; simp) (by intros; simp)]
    simp only [Rule.D] at Q
    simp [mkFn_eq, b_keeps_rule, Rule.D, rosterD, enumD_map]
    rw [quL_M true _ (fun p => lifeKeeps (.hasnt q' a k) p.2 p.1) (fun p hp => by simp [Q p hp])]
    simp
  | least q' n a =>
    rw [L (by intros; simp) (by intros; simp)]
    simp only [Rule.D] at Q
    simp [mkFn_eq, b_keeps_rule, Rule.D, rosterD, enumD_map]
    rw [quL_M true _ (fun p => lifeKeeps (.least q' n a) p.2 p.1) (fun p hp => by simp [Q p hp])]
    simp
  | most q' n a =>
    rw [L (by intros; simp) (by intros; simp)]
    simp only [Rule.D] at Q
    simp [mkFn_eq, b_keeps_rule, Rule.D, rosterD, enumD_map]
    rw [quL_M true _ (fun p => lifeKeeps (.most q' n a) p.2 p.1) (fun p hp => by simp [Q p hp])]
    simp
def brokenR (d : Nat) (rules : List Rule) (r : List (List Nat)) : List Nat := rules.zipIdx.filterMap fun p => if keepsR d p.1 r = true then none else some p.2
def SpBrokenIn (f : Fn) : Prop := ∀ (w : WardP) (r : List (List Nat)) S, w.ok → RosOk w.d w.p w.u r → f [.d w.D, .d (rosterD r)] S = .ok (.d (numsD (brokenR w.d w.rules r))) S
theorem broken_in_ok (phi : Nat → Fn) (h219 : SpGet (fun w => rulesD w.rules) (phi 219)) (h227 : SpKeepsRule (phi 227)) : SpBrokenIn (mkFn 2 4 (b_broken_in.den phi)) := by
  intro w r S hw hr
  have hn : w.rules.length ≤ LN := LN_le _ (by have := hw.rn; omega)
  have Q : ∀ x ∈ w.rules, ∀ S, phi 227 [.d w.D, .d (rosterD r), .d x.D] S = .ok (.d (.bl (keepsR w.d x r))) S := fun x hx S => h227 w r x S hw hr (hw.ro x hx)
  simp [mkFn_eq, b_broken_in, isOb_ward, h219 _ _, rulesD, enumD_map, hn]
  rw [lcL_mapM _ (fun p => if keepsR w.d p.1 r = true then none else some p.2) nD]
  · simp [numsD, brokenR]
  · intro p hp
    simp [Q p.1 (List.fst_mem_of_mem_zipIdx hp)]
    cases keepsR w.d p.1 r <;> simp
def SpCheckRoster (f : Fn) : Prop := (∀ v t (nm : Str) S, isWardD v = false → f [.d v, .d t, .d (.str nm)] S = .ex (101, [(101, .str (Str.ofString "ward"))]) S) ∧
  (∀ (w : WardP) t (nm : Str) S, nm.length ≤ 1000 → f [.d w.D, .d t, .d (.str nm)] S = if isTable w.d w.p w.u t = true then .ok (.d .non) S else .ex (101, [(101, .str nm)]) S)
theorem len_ward : (Str.ofString "ward").length ≤ 1000 := by decide +kernel
theorem len_roster : (Str.ofString "roster").length ≤ 1000 := by decide +kernel
theorem len_number : (Str.ofString "number").length ≤ 1000 := by decide +kernel
theorem check_roster_ok (phi : Nat → Fn) (h202 : SpCheck (phi 202)) (h223 : SpIsWard (phi 223)) (h224 : SpIsTable (phi 224)) : SpCheckRoster (mkFn 3 3 (b_check_roster.den phi)) := by
  constructor
  · intro v t nm S h
    simp [mkFn_eq, b_check_roster, h223 _ _, h, h202 _ _ _ len_ward]
  · intro w t nm S h
    simp [mkFn_eq, b_check_roster, h223 _ _, isWardD_ward, h202 _ _ _ len_ward, h202 _ _ _ h, h224 _ _ _]
    by_cases h3 : isTable w.d w.people.length w.duties.length t = true <;> simp [h3]
theorem isTable_ros {d p u : Nat} {r : List (List Nat)} (hu : 1 ≤ u) (h : RosOk d p u r) : isTable d p u (rosterD r) = true := by
  simp [isTable, rosterD, h.n]
  intro l hl
  have e : (u : Int) - 1 = ((u - 1 : Nat) : Int) := by omega
  rw [e]
  exact areNumbers_nums (h.l l hl) fun b hb => by have := h.x l hl b hb; omega
def SpKeeps (f : Fn) : Prop := (∀ v t n S, isWardD v = false → f [.d v, .d t, .d n] S = .ex (101, [(101, .str (Str.ofString "ward"))]) S) ∧
  (∀ (w : WardP) t n S, isTable w.d w.p w.u t = false → f [.d w.D, .d t, .d n] S = .ex (101, [(101, .str (Str.ofString "roster"))]) S) ∧
  (∀ (w : WardP) t n S, isTable w.d w.p w.u t = true → isNumber n 0 ((w.rules.length : Int) - 1) = false → f [.d w.D, .d t, .d n] S = .ex (101, [(101, .str (Str.ofString "number"))]) S) ∧
  (∀ (w : WardP) r (n : Nat) S x, w.ok → RosOk w.d w.p w.u r → w.rules[n]? = some x → f [.d w.D, .d (rosterD r), .d (.int n)] S = .ok (.d (.bl (keepsR w.d x r))) S)
theorem keeps_ok (phi : Nat → Fn) (h201 : SpIsNumber (phi 201)) (h202 : SpCheck (phi 202)) (h219 : SpGet (fun w => rulesD w.rules) (phi 219)) (h227 : SpKeepsRule (phi 227)) (h229 : SpCheckRoster (phi 229)) : SpKeeps (mkFn 3 3 (b_keeps.den phi)) := by
  refine ⟨?_, ?_, ?_, ?_⟩
  · intro v t n S h
    simp [mkFn_eq, b_keeps, h229.1 _ _ _ _ h]
  · intro w t n S h
    simp [mkFn_eq, b_keeps, h229.2 _ _ _ _ len_roster, h]
  · intro w t n S h h2
    simp [mkFn_eq, b_keeps, h229.2 _ _ _ _ len_roster, h, isOb_ward, h219 _ _, rulesD, h201 _ _ _ _, h2, h202 _ _ _ len_number]
  · intro w r n S x hw hr hx
    have hu := hw.u3
    have h := isTable_ros hu.1 hr
    have hn : n < w.rules.length := (List.getElem?_eq_some_iff.mp hx).1
    have h2 : isNumber (.int (n : Int)) 0 ((w.rules.length : Int) - 1) = true := isNumber_lt hn
    have h3 : atI (w.rules.map Rule.D) (n : Int) = some x.D := by rw [atI_nat, List.getElem?_map, hx]; rfl
    simp [mkFn_eq, b_keeps, h229.2 _ _ _ _ len_roster, h, isOb_ward, h219 _ _, rulesD, h201 _ _ _ _, h2, h202 _ _ _ len_number, h3, h227 w r x _ hw hr (hw.ro x (List.mem_of_getElem? hx))]
def SpBroken (f : Fn) : Prop := (∀ v t S, isWardD v = false → f [.d v, .d t] S = .ex (101, [(101, .str (Str.ofString "ward"))]) S) ∧
  (∀ (w : WardP) t S, isTable w.d w.p w.u t = false → f [.d w.D, .d t] S = .ex (101, [(101, .str (Str.ofString "roster"))]) S) ∧
  (∀ (w : WardP) r S, w.ok → RosOk w.d w.p w.u r → f [.d w.D, .d (rosterD r)] S = .ok (.d (numsD (brokenR w.d w.rules r))) S)
theorem broken_ok (phi : Nat → Fn) (h228 : SpBrokenIn (phi 228)) (h229 : SpCheckRoster (phi 229)) : SpBroken (mkFn 2 2 (b_broken.den phi)) := by
  refine ⟨?_, ?_, ?_⟩
  · intro v t S h
    simp [mkFn_eq, b_broken, h229.1 _ _ _ _ h]
  · intro w t S h
    simp [mkFn_eq, b_broken, h229.2 _ _ _ _ len_roster, h]
  · intro w r S hw hr
    have h := isTable_ros hw.u3.1 hr
    simp [mkFn_eq, b_broken, h229.2 _ _ _ _ len_roster, h, h228 w r _ hw hr]
theorem eq_nil_nums (l : List Nat) : O2.f .eq (.tup (l.map nD)) (.tup []) = some (.bl l.isEmpty) := by
  obtain ⟨h1, h2⟩ := nums_depth l
  rw [f_eq _ _ (by simp [eqOk, D.pl, D.pls, D.py, PyData.depth, h1, h2, dLine])]
  congr 2
  cases l <;> rfl
def SpIsRoster (f : Fn) : Prop := (∀ v t S, isWardD v = false → f [.d v, .d t] S = .ex (101, [(101, .str (Str.ofString "ward"))]) S) ∧
  (∀ (w : WardP) t S, isTable w.d w.p w.u t = false → f [.d w.D, .d t] S = .ok (.d (.bl false)) S) ∧
  (∀ (w : WardP) r S, w.ok → RosOk w.d w.p w.u r → f [.d w.D, .d (rosterD r)] S = .ok (.d (.bl (brokenR w.d w.rules r).isEmpty)) S)
theorem is_roster_ok (phi : Nat → Fn) (h202 : SpCheck (phi 202)) (h223 : SpIsWard (phi 223)) (h224 : SpIsTable (phi 224)) (h228 : SpBrokenIn (phi 228)) : SpIsRoster (mkFn 2 2 (b_is_roster.den phi)) := by
  refine ⟨?_, ?_, ?_⟩
  · intro v t S h
    simp [mkFn_eq, b_is_roster, h223 _ _, h, h202 _ _ _ len_ward]
  · intro w t S h
    simp [mkFn_eq, b_is_roster, h223 _ _, isWardD_ward, h202 _ _ _ len_ward, h224 _ _ _, h]
  · intro w r S hw hr
    have h := isTable_ros hw.u3.1 hr
    have h2 := eq_nil_nums (brokenR w.d w.rules r)
    simp [mkFn_eq, b_is_roster, h223 _ _, isWardD_ward, h202 _ _ _ len_ward, h224 _ _ _, h, h228 w r _ hw hr, numsD, h2]
end Rg.M
set_option Elab.async false
set_option linter.all false
set_option maxRecDepth 100000
set_option maxHeartbeats 4000000
namespace Rg.M
open PySem PySem.Spec PyProof.Rows L2
def RowOk (c : Cell) : Prop := ∃ (sc : List Int) (pos st rest : Int), c = .lst [.lst (sc.map D.int), .int pos, .int st, .int rest] ∧ 0 ≤ pos ∧ 0 ≤ rest
def SpTaken (f : Fn) : Prop := ∀ (c : Cell) (T : List Cell) (m : Nat), RowOk c → 1 ≤ m → m < 1073741824 → ∃ (v : Nat) (c' : Cell), f [.l (.inr 0), .d (.int m)] (c :: T) = .ok (.d (.int v)) (c' :: T) ∧ v < m ∧ RowOk c'
@[simp] theorem si0 (a b c d x : D) : siC (.lst [a, b, c, d]) (.int 0) x = some (.lst [x, b, c, d]) := Eq.trans rfl rfl
@[simp] theorem si1 (a b c d x : D) : siC (.lst [a, b, c, d]) (.int 1) x = some (.lst [a, x, c, d]) := Eq.trans rfl rfl
@[simp] theorem si2 (a b c d x : D) : siC (.lst [a, b, c, d]) (.int 2) x = some (.lst [a, b, x, d]) := Eq.trans rfl rfl
@[simp] theorem si3 (a b c d x : D) : siC (.lst [a, b, c, d]) (.int 3) x = some (.lst [a, b, c, x]) := Eq.trans rfl rfl
@[simp] theorem put0 (env : List Slot) (c c' : Cell) (T : List Cell) : putLoc env (c :: T) (.l (.inr 0)) c' = some (env, c' :: T) := Eq.trans rfl rfl
@[simp] theorem cell0 (env : List Slot) (c : Cell) (T : List Cell) : cellAt env (c :: T) (.l (.inr 0)) = some c := Eq.trans rfl rfl
theorem mul_lcg (i : Int) : O2.f .mul (.int i) (.int 48271) = some (.int (i * 48271)) := f_mul i 48271 (by simp [mulOk])
theorem pow_18 : O2.f .pow (.int 10) (.int 18) = some (.int 1000000000000000000) := by
  show (if (0 : Int) ≤ 18 ∧ (18 : Int) ≤ 1000000 ∧ (10 : Int).natAbs < 2 ^ 64 then some (D.int ((10 : Int) ^ (18 : Int).toNat)) else none) = _
  rw [if_pos (by decide)]
  rfl
theorem mod_lcg (i : Int) : O2.f .mod (.int i) (.int 2147483647) = some (.int (i.fmod 2147483647)) := f_mod i _ (by decide)
theorem div_7 (i : Int) : O2.f .fdiv (.int i) (.int 7) = some (.int (i.fdiv 7)) := f_fdiv i _ (by decide)
theorem mod_nat (i : Int) {m : Nat} (h : 1 ≤ m) : ∃ v : Nat, O2.f .mod (.int i) (.int m) = some (.int v) ∧ v < m := by
  have h1 : O2.f .mod (.int i) (.int m) = some (.int (i.fmod m)) := f_mod i _ (by omega)
  have h2 : i.fmod m = i % m := Int.fmod_eq_emod_of_nonneg i (by omega)
  have h3 := Int.emod_nonneg i (show (m : Int) ≠ 0 by omega)
  have h4 := Int.emod_lt_of_pos i (show (0 : Int) < m by omega)
  refine ⟨(i % m).toNat, ?_, by omega⟩
  rw [h1, h2]
  congr 2
  omega
theorem div_nat {i : Int} (hi : 0 ≤ i) {m : Nat} (h : 1 ≤ m) (h' : m < 1073741824) : ∃ v : Int, O2.f .fdiv (.int i) (.int m) = some (.int v) ∧ 0 ≤ v := by
  refine ⟨i.fdiv m, f_fdiv i _ ⟨by omega, by omega⟩, ?_⟩
  rw [Int.fdiv_eq_ediv_of_nonneg i (by omega)]
  exact Int.ediv_nonneg hi (by omega)
theorem taken_ok (phi : Nat → Fn) : SpTaken (mkFn 2 4 (b__law_taken.den phi)) := by
  rintro c T m ⟨sc, pos, st, rest, rfl, hp, hr⟩ h1 h2
  by_cases hr0 : 0 < rest
  · obtain ⟨v, e1, hv⟩ := mod_nat rest h1
    obtain ⟨q, e2, hq⟩ := div_nat hr h1 h2
    refine ⟨v, .lst [.lst (sc.map D.int), .int pos, .int st, .int q], ?_, hv, ⟨sc, pos, st, q, rfl, hp, hq⟩⟩
    simp [mkFn_eq, b__law_taken, hr0, e1, e2]
  · by_cases hn : (sc.length : Int) < pos + 1
    · obtain ⟨v, e1, hv⟩ := mod_nat (((st * 48271 + 11).fmod 2147483647).fdiv 7) h1
      refine ⟨v, .lst [.lst (sc.map D.int), .int (pos + 1), .int ((st * 48271 + 11).fmod 2147483647), .int rest], ?_, hv, ⟨sc, _, _, rest, rfl, by omega, hr⟩⟩
      simp [mkFn_eq, b__law_taken, hr0, hn, mul_lcg, mod_lcg, div_7, e1]
    · have hi : pos.toNat < sc.length := by omega
      obtain ⟨v, e1, hv⟩ := mod_nat (sc[pos.toNat]) h1
      have hat : atI (sc.map D.int) pos = some (.int sc[pos.toNat]) := by
        rw [atI_pos _ _ hp, List.getElem?_map, List.getElem?_eq_getElem hi]
        rfl
      by_cases hb : (1000000000000000000 : Int) ≤ sc[pos.toNat]
      · obtain ⟨q, e2, hq⟩ := div_nat (i := sc[pos.toNat]) (by omega) h1 h2
        refine ⟨v, .lst [.lst (sc.map D.int), .int (pos + 1), .int ((st * 48271 + sc[pos.toNat] + 11).fmod 2147483647), .int q], ?_, hv, ⟨sc, _, _, q, rfl, by omega, hq⟩⟩
        simp [mkFn_eq, b__law_taken, hr0, hn, mul_lcg, mod_lcg, hat, pow_18, hb, e1, e2]
      · refine ⟨v, .lst [.lst (sc.map D.int), .int (pos + 1), .int ((st * 48271 + sc[pos.toNat] + 11).fmod 2147483647), .int rest], ?_, hv, ⟨sc, _, _, rest, rfl, by omega, hr⟩⟩
        simp [mkFn_eq, b__law_taken, hr0, hn, mul_lcg, mod_lcg, hat, pow_18, hb, e1]
def SpPick (f : Fn) : Prop := ∀ (c : Cell) (T : List Cell) (l : List D), RowOk c → l ≠ [] → l.length < 1073741824 → ∃ (v : D) (c' : Cell), f [.l (.inr 0), .d (.lst l)] (c :: T) = .ok (.d v) (c' :: T) ∧ v ∈ l ∧ RowOk c'
theorem pick_ok (phi : Nat → Fn) (h233 : SpTaken (phi 233)) : SpPick (mkFn 2 2 (b__law_pick.den phi)) := by
  intro c T l hc hl hn
  have h1 : 1 ≤ l.length := List.length_pos_iff.mpr hl
  obtain ⟨v, c', e, hv, hc'⟩ := h233 c T l.length hc h1 hn
  refine ⟨l[v], c', ?_, List.getElem_mem hv, hc'⟩
  simp [mkFn_eq, b__law_pick, e, atI_nat, List.getElem?_eq_getElem hv]
end Rg.M
set_option Elab.async false
set_option linter.all false
set_option maxRecDepth 100000
set_option maxHeartbeats 4000000
namespace Rg.M
open PySem PySem.Spec PyProof.Rows L2
theorem lcL_exM {α : Type} {f : D → List Cell → Option (Option D × List Cell)} (k : α → D) (I : List Cell → Prop) (P : α → Prop) : ∀ {ds : List D} {S : List Cell} {o : Option (List D × List Cell)}, lcL f ds S = o → I S → (∀ x ∈ ds, ∀ S1, I S1 → ∃ a S2, f x S1 = some (some (k a), S2) ∧ I S2 ∧ P a) →
    ∃ (l : List α) (S2 : List Cell), o = some (l.map k, S2) ∧ I S2 ∧ l.length = ds.length ∧ ∀ a ∈ l, P a
  | [], S, _, rfl, i, _ => ⟨[], S, rfl, i, rfl, by simp⟩
  | x :: r, S, _, rfl, i, h => by
    obtain ⟨y, S2, e, i2, p⟩ := h x (by simp) S i
    obtain ⟨ys, S3, e2, i3, n, ps⟩ := lcL_exM (f := f) k I P (ds := r) (S := S2) rfl i2 fun z hz => h z (by simp [hz])
    refine ⟨y :: ys, S3, ?_, i3, by simp [n], by simpa using ⟨p, ps⟩⟩
    simp only [lcL]
    rw [e]
    simp [e2]
theorem forL_ex {f : D → List Slot → List Cell → Out} (I : List Slot → List Cell → Prop) : ∀ {ds : List D} {env : List Slot} {S : List Cell} {o : Out}, forL f ds env S = o → I env S → (∀ x ∈ ds, ∀ env1 S1, I env1 S1 → ∃ env2 S2, f x env1 S1 = .nx env2 S2 ∧ I env2 S2) →
    ∃ env2 S2, o = .nx env2 S2 ∧ I env2 S2
  | [], env, S, _, rfl, i, _ => ⟨env, S, rfl, i⟩
  | x :: r, env, S, _, rfl, i, h => by
    obtain ⟨env2, S2, e, i2⟩ := h x (by simp) env S i
    obtain ⟨env3, S3, e3, i3⟩ := forL_ex (f := f) I (ds := r) rfl i2 fun z hz => h z (by simp [hz])
    refine ⟨env3, S3, ?_, i3⟩
    simp only [forL]
    rw [e]
    exact e3
def RowS (T : List Cell) (S : List Cell) : Prop := ∃ c, S = c :: T ∧ RowOk c
theorem mulOk_r (i : Int) {j : Int} (h : -(2 ^ 64) < j) (h' : j < 2 ^ 64) : mulOk i j = true := by
  simp only [mulOk, Bool.or_eq_true, Bool.and_eq_true, decide_eq_true_eq]
  exact .inr ⟨h, h'⟩
def SpPower (f : Fn) : Prop := ∀ (a n : Nat) S, a ≤ 1000 → n ≤ 1000000 → f [.d (.int a), .d (.int n)] S = .ok (.d (.int ((a ^ n : Nat) : Int))) S
theorem power_mul (q a : Nat) (ha : a ≤ 1000) : O2.f .mul (.int (q : Int)) (.int (a : Int)) = some (.int ((q * a : Nat) : Int)) := by
  rw [f_mul _ _ (mulOk_r _ (by omega) (by omega)), Int.natCast_mul]
theorem power_step (phi : Nat → Fn) (a q : Nat) (ha : a ≤ 1000) (z : D) (y t : Slot) (S : List Cell) : (Out.opt ((Tg.nm 3).set z [.w (.d (.int a)), y, .w (.d (.int (q : Int))), t]) fun env3 => (Sts.cons (.asg (.nm 2) (.o2 .mul (.nm 2) (.nm 0))) .nil).den phi env3 S) = .nx [.w (.d (.int a)), y, .w (.d (.int ((q * a : Nat) : Int))), .w (.d z)] S := by
  simp only [set_nm, Out.opt_some, den_scons, den_asg, den_o2, den_nm, List.getD_cons_succ, List.getD_cons_zero, List.set_cons_succ, List.set_cons_zero, Res.bnd_ok, look_d, Res.op_some, power_mul q a ha, Res.ou_ok, asgW_nm, Out.sq_nx, den_snil]
theorem forL_cons_nx {f : D → List Slot → List Cell → Out} {x : D} {r : List D} {env env1 : List Slot} {S S1 : List Cell} (h : f x env S = .nx env1 S1) : forL f (x :: r) env S = forL f r env1 S1 := by
  simp only [forL, h]
theorem power_loop (phi : Nat → Fn) (a : Nat) (ha : a ≤ 1000) (y : Slot) (S : List Cell) : ∀ (ds : List D) (q : Nat) (t : Slot), ∃ t', forL (fun x env2 S2 => Out.opt ((Tg.nm 3).set x env2) fun env3 => (Sts.cons (.asg (.nm 2) (.o2 .mul (.nm 2) (.nm 0))) .nil).den phi env3 S2) ds [.w (.d (.int a)), y, .w (.d (.int (q : Int))), t] S = .nx [.w (.d (.int a)), y, .w (.d (.int ((q * a ^ ds.length : Nat) : Int))), t'] S := by
  intro ds
  induction ds with
  | nil => exact fun q t => ⟨t, by simp [forL]⟩
  | cons z r ih =>
    intro q t
    obtain ⟨t', e⟩ := ih (q * a) (.w (.d z))
    refine ⟨t', ?_⟩
    have e1 := power_step phi a q ha z y t S
    rw [List.length_cons, Nat.pow_succ, Nat.mul_comm (a ^ r.length) a, ← Nat.mul_assoc]
    rw [← e]
    exact forL_cons_nx e1
theorem power_ok (phi : Nat → Fn) : SpPower (mkFn 2 4 (b__law_power.den phi)) := by
  intro a n S ha hn
  have h1 : rgOk (n : Int) = true := rgOk_ok (by omega) (by omega)
  obtain ⟨t', e⟩ := power_loop phi a ha (.w (.d (.int n))) S (rangeD 0 n) 1 .un
  have e2 : (St.fr (.nm 3) (.rg1 (.nm 1)) (.cons (.asg (.nm 2) (.o2 .mul (.nm 2) (.nm 0))) .nil)).den phi [.w (.d (.int a)), .w (.d (.int n)), .w (.d (.int 1)), .un] S = .nx [.w (.d (.int a)), .w (.d (.int n)), .w (.d (.int ((a ^ n : Nat) : Int))), t'] S := by
    rw [den_for, den_irg1, den_nm]
    simp only [List.getD_cons_succ, List.getD_cons_zero, Res.bnd_ok, rg1D_ok h1, Res.ou_ok, Int.toNat_natCast]
    rw [rangeD_length, Nat.one_mul] at e
    exact e
  simp [mkFn_eq, b__law_power, -den_for, e2]
def szC : E := (.o2 .gt (.ca 235 (.cons (.nm 3) (.cons (.o2 .mul (.nm 4) (.nm 2)) .nil))) (.nm 1))
def szB : Sts := (.cons (.asg (.tp (.cons (.nm 4) (.cons (.nm 2) .nil))) (.ite (.o2 .gt (.nm 4) (.k (.int 1))) (.tup (.cons (.o2 .sub (.nm 4) (.k (.int 1))) (.cons (.nm 2) .nil))) (.tup (.cons (.nm 4) (.cons (.o2 .sub (.nm 2) (.k (.int 1))) .nil))))) .nil)
def sizeT (d p u : Nat) : D := .tup [.int d, .int p, .int u]
structure SzOk (d p u : Nat) : Prop where
  d1 : 1 ≤ d
  d5 : d ≤ 5
  p1 : 1 ≤ p
  p4 : p ≤ 4
  u1 : 1 ≤ u
  u3 : u ≤ 3
theorem size_loop (phi : Nat → Fn) (h235 : SpPower (phi 235)) (u most : Nat) (hm : 3 ≤ most) (x : Slot) (S : List Cell) : ∀ (m d p : Nat), d + p ≤ m → SzOk d p u → ∃ d' p', whL (fun env2 S2 => szC.den phi env2 S2) (fun env2 S2 => szB.den phi env2 S2) (m + 1) [x, .w (.d (.int most)), .w (.d (.int p)), .w (.d (.int u)), .w (.d (.int d))] S = .nx [x, .w (.d (.int most)), .w (.d (.int (p' : Nat))), .w (.d (.int u)), .w (.d (.int (d' : Nat)))] S ∧ SzOk d' p' u ∧ u ^ (d' * p') ≤ most
  | m, d, p, h, k => by
    obtain ⟨d1, d5, p1, p4, u1, u3⟩ := k
    have hdp : d * p ≤ 20 := Nat.mul_le_mul d5 p4
    have hmul : O2.f .mul (.int (d : Int)) (.int (p : Int)) = some (.int ((d : Int) * p)) := f_mul _ _ (mulOk_r _ (by omega) (by omega))
    have h5 := h235 u (d * p) S (by omega) (by omega)
    rw [Int.natCast_mul] at h5
    have hc : szC.den phi [x, .w (.d (.int most)), .w (.d (.int p)), .w (.d (.int u)), .w (.d (.int d))] S = .ok (.d (.bl (decide ((most : Int) < ((u ^ (d * p) : Nat) : Int))))) S := by
      simp [szC, hmul, h5]
    by_cases hb : (most : Int) < ((u ^ (d * p) : Nat) : Int)
    · have hdp1 : ¬ (d = 1 ∧ p = 1) := by
        rintro ⟨rfl, rfl⟩
        simp at hb
        omega
      cases m with
      | zero => omega
      | succ m =>
        by_cases hd : 1 < d
        · have hb2 : szB.den phi [x, .w (.d (.int most)), .w (.d (.int p)), .w (.d (.int u)), .w (.d (.int d))] S = .nx [x, .w (.d (.int most)), .w (.d (.int p)), .w (.d (.int u)), .w (.d (.int ((d - 1 : Nat) : Int)))] S := by
            have h1 : (1 : Int) < d := by omega
            have h2 : (d : Int) - 1 = ((d - 1 : Nat) : Int) := by omega
            simp [szB, h1, h2]
          obtain ⟨d', p', e, r⟩ := size_loop phi h235 u most hm x S m (d - 1) p (by omega) ⟨by omega, by omega, p1, p4, u1, u3⟩
          refine ⟨d', p', ?_, r⟩
          rw [whL, hc]
          simp only [Res.out, Out.opt, isBl, decide_eq_true hb, if_true, hb2]
          exact e
        · have hd1 : d = 1 := by omega
          have hb2 : szB.den phi [x, .w (.d (.int most)), .w (.d (.int p)), .w (.d (.int u)), .w (.d (.int d))] S = .nx [x, .w (.d (.int most)), .w (.d (.int ((p - 1 : Nat) : Int))), .w (.d (.int u)), .w (.d (.int d))] S := by
            have h1 : ¬ (1 : Int) < d := by omega
            have h2 : (p : Int) - 1 = ((p - 1 : Nat) : Int) := by omega
            simp [szB, h1, h2]
          obtain ⟨d', p', e, r⟩ := size_loop phi h235 u most hm x S m d (p - 1) (by omega) ⟨d1, d5, by omega, by omega, u1, u3⟩
          refine ⟨d', p', ?_, r⟩
          rw [whL, hc]
          simp only [Res.out, Out.opt, isBl, decide_eq_true hb, if_true, hb2]
          exact e
    · refine ⟨d, p, ?_, ⟨d1, d5, p1, p4, u1, u3⟩, by omega⟩
      rw [whL, hc]
      simp only [Res.out, Out.opt, isBl, decide_eq_false hb]
      rfl
def SpSizeL (f : Fn) : Prop := ∀ (c : Cell) (T : List Cell) (most : Nat), RowOk c → 3 ≤ most → ∃ (d p u : Nat) (c' : Cell), f [.l (.inr 0), .d (.int most)] (c :: T) = .ok (.d (sizeT d p u)) (c' :: T) ∧ SzOk d p u ∧ u ^ (d * p) ≤ most ∧ RowOk c'
theorem size_law_ok (phi : Nat → Fn) (h233 : SpTaken (phi 233)) (h234 : SpPick (phi 234)) (h235 : SpPower (phi 235)) : SpSizeL (mkFn 2 5 (b__law_size.den phi)) := by
  intro c T most hc hm
  obtain ⟨v1, c1, e1, m1, k1⟩ := h234 c T [.int 2, .int 3, .int 4] hc (by simp) (by simp)
  obtain ⟨n1, rfl, l1, l1'⟩ : ∃ n : Nat, v1 = .int n ∧ 2 ≤ n ∧ n ≤ 4 := by
    simp at m1
    rcases m1 with rfl | rfl | rfl
    · exact ⟨2, rfl, by omega, by omega⟩
    · exact ⟨3, rfl, by omega, by omega⟩
    · exact ⟨4, rfl, by omega, by omega⟩
  obtain ⟨v2, c2, e2, l2, k2⟩ := h233 c1 T n1 k1 (by omega) (by omega)
  obtain ⟨v3, c3, e3, l3, k3⟩ := h233 c2 T 3 k2 (by omega) (by omega)
  obtain ⟨v4, c4, e4, l4, k4⟩ := h233 c3 T 5 k3 (by omega) (by omega)
  replace e3 : phi 233 [.l (.inr 0), .d (.int 3)] (c2 :: T) = _ := e3
  replace e4 : phi 233 [.l (.inr 0), .d (.int 5)] (c3 :: T) = _ := e4
  obtain ⟨p, hp⟩ : ∃ p : Nat, p = 1 + v2 := ⟨_, rfl⟩
  obtain ⟨u, hu⟩ : ∃ u : Nat, u = 1 + v3 := ⟨_, rfl⟩
  obtain ⟨d, hd⟩ : ∃ d : Nat, d = 1 + v4 := ⟨_, rfl⟩
  have hp' : (1 : Int) + v2 = p := by omega
  have hu' : (1 : Int) + v3 = u := by omega
  have hd' : (1 : Int) + v4 = d := by omega
  obtain ⟨d', p', e, r, r2⟩ := size_loop phi h235 u most hm (.w (.l (.inr 0))) (c4 :: T) 4294967295 d p (by omega) ⟨by omega, by omega, by omega, by omega, by omega, by omega⟩
  refine ⟨d', p', u, c4, ?_, r, r2, k4⟩
  have e5 : (St.wh szC szB).den phi [.w (.l (.inr 0)), .w (.d (.int most)), .w (.d (.int p)), .w (.d (.int u)), .w (.d (.int d))] (c4 :: T) = _ := (den_wh phi _ _ szC szB).trans e
  simp only [szC, szB] at e5
  simp [mkFn_eq, b__law_size, -den_wh, e1, e2, e3, e4, hp', hu', hd', e5, sizeT]
end Rg.M
set_option Elab.async false
set_option linter.all false
set_option maxRecDepth 100000
set_option maxHeartbeats 4000000
namespace Rg.M
open PySem PySem.Spec PyProof.Rows L2
def SpRuleL (f : Fn) : Prop := ∀ (c : Cell) (T : List Cell) (d p u : Nat), RowOk c → SzOk d p u → ∃ (r : Rule) (c' : Cell), f [.l (.inr 0), .d (sizeT d p u)] (c :: T) = .ok (.d r.D) (c' :: T) ∧ r.ok d p u ∧ RowOk c'
theorem rule_law_ok (phi : Nat → Fn) (h233 : SpTaken (phi 233)) (h234 : SpPick (phi 234)) : SpRuleL (mkFn 2 9 (b__law_rule.den phi)) := by
  intro c T d p u hc hs
  obtain ⟨d1, d5, p1, p4, u1, u3⟩ := hs
  obtain ⟨v1, c1, e1, m1, k1⟩ := h234 c T [.str (Str.ofString "every"), .str (Str.ofString "day"), .str (Str.ofString "day"), .str (Str.ofString "never"), .str (Str.ofString "in"), .str (Str.ofString "has"), .str (Str.ofString "not"), .str (Str.ofString "not"), .str (Str.ofString "least"), .str (Str.ofString "most")] hc (by simp) (by simp)
  obtain ⟨v2, c2, e2, l2, k2⟩ := h233 c1 T d k1 (by omega) (by omega)
  obtain ⟨q, c3, e3, l3, k3⟩ := h233 c2 T p k2 (by omega) (by omega)
  obtain ⟨a, c4, e4, l4, k4⟩ := h233 c3 T u k3 (by omega) (by omega)
  obtain ⟨k, hk⟩ : ∃ k : Nat, k = 1 + v2 := ⟨_, rfl⟩
  have hk' : (1 : Int) + v2 = k := by omega
  have hp' : (p : Int) + 1 = ((p + 1 : Nat) : Int) := by omega
  have hd' : (d : Int) + 1 = ((d + 1 : Nat) : Int) := by omega
  have hkk' : (k : Int) + 1 = ((k + 1 : Nat) : Int) := by omega
  have E : ∀ (n : Nat) (x : Int), x = (n : Int) → 1 ≤ n → n < 1073741824 → ∃ (v : Nat) (c' : Cell), phi 233 [.l (.inr 0), .d (.int x)] (c4 :: T) = .ok (.d (.int v)) (c' :: T) ∧ v < n ∧ RowOk c' := by
    intro n x hx h1 h2
    subst hx
    exact h233 c4 T n k4 h1 h2
  simp only [List.mem_cons, List.not_mem_nil, or_false] at m1
  rcases m1 with rfl | rfl | rfl | rfl | rfl | rfl | rfl | rfl | rfl | rfl
  · obtain ⟨n, c5, e5, l5, k5⟩ := E (p + 1) ((p : Int) + 1) hp' (by omega) (by omega)
    refine ⟨.every a n, c5, ?_, ⟨l4, by omega⟩, k5⟩
    simp [mkFn_eq, b__law_rule, sizeT, e1, e2, e3, e4, hk', e5, Rule.D]
  · obtain ⟨n, c5, e5, l5, k5⟩ := E (p + 1) ((p : Int) + 1) hp' (by omega) (by omega)
    refine ⟨.day k a n, c5, ?_, ⟨by omega, by omega, l4, by omega⟩, k5⟩
    simp [mkFn_eq, b__law_rule, sizeT, e1, e2, e3, e4, hk', e5, Rule.D]
  · obtain ⟨n, c5, e5, l5, k5⟩ := E (p + 1) ((p : Int) + 1) hp' (by omega) (by omega)
    refine ⟨.day k a n, c5, ?_, ⟨by omega, by omega, l4, by omega⟩, k5⟩
    simp [mkFn_eq, b__law_rule, sizeT, e1, e2, e3, e4, hk', e5, Rule.D]
  · obtain ⟨n, c5, e5, l5, k5⟩ := E u (u : Int) rfl (by omega) (by omega)
    refine ⟨.never a n, c5, ?_, ⟨l4, by omega⟩, k5⟩
    simp [mkFn_eq, b__law_rule, sizeT, e1, e2, e3, e4, hk', e5, Rule.D]
  · obtain ⟨n, c5, e5, l5, k5⟩ := E (k + 1) ((k : Int) + 1) hkk' (by omega) (by omega)
    refine ⟨.inr n a k, c5, ?_, ⟨by omega, l4, by omega, by omega⟩, k5⟩
    simp [mkFn_eq, b__law_rule, sizeT, e1, e2, e3, e4, hk', e5, Rule.D]
  · refine ⟨.has q a k, c4, ?_, ⟨l3, l4, by omega, by omega⟩, k4⟩
    simp [mkFn_eq, b__law_rule, sizeT, e1, e2, e3, e4, hk', Rule.D]
  · refine ⟨.hasnt q a k, c4, ?_, ⟨l3, l4, by omega, by omega⟩, k4⟩
    simp [mkFn_eq, b__law_rule, sizeT, e1, e2, e3, e4, hk', Rule.D]
  · refine ⟨.hasnt q a k, c4, ?_, ⟨l3, l4, by omega, by omega⟩, k4⟩
    simp [mkFn_eq, b__law_rule, sizeT, e1, e2, e3, e4, hk', Rule.D]
  · obtain ⟨n, c5, e5, l5, k5⟩ := E (d + 1) ((d : Int) + 1) hd' (by omega) (by omega)
    refine ⟨.least q n a, c5, ?_, ⟨l3, by omega, l4⟩, k5⟩
    simp [mkFn_eq, b__law_rule, sizeT, e1, e2, e3, e4, hk', e5, Rule.D]
  · obtain ⟨n, c5, e5, l5, k5⟩ := E (d + 1) ((d : Int) + 1) hd' (by omega) (by omega)
    refine ⟨.most q n a, c5, ?_, ⟨l3, by omega, l4⟩, k5⟩
    simp [mkFn_eq, b__law_rule, sizeT, e1, e2, e3, e4, hk', e5, Rule.D]
def SpWishL (f : Fn) : Prop := ∀ (c : Cell) (T : List Cell) (d p u : Nat), RowOk c → SzOk d p u → ∃ (r : Wish) (c' : Cell), f [.l (.inr 0), .d (sizeT d p u)] (c :: T) = .ok (.d r.D) (c' :: T) ∧ r.ok d p u ∧ RowOk c'
theorem wish_law_ok (phi : Nat → Fn) (h233 : SpTaken (phi 233)) (h234 : SpPick (phi 234)) : SpWishL (mkFn 2 5 (b__law_wish.den phi)) := by
  intro c T d p u hc hs
  obtain ⟨d1, d5, p1, p4, u1, u3⟩ := hs
  obtain ⟨q, c1, e1, l1, k1⟩ := h233 c T p hc (by omega) (by omega)
  obtain ⟨a, c2, e2, l2, k2⟩ := h233 c1 T u k1 (by omega) (by omega)
  obtain ⟨k, c3, e3, l3, k3⟩ := h233 c2 T d k2 (by omega) (by omega)
  obtain ⟨o, c4, e4, l4, k4⟩ := h233 c3 T 2 k3 (by omega) (by omega)
  replace e4 : phi 233 [.l (.inr 0), .d (.int 2)] (c3 :: T) = _ := e4
  obtain ⟨v, c5, e5, m5, k5⟩ := h234 c4 T [.int 1, .int 3, .int 9] k4 (by simp) (by simp)
  obtain ⟨n, rfl, n1, n9⟩ : ∃ n : Nat, v = .int n ∧ 1 ≤ n ∧ n ≤ 9 := by
    simp at m5
    rcases m5 with rfl | rfl | rfl
    · exact ⟨1, rfl, by omega, by omega⟩
    · exact ⟨3, rfl, by omega, by omega⟩
    · exact ⟨9, rfl, by omega, by omega⟩
  obtain ⟨w, c6, e6, l6, k6⟩ := h233 c5 T n k5 (by omega) (by omega)
  refine ⟨⟨q, a, 1 + k, decide (o = 0), 1 + w⟩, c6, ?_, ⟨l1, l2, by simp, by simp; omega, by simp, by simp; omega⟩, k6⟩
  simp [mkFn_eq, b__law_wish, sizeT, e1, e2, e3, e4, e5, e6, Wish.D]
def partsD (d p u : Nat) (burdens : List Nat) (rules : List Rule) (wishes : List Wish) : D := .tup [sizeT d p u, numsD burdens, rulesD rules, wishesD wishes]
structure PartsOk (d p u : Nat) (burdens : List Nat) (rules : List Rule) (wishes : List Wish) (most nr : Nat) : Prop where
  s : SzOk d p u
  m : u ^ (d * p) ≤ most
  bl : burdens.length = u
  b9 : ∀ b ∈ burdens, b ≤ 9
  rn : rules.length ≤ nr
  ro : ∀ r ∈ rules, r.ok d p u
  wn : wishes.length ≤ 12
  wo : ∀ r ∈ wishes, r.ok d p u
def SpParts (f : Fn) : Prop := ∀ (c : Cell) (T : List Cell) (most nr : Nat), RowOk c → 3 ≤ most → nr ≤ 1000 → ∃ d p u burdens rules wishes c', f [.l (.inr 0), .d (.int most), .d (.int nr)] (c :: T) = .ok (.d (partsD d p u burdens rules wishes)) (c' :: T) ∧ PartsOk d p u burdens rules wishes most nr ∧ RowOk c'
theorem parts_law_ok (phi : Nat → Fn) (h233 : SpTaken (phi 233)) (h234 : SpPick (phi 234)) (h236 : SpSizeL (phi 236)) (h237 : SpRuleL (phi 237)) (h238 : SpWishL (phi 238)) : SpParts (mkFn 3 8 (b__law_parts.den phi)) := by
  intro c T most nr hc hm hn
  obtain ⟨d, p, u, c1, e1, hs, hmo, k1⟩ := h236 c T most hc hm
  obtain ⟨R, hR⟩ : ∃ R, mkFn 3 8 (b__law_parts.den phi) [.l (.inr 0), .d (.int most), .d (.int nr)] (c :: T) = R := ⟨_, rfl⟩
  rw [hR]
  have hu := hs.u3
  have r1 : rgOk (u : Int) = true := rgOk_ok (by omega) (by omega)
  have r2 : u ≤ LN := LN_le _ (by omega)
  simp [mkFn_eq, b__law_parts, e1, sizeT, r1, r2] at hR
  generalize hL : lcL _ _ _ = o at hR
  obtain ⟨bs, S2, rfl, ⟨c2, rfl, k2⟩, n2, b2⟩ := lcL_exM nD (RowS T) (fun b => b ≤ 9) hL ⟨c1, rfl, k1⟩ (by
    rintro x _ S1 ⟨c2, rfl, k2⟩
    obtain ⟨v, c3, e3, m3, k3⟩ := h234 c2 T [.int 2, .int 4, .int 10] k2 (by simp) (by simp)
    obtain ⟨n, rfl, n1, n9⟩ : ∃ n : Nat, v = .int n ∧ 1 ≤ n ∧ n ≤ 10 := by
      simp at m3
      rcases m3 with rfl | rfl | rfl
      · exact ⟨2, rfl, by omega, by omega⟩
      · exact ⟨4, rfl, by omega, by omega⟩
      · exact ⟨10, rfl, by omega, by omega⟩
    obtain ⟨b, c4, e4, l4, k4⟩ := h233 c3 T n k3 (by omega) (by omega)
    exact ⟨b, c4 :: T, by simp [e3, e4], ⟨c4, rfl, k4⟩, by omega⟩)
  obtain ⟨m, c3, e3, l3, k3⟩ := h233 c2 T (nr + 1) k2 (by omega) (by omega)
  rw [Int.natCast_add, Int.natCast_one] at e3
  have r3 : rgOk (m : Int) = true := rgOk_ok (by omega) (by omega)
  have r4 : m ≤ LN := LN_le _ (by omega)
  simp [e3, r3, r4] at hR
  generalize hL2 : lcL _ _ _ = o at hR
  obtain ⟨rs, S3, rfl, ⟨c4, rfl, k4⟩, n4, b4⟩ := lcL_exM Rule.D (RowS T) (fun r => r.ok d p u) hL2 ⟨c3, rfl, k3⟩ (by
    rintro x _ S1 ⟨c2, rfl, k2⟩
    obtain ⟨r, c3, e3, m3, k3⟩ := h237 c2 T d p u k2 hs
    simp only [sizeT] at e3
    exact ⟨r, c3 :: T, by simp [e3], ⟨c3, rfl, k3⟩, m3⟩)
  obtain ⟨v, c5, e5, m5, k5⟩ := h234 c4 T [.int 2, .int 7] k4 (by simp) (by simp)
  obtain ⟨n, rfl, n1, n9⟩ : ∃ n : Nat, v = .int n ∧ 1 ≤ n ∧ n ≤ 7 := by
    simp at m5
    rcases m5 with rfl | rfl
    · exact ⟨2, rfl, by omega, by omega⟩
    · exact ⟨7, rfl, by omega, by omega⟩
  obtain ⟨m', c6, e6, l6, k6⟩ := h233 c5 T n k5 (by omega) (by omega)
  have r5 : rgOk (m' : Int) = true := rgOk_ok (by omega) (by omega)
  have r6 : m' ≤ LN := LN_le _ (by omega)
  simp [e5, e6, r5, r6] at hR
  generalize hL3 : lcL _ _ _ = o at hR
  obtain ⟨ws, S4, rfl, ⟨c7, rfl, k7⟩, n7, b7⟩ := lcL_exM Wish.D (RowS T) (fun r => r.ok d p u) hL3 ⟨c6, rfl, k6⟩ (by
    rintro x _ S1 ⟨c2, rfl, k2⟩
    obtain ⟨r, c3, e3, m3, k3⟩ := h238 c2 T d p u k2 hs
    simp only [sizeT] at e3
    exact ⟨r, c3 :: T, by simp [e3], ⟨c3, rfl, k3⟩, m3⟩)
  simp at hR
  simp at n2 n4 n7
  refine ⟨d, p, u, bs, rs, ws, c7, ?_, ⟨hs, hmo, n2, b2, by omega, b4, by omega, b7⟩, k7⟩
  rw [← hR]
  rfl
def peopleL : List Str := [Str.ofString "ann", Str.ofString "bo", Str.ofString "cy", Str.ofString "dee"]
def dutiesL : List Str := [Str.ofString "early", Str.ofString "late", Str.ofString "free"]
def SpNames (f : Fn) : Prop := ∀ (p u : Nat) S, f [.d (.int p), .d (.int u)] S = .ok (.d (.tup [wordsD (peopleL.take p), wordsD (dutiesL.take u)])) S
theorem names_ok (phi : Nat → Fn) : SpNames (mkFn 2 2 (b__law_names.den phi)) := by
  intro p u S
  have h1 := cut_j D.str peopleL p
  have h2 := cut_j D.str dutiesL u
  simp only [peopleL, dutiesL, List.map_cons, List.map_nil] at h1 h2
  simp [mkFn_eq, b__law_names, slD, h1, h2, wordsD, peopleL, dutiesL]
def wardOf (d p u : Nat) (burdens : List Nat) (rules : List Rule) (wishes : List Wish) : WardP := ⟨d, peopleL.take p, dutiesL.take u, burdens, rules, wishes⟩
theorem wardOf_p {d p u : Nat} {b r w} (h : SzOk d p u) : (wardOf d p u b r w).p = p := by
  have := h.p4
  simp [wardOf, WardP.p, peopleL]; omega
theorem wardOf_u {d p u : Nat} {b r w} (h : SzOk d p u) : (wardOf d p u b r w).u = u := by
  have := h.u3
  simp [wardOf, WardP.u, dutiesL]; omega
theorem people_words : ∀ p, 1 ≤ p → p ≤ 4 → areWords (peopleL.take p) 4 = true ∧ (peopleL.take p).Nodup ∧ ∀ s ∈ peopleL.take p, s.length ≤ LN := by
  have h : ∀ s ∈ peopleL, s.length ≤ 100 := by decide +kernel
  intro p h1 h2
  refine ⟨?_, ?_, fun s hs => LN_le _ (by have := h s (List.mem_of_mem_take hs); omega)⟩
  · have h3 : ∀ p ≤ 4, 1 ≤ p → areWords (peopleL.take p) 4 = true := by decide +kernel
    exact h3 p h2 h1
  · have h3 : ∀ p ≤ 4, (peopleL.take p).Nodup := by decide +kernel
    exact h3 p h2
theorem duties_words : ∀ p, 1 ≤ p → p ≤ 3 → areWords (dutiesL.take p) 3 = true ∧ (dutiesL.take p).Nodup ∧ ∀ s ∈ dutiesL.take p, s.length ≤ LN := by
  have h : ∀ s ∈ dutiesL, s.length ≤ 100 := by decide +kernel
  intro p h1 h2
  refine ⟨?_, ?_, fun s hs => LN_le _ (by have := h s (List.mem_of_mem_take hs); omega)⟩
  · have h3 : ∀ p ≤ 3, 1 ≤ p → areWords (dutiesL.take p) 3 = true := by decide +kernel
    exact h3 p h2 h1
  · have h3 : ∀ p ≤ 3, (dutiesL.take p).Nodup := by decide +kernel
    exact h3 p h2
theorem wardOf_ok {d p u : Nat} {b r w} {most nr : Nat} (hn : nr ≤ 12) (h : PartsOk d p u b r w most nr) : (wardOf d p u b r w).ok := by
  have hp := wardOf_p (b := b) (r := r) (w := w) h.s
  have hu := wardOf_u (b := b) (r := r) (w := w) h.s
  obtain ⟨a1, a2, a3⟩ := people_words p h.s.p1 h.s.p4
  obtain ⟨b1, b2, b3⟩ := duties_words u h.s.u1 h.s.u3
  refine ⟨h.s.d1, h.s.d5, a1, a2, a3, b1, b2, b3, ?_, h.b9, ?_, ?_, h.wn, ?_⟩
  · exact h.bl.trans hu.symm
  · have := h.rn
    show r.length ≤ 12
    omega
  · rw [hp, hu]; exact h.ro
  · rw [hp, hu]; exact h.wo
def SpWardL (f : Fn) : Prop := ∀ (d p u : Nat) b r w (most nr : Nat) S, nr ≤ 12 → PartsOk d p u b r w most nr → f [.d (partsD d p u b r w)] S = .ok (.d (wardOf d p u b r w).D) S
theorem ward_law_ok (phi : Nat → Fn) (h214 : SpWard (phi 214)) (h240 : SpNames (phi 240)) : SpWardL (mkFn 1 7 (b__law_ward.den phi)) := by
  intro d p u b r w most nr S hn h
  have e := h214 (wardOf d p u b r w) S (wardOf_ok hn h)
  simp only [wardOf] at e
  simp [mkFn_eq, b__law_ward, partsD, sizeT, h240 _ _ _, e, madeD_app, WardP.D, WardP.fs, wardOf]
def SpTableL (f : Fn) : Prop := ∀ (c : Cell) (T : List Cell) (d p u : Nat), RowOk c → SzOk d p u → ∃ (r : List (List Nat)) (c' : Cell), f [.l (.inr 0), .d (sizeT d p u)] (c :: T) = .ok (.d (rosterD r)) (c' :: T) ∧ RosOk d p u r ∧ RowOk c'
theorem life_law_ok (phi : Nat → Fn) (h233 : SpTaken (phi 233)) (c : Cell) (T : List Cell) (d p u : Nat) (x : Slot) (hc : RowOk c) (hs : SzOk d p u) : ∃ (l : List Nat) (c' : Cell), (E.bi .tuple (.cons (.fr (.lc (.nm 2) (.rg1 (.ix (.nm 1) (.k (.int 0)))) .none (.ca 233 (.cons (.nm 0) (.cons (.ix (.nm 1) (.k (.int 2))) .nil))) [2])) .nil)).den phi [.w (.l (.inr 0)), .w (.d (sizeT d p u)), .un, x] (c :: T) = .ok (.d (lifeD l)) (c' :: T) ∧ (l.length = d ∧ ∀ a ∈ l, a < u) ∧ RowOk c' := by
  obtain ⟨R, hR⟩ : ∃ R, (E.bi .tuple (.cons (.fr (.lc (.nm 2) (.rg1 (.ix (.nm 1) (.k (.int 0)))) .none (.ca 233 (.cons (.nm 0) (.cons (.ix (.nm 1) (.k (.int 2))) .nil))) [2])) .nil)).den phi [.w (.l (.inr 0)), .w (.d (sizeT d p u)), .un, x] (c :: T) = R := ⟨_, rfl⟩
  rw [hR]
  have r3 : rgOk (d : Int) = true := rgOk_ok (by have := hs.d5; omega) (by have := hs.d5; omega)
  have r4 : d ≤ LN := LN_le _ (by have := hs.d5; omega)
  simp [sizeT, r3, r4] at hR
  generalize hL2 : lcL _ _ _ = o at hR
  obtain ⟨l, S3, rfl, ⟨c3, rfl, k3⟩, n3, b3⟩ := lcL_exM nD (RowS T) (fun b => b < u) hL2 ⟨c, rfl, hc⟩ (by
    rintro x _ S1 ⟨c2, rfl, k2⟩
    obtain ⟨b, c4, e4, l4, k4⟩ := h233 c2 T u k2 hs.u1 (by have := hs.u3; omega)
    exact ⟨b, c4 :: T, by simp [e4], ⟨c4, rfl, k4⟩, l4⟩)
  simp at hR
  refine ⟨l, c3, ?_, ⟨by simpa using n3, b3⟩, k3⟩
  rw [← hR]
  rfl
theorem rows_law_ok (phi : Nat → Fn) (e : E) (T : List Cell) (d p u : Nat) (he : ∀ c x, RowOk c → ∃ (l : List Nat) (c' : Cell), e.den phi [.w (.l (.inr 0)), .w (.d (sizeT d p u)), .un, x] (c :: T) = .ok (.d (lifeD l)) (c' :: T) ∧ (l.length = d ∧ ∀ a ∈ l, a < u) ∧ RowOk c') (c : Cell) (hc : RowOk c) (hs : SzOk d p u) : ∃ (r : List (List Nat)) (c' : Cell), (E.bi .tuple (.cons (.fr (.lc (.nm 3) (.rg1 (.ix (.nm 1) (.k (.int 1)))) .none e [3])) .nil)).den phi [.w (.l (.inr 0)), .w (.d (sizeT d p u)), .un, .un] (c :: T) = .ok (.d (rosterD r)) (c' :: T) ∧ RosOk d p u r ∧ RowOk c' := by
  obtain ⟨R, hR⟩ : ∃ R, (E.bi .tuple (.cons (.fr (.lc (.nm 3) (.rg1 (.ix (.nm 1) (.k (.int 1)))) .none e [3])) .nil)).den phi [.w (.l (.inr 0)), .w (.d (sizeT d p u)), .un, .un] (c :: T) = R := ⟨_, rfl⟩
  rw [hR]
  have r1 : rgOk (p : Int) = true := rgOk_ok (by have := hs.p4; omega) (by have := hs.p4; omega)
  have r2 : p ≤ LN := LN_le _ (by have := hs.p4; omega)
  have e0 : ixD (sizeT d p u) (.int 1) = some (.int p) := by simp [sizeT]
  simp [r1, r2, e0] at hR
  generalize hL : lcL _ _ _ = o at hR
  obtain ⟨rs, S2, rfl, ⟨c2, rfl, k2⟩, n2, b2⟩ := lcL_exM lifeD (RowS T) (fun l => l.length = d ∧ ∀ a ∈ l, a < u) hL ⟨c, rfl, hc⟩ (by
    rintro x _ S1 ⟨c2, rfl, k2⟩
    obtain ⟨l, c3, e3, b3, k3⟩ := he c2 (.w (.d x)) k2
    exact ⟨l, c3 :: T, by simp [e3], ⟨c3, rfl, k3⟩, b3⟩)
  simp at hR
  refine ⟨rs, c2, ?_, ⟨by simpa using n2, fun l hl => (b2 l hl).1, fun l hl => (b2 l hl).2⟩, k2⟩
  rw [← hR]
  rfl
theorem table_law_ok (phi : Nat → Fn) (h233 : SpTaken (phi 233)) : SpTableL (mkFn 2 4 (b__law_table.den phi)) := by
  intro c T d p u hc hs
  obtain ⟨r, c', e, h, k⟩ := rows_law_ok phi _ T d p u (fun c x hc => life_law_ok phi h233 c T d p u x hc hs) c hc hs
  refine ⟨r, c', ?_, h, k⟩
  rw [mkFn_eq 2 4 _ [.l (.inr 0), .d (sizeT d p u)] _ rfl, b__law_table, den_scons, den_ret]
  have e1 : List.map Slot.w [W.l (.inr 0), W.d (sizeT d p u)] ++ List.replicate (4 - 2) Slot.un = [.w (.l (.inr 0)), .w (.d (sizeT d p u)), .un, .un] := rfl
  rw [e1, e]
  simp
end Rg.M
set_option Elab.async false
set_option linter.all false
set_option maxRecDepth 100000
set_option maxHeartbeats 4000000
namespace Rg.M
open PySem PySem.Spec PyProof.Rows L2
theorem pls_of : ∀ (xs : List D) (k : Nat), (∀ x ∈ xs, x.pl = true ∧ x.py.depth ≤ k) → D.pls xs = true ∧ PyData.depthAll (D.pys xs) ≤ k
  | [], k, _ => ⟨rfl, by simp [D.pys, PyData.depthAll]⟩
  | x :: l, k, h => by
    obtain ⟨a, b⟩ := pls_of l k fun y hy => h y (by simp [hy])
    obtain ⟨c, d⟩ := h x (by simp)
    simp only [D.pys, D.pls, PyData.depthAll, a, c]
    exact ⟨rfl, by omega⟩
theorem eq_nil (xs : List D) (h : ∀ x ∈ xs, x.pl = true ∧ x.py.depth ≤ 50) : O2.f .eq (.lst xs) (.lst []) = some (.bl xs.isEmpty) := by
  obtain ⟨h1, h2⟩ := pls_of xs 50 h
  rw [f_eq _ _ (by simp [eqOk, D.pl, D.pls, D.py, PyData.depth, h1, dLine]; omega)]
  congr 2
  cases xs <;> rfl
theorem ne_nil (xs : List D) (h : ∀ x ∈ xs, x.pl = true ∧ x.py.depth ≤ 50) : O2.f .ne (.lst xs) (.lst []) = some (.bl (!xs.isEmpty)) := by
  obtain ⟨h1, h2⟩ := pls_of xs 50 h
  rw [f_ne _ _ (by simp [eqOk, D.pl, D.pls, D.py, PyData.depth, h1, dLine]; omega)]
  congr 2
  cases xs <;> rfl
theorem int_pl (i : Int) : (D.int i).pl = true ∧ (D.int i).py.depth ≤ 50 := ⟨rfl, by simp [D.py, PyData.depth]⟩
theorem life_pl (l : List Nat) : (lifeD l).pl = true ∧ (lifeD l).py.depth ≤ 50 := by
  obtain ⟨h1, h2⟩ := nums_depth l
  simp [lifeD, D.pl, D.py, PyData.depth, h1, h2]
theorem filter_isEmpty {α : Type} (c : α → Bool) : ∀ l : List α, (l.filter c).isEmpty = l.all fun x => !c x
  | [] => rfl
  | x :: l => by
    rw [List.filter_cons, List.all_cons, ← filter_isEmpty c l]
    cases c x <;> simp
theorem zipIdx_all_fst {α : Type} (g : α → Bool) (l : List α) : (l.zipIdx.all fun p => g p.1) = l.all g := by
  have h : l.zipIdx.map (·.1) = l := by simp
  rw [← h, List.all_map, h]
  rfl
theorem zipIdx_all_at {α : Type} (g : α → Bool) (l : List α) (q : Nat) (h : q < l.length) : (l.zipIdx.all fun p => !decide (q = p.2) || g p.1) = g l[q] := by
  rw [Bool.eq_iff_iff, List.all_eq_true]
  constructor
  · intro H
    have := H (l[q], q) (by rw [List.mem_zipIdx_iff_getElem?]; simp [h])
    simpa using this
  · intro H p hp
    rw [List.mem_zipIdx_iff_getElem?] at hp
    by_cases e : q = p.2
    · subst e
      rw [List.getElem?_eq_getElem h] at hp
      injection hp with hp
      rw [← hp, H]
      simp
    · simp [e]
theorem never_eq (a b : Nat) (l : List Nat) : ((List.range (l.length - 1)).all fun k => !(decide (l.getD k 0 = a) && decide (l.getD (k + 1) 0 = b))) = !decide ((a, b) ∈ l.zip l.tail) := by
  rw [Bool.eq_iff_iff]
  simp only [List.all_eq_true, List.mem_range, Bool.not_eq_true', Bool.and_eq_false_imp, decide_eq_true_eq, decide_eq_false_iff_not]
  constructor
  · intro H hm
    obtain ⟨k, hk, e⟩ := List.getElem_of_mem hm
    have hk' : k < l.length - 1 := by
      simp at hk
      omega
    rw [List.getElem_zip, Prod.mk.injEq, List.getElem_tail] at e
    refine H k hk' ?_ ?_
    · rw [List.getD_eq_getElem?_getD, List.getElem?_eq_getElem (by omega)]
      exact e.1
    · rw [List.getD_eq_getElem?_getD, List.getElem?_eq_getElem (by omega)]
      exact e.2
  · intro H k hk h1 h2
    rw [List.getD_eq_getElem?_getD, List.getElem?_eq_getElem (by omega)] at h1 h2
    apply H
    have hz : k < (l.zip l.tail).length := by
      simp
      omega
    have : (l.zip l.tail)[k] = (a, b) := by
      rw [List.getElem_zip, List.getElem_tail]
      exact Prod.ext h1 h2
    rw [← this]
    exact List.getElem_mem hz
def SpKeepsL (f : Fn) : Prop := ∀ (d p u : Nat) (r : List (List Nat)) (x : Rule) S, SzOk d p u → RosOk d p u r → x.ok d p u → f [.d (sizeT d p u), .d (rosterD r), .d x.D] S = .ok (.d (.bl (keepsR d x r))) S
theorem keepsR_never (d a b : Nat) (r : List (List Nat)) : keepsR d (.never a b) r = r.all fun l => !decide ((a, b) ∈ l.zip l.tail) := zipIdx_all_fst (fun l : List Nat => !decide ((a, b) ∈ l.zip l.tail)) r
theorem keepsR_inr (d n a k : Nat) (r : List (List Nat)) (h : ∀ l ∈ r, l.length = d) : keepsR d (.inr n a k) r = r.all fun l => (List.range (d - k + 1)).all fun i => decide (((l.drop i).take k).count a ≤ n) := by
  refine (zipIdx_all_fst (fun l : List Nat => (List.range (l.length - k + 1)).all fun i => decide (((l.drop i).take k).count a ≤ n)) r).trans ?_
  rw [Bool.eq_iff_iff, List.all_eq_true, List.all_eq_true]
  constructor
  · intro H l hl; have := H l hl; rw [h l hl] at this; exact this
  · intro H l hl; rw [h l hl]; exact H l hl
theorem filter_count (l : List Nat) (a : Nat) : (l.filter fun x => decide (x = a)).length = l.count a := by
  rw [List.count_eq_countP, List.countP_eq_length_filter]
  rfl
theorem fm_count (a : Nat) : ∀ l : List Nat, (l.filterMap fun x => if x = a then some (1 : Nat) else none).length = l.count a
  | [] => rfl
  | x :: l => by
    have ih := fm_count a l
    by_cases h : x = a
    · subst h
      simp [ih]
    · simp [h, ih]
theorem keeps_law_ok (phi : Nat → Fn) : SpKeepsL (mkFn 3 13 (b__law_keeps.den phi)) := by
  intro d p u r x S hs hr hx
  have hd := hs.d5
  have hd1 := hs.d1
  have hp := hs.p4
  have hrl : r.length ≤ LN := LN_le _ (by rw [hr.n]; omega)
  cases x with
  | every a n =>
    have h1 : rgOk ((d : Int) + 1) = true := rgOk_d (by omega)
    have h2 : d ≤ LN := LN_le _ (by omega)
    simp [mkFn_eq, b__law_keeps, Rule.D, sizeT, rosterD, h1, rgOk_1, h2, hrl, rangeD_map]
    rw [lcL_filterM (fun i : Nat => D.int (1 + (i : Int))) (fun i => !decide (manyOn r (i + 1) a = n))]
    · simp
      rw [eq_nil _ (fun x hx => by
        simp only [List.mem_map] at hx
        obtain ⟨i, _, rfl⟩ := hx
        exact int_pl _)]
      simp [keepsR, filter_isEmpty]
    · intro i hi
      have hi' : i < d := by simpa using hi
      rw [lcL_filterM lifeD (fun l => decide (l.getD i 0 = a))]
      · simp [manyOn, List.countP_eq_length_filter, Int.natCast_inj]
        split <;> simp_all
      · intro l hl
        have h3 : atI (l.map nD) (1 + (i : Int) - 1) = some (nD (l.getD i 0)) := by
          have := atI_life (l := l) (k := i + 1) (by omega) (by rw [hr.l l hl]; omega)
          rw [show (1 : Int) + (i : Int) - 1 = ((i + 1 : Nat) : Int) - 1 by omega]
          exact this
        simp [lifeD, h3, Int.natCast_inj]
        split <;> simp_all
  | day k a n =>
    simp only [Rule.ok] at hx
    have h2 : (1 : Nat) ≤ LN := LN_le _ (by omega)
    simp [mkFn_eq, b__law_keeps, Rule.D, sizeT, rosterD, h2, hrl]
    rw [show [D.int (k : Int)] = [k].map nD from rfl, lcL_filterM nD (fun i => !decide (manyOn r k a = n))]
    · simp
      rw [eq_nil _ (fun x hx => by
        simp only [List.mem_map] at hx
        obtain ⟨i, _, rfl⟩ := hx
        exact int_pl _)]
      by_cases h : manyOn r k a = n <;> simp [keepsR, h]
    · intro i hi
      simp only [List.mem_singleton] at hi
      subst hi
      rw [lcL_filterM lifeD (fun l => decide (l.getD (i - 1) 0 = a))]
      · simp [manyOn, List.countP_eq_length_filter, Int.natCast_inj]
        split <;> simp_all
      · intro l hl
        have h3 := atI_life (l := l) (k := i) hx.1 (by rw [hr.l l hl]; omega)
        simp [lifeD, h3, Int.natCast_inj]
        split <;> simp_all
  | never a b =>
    rw [keepsR_never]
    have h1 : rgOk ((d : Int) - 1) = true := rgOk_ok (by omega) (by omega)
    have h2 : d - 1 ≤ LN := LN_le _ (by omega)
    have h3 : ((d : Int) - 1).toNat = d - 1 := by omega
    simp [mkFn_eq, b__law_keeps, Rule.D, sizeT, rosterD, h1, h2, h3, hrl, rangeD_map]
    rw [lcL_filterM lifeD (fun l => decide ((a, b) ∈ l.zip l.tail))]
    · simp
      rw [eq_nil _ (fun x hx => by
        simp only [List.mem_map] at hx
        obtain ⟨i, _, rfl⟩ := hx
        exact life_pl _)]
      simp [filter_isEmpty]
    · intro l hl
      have hl' := hr.l l hl
      rw [lcL_filterM (fun i : Nat => D.int (i : Int)) (fun k => decide (l.getD k 0 = a) && decide (l.getD (k + 1) 0 = b))]
      · simp
        rw [ne_nil _ (fun x hx => by
          simp only [List.mem_map] at hx
          obtain ⟨i, _, rfl⟩ := hx
          exact int_pl _)]
        have h4 := never_eq a b l
        rw [hl', ← filter_isEmpty] at h4
        simp [h4]
        split <;> simp_all
      · intro i hi
        have hi' : i < d - 1 := by simpa using hi
        have h5 : atI (l.map nD) (i : Int) = some (nD (l.getD i 0)) := by
          rw [atI_nat, List.getElem?_map, List.getElem?_eq_getElem (by omega), List.getD_eq_getElem?_getD, List.getElem?_eq_getElem (by omega)]
          rfl
        have h6 : atI (l.map nD) ((i : Int) + 1) = some (nD (l.getD (i + 1) 0)) := by
          rw [show (i : Int) + 1 = ((i + 1 : Nat) : Int) by omega, atI_nat, List.getElem?_map, List.getElem?_eq_getElem (by omega), List.getD_eq_getElem?_getD, List.getElem?_eq_getElem (by omega)]
          rfl
        simp only [lifeD]
        simp [h5, h6, Int.natCast_inj]
        by_cases e : l[i]?.getD 0 = a <;> simp [e, h6, lifeD, Int.natCast_inj]
        split <;> simp_all
  | inr n a k =>
    rw [keepsR_inr _ _ _ _ _ hr.l]
    simp only [Rule.ok] at hx
    have h1 : rgOk ((d : Int) - k + 1) = true := rgOk_ok (by omega) (by omega)
    have h2 : d - k + 1 ≤ LN := LN_le _ (by omega)
    have h3 : ((d : Int) - k + 1).toNat = d - k + 1 := by omega
    simp [mkFn_eq, b__law_keeps, Rule.D, sizeT, rosterD, h1, h2, h3, hrl, rangeD_map]
    rw [lcL_filterM lifeD (fun l => !((List.range (d - k + 1)).all fun i => decide (((l.drop i).take k).count a ≤ n)))]
    · simp
      rw [eq_nil _ (fun x hx => by
        simp only [List.mem_map] at hx
        obtain ⟨i, _, rfl⟩ := hx
        exact life_pl _)]
      simp [filter_isEmpty]
    · intro l hl
      have hl' := hr.l l hl
      rw [lcL_filterM (fun i : Nat => D.int (i : Int)) (fun i => !decide (((l.drop i).take k).count a ≤ n))]
      · simp
        rw [ne_nil _ (fun x hx => by
          simp only [List.mem_map] at hx
          obtain ⟨i, _, rfl⟩ := hx
          exact int_pl _)]
        simp [filter_isEmpty]
        split <;> simp_all
      · intro i hi
        have h4 := cut_ij nD l i (i + k)
        simp only [Int.natCast_add, Nat.add_sub_cancel_left] at h4
        have h5 : min k (l.length - i) ≤ LN := LN_le _ (by omega)
        simp [lifeD, slD, h4, -List.map_take, -List.map_drop, h5]
        rw [lcL_mapM nD (fun x => if x = a then some (1 : Nat) else none) (fun _ => D.int 1)]
        · have h6 := fm_count a ((l.drop i).take k)
          simp [h6]
          by_cases h7 : n < List.count a (List.take k (List.drop i l)) <;> simp [h7]
        · intro x hx
          by_cases h7 : x = a <;> simp [h7, Int.natCast_inj]
  | has q a k =>
    simp only [Rule.ok] at hx
    have hq : q < r.length := by rw [hr.n]; exact hx.1
    have h3 : atI (r.map lifeD) (q : Int) = some (lifeD r[q]) := by rw [atI_nat, List.getElem?_map, List.getElem?_eq_getElem hq]; rfl
    have hl := hr.l _ (List.getElem_mem hq)
    have h4 := atI_life (l := r[q]) (k := k) hx.2.2.1 (by rw [hl]; omega)
    have h5 := zipIdx_all_at (fun l : List Nat => decide (l.getD (k - 1) 0 = a)) r q hq
    simp only [keepsR, lifeKeeps]
    rw [h5]
    simp only [lifeD] at h3
    simp [mkFn_eq, b__law_keeps, Rule.D, sizeT, rosterD, lifeD, h3, h4, Int.natCast_inj]
  | hasnt q a k =>
    simp only [Rule.ok] at hx
    have hq : q < r.length := by rw [hr.n]; exact hx.1
    have h3 : atI (r.map lifeD) (q : Int) = some (lifeD r[q]) := by rw [atI_nat, List.getElem?_map, List.getElem?_eq_getElem hq]; rfl
    have hl := hr.l _ (List.getElem_mem hq)
    have h4 := atI_life (l := r[q]) (k := k) hx.2.2.1 (by rw [hl]; omega)
    have h5 := zipIdx_all_at (fun l : List Nat => !decide (l.getD (k - 1) 0 = a)) r q hq
    simp only [keepsR, lifeKeeps]
    rw [h5]
    simp only [lifeD] at h3
    simp [mkFn_eq, b__law_keeps, Rule.D, sizeT, rosterD, lifeD, h3, h4, Int.natCast_inj]
  | least q n a =>
    simp only [Rule.ok] at hx
    have hq : q < r.length := by rw [hr.n]; exact hx.1
    have h3 : atI (r.map lifeD) (q : Int) = some (lifeD r[q]) := by rw [atI_nat, List.getElem?_map, List.getElem?_eq_getElem hq]; rfl
    have hl := hr.l _ (List.getElem_mem hq)
    have h2 : (r[q]).length ≤ LN := LN_le _ (by rw [hl]; omega)
    have h5 := zipIdx_all_at (fun l : List Nat => decide (n ≤ l.count a)) r q hq
    simp only [keepsR, lifeKeeps]
    rw [h5]
    simp only [lifeD] at h3
    simp [mkFn_eq, b__law_keeps, Rule.D, sizeT, rosterD, lifeD, h3, h2]
    rw [lcL_filterM nD (fun x => decide (x = a))]
    · simp [filter_count]
      try omega
    · intro x hx
      by_cases h7 : x = a <;> simp [h7, Int.natCast_inj]
  | most q n a =>
    simp only [Rule.ok] at hx
    have hq : q < r.length := by rw [hr.n]; exact hx.1
    have h3 : atI (r.map lifeD) (q : Int) = some (lifeD r[q]) := by rw [atI_nat, List.getElem?_map, List.getElem?_eq_getElem hq]; rfl
    have hl := hr.l _ (List.getElem_mem hq)
    have h2 : (r[q]).length ≤ LN := LN_le _ (by rw [hl]; omega)
    have h5 := zipIdx_all_at (fun l : List Nat => decide (l.count a ≤ n)) r q hq
    simp only [keepsR, lifeKeeps]
    rw [h5]
    simp only [lifeD] at h3
    simp [mkFn_eq, b__law_keeps, Rule.D, sizeT, rosterD, lifeD, h3, h2]
    rw [lcL_filterM nD (fun x => decide (x = a))]
    · simp [filter_count]
      try omega
    · intro x hx
      by_cases h7 : x = a <;> simp [h7, Int.natCast_inj]
end Rg.M
set_option Elab.async false
set_option linter.all false
set_option maxRecDepth 100000
set_option maxHeartbeats 4000000
namespace Rg.M
open PySem PySem.Spec PyProof.Rows L2
def alikeB (n0 : Nat) : Sts := .cons (.ite (.isi (.nm 1) [.ty "tuple", .ty "list"]) (.cons (.ite (.bo false (.cons (.nt (.isi (.nm 0) [.ty "tuple", .ty "list"])) (.cons (.o2 .ne (.isi (.nm 0) [.ty "list"]) (.isi (.nm 1) [.ty "list"])) .nil))) (.cons (.ret (.k (.bl false))) .nil) .nil) (.cons (.ite (.o2 .ne (.bi .len (.cons (.nm 0) .nil)) (.bi .len (.cons (.nm 1) .nil))) (.cons (.ret (.k (.bl false))) .nil) .nil) (.cons (.ret (.o2 .eq (.fr (.lc (.nm 2) (.rg1 (.bi .len (.cons (.nm 1) .nil))) (.some (.nt (.ca n0 (.cons (.ix (.nm 0) (.nm 2)) (.cons (.ix (.nm 1) (.nm 2)) .nil))))) (.nm 2) [2])) (.fr (.lst .nil)))) .nil))) .nil) (.cons (.ite (.isi (.nm 1) [.ty "dict"]) (.cons (.ite (.bo false (.cons (.nt (.isi (.nm 0) [.ty "dict"])) (.cons (.o2 .ne (.bi .list (.cons (.nm 0) .nil)) (.bi .list (.cons (.nm 1) .nil))) .nil))) (.cons (.ret (.k (.bl false))) .nil) .nil) (.cons (.ret (.o2 .eq (.fr (.lc (.nm 3) (.e (.nm 1)) (.some (.nt (.ca n0 (.cons (.ix (.nm 0) (.nm 3)) (.cons (.ix (.nm 1) (.nm 3)) .nil))))) (.nm 3) [3])) (.fr (.lst .nil)))) .nil)) .nil) (.cons (.ite (.bo false (.cons (.o2 .isx (.nm 1) (.k (.non))) (.cons (.isi (.nm 1) [.ty "str"]) .nil))) (.cons (.ret (.bo true (.cons (.o2 .eq (.nm 0) (.nm 1)) (.cons (.o2 .eq (.isi (.nm 0) [.ty "str"]) (.isi (.nm 1) [.ty "str"])) .nil)))) .nil) .nil) (.cons (.ret (.bo true (.cons (.isi (.nm 0) [.ty "int"]) (.cons (.o2 .eq (.isi (.nm 0) [.ty "bool"]) (.isi (.nm 1) [.ty "bool"])) (.cons (.o2 .eq (.nm 0) (.nm 1)) .nil))))) .nil)))
def okA : Nat → D → Prop
  | 0, _ => False
  | _ + 1, .non => True
  | _ + 1, .bl _ => True
  | _ + 1, .int _ => True
  | _ + 1, .str _ => True
  | n + 1, .tp _ l => l.length ≤ 16777216 ∧ ∀ x ∈ l, okA n x
  | n + 1, .lst l => l.length ≤ 16777216 ∧ ∀ x ∈ l, okA n x
  | _ + 1, _ => False
def SpAlike (n : Nat) (f : Fn) : Prop := ∀ v S, okA n v → f [.d v, .d v] S = .ok (.d (.bl true)) S
theorem eq_nil_nil : O2.f .eq (.lst []) (.lst []) = some (.bl true) := by
  rw [f_eq _ _ (by simp [eqOk, D.pl, D.pls, D.py, D.pys, PyData.depth, PyData.depthAll, dLine])]
  rfl
theorem eq_non : O2.f .eq .non .non = some (.bl true) := by
  rw [f_eq _ _ rfl]
  rfl
@[simp] theorem f_isx_non (a : D) : O2.f .isx a .non = some (.bl (decide (a = .non))) := by cases a <;> rfl
theorem fm_none {α β : Type} : ∀ l : List α, List.filterMap (fun _ => (none : Option β)) l = []
  | [] => rfl
  | _ :: l => by simp
theorem alike_ok (phi : Nat → Fn) (n n0 : Nat) (h : SpAlike n (phi n0)) : SpAlike (n + 1) (mkFn 2 4 ((alikeB n0).den phi)) := by
  intro v S hv
  cases v with
  | non => simp [mkFn_eq, alikeB, isTy, tyD, eq_non]
  | bl b => simp [mkFn_eq, alikeB, isTy, tyD]
  | int b => simp [mkFn_eq, alikeB, isTy, tyD]
  | str b => simp [mkFn_eq, alikeB, isTy, tyD]
  | dct _ _ => exact hv.elim
  | obj _ _ => exact hv.elim
  | tp c l =>
    obtain ⟨h1, h2⟩ := hv
    have h3 : rgOk (l.length : Int) = true := rgOk_ok (by omega) (by omega)
    have h4 : l.length ≤ LN := LN_le _ h1
    simp [mkFn_eq, alikeB, isTy, tyD, h3, h4, rangeD_map]
    rw [lcL_mapM (fun i : Nat => D.int (i : Int)) (fun _ => (none : Option Nat)) nD]
    · simp [eq_nil_nil, fm_none]
    · intro i hi
      have hi' : i < l.length := by simpa using hi
      simp [atI_nat, List.getElem?_eq_getElem hi', h _ _ (h2 _ (List.getElem_mem hi'))]
  | lst l =>
    obtain ⟨h1, h2⟩ := hv
    have h3 : rgOk (l.length : Int) = true := rgOk_ok (by omega) (by omega)
    have h4 : l.length ≤ LN := LN_le _ h1
    simp [mkFn_eq, alikeB, isTy, tyD, h3, h4, rangeD_map]
    rw [lcL_mapM (fun i : Nat => D.int (i : Int)) (fun _ => (none : Option Nat)) nD]
    · simp [eq_nil_nil, fm_none]
    · intro i hi
      have hi' : i < l.length := by simpa using hi
      simp [atI_nat, List.getElem?_eq_getElem hi', h _ _ (h2 _ (List.getElem_mem hi'))]
theorem hereL {Sp : Fn → Prop} {d : Dx} {l : List Dx} (h : Sp (mkFn d.ps.length d.N.length (d.b.den (phiOf l)))) : Sp (phiOf (d :: l) d.ix) := by
  have e : phiOf (d :: l) d.ix = mkFn d.ps.length d.N.length (d.b.den (phiOf l)) := if_pos rfl
  rw [e]
  exact h
theorem liftL {Sp : Fn → Prop} : ∀ (A : List Dx) {l : List Dx} {n : Nat}, Sp (phiOf l n) → (A.all fun d => !decide (n = d.ix)) = true → Sp (phiOf (A ++ l) n)
  | [], _, _, h, _ => h
  | d :: A, l, n, h, e => by
    rw [List.all_cons, Bool.and_eq_true] at e
    have h2 := liftL A h e.2
    have e3 : phiOf (d :: (A ++ l)) n = phiOf (A ++ l) n := if_neg (by simpa using e.1)
    show Sp (phiOf (d :: (A ++ l)) n)
    rw [e3]
    exact h2
theorem alike0 (f : Fn) : SpAlike 0 f := fun _ _ h => h.elim
end Rg.M
set_option Elab.async false
set_option linter.all false
set_option maxRecDepth 100000
set_option maxHeartbeats 4000000
namespace Rg.M
open PySem PySem.Spec PyProof.Rows L2
theorem pick_of {f : Fn} {c : Cell} {T : List Cell} {L : List D} {Q : Res W} (hQ : f [.l (.inr 0), .d (.lst L)] (c :: T) = Q) (h : SpPick f) (hc : RowOk c) (hl : L ≠ []) (hn : L.length < 1073741824) : ∃ v c', Q = .ok (.d v) (c' :: T) ∧ v ∈ L ∧ RowOk c' := by
  rw [← hQ]
  exact h c T L hc hl hn
theorem cut_m1 (l : List D) (x : D) : cutD (l ++ [x]) none (some (-1)) = l := by
  unfold cutD
  have h : HT.sIx (l ++ [x]).length (l ++ [x]).length (some (-1)) = l.length := by
    show (if (-1 : Int) < 0 then ((-1 : Int) + ((l ++ [x]).length : Int)).toNat else min (-1 : Int).toNat (l ++ [x]).length) = l.length
    rw [if_pos (by decide), List.length_append, List.length_singleton]
    omega
  rw [h, HT.sIx_none]
  simp
theorem cut_1 (l : List D) : cutD l none (some 1) = l.take 1 := by
  have := cut_j id l 1
  simpa using this
theorem atI_last (l : List D) (x : D) : atI (l ++ [x]) (-1) = some x := by
  rw [atI_m1 _ (by simp)]
  simp
theorem f_add_tup {a b : List D} (h : a.length + b.length ≤ LN) : O2.f .add (.tup a) (.tup b) = some (.tup (a ++ b)) := by
  show (if (true && true) = true ∧ a.length + b.length ≤ LN then some (D.tup (a ++ b)) else none) = _
  rw [if_pos ⟨rfl, h⟩]
theorem f_add_lst {a b : List D} (h : a.length + b.length ≤ LN) : O2.f .add (.lst a) (.lst b) = some (.lst (a ++ b)) := by
  show (if a.length + b.length ≤ LN then some (D.lst (a ++ b)) else none) = _
  rw [if_pos h]
theorem isTable_len {d p u : Nat} {c : Bool} {l : List D} (h : l.length ≠ p) : isTable d p u (.tp c l) = false := by
  simp [isTable, h]
theorem isTable_last {d p u : Nat} {l : List D} {y : D} (h : areNumbers y d 0 ((u : Int) - 1) = false) : isTable d p u (.tup (l ++ [y])) = false := by
  simp [isTable, h]
theorem areNumbers_len {l : List D} {m lo hi : Int} (h : (l.length : Int) ≠ m) : areNumbers (.tup l) m lo hi = false := by
  simp [areNumbers, h]
theorem areNumbers_last {l : List D} {y : D} {m lo hi : Int} (h : isNumber y lo hi = false) : areNumbers (.tup (l ++ [y])) m lo hi = false := by
  simp [areNumbers, h]
def SpBent (f : Fn) : Prop := ∀ (c : Cell) (T : List Cell) (d p u : Nat) (r : List (List Nat)), RowOk c → SzOk d p u → RosOk d p u r → ∃ v c', f [.l (.inr 0), .d (sizeT d p u), .d (rosterD r)] (c :: T) = .ok (.d v) (c' :: T) ∧ isTable d p u v = false ∧ RowOk c'
theorem last_of {α : Type} {l : List α} (h : 1 ≤ l.length) : ∃ l0 x, l = l0 ++ [x] := by
  rcases List.eq_nil_or_concat l with rfl | ⟨l0, x, rfl⟩
  · simp at h
  · exact ⟨l0, x, by simp⟩
theorem bent_ok (phi : Nat → Fn) (h234 : SpPick (phi 234)) : SpBent (mkFn 3 4 (b__law_bent_table.den phi)) := by
  intro c T d p u r hc hs hr
  obtain ⟨R, hR⟩ : ∃ R, mkFn 3 4 (b__law_bent_table.den phi) [.l (.inr 0), .d (sizeT d p u), .d (rosterD r)] (c :: T) = R := ⟨_, rfl⟩
  rw [hR]
  obtain ⟨r0, m, rfl⟩ := last_of (l := r) (by rw [hr.n]; exact hs.p1)
  have hm := hr.l m (by simp)
  obtain ⟨m0, z, rfl⟩ := last_of (l := m) (by rw [hm]; exact hs.d1)
  have n1 := hr.n
  simp at n1 hm
  have hp := hs.p4
  have hd := hs.d5
  have l1 : ∀ n : Nat, n ≤ 100 → n ≤ LN := fun n h => LN_le _ (by omega)
  have a1 := f_add_tup (a := List.map lifeD r0 ++ [lifeD (m0 ++ [z])]) (b := (List.map lifeD r0 ++ [lifeD (m0 ++ [z])]).take 1) (l1 _ (by simp; omega))
  have a2 := fun y => f_add_tup (a := List.map lifeD r0) (b := [y]) (l1 _ (by simp; omega))
  have a3 := fun y => f_add_tup (a := List.map nD m0) (b := [y]) (l1 _ (by simp; omega))
  have a4 := f_add_tup (a := List.map nD m0 ++ [.int z]) (b := [.int 0]) (l1 _ (by simp; omega))
  simp only [lifeD, List.map_append, List.map_cons, List.map_nil, nD_int] at a1 a2
  simp [mkFn_eq, b__law_bent_table, sizeT, rosterD, slD, cut_m1, cut_1, atI_last, a1, a2, a3, a4, lifeD, f_add_lst] at hR
  generalize hQ : phi 234 _ _ = Q at hR
  obtain ⟨v, c', rfl, hv, k⟩ := pick_of hQ h234 hc (by simp) (by simp)
  simp at hR
  refine ⟨v, c', hR.symm, ?_, k⟩
  simp only [List.mem_cons, List.not_mem_nil, or_false] at hv
  rcases hv with rfl | rfl | rfl | rfl | rfl | rfl | rfl | rfl | rfl | rfl
  · rfl
  · rfl
  · refine isTable_len ?_
    cases r0 <;> simp at n1 ⊢ <;> omega
  · refine isTable_len ?_
    simp
    omega
  · rfl
  · exact isTable_last rfl
  · refine isTable_last (areNumbers_len ?_)
    simp
    omega
  · refine isTable_last (areNumbers_last ?_)
    simp [isNumber]
    omega
  · exact isTable_last (areNumbers_last rfl)
  · exact isTable_last (areNumbers_last rfl)
theorem isNumber_len (n : Nat) : isNumber (.int (n : Int)) 0 ((n : Int) - 1) = false := by
  simp [isNumber]
  omega
@[simp] theorem isx_bl (a b : Bool) : O2.f .isx (.bl a) (.bl b) = some (.bl (decide (a = b))) := Eq.trans rfl rfl
theorem heard_bad (s : Str) : heardOf (101, [(101, .str s)]) = some (.tup [.str (Str.ofString "bad"), .str s, .bl true]) := rfl
def SpRefused (f : Fn) : Prop := ∀ (c : Cell) (T : List Cell) (d p u : Nat) (b : List Nat) (rs : List Rule) (ws : List Wish) (r : List (List Nat)) (most nr : Nat), RowOk c → nr ≤ 12 → PartsOk d p u b rs ws most nr → RosOk d p u r → ∃ c', f [.l (.inr 0), .d (partsD d p u b rs ws), .d (sizeT d p u), .d (rulesD rs), .d (wardOf d p u b rs ws).D, .d (rosterD r)] (c :: T) = .ok (.d (.bl true)) (c' :: T) ∧ RowOk c'
theorem refused_ok (phi : Nat → Fn) (h230 : SpKeeps (phi 230)) (h231 : SpBroken (phi 231)) (h232 : SpIsRoster (phi 232)) (h250 : SpAlike 6 (phi 250)) (h251 : SpBent (phi 251)) : SpRefused (mkFn 6 9 (b__law_refused.den phi)) := by
  intro c T d p u b rs ws r most nr hc hn ho hr
  obtain ⟨bad, c1, e1, hb, k1⟩ := h251 c T d p u r hc ho.s hr
  refine ⟨c1, ?_, k1⟩
  have hw := wardOf_ok hn ho
  have hp := wardOf_p (b := b) (r := rs) (w := ws) ho.s
  have hu := wardOf_u (b := b) (r := rs) (w := ws) ho.s
  have hb' : isTable (wardOf d p u b rs ws).d (wardOf d p u b rs ws).p (wardOf d p u b rs ws).u bad = false := by
    rw [hp, hu]
    exact hb
  have ht : isTable (wardOf d p u b rs ws).d (wardOf d p u b rs ws).p (wardOf d p u b rs ws).u (rosterD r) = true := by
    rw [hp, hu]
    exact isTable_ros ho.s.u1 hr
  have q1 := fun S => h231.2.1 (wardOf d p u b rs ws) bad S hb'
  have q2 := fun S => h230.2.1 (wardOf d p u b rs ws) bad .non S hb'
  have q3 := fun S => h230.2.2.1 (wardOf d p u b rs ws) (rosterD r) (.int (rs.length : Int)) S ht (isNumber_len _)
  have q4 := fun S => h231.1 (partsD d p u b rs ws) bad S rfl
  have q5 := fun S => h232.1 .non .non S rfl
  have q6 := fun S => h232.2.1 (wardOf d p u b rs ws) bad S hb'
  have q7 := fun S => h250 (.lst [.tup [.str (Str.ofString "bad"), .str (Str.ofString "roster"), .bl true], .tup [.str (Str.ofString "bad"), .str (Str.ofString "roster"), .bl true], .tup [.str (Str.ofString "bad"), .str (Str.ofString "number"), .bl true], .tup [.str (Str.ofString "bad"), .str (Str.ofString "ward"), .bl true], .tup [.str (Str.ofString "bad"), .str (Str.ofString "ward"), .bl true]]) S (by simp [okA])
  simp only [rulesD]
  simp [mkFn_eq, b__law_refused, e1, q1, q2, q3, q4, q5, q6, q7, heard_bad]
end Rg.M
set_option Elab.async false
set_option linter.all false
set_option maxRecDepth 100000
set_option maxHeartbeats 4000000
namespace Rg.M
open PySem PySem.Spec PyProof.Rows L2
@[simp] theorem bi_sum (l : List D) : Bi.sum.f1 (.lst l) = (sumD l).map .int := Eq.trans rfl rfl
@[simp] theorem bi_sorted (x : D) : Bi.sorted.f1 x = srtD x := Eq.trans rfl rfl
theorem sumD_nums : ∀ l : List Nat, sumD (l.map nD) = some ((l.sum : Nat) : Int)
  | [] => rfl
  | x :: l => by
    show (match sumD (l.map nD) with | some s => some ((x : Int) + s) | none => none) = _
    rw [sumD_nums l]
    simp
def burdenN (b : List Nat) (l : List Nat) : Nat := (l.map fun a => b.getD a 0).sum
def SpBurdenIn (f : Fn) : Prop := ∀ (w : WardP) (l : List Nat) S, w.ok → l.length ≤ 1000 → (∀ a ∈ l, a < w.u) → f [.d w.D, .d (lifeD l)] S = .ok (.d (.int (burdenN w.burdens l))) S
theorem getD_nat {l : List Nat} {a : Nat} (h : a < l.length) : (l.map nD)[a]? = some (nD (l.getD a 0)) := by
  rw [List.getElem?_map, List.getElem?_eq_getElem h, List.getD_eq_getElem?_getD, List.getElem?_eq_getElem h]
  rfl
theorem burden_in_ok (phi : Nat → Fn) (h218 : SpGet (fun w => numsD w.burdens) (phi 218)) : SpBurdenIn (mkFn 2 3 (b_burden_in.den phi)) := by
  intro w l S hw hl hu
  have hn : l.length ≤ LN := LN_le _ (by omega)
  simp [mkFn_eq, b_burden_in, lifeD, hn]
  rw [lcL_mapM nD (fun a => some (w.burdens.getD a 0)) nD]
  · have e := sumD_nums (l.map fun a => w.burdens.getD a 0)
    simp at e
    simp [e, burdenN]
  · intro a ha
    have h1 : a < w.burdens.length := by rw [hw.bl]; exact hu a ha
    have h2 := getD_nat h1
    simp only [nD] at h2
    simp [isOb_ward, h218 _ _, numsD, atI_nat, h2]
def unmW (x : Wish) (q : Nat) (l : List Nat) : Bool := decide (x.q = q) && !decide (decide (l.getD (x.k - 1) 0 = x.a) = x.on)
def unmetN : List Wish → Nat → List Nat → Nat
  | [], _, _ => 0
  | x :: ws, q, l => (if unmW x q l = true then x.w else 0) + unmetN ws q l
def SpUnmetIn (f : Fn) : Prop := ∀ (w : WardP) (q : Nat) (l : List Nat) S, w.ok → l.length = w.d → f [.d w.D, .d (.int q), .d (lifeD l)] S = .ok (.d (.int (unmetN w.wishes q l))) S
def unmT : Tg := (.tp (.cons (.nm 4) (.cons (.nm 5) (.cons (.nm 6) (.cons (.nm 7) (.cons (.nm 8) .nil))))))
def unmB : Sts := (.cons (.ite (.bo true (.cons (.o2 .eq (.nm 4) (.nm 1)) (.cons (.o2 .ne (.o2 .eq (.ix (.nm 2) (.o2 .sub (.nm 6) (.k (.int 1)))) (.nm 5)) (.nm 7)) .nil))) (.cons (.aug 3 .add (.nm 8)) .nil) .nil) .nil)
theorem unm_step (phi : Nat → Fn) (x : Wish) (q tot : Nat) (l : List Nat) (S : List Cell) (s0 s4 s5 s6 s7 s8 : Slot) (hk : 1 ≤ x.k ∧ x.k ≤ l.length) : ∃ t4 t5 t6 t7 t8, (Out.opt (unmT.set x.D [s0, .w (.d (.int q)), .w (.d (lifeD l)), .w (.d (.int (tot : Nat))), s4, s5, s6, s7, s8]) fun env3 => unmB.den phi env3 S) = .nx [s0, .w (.d (.int q)), .w (.d (lifeD l)), .w (.d (.int ((tot + if unmW x q l = true then x.w else 0 : Nat)))), t4, t5, t6, t7, t8] S := by
  have h := atI_life hk.1 hk.2
  refine ⟨.w (.d (.int x.q)), .w (.d (.int x.a)), .w (.d (.int x.k)), .w (.d (.bl x.on)), .w (.d (.int x.w)), ?_⟩
  by_cases h1 : x.q = q
  · by_cases h2 : decide (l.getD (x.k - 1) 0 = x.a) = x.on
    · have h3 : unmW x q l = false := by simp only [unmW, h2]; simp
      simp only [List.getD_eq_getElem?_getD] at h2
      simp [unmT, unmB, Wish.D, lifeD, h1, h, h2, h3, Int.natCast_inj]
    · have h3 : unmW x q l = true := by simp only [unmW, h1, h2]; simp
      simp only [List.getD_eq_getElem?_getD] at h2
      simp [unmT, unmB, Wish.D, lifeD, h1, h, h2, h3, Int.natCast_inj]
  · have h3 : unmW x q l = false := by simp [unmW, h1]
    simp [unmT, unmB, Wish.D, lifeD, h1, h, h3, Int.natCast_inj]
theorem unm_loop (phi : Nat → Fn) (q : Nat) (l : List Nat) (S : List Cell) (s0 : Slot) : ∀ (ws : List Wish), (∀ x ∈ ws, 1 ≤ x.k ∧ x.k ≤ l.length) → ∀ (tot : Nat) (s4 s5 s6 s7 s8 : Slot), ∃ t4 t5 t6 t7 t8, forL (fun x env2 S2 => Out.opt (unmT.set x env2) fun env3 => unmB.den phi env3 S2) (ws.map Wish.D) [s0, .w (.d (.int q)), .w (.d (lifeD l)), .w (.d (.int (tot : Nat))), s4, s5, s6, s7, s8] S = .nx [s0, .w (.d (.int q)), .w (.d (lifeD l)), .w (.d (.int ((tot + unmetN ws q l : Nat)))), t4, t5, t6, t7, t8] S
  | [], _, tot, s4, s5, s6, s7, s8 => ⟨s4, s5, s6, s7, s8, by simp [forL, unmetN]⟩
  | x :: ws, hk, tot, s4, s5, s6, s7, s8 => by
    obtain ⟨t4, t5, t6, t7, t8, e⟩ := unm_step phi x q tot l S s0 s4 s5 s6 s7 s8 (hk x (by simp))
    obtain ⟨u4, u5, u6, u7, u8, e2⟩ := unm_loop phi q l S s0 ws (fun y hy => hk y (by simp [hy])) (tot + if unmW x q l = true then x.w else 0) t4 t5 t6 t7 t8
    refine ⟨u4, u5, u6, u7, u8, ?_⟩
    rw [List.map_cons, forL_cons_nx e, e2]
    simp only [unmetN, Nat.add_assoc]
theorem unmet_in_ok (phi : Nat → Fn) (h220 : SpGet (fun w => wishesD w.wishes) (phi 220)) : SpUnmetIn (mkFn 3 9 (b_unmet_in.den phi)) := by
  intro w q l S hw hl
  obtain ⟨t4, t5, t6, t7, t8, e⟩ := unm_loop phi q l S (.w (.d w.D)) w.wishes (fun x hx => by have := hw.wo x hx; simp only [Wish.ok] at this; omega) 0 .un .un .un .un .un
  have e2 : (St.fr unmT (.e (.pr 2 220 (.nm 0))) unmB).den phi [.w (.d w.D), .w (.d (.int q)), .w (.d (lifeD l)), .w (.d (.int 0)), .un, .un, .un, .un, .un] S = .nx [.w (.d w.D), .w (.d (.int q)), .w (.d (lifeD l)), .w (.d (.int (unmetN w.wishes q l))), t4, t5, t6, t7, t8] S := by
    rw [den_for, den_ie]
    simp [isOb_ward, h220 _ _, wishesD]
    simp only [Nat.zero_add] at e
    exact e
  simp only [unmT, unmB] at e2
  simp [mkFn_eq, b_unmet_in, -den_for, e2]
def SpTableE (g : WardP → List (List Nat) → List Nat) (f : Fn) : Prop := (∀ v t S, isWardD v = false → f [.d v, .d t] S = .ex (101, [(101, .str (Str.ofString "ward"))]) S) ∧
  (∀ (w : WardP) t S, isTable w.d w.p w.u t = false → f [.d w.D, .d t] S = .ex (101, [(101, .str (Str.ofString "roster"))]) S) ∧
  (∀ (w : WardP) r S, w.ok → RosOk w.d w.p w.u r → f [.d w.D, .d (rosterD r)] S = .ok (.d (numsD (g w r))) S)
theorem burdens_of_ok (phi : Nat → Fn) (h229 : SpCheckRoster (phi 229)) (h254 : SpBurdenIn (phi 254)) : SpTableE (fun w r => r.map (burdenN w.burdens)) (mkFn 2 3 (b_burdens_of.den phi)) := by
  refine ⟨?_, ?_, ?_⟩
  · intro v t S h
    simp [mkFn_eq, b_burdens_of, h229.1 _ _ _ _ h]
  · intro w t S h
    simp [mkFn_eq, b_burdens_of, h229.2 _ _ _ _ len_roster, h]
  · intro w r S hw hr
    have h := isTable_ros hw.u3.1 hr
    have hp := hw.p4
    have hn : r.length ≤ LN := LN_le _ (by rw [hr.n]; omega)
    simp only [rosterD] at h
    simp [mkFn_eq, b_burdens_of, h229.2 _ _ _ _ len_roster, rosterD, h, hn]
    rw [lcL_mapM lifeD (fun l => some (burdenN w.burdens l)) nD]
    · simp [numsD]
    · intro l hl
      have h5 := hw.d5
      have h6 := fun S => h254 w l S hw (by rw [hr.l l hl]; omega) (hr.x l hl)
      simp [h6]
theorem unmet_ok (phi : Nat → Fn) (h229 : SpCheckRoster (phi 229)) (h255 : SpUnmetIn (phi 255)) : SpTableE (fun w r => r.zipIdx.map fun p => unmetN w.wishes p.2 p.1) (mkFn 2 4 (b_unmet.den phi)) := by
  refine ⟨?_, ?_, ?_⟩
  · intro v t S h
    simp [mkFn_eq, b_unmet, h229.1 _ _ _ _ h]
  · intro w t S h
    simp [mkFn_eq, b_unmet, h229.2 _ _ _ _ len_roster, h]
  · intro w r S hw hr
    have h := isTable_ros hw.u3.1 hr
    have hp := hw.p4
    have hn : r.length ≤ LN := LN_le _ (by rw [hr.n]; omega)
    simp only [rosterD] at h
    simp [mkFn_eq, b_unmet, h229.2 _ _ _ _ len_roster, rosterD, h, enumD_map, hn]
    rw [lcL_mapM _ (fun p => some (unmetN w.wishes p.2 p.1)) nD]
    · simp [numsD]
    · intro p hp
      have h6 := fun S => h255 w p.2 p.1 S hw (hr.l p.1 (List.fst_mem_of_mem_zipIdx hp))
      simp [h6]
end Rg.M
set_option Elab.async false
set_option linter.all false
set_option maxRecDepth 100000
set_option maxHeartbeats 4000000
namespace Rg.M
open PySem PySem.Spec PyProof.Rows L2
@[simp] theorem kw_even_sum : (Str.ofString "even" = Str.ofString "sum") = False := eq_false (by decide +kernel)
@[simp] theorem kw_even_wishes : (Str.ofString "even" = Str.ofString "wishes") = False := eq_false (by decide +kernel)
@[simp] theorem kw_even_worst : (Str.ofString "even" = Str.ofString "worst") = False := eq_false (by decide +kernel)
@[simp] theorem kw_even_near : (Str.ofString "even" = Str.ofString "near") = False := eq_false (by decide +kernel)
@[simp] theorem kw_even_evens : (Str.ofString "even" = Str.ofString "evens") = False := eq_false (by decide +kernel)
@[simp] theorem kw_sum_even : (Str.ofString "sum" = Str.ofString "even") = False := eq_false (by decide +kernel)
@[simp] theorem kw_sum_wishes : (Str.ofString "sum" = Str.ofString "wishes") = False := eq_false (by decide +kernel)
@[simp] theorem kw_sum_worst : (Str.ofString "sum" = Str.ofString "worst") = False := eq_false (by decide +kernel)
@[simp] theorem kw_sum_near : (Str.ofString "sum" = Str.ofString "near") = False := eq_false (by decide +kernel)
@[simp] theorem kw_sum_evens : (Str.ofString "sum" = Str.ofString "evens") = False := eq_false (by decide +kernel)
@[simp] theorem kw_wishes_even : (Str.ofString "wishes" = Str.ofString "even") = False := eq_false (by decide +kernel)
@[simp] theorem kw_wishes_sum : (Str.ofString "wishes" = Str.ofString "sum") = False := eq_false (by decide +kernel)
@[simp] theorem kw_wishes_worst : (Str.ofString "wishes" = Str.ofString "worst") = False := eq_false (by decide +kernel)
@[simp] theorem kw_wishes_near : (Str.ofString "wishes" = Str.ofString "near") = False := eq_false (by decide +kernel)
@[simp] theorem kw_wishes_evens : (Str.ofString "wishes" = Str.ofString "evens") = False := eq_false (by decide +kernel)
@[simp] theorem kw_worst_even : (Str.ofString "worst" = Str.ofString "even") = False := eq_false (by decide +kernel)
@[simp] theorem kw_worst_sum : (Str.ofString "worst" = Str.ofString "sum") = False := eq_false (by decide +kernel)
@[simp] theorem kw_worst_wishes : (Str.ofString "worst" = Str.ofString "wishes") = False := eq_false (by decide +kernel)
@[simp] theorem kw_worst_near : (Str.ofString "worst" = Str.ofString "near") = False := eq_false (by decide +kernel)
@[simp] theorem kw_worst_evens : (Str.ofString "worst" = Str.ofString "evens") = False := eq_false (by decide +kernel)
@[simp] theorem kw_near_even : (Str.ofString "near" = Str.ofString "even") = False := eq_false (by decide +kernel)
@[simp] theorem kw_near_sum : (Str.ofString "near" = Str.ofString "sum") = False := eq_false (by decide +kernel)
@[simp] theorem kw_near_wishes : (Str.ofString "near" = Str.ofString "wishes") = False := eq_false (by decide +kernel)
@[simp] theorem kw_near_worst : (Str.ofString "near" = Str.ofString "worst") = False := eq_false (by decide +kernel)
@[simp] theorem kw_near_evens : (Str.ofString "near" = Str.ofString "evens") = False := eq_false (by decide +kernel)
@[simp] theorem kw_evens_even : (Str.ofString "evens" = Str.ofString "even") = False := eq_false (by decide +kernel)
@[simp] theorem kw_evens_sum : (Str.ofString "evens" = Str.ofString "sum") = False := eq_false (by decide +kernel)
@[simp] theorem kw_evens_wishes : (Str.ofString "evens" = Str.ofString "wishes") = False := eq_false (by decide +kernel)
@[simp] theorem kw_evens_worst : (Str.ofString "evens" = Str.ofString "worst") = False := eq_false (by decide +kernel)
@[simp] theorem kw_evens_near : (Str.ofString "evens" = Str.ofString "near") = False := eq_false (by decide +kernel)
def orderD (o : List Wd) : D := .tup (o.map Wd.D)
def descI (l : List Nat) : List Int := (srtI (l.map fun (n : Nat) => (n : Int))).reverse
def kpD (w : Wd) (ps : List Nat) : D := if w.row = true then .tup ((descI ps).map .int) else .int ((ps.sum : Nat) : Int)
def keyD (o : List Wd) (ps : Wd → List Nat) : D := .tup (o.map fun w => kpD w (ps w))
theorem intsL_map : ∀ l : List Int, intsL (l.map D.int) = some l
  | [] => rfl
  | x :: l => by
    simp only [List.map_cons, intsL, intsL_map l]
theorem srtI_len (l : List Int) : (srtI l).length = l.length := (srtI_perm l).length_eq
theorem srtI_congr {a b : List Int} (h : a.Perm b) : srtI a = srtI b := pw_unique (((srtI_perm a).trans h).trans (srtI_perm b).symm) (srtI_pw a) (srtI_pw b)
theorem descI_len (l : List Nat) : (descI l).length = l.length := by simp [descI, srtI_len]
theorem desc_snoc (l : List Nat) (q : Nat) : (srtI (descI l ++ [(q : Int)])).reverse = descI (l ++ [q]) := by
  unfold descI
  congr 1
  rw [List.map_append]
  apply srtI_congr
  apply List.Perm.append
  · exact (List.reverse_perm _).trans (srtI_perm _)
  · exact List.Perm.refl _
@[simp] theorem revD_lst (l : List D) : revD (.lst l) = some (.lst l.reverse) := Eq.trans rfl rfl
theorem srtD_lst (l : List Int) : srtD (.lst (l.map D.int)) = some (.lst ((srtI l).map .int)) := by
  simp only [srtD, intsL_map, Option.map_some]
theorem srtD_tup (l : List Int) : srtD (.tup (l.map D.int)) = some (.lst ((srtI l).map .int)) := by
  simp only [srtD, intsL_map, Option.map_some]
theorem f_addT (a b : List D) (h : a.length + b.length ≤ 16777216) : O2.f .add (.tup a) (.tup b) = some (.tup (a ++ b)) := by
  show (if (true && true) = true ∧ a.length + b.length ≤ LN then _ else _) = _
  rw [if_pos ⟨rfl, LN_le _ h⟩]
theorem f_addL (a b : List D) (h : a.length + b.length ≤ 16777216) : O2.f .add (.lst a) (.lst b) = some (.lst (a ++ b)) := by
  show (if a.length + b.length ≤ LN then _ else _) = _
  rw [if_pos (LN_le _ h)]
theorem appC_ok (l : List D) (x : D) (h : l.length < 16777216) : appC x (.lst l) = some (.lst (l ++ [x])) := by
  show (if l.length < LN then _ else _) = _
  rw [if_pos (by rw [LN_val]; exact h)]
@[simp] theorem lstC_lst (l : List D) : lstC (.lst l) = some l := Eq.trans rfl rfl
@[simp] theorem look_o (env : List Slot) (S : List Cell) (i : Nat) : look env S (.l (.inl i)) = (match env.getD i .un with
  | .own c => c.data
  | _ => none) := Eq.trans rfl rfl
@[simp] theorem looks_o (env : List Slot) (S : List Cell) (i : Nat) (l : List W) : looks env S (.l (.inl i) :: l) = (look env S (.l (.inl i))).bind fun x => (looks env S l).map (x :: ·) := by
  simp only [looks]
  cases h : look env S (.l (.inl i)) <;> cases h2 : looks env S l <;> rfl
@[simp] theorem den_lenK (phi : Nat → Fn) (env : List Slot) (S : List Cell) (x : Str) (n : Nat) : (E.lenK x n).den phi env S = .ok (.d (.int n)) S := by
  simp only [E.den]
@[simp] theorem data_dct (t : Bool) (l : List (D × D)) : (Cell.dct t l).data = some (.dct t l) := Eq.trans rfl rfl
@[simp] theorem cellAt_o (env : List Slot) (S : List Cell) (i : Nat) : cellAt env S (.l (.inl i)) = (match env.getD i .un with
  | .own c => some c
  | _ => none) := Eq.trans rfl rfl
@[simp] theorem putLoc_o (env : List Slot) (S : List Cell) (i : Nat) (c : Cell) : putLoc env S (.l (.inl i)) c = some (env.set i (.own c), S) := Eq.trans rfl rfl
def SpNoKey (f : Fn) : Prop := ∀ (o : List Wd) S, o.length ≤ 1000 → f [.d (orderD o)] S = .ok (.d (keyD o fun _ => [])) S
theorem no_key_ok (phi : Nat → Fn) : SpNoKey (mkFn 1 2 (b_no_key.den phi)) := by
  intro o S ho
  have hn : o.length ≤ LN := LN_le _ (by omega)
  simp [mkFn_eq, b_no_key, orderD, hn]
  rw [lcL_mapM Wd.D (fun w => some (kpD w [])) id]
  · simp [keyD]
  · intro w hw
    cases w <;> simp [Wd.D, Wd.s, kpD, Wd.row, descI, srtI]
theorem zip3D_map {α : Type} (f g h : α → D) (a : List α) : zip3D (a.map f) (a.map g) (a.map h) = a.map fun x => .tp false [f x, g x, h x] := by
  unfold zip3D
  rw [List.zip_map', List.zip_map', List.map_map]
  rfl
def wpT : Tg := (.tp (.cons (.nm 4) (.cons (.nm 5) (.cons (.nm 6) .nil))))
def wpB : Sts := (.cons (.app (.nm 3) (.ite (.o2 .isin (.nm 4) (.tup (.cons (.gl ("EVEN" : Str) (.str ("even" : Str))) (.cons (.gl ("WORST" : Str) (.str ("worst" : Str))) .nil)))) (.bi .tuple (.cons (.rev (.bi .sorted (.cons (.o2 .add (.nm 5) (.tup (.cons (.nm 6) .nil))) .nil))) .nil)) (.o2 .add (.nm 5) (.nm 6)))) .nil)
theorem wp_step (phi : Nat → Fn) (w : Wd) (ps : List Nat) (q : Nat) (acc : List D) (S : List Cell) (s0 s1 s2 s4 s5 s6 : Slot) (hp : ps.length ≤ 1000) (ha : acc.length ≤ 1000) : ∃ t4 t5 t6, (Out.opt (wpT.set (.tp false [w.D, kpD w ps, .int (q : Int)]) [s0, s1, s2, .own (.lst acc), s4, s5, s6]) fun env3 => wpB.den phi env3 S) = .nx [s0, s1, s2, .own (.lst (acc ++ [kpD w (ps ++ [q])])), t4, t5, t6] S := by
  refine ⟨.w (.d w.D), .w (.d (kpD w ps)), .w (.d (.int q)), ?_⟩
  have h0 : appC (kpD w (ps ++ [q])) (.lst acc) = some (.lst (acc ++ [kpD w (ps ++ [q])])) := appC_ok _ _ (by omega)
  have h1 : O2.f .add (.tup ((descI ps).map D.int)) (.tup [.int (q : Int)]) = some (.tup ((descI ps).map D.int ++ [.int (q : Int)])) := f_addT _ _ (by simp [descI_len]; omega)
  have h2 : srtD (.tup ((descI ps).map D.int ++ [.int (q : Int)])) = some (.lst ((srtI (descI ps ++ [(q : Int)])).map .int)) := by
    have := srtD_tup (descI ps ++ [(q : Int)])
    rwa [List.map_append] at this
  have h3 : ((srtI (descI ps ++ [(q : Int)])).map D.int).reverse = (descI (ps ++ [q])).map .int := by
    rw [← desc_snoc, List.map_reverse]
  cases w <;> simp [kpD, Wd.row] at h0 ⊢ <;> simp [wpT, wpB, Wd.D, Wd.s, h1, h2, h3, h0, cellAt, putLoc]
theorem wp_loop (phi : Nat → Fn) (ps : Wd → List Nat) (q : Wd → Nat) (S : List Cell) (s0 s1 s2 : Slot) (hp : ∀ w, (ps w).length ≤ 1000) : ∀ (o : List Wd) (acc : List D) (s4 s5 s6 : Slot), acc.length + o.length ≤ 1000 → ∃ t4 t5 t6, forL (fun x env2 S2 => Out.opt (wpT.set x env2) fun env3 => wpB.den phi env3 S2) (o.map fun w => .tp false [w.D, kpD w (ps w), .int ((q w : Nat) : Int)]) [s0, s1, s2, .own (.lst acc), s4, s5, s6] S = .nx [s0, s1, s2, .own (.lst (acc ++ o.map fun w => kpD w (ps w ++ [q w]))), t4, t5, t6] S
  | [], acc, s4, s5, s6, _ => ⟨s4, s5, s6, by simp [forL]⟩
  | w :: o, acc, s4, s5, s6, h => by
    simp only [List.length_cons] at h
    obtain ⟨t4, t5, t6, e⟩ := wp_step phi w (ps w) (q w) acc S s0 s1 s2 s4 s5 s6 (hp w) (by omega)
    obtain ⟨u4, u5, u6, e2⟩ := wp_loop phi ps q S s0 s1 s2 hp o (acc ++ [kpD w (ps w ++ [q w])]) t4 t5 t6 (by simp; omega)
    refine ⟨u4, u5, u6, ?_⟩
    rw [List.map_cons, forL_cons_nx e, e2]
    simp
def SpWithParts (f : Fn) : Prop := ∀ (o : List Wd) (ps : Wd → List Nat) (q : Wd → Nat) S, o.length ≤ 1000 → (∀ w, (ps w).length ≤ 1000) → f [.d (orderD o), .d (keyD o ps), .d (.tup (o.map fun w => .int ((q w : Nat) : Int)))] S = .ok (.d (keyD o fun w => ps w ++ [q w])) S
theorem with_parts_ok (phi : Nat → Fn) : SpWithParts (mkFn 3 7 (b_with_parts.den phi)) := by
  intro o ps q S ho hp
  obtain ⟨t4, t5, t6, e⟩ := wp_loop phi ps q S (.w (.d (orderD o))) (.w (.d (keyD o ps))) (.w (.d (.tup (o.map fun w => .int ((q w : Nat) : Int))))) hp o [] .un .un .un (by simp; omega)
  have e2 : (St.fr wpT (.zp (.cons (.nm 0) (.cons (.nm 1) (.cons (.nm 2) .nil)))) wpB).den phi [.w (.d (orderD o)), .w (.d (keyD o ps)), .w (.d (.tup (o.map fun w => .int ((q w : Nat) : Int)))), .own (.lst []), .un, .un, .un] S = .nx [.w (.d (orderD o)), .w (.d (keyD o ps)), .w (.d (.tup (o.map fun w => .int ((q w : Nat) : Int)))), .own (.lst (o.map fun w => kpD w (ps w ++ [q w]))), t4, t5, t6] S := by
    have hz := zip3D_map Wd.D (fun w => kpD w (ps w)) (fun w => D.int ((q w : Nat) : Int)) o
    rw [den_for, den_izp]
    simp [orderD, keyD, seqsD, zipD, hz]
    simp [orderD, keyD] at e
    exact e
  simp only [wpT, wpB] at e2
  simp [mkFn_eq, b_with_parts, -den_for, e2]
  rfl
end Rg.M
set_option Elab.async false
set_option linter.all false
set_option maxRecDepth 100000
set_option maxHeartbeats 4000000
namespace Rg.M
open PySem PySem.Spec PyProof.Rows L2
theorem atI_lifeN {l : List Nat} {k : Nat} (h : k < l.length) : atI (l.map nD) (k : Int) = some (.int (l.getD k 0)) := by
  rw [atI_nat, getD_nat h]
  rfl
def partN (w : WardP) (bs : List (List Nat)) (x : Wd) (q : Nat) (l : List Nat) : Nat := match x with
  | .even => burdenN w.burdens l
  | .sum => burdenN w.burdens l
  | .wishes => unmetN w.wishes q l
  | .worst => unmetN w.wishes q l
  | .near => ((List.range w.d).filter fun k => !decide (l.getD k 0 = (bs.getD q []).getD k 0)).length
def BaseOk (w : WardP) (o : List Wd) (v : D) (bs : List (List Nat)) : Prop := Wd.near ∈ o → v = rosterD bs ∧ RosOk w.d w.p w.u bs
def SpPartOf (f : Fn) : Prop := ∀ (w : WardP) (x : Wd) (q : Nat) (l : List Nat) (bs : List (List Nat)) (v : D) S, w.ok → l.length = w.d → (∀ a ∈ l, a < w.u) → q < w.p → BaseOk w [x] v bs → f [.d w.D, .d x.D, .d (.int q), .d (lifeD l), .d v] S = .ok (.d (.int (partN w bs x q l))) S
theorem part_of_ok (phi : Nat → Fn) (h215 : SpGet (fun w => .int w.d) (phi 215)) (h254 : SpBurdenIn (phi 254)) (h255 : SpUnmetIn (phi 255)) : SpPartOf (mkFn 5 6 (b_part_of.den phi)) := by
  intro w x q l bs v S hw hl hu hq hb
  have h5 := hw.d5
  have e1 := fun S => h254 w l S hw (by omega) hu
  have e2 := fun S => h255 w q l S hw hl
  cases x with
  | near =>
    obtain ⟨rfl, hr⟩ := hb (by simp)
    have hn : w.d ≤ LN := LN_le _ (by omega)
    have hg : rgOk (w.d : Int) = true := rgOk_ok (by omega) (by omega)
    have hq' : q < bs.length := by rw [hr.n]; exact hq
    have h3 : atI (bs.map lifeD) (q : Int) = some (lifeD (bs.getD q [])) := by
      rw [atI_nat, List.getElem?_map, List.getElem?_eq_getElem hq', List.getD_eq_getElem?_getD, List.getElem?_eq_getElem hq']
      rfl
    have h4 : (bs.getD q []).length = w.d := by
      rw [List.getD_eq_getElem?_getD, List.getElem?_eq_getElem hq']
      exact hr.l _ (List.getElem_mem hq')
    simp only [rosterD]
    simp [mkFn_eq, b_part_of, Wd.D, Wd.s, isOb_ward, h215 _ _, hg, rangeD_map, hn]
    rw [lcL_filterM (fun i : Nat => D.int (i : Int)) (fun k => !decide (l.getD k 0 = (bs.getD q []).getD k 0))]
    · simp [partN]
    · intro k hk
      have hk' : k < w.d := by simpa using hk
      have h5 := atI_lifeN (l := l) (k := k) (by omega)
      have h6 := atI_lifeN (l := bs.getD q []) (k := k) (by omega)
      simp only [lifeD] at h3
      simp [lifeD, h3, h5]
      simp only [List.getD_eq_getElem?_getD] at h6
      simp [h6, Int.natCast_inj]
      by_cases h7 : l[k]?.getD 0 = (bs[q]?.getD [])[k]?.getD 0 <;> simp [h7]
  | _ => simp [mkFn_eq, b_part_of, Wd.D, Wd.s, e1, e2, partN]
def SpPartsOfLife (f : Fn) : Prop := ∀ (w : WardP) (o : List Wd) (q : Nat) (l : List Nat) (bs : List (List Nat)) (v : D) S, w.ok → o.length ≤ 1000 → l.length = w.d → (∀ a ∈ l, a < w.u) → q < w.p → BaseOk w o v bs → f [.d w.D, .d (orderD o), .d (.int q), .d (lifeD l), .d v] S = .ok (.d (.tup (o.map fun x => .int ((partN w bs x q l : Nat) : Int)))) S
theorem parts_of_life_ok (phi : Nat → Fn) (h259 : SpPartOf (phi 259)) : SpPartsOfLife (mkFn 5 6 (b_parts_of_life.den phi)) := by
  intro w o q l bs v S hw ho hl hu hq hb
  have hn : o.length ≤ LN := LN_le _ (by omega)
  simp [mkFn_eq, b_parts_of_life, orderD, hn]
  rw [lcL_mapM Wd.D (fun x => some (partN w bs x q l)) nD]
  · simp [Function.comp_def]
  · intro x hx
    have e := fun S => h259 w x q l bs v S hw hl hu hq (fun h => hb (by simp at h; rw [h]; exact hx))
    simp [e]
def kiT : Tg := (.tp (.cons (.nm 5) (.cons (.nm 6) .nil)))
def kiB : Sts := (.cons (.asg (.nm 4) (.ca 261 (.cons (.nm 1) (.cons (.nm 4) (.cons (.ca 260 (.cons (.nm 0) (.cons (.nm 1) (.cons (.nm 5) (.cons (.nm 6) (.cons (.nm 3) .nil)))))) .nil))))) .nil)
theorem ki_loop (phi : Nat → Fn) (h260 : SpPartsOfLife (phi 260)) (h261 : SpWithParts (phi 261)) (w : WardP) (o : List Wd) (bs : List (List Nat)) (v : D) (S : List Cell) (s2 : Slot) (hw : w.ok) (ho : o.length ≤ 1000) (hb : BaseOk w o v bs) : ∀ (r : List (List Nat)) (k : Nat) (ps : Wd → List Nat) (s5 s6 : Slot), (∀ l ∈ r, l.length = w.d) → (∀ l ∈ r, ∀ a ∈ l, a < w.u) → k + r.length ≤ w.p → (∀ x, (ps x).length = k) → ∃ t5 t6,
    forL (fun x env2 S2 => Out.opt (kiT.set x env2) fun env3 => kiB.den phi env3 S2) ((r.zipIdx k).map fun p => .tp false [.int (p.2 : Int), lifeD p.1]) [.w (.d w.D), .w (.d (orderD o)), s2, .w (.d v), .w (.d (keyD o ps)), s5, s6] S = .nx [.w (.d w.D), .w (.d (orderD o)), s2, .w (.d v), .w (.d (keyD o fun x => ps x ++ (r.zipIdx k).map fun p => partN w bs x p.2 p.1)), t5, t6] S
  | [], k, ps, s5, s6, _, _, _, _ => ⟨s5, s6, by simp [forL]⟩
  | l :: r, k, ps, s5, s6, hl, hu, hk, hp => by
    have hp4 := hw.p4
    simp only [List.length_cons] at hk
    have e1 := fun S => h260 w o k l bs v S hw ho (hl l (by simp)) (hu l (by simp)) (by omega) hb
    have e2 := fun S => h261 o ps (fun x => partN w bs x k l) S ho (fun x => by rw [hp x]; omega)
    obtain ⟨t5, t6, e⟩ := ki_loop phi h260 h261 w o bs v S s2 hw ho hb r (k + 1) (fun x => ps x ++ [partN w bs x k l]) (.w (.d (.int k))) (.w (.d (lifeD l))) (fun y hy => hl y (by simp [hy])) (fun y hy => hu y (by simp [hy])) (by omega) (fun x => by simp [hp x])
    refine ⟨t5, t6, ?_⟩
    have e3 : (Out.opt (kiT.set (.tp false [.int (k : Int), lifeD l]) [.w (.d w.D), .w (.d (orderD o)), s2, .w (.d v), .w (.d (keyD o ps)), s5, s6]) fun env3 => kiB.den phi env3 S) = .nx [.w (.d w.D), .w (.d (orderD o)), s2, .w (.d v), .w (.d (keyD o fun x => ps x ++ [partN w bs x k l])), .w (.d (.int k)), .w (.d (lifeD l))] S := by
      simp [kiT, kiB, e1, e2]
    rw [List.zipIdx_cons, List.map_cons, forL_cons_nx e3, e]
    simp
def keyN (w : WardP) (bs : List (List Nat)) (o : List Wd) (r : List (List Nat)) : D := keyD o fun x => r.zipIdx.map fun p => partN w bs x p.2 p.1
def SpKeyIn (f : Fn) : Prop := ∀ (w : WardP) (o : List Wd) (r bs : List (List Nat)) (v : D) S, w.ok → o.length ≤ 1000 → RosOk w.d w.p w.u r → BaseOk w o v bs → f [.d w.D, .d (orderD o), .d (rosterD r), .d v] S = .ok (.d (keyN w bs o r)) S
theorem key_in_ok (phi : Nat → Fn) (h258 : SpNoKey (phi 258)) (h260 : SpPartsOfLife (phi 260)) (h261 : SpWithParts (phi 261)) : SpKeyIn (mkFn 4 7 (b_key_in.den phi)) := by
  intro w o r bs v S hw ho hr hb
  obtain ⟨t5, t6, e⟩ := ki_loop phi h260 h261 w o bs v S (.w (.d (rosterD r))) hw ho hb r 0 (fun _ => []) .un .un hr.l hr.x (by have := hr.n; omega) (fun _ => rfl)
  have e0 := fun S => h258 o S ho
  have e2 : (St.fr kiT (.en (.nm 2)) kiB).den phi [.w (.d w.D), .w (.d (orderD o)), .w (.d (rosterD r)), .w (.d v), .w (.d (keyD o fun _ => [])), .un, .un] S = .nx [.w (.d w.D), .w (.d (orderD o)), .w (.d (rosterD r)), .w (.d v), .w (.d (keyN w bs o r)), t5, t6] S := by
    rw [den_for, den_ien]
    simp only [rosterD] at e ⊢
    simp [enumD_map]
    simp at e
    exact e
  simp only [kiT, kiB] at e2
  simp [mkFn_eq, b_key_in, -den_for, e0, e2]
def wordsL : List Str := ["even", "sum", "wishes", "worst"]
def isWdD : D → Bool
  | .str s => decide (s ∈ wordsL)
  | _ => false
def isOrd : D → Bool
  | .tp _ l => decide (1 ≤ l.length) && decide (l.length ≤ 4) && l.all isWdD && (match strsL l with | some xs => decide xs.Nodup | none => false)
  | _ => false
theorem cntT_full {xs : List Str} : ∀ i, i ≤ xs.length → cntT xs i = i → (xs.take i).Nodup
  | 0, _, _ => by simp
  | i + 1, h, e => by
    have hx : xs[i]? = some xs[i] := List.getElem?_eq_getElem (by omega)
    have hl := cntT_le xs i
    rw [cntT_succ hx] at e
    by_cases hs : sawT xs i xs[i] = true
    · rw [if_pos hs] at e
      omega
    · rw [if_neg hs] at e
      have ih := cntT_full (xs := xs) i (by omega) (by omega)
      rw [List.take_add_one, hx]
      simp only [Option.toList_some]
      rw [List.nodup_append]
      refine ⟨ih, by simp, ?_⟩
      intro a ha b hb he
      simp only [List.mem_singleton] at hb
      subst hb he
      apply hs
      simp only [sawT, List.any_eq_true, beq_iff_eq]
      exact ⟨_, ha, rfl⟩
theorem cntT_iff (xs : List Str) : cntT xs xs.length = xs.length ↔ xs.Nodup := by
  constructor
  · intro h
    have := cntT_full xs.length (Nat.le_refl _) h
    simpa using this
  · exact cntT_nodup
theorem strs_of_words : ∀ {l : List D}, l.all isWdD = true → ∃ xs : List Str, l = xs.map D.str
  | [], _ => ⟨[], rfl⟩
  | x :: l, h => by
    simp only [List.all_cons, Bool.and_eq_true] at h
    obtain ⟨xs, rfl⟩ := strs_of_words h.2
    cases x with
    | str s => exact ⟨s :: xs, rfl⟩
    | _ => simp [isWdD] at h
def SpIsOrder (f : Fn) : Prop := ∀ v S, (∀ l, v ≠ .tp false l) → f [.d v] S = .ok (.d (.bl (isOrd v))) S
theorem is_order_ok (phi : Nat → Fn) : SpIsOrder (mkFn 1 2 (b_is_order.den phi)) := by
  intro v S hv
  cases v with
  | tp c l =>
    obtain rfl : c = true := by
      cases c
      · exact absurd rfl (hv l)
      · rfl
    by_cases h1 : 1 ≤ l.length
    · by_cases h2 : l.length ≤ 4
      · have h1' : (1 : Int) ≤ l.length := by omega
        have h2' : (l.length : Int) ≤ 4 := by omega
        simp [mkFn_eq, b_is_order, isTy, tyD, h1', h2']
        rw [quL_pure (g := isWdD) true]
        · by_cases h3 : l.all isWdD = true
          · obtain ⟨xs, rfl⟩ := strs_of_words h3
            have h4 : strsL (xs.map D.str) = some xs := strsL_map xs
            have h5 : xs.length ≤ 4000 := by simp at h2; omega
            have h6 := cntT_iff xs
            simp only [List.length_map] at h1 h2
            simp only [if_true, h3]
            simp [lensetD, h4, h5, isOrd, h3, h1, h2]
            by_cases h7 : xs.Nodup
            · simp [h7, h6.mpr h7]
            · have h8 : ¬ cntT xs xs.length = xs.length := fun e => h7 (h6.mp e)
              simp [h7, h8, Int.natCast_inj]
          · have h3' : l.all isWdD = false := by simpa using h3
            simp only [if_true, h3']
            simp [isOrd, h3']
        · intro x hx
          cases x with
          | str s =>
            simp [isTy, tyD, isWdD, wordsL]
            rw [decide_eq_decide.mpr (eq_comm (a := Str.ofString "even") (b := s)), decide_eq_decide.mpr (eq_comm (a := Str.ofString "sum") (b := s)), decide_eq_decide.mpr (eq_comm (a := Str.ofString "wishes") (b := s)), decide_eq_decide.mpr (eq_comm (a := Str.ofString "worst") (b := s))]
          | _ => simp [isTy, tyD, isWdD, wordsL]
      · have h2' : ¬ (l.length : Int) ≤ 4 := by omega
        have h1' : (1 : Int) ≤ l.length := by omega
        simp [mkFn_eq, b_is_order, isTy, tyD, h1', h2', isOrd, h2]
    · have h1' : ¬ (1 : Int) ≤ l.length := by omega
      have h0 : l.length = 0 := by omega
      simp [mkFn_eq, b_is_order, isTy, tyD, h1', isOrd, h0]
  | _ => simp [mkFn_eq, b_is_order, isTy, tyD, isOrd]
end Rg.M
set_option Elab.async false
set_option linter.all false
set_option maxRecDepth 100000
set_option maxHeartbeats 4000000
namespace Rg.M
open PySem PySem.Spec PyProof.Rows L2
def sumB2 : Sts := (.cons (.asg (.nm 1) (.o2 .add (.nm 1) (.nm 2))) .nil)
theorem sum_loop (phi : Nat → Fn) (s0 : Slot) (S : List Cell) : ∀ (l : List Nat) (tot : Nat) (s2 : Slot), ∃ t2, forL (fun x env2 S2 => Out.opt ((Tg.nm 2).set x env2) fun env3 => sumB2.den phi env3 S2) (l.map nD) [s0, .w (.d (.int (tot : Nat))), s2] S = .nx [s0, .w (.d (.int ((tot + l.sum : Nat)))), t2] S
  | [], tot, s2 => ⟨s2, by simp [forL]⟩
  | x :: l, tot, s2 => by
    obtain ⟨t2, e⟩ := sum_loop phi s0 S l (tot + x) (.w (.d (.int x)))
    refine ⟨t2, ?_⟩
    have e1 : (Out.opt ((Tg.nm 2).set (nD x) [s0, .w (.d (.int (tot : Nat))), s2]) fun env3 => sumB2.den phi env3 S) = .nx [s0, .w (.d (.int ((tot + x : Nat)))), .w (.d (.int x))] S := by
      simp [sumB2]
    rw [List.map_cons, forL_cons_nx e1, e]
    simp [Nat.add_assoc]
def SpSumL (f : Fn) : Prop := ∀ (l : List Nat) S, f [.d (.lst (l.map nD))] S = .ok (.d (.int ((l.sum : Nat) : Int))) S ∧ f [.d (numsD l)] S = .ok (.d (.int ((l.sum : Nat) : Int))) S
theorem sum_law_ok (phi : Nat → Fn) : SpSumL (mkFn 1 3 (b__law_sum.den phi)) := by
  intro l S
  constructor
  · obtain ⟨t2, e⟩ := sum_loop phi (.w (.d (.lst (l.map nD)))) S l 0 .un
    have e2 : (St.fr (.nm 2) (.e (.nm 0)) sumB2).den phi [.w (.d (.lst (l.map nD))), .w (.d (.int 0)), .un] S = .nx [.w (.d (.lst (l.map nD))), .w (.d (.int ((l.sum : Nat) : Int))), t2] S := by
      rw [den_for, den_ie]
      simp
      simp at e
      exact e
    simp only [sumB2] at e2
    simp [mkFn_eq, b__law_sum, -den_for, e2]
  · obtain ⟨t2, e⟩ := sum_loop phi (.w (.d (numsD l))) S l 0 .un
    have e2 : (St.fr (.nm 2) (.e (.nm 0)) sumB2).den phi [.w (.d (numsD l)), .w (.d (.int 0)), .un] S = .nx [.w (.d (numsD l)), .w (.d (.int ((l.sum : Nat) : Int))), t2] S := by
      rw [den_for, den_ie]
      simp only [numsD] at e ⊢
      simp
      simp at e
      exact e
    simp only [sumB2] at e2
    simp [mkFn_eq, b__law_sum, -den_for, e2]
def SpBurdensL (f : Fn) : Prop := ∀ (d p u : Nat) (b : List Nat) (r : List (List Nat)) S, SzOk d p u → b.length = u → RosOk d p u r → f [.d (numsD b), .d (rosterD r)] S = .ok (.d (numsD (r.map (burdenN b)))) S
theorem burdens_law_ok (phi : Nat → Fn) (h266 : SpSumL (phi 266)) : SpBurdensL (mkFn 2 4 (b__law_burdens.den phi)) := by
  intro d p u b r S hs hb hr
  have hn : r.length ≤ LN := LN_le _ (by have := hr.n; have := hs.p4; omega)
  simp [mkFn_eq, b__law_burdens, rosterD, hn]
  rw [lcL_mapM lifeD (fun l => some (burdenN b l)) nD]
  · simp [numsD]
  · intro l hl
    have hl5 := hs.d5
    have hl2 := hr.l l hl
    have hn2 : l.length ≤ LN := LN_le _ (by omega)
    simp [lifeD, hn2]
    rw [lcL_mapM nD (fun a => some (b.getD a 0)) nD]
    · have e := (h266 (l.map fun a => b.getD a 0) S).1
      simp at e
      simp [burdenN, e]
    · intro a ha
      have h1 : a < b.length := by rw [hb]; exact hr.x l hl a ha
      have h2 := getD_nat h1
      simp only [nD] at h2
      simp [numsD, atI_nat, h2]
theorem unmetN_filter (q : Nat) (l : List Nat) : ∀ ws : List Wish, unmetN ws q l = ((ws.filter fun x => unmW x q l).map Wish.w).sum
  | [] => rfl
  | x :: ws => by
    simp only [unmetN, unmetN_filter q l ws, List.filter_cons]
    by_cases h : unmW x q l = true
    · simp [h]
    · simp [h]
def uwB : Sts := (.cons (.own 4 (.lc (.nm 5) (.e (.nm 0)) (.some (.bo true (.cons (.o2 .eq (.ix (.nm 5) (.k (.int 0))) (.nm 3)) (.cons (.o2 .ne (.o2 .eq (.ix (.ix (.nm 1) (.nm 3)) (.o2 .sub (.ix (.nm 5) (.k (.int 2))) (.k (.int 1)))) (.ix (.nm 5) (.k (.int 1)))) (.ix (.nm 5) (.k (.int 3)))) .nil)))) (.nm 5) [5])) (.cons (.fz 4) (.cons (.app (.nm 2) (.ca 266 (.cons (.fr (.lc (.nm 5) (.e (.nm 4)) .none (.ix (.nm 5) (.k (.int 4))) [5])) .nil))) .nil)))
theorem uw_step (phi : Nat → Fn) (h266 : SpSumL (phi 266)) (ws : List Wish) (r : List (List Nat)) (d : Nat) (acc : List D) (S : List Cell) (s3 s4 : Slot) (q : Nat) (hq : q < r.length) (hl : ∀ l ∈ r, l.length = d) (hk : ∀ x ∈ ws, 1 ≤ x.k ∧ x.k ≤ d) (hws : ws.length ≤ 1000) (ha : acc.length ≤ 1000) : ∃ t4,
    (Out.opt ((Tg.nm 3).set (.int (q : Int)) [.w (.d (wishesD ws)), .w (.d (rosterD r)), .own (.lst acc), s3, s4, .un]) fun env3 => uwB.den phi env3 S) = .nx [.w (.d (wishesD ws)), .w (.d (rosterD r)), .own (.lst (acc ++ [.int ((unmetN ws q (r.getD q []) : Nat) : Int)])), .w (.d (.int (q : Int))), t4, .un] S := by
  have hn : ws.length ≤ LN := LN_le _ (by omega)
  have hn2 : (ws.filter fun x => unmW x q (r.getD q [])).length ≤ LN := Nat.le_trans (List.length_filter_le _ _) hn
  have h3 : atI (r.map lifeD) (q : Int) = some (lifeD (r.getD q [])) := by
    rw [atI_nat, List.getElem?_map, List.getElem?_eq_getElem hq, List.getD_eq_getElem?_getD, List.getElem?_eq_getElem hq]
    rfl
  have h4 : (r.getD q []).length = d := by
    rw [List.getD_eq_getElem?_getD, List.getElem?_eq_getElem hq]
    exact hl _ (List.getElem_mem hq)
  refine ⟨.w (.d (.lst ((ws.filter fun x => unmW x q (r.getD q [])).map Wish.D))), ?_⟩
  generalize hL : r.getD q [] = L at *
  simp [uwB, wishesD, rosterD, hn]
  rw [lcL_filterM Wish.D (fun x => unmW x q L)]
  · simp [hn2]
    rw [lcL_mapM Wish.D (fun x => some x.w) nD]
    · have e := (h266 ((ws.filter fun x => unmW x q L).map Wish.w) S).1
      have e5 := unmetN_filter q L ws
      have e6 : appC (.int ((unmetN ws q L : Nat) : Int)) (.lst acc) = some (.lst (acc ++ [.int ((unmetN ws q L : Nat) : Int)])) := appC_ok _ _ (by omega)
      rw [← e5] at e
      simp at e
      simp [cellAt, putLoc, e, e6]
    · intro x hx
      simp [Wish.D]
  · intro x hx
    have h5 := atI_life (l := L) (hk x hx).1 (by rw [h4]; exact (hk x hx).2)
    simp [Wish.D, h3, lifeD]
    by_cases h1 : x.q = q
    · by_cases h2 : decide (L.getD (x.k - 1) 0 = x.a) = x.on
      · have h7 : unmW x q L = false := by simp only [unmW, h2]; simp
        simp only [List.getD_eq_getElem?_getD] at h2
        simp [h1, h5, h2, h7, Int.natCast_inj]
      · have h7 : unmW x q L = true := by simp only [unmW, h1, h2]; simp
        simp only [List.getD_eq_getElem?_getD] at h2
        simp [h1, h5, h2, h7, Int.natCast_inj]
    · have h7 : unmW x q L = false := by simp [unmW, h1]
      simp [h1, h7, Int.natCast_inj]
theorem uw_loop (phi : Nat → Fn) (h266 : SpSumL (phi 266)) (ws : List Wish) (r : List (List Nat)) (d : Nat) (S : List Cell) (hl : ∀ l ∈ r, l.length = d) (hk : ∀ x ∈ ws, 1 ≤ x.k ∧ x.k ≤ d) (hws : ws.length ≤ 1000) : ∀ (is : List Nat) (acc : List D) (s3 s4 : Slot), (∀ q ∈ is, q < r.length) → acc.length + is.length ≤ 1000 → ∃ t3 t4,
    forL (fun x env2 S2 => Out.opt ((Tg.nm 3).set x env2) fun env3 => uwB.den phi env3 S2) (is.map fun (q : Nat) => .int (q : Int)) [.w (.d (wishesD ws)), .w (.d (rosterD r)), .own (.lst acc), s3, s4, .un] S = .nx [.w (.d (wishesD ws)), .w (.d (rosterD r)), .own (.lst (acc ++ is.map fun q => .int ((unmetN ws q (r.getD q []) : Nat) : Int))), t3, t4, .un] S
  | [], acc, s3, s4, _, _ => ⟨s3, s4, by simp [forL]⟩
  | q :: is, acc, s3, s4, hq, ha => by
    simp only [List.length_cons] at ha
    obtain ⟨t4, e⟩ := uw_step phi h266 ws r d acc S s3 s4 q (hq q (by simp)) hl hk hws (by omega)
    obtain ⟨u3, u4, e2⟩ := uw_loop phi h266 ws r d S hl hk hws is (acc ++ [.int ((unmetN ws q (r.getD q []) : Nat) : Int)]) (.w (.d (.int (q : Int)))) t4 (fun y hy => hq y (by simp [hy])) (by simp; omega)
    refine ⟨u3, u4, ?_⟩
    rw [List.map_cons, forL_cons_nx e, e2]
    simp
theorem range_zipIdx {α β : Type} (dflt : α) (g : Nat → α → β) (l : List α) : (List.range l.length).map (fun i => g i (l.getD i dflt)) = l.zipIdx.map fun p => g p.2 p.1 := by
  apply List.ext_getElem
  · simp
  · intro i h1 h2
    simp at h1
    simp [h1]
def SpUnmetL (f : Fn) : Prop := ∀ (d p u : Nat) (ws : List Wish) (r : List (List Nat)) S, SzOk d p u → ws.length ≤ 1000 → (∀ x ∈ ws, x.ok d p u) → RosOk d p u r → f [.d (wishesD ws), .d (rosterD r)] S = .ok (.d (numsD (r.zipIdx.map fun p => unmetN ws p.2 p.1))) S
theorem unmet_law_ok (phi : Nat → Fn) (h266 : SpSumL (phi 266)) : SpUnmetL (mkFn 2 6 (b__law_unmet.den phi)) := by
  intro d p u ws r S hs hw ho hr
  have hp := hs.p4
  have hn := hr.n
  have hg : rgOk (r.length : Int) = true := rgOk_ok (by omega) (by omega)
  obtain ⟨t3, t4, e⟩ := uw_loop phi h266 ws r d S hr.l (fun x hx => by have := ho x hx; simp only [Wish.ok] at this; omega) hw (List.range r.length) [] .un .un (by simp) (by simp; omega)
  have e2 : (St.fr (.nm 3) (.rg1 (.bi .len (.cons (.nm 1) .nil))) uwB).den phi [.w (.d (wishesD ws)), .w (.d (rosterD r)), .own (.lst []), .un, .un, .un] S = .nx [.w (.d (wishesD ws)), .w (.d (rosterD r)), .own (.lst ((r.zipIdx.map fun p => unmetN ws p.2 p.1).map nD)), t3, t4, .un] S := by
    have e3 := range_zipIdx [] (fun q l => unmetN ws q l) r
    rw [den_for, den_irg1, ← e3]
    have hg' : rgOk (((r.map lifeD).length : Nat) : Int) = true := by simpa using hg
    simp only [rosterD] at e ⊢
    simp [hg, rangeD_map]
    simp at e
    simp [Function.comp_def]
    exact e
  simp only [uwB] at e2
  simp [mkFn_eq, b__law_unmet, -den_for, e2, numsD]
def partsW (b : List Nat) (ws : List Wish) (r : List (List Nat)) : Wd → List Nat
  | .even => r.map (burdenN b)
  | .sum => r.map (burdenN b)
  | _ => r.zipIdx.map fun p => unmetN ws p.2 p.1
def SpKeyL (f : Fn) : Prop := ∀ (d p u : Nat) (b : List Nat) (rs : List Rule) (ws : List Wish) (most nr : Nat) (o : List Wd) (r : List (List Nat)) S, PartsOk d p u b rs ws most nr → Wd.near ∉ o → o.length ≤ 1000 → RosOk d p u r → f [.d (partsD d p u b rs ws), .d (orderD o), .d (rosterD r)] S = .ok (.d (keyD o (partsW b ws r))) S
theorem rev_desc (l : List Nat) : ((srtI (l.map fun (n : Nat) => (n : Int))).map D.int).reverse = (descI l).map .int := by
  simp [descI]
theorem srtD_nums (l : List Nat) : srtD (numsD l) = some (.lst ((srtI (l.map fun (n : Nat) => (n : Int))).map .int)) := by
  have h := srtD_tup (l.map fun (n : Nat) => (n : Int))
  rw [List.map_map] at h
  exact h
theorem key_law_ok (phi : Nat → Fn) (h266 : SpSumL (phi 266)) (h267 : SpBurdensL (phi 267)) (h268 : SpUnmetL (phi 268)) : SpKeyL (mkFn 3 7 (b__law_key.den phi)) := by
  intro d p u b rs ws most nr o r S ho hno hn hr
  have e1 := fun S => h267 d p u b r S ho.s ho.bl hr
  have e2 := fun S => h268 d p u ws r S ho.s (by have := ho.wn; omega) ho.wo hr
  have e3 := fun S => (h266 (r.map (burdenN b)) S).2
  have e4 := fun S => (h266 (r.zipIdx.map fun p => unmetN ws p.2 p.1) S).2
  generalize hA : r.map (burdenN b) = A at *
  generalize hB : (r.zipIdx.map fun p => unmetN ws p.2 p.1) = B at *
  have hln : o.length ≤ LN := LN_le _ (by omega)
  have hP : partsW b ws r = fun w => match w with | .even => A | .sum => A | _ => B := by
    funext w
    cases w <;> simp only [partsW, hA, hB]
  rw [hP]
  have a1 : atI [sizeT d p u, numsD b, rulesD rs, wishesD ws] 1 = some (numsD b) := by simp
  have a3 : atI [sizeT d p u, numsD b, rulesD rs, wishesD ws] 3 = some (wishesD ws) := by simp
  simp [mkFn_eq, b__law_key, partsD, e1, e2, e3, e4, srtD_nums, rev_desc, dctE, orderD, hln]
  rw [lcL_mapM Wd.D (fun w => some (kpD w (match w with | .even => A | .sum => A | _ => B))) id]
  · simp [keyD]
  · intro w hw
    cases w <;> first | (exfalso; exact hno hw) | simp [Wd.D, Wd.s, ixD, keyOk, asKey, dfind, kpD, Wd.row]
end Rg.M
set_option Elab.async false
set_option linter.all false
set_option maxRecDepth 100000
set_option maxHeartbeats 4000000
namespace Rg.M
open PySem PySem.Spec PyProof.Rows L2
structure OrdOk (o : List Wd) : Prop where
  l1 : 1 ≤ o.length
  l4 : o.length ≤ 4
  nd : o.Nodup
  nn : Wd.near ∉ o
def allW : List Wd := [.even, .sum, .wishes, .worst]
def loB : Sts := (.cons (.asg (.nm 4) (.ca 233 (.cons (.nm 0) (.cons (.bi .len (.cons (.nm 1) .nil)) .nil)))) (.cons (.par [2, 1] (.cons (.o2 .add (.nm 2) (.fr (.lst (.cons (.ix (.nm 1) (.nm 4)) .nil)))) (.cons (.o2 .add (.sl (.nm 1) .none (.some (.nm 4))) (.sl (.nm 1) (.some (.o2 .add (.nm 4) (.k (.int 1)))) .none)) .nil))) .nil))
def lD (l : List Wd) : D := .lst (l.map Wd.D)
@[simp] theorem slD_lst (l : List D) (lo hi : Option Int) : slD (.lst l) lo hi = some (.lst (cutD l lo hi)) := Eq.trans rfl rfl
theorem lo_step (phi : Nat → Fn) (h233 : SpTaken (phi 233)) (c : Cell) (T : List Cell) (hc : RowOk c) (left found : List Wd) (h1 : 1 ≤ left.length) (h2 : left.length + found.length ≤ 100) (z : D) (s3 s4 : Slot) : ∃ (a : Nat) (c' : Cell) (t4 : Slot) (x : Wd), RowOk c' ∧ left[a]? = some x ∧
    (Out.opt ((Tg.nm 3).set z [.w (.l (.inr 0)), .w (.d (lD left)), .w (.d (lD found)), s3, s4]) fun env3 => loB.den phi env3 (c :: T)) = .nx [.w (.l (.inr 0)), .w (.d (lD (left.take a ++ left.drop (a + 1)))), .w (.d (lD (found ++ [x]))), .w (.d z), t4] (c' :: T) := by
  obtain ⟨v, c', e, hv, k⟩ := h233 c T left.length hc h1 (by omega)
  refine ⟨v, c', .w (.d (.int v)), left[v], k, List.getElem?_eq_getElem hv, ?_⟩
  have g1 : atI (left.map Wd.D) (v : Int) = some (left[v]).D := by
    rw [atI_nat, List.getElem?_map, List.getElem?_eq_getElem hv]
    rfl
  have g2 := cut_j Wd.D left v
  have g3 := cut_i Wd.D left (v + 1)
  have g4 : O2.f .add (.lst (found.map Wd.D)) (.lst [left[v].D]) = some (.lst (found.map Wd.D ++ [left[v].D])) := f_addL _ _ (by simp; omega)
  have g5 : O2.f .add (.lst ((left.take v).map Wd.D)) (.lst ((left.drop (v + 1)).map Wd.D)) = some (.lst ((left.take v).map Wd.D ++ (left.drop (v + 1)).map Wd.D)) := f_addL _ _ (by simp; omega)
  simp only [Int.natCast_add, Int.natCast_one] at g3
  simp [loB, lD, e, g1, g2, g3, g4, g5, -List.map_take, -List.map_drop]
theorem lo_loop (phi : Nat → Fn) (h233 : SpTaken (phi 233)) (T : List Cell) : ∀ (ds : List D) (c : Cell) (left found : List Wd) (s3 s4 : Slot), RowOk c → (found ++ left).Perm allW → ds.length ≤ left.length → ∃ (c' : Cell) (left' found' : List Wd) (t3 t4 : Slot), RowOk c' ∧ (found' ++ left').Perm allW ∧ found'.length = found.length + ds.length ∧
    forL (fun x env2 S2 => Out.opt ((Tg.nm 3).set x env2) fun env3 => loB.den phi env3 S2) ds [.w (.l (.inr 0)), .w (.d (lD left)), .w (.d (lD found)), s3, s4] (c :: T) = .nx [.w (.l (.inr 0)), .w (.d (lD left')), .w (.d (lD found')), t3, t4] (c' :: T)
  | [], c, left, found, s3, s4, hc, hp, hl => ⟨c, left, found, s3, s4, hc, hp, rfl, by simp [forL]⟩
  | z :: ds, c, left, found, s3, s4, hc, hp, hl => by
    have hlen := hp.length_eq
    simp [allW] at hlen
    simp only [List.length_cons] at hl
    obtain ⟨a, c1, t4, x, k1, hx, e⟩ := lo_step phi h233 c T hc left found (by omega) (by omega) z s3 s4
    have ha : a < left.length := (List.getElem?_eq_some_iff.mp hx).1
    have hsplit : left = left.take a ++ x :: left.drop (a + 1) := by
      have h1 : left.drop a = x :: left.drop (a + 1) := by
        rw [List.drop_eq_getElem_cons ha]
        rw [List.getElem?_eq_getElem ha] at hx
        rw [Option.some.inj hx]
      rw [← h1, List.take_append_drop]
    have hp2 : ((found ++ [x]) ++ (left.take a ++ left.drop (a + 1))).Perm allW := by
      refine List.Perm.trans ?_ hp
      conv => rhs; rw [hsplit]
      rw [List.append_assoc]
      apply List.Perm.append_left
      show (x :: (left.take a ++ left.drop (a + 1))).Perm _
      exact List.perm_middle.symm
    obtain ⟨c2, l2, f2, t3, t4', k2, hp3, hf, e2⟩ := lo_loop phi h233 T ds c1 _ _ (.w (.d z)) t4 k1 hp2 (by simp; omega)
    refine ⟨c2, l2, f2, t3, t4', k2, hp3, by simp at hf ⊢; omega, ?_⟩
    rw [forL_cons_nx e, e2]
def SpOrderL (f : Fn) : Prop := ∀ (c : Cell) (T : List Cell), RowOk c → ∃ (o : List Wd) (c' : Cell), f [.l (.inr 0)] (c :: T) = .ok (.d (orderD o)) (c' :: T) ∧ OrdOk o ∧ RowOk c'
theorem order_law_ok (phi : Nat → Fn) (h233 : SpTaken (phi 233)) : SpOrderL (mkFn 1 5 (b__law_order.den phi)) := by
  intro c T hc
  obtain ⟨v, c1, e1, hv, k1⟩ := h233 c T 4 hc (by omega) (by omega)
  replace e1 : phi 233 [.l (.inr 0), .d (.int 4)] (c :: T) = _ := e1
  obtain ⟨c2, l2, f2, t3, t4, k2, hp, hf, e2⟩ := lo_loop phi h233 T (rangeD 0 (1 + v)) c1 allW [] .un .un k1 (List.Perm.refl _) (by simp [allW]; omega)
  have hg : rgOk ((1 : Int) + v) = true := rgOk_ok (by omega) (by omega)
  have hg2 : ((1 : Int) + v).toNat = 1 + v := by omega
  have e3 : (St.fr (.nm 3) (.rg1 (.o2 .add (.k (.int 1)) (.ca 233 (.cons (.nm 0) (.cons (.k (.int 4)) .nil))))) loB).den phi [.w (.l (.inr 0)), .w (.d (lD allW)), .w (.d (lD [])), .un, .un] (c :: T) = .nx [.w (.l (.inr 0)), .w (.d (lD l2)), .w (.d (lD f2)), t3, t4] (c2 :: T) := by
    rw [den_for, den_irg1]
    simp [e1, hg, hg2]
    exact e2
  refine ⟨f2, c2, ?_, ?_, k2⟩
  · simp only [loB, lD, allW, Wd.D, Wd.s, List.map_cons, List.map_nil] at e3
    simp [mkFn_eq, b__law_order, -den_for, e3, orderD, Wd.D]
  · have hnd : (f2 ++ l2).Nodup := hp.nodup_iff.mpr (by decide)
    refine ⟨by simp at hf; omega, by simp at hf; omega, (List.nodup_append.mp hnd).1, fun h => ?_⟩
    have h2 : Wd.near ∈ allW := hp.mem_iff.mp (by simp [h])
    simp [allW] at h2
theorem isOrd_order {o : List Wd} (h : OrdOk o) : isOrd (orderD o) = true := by
  have h1 := h.l1
  have h4 := h.l4
  have e : strsL (o.map Wd.D) = some (o.map Wd.s) := by
    have := strsL_map (o.map Wd.s)
    rw [List.map_map] at this
    exact this
  have nd : (o.map Wd.s).Nodup := by
    apply List.Pairwise.map _ _ h.nd
    intro a b n e
    apply n
    cases a <;> cases b <;> first | rfl | (exfalso; revert e; decide +kernel)
  simp [isOrd, orderD, h1, h4, e, nd]
  intro x hx
  cases x <;> first | (exfalso; exact h.nn hx) | simp [Wd.D, Wd.s, isWdD, wordsL]
theorem len_order : (Str.ofString "order").length ≤ 1000 := by decide +kernel
def SpCheckOrder (f : Fn) : Prop := (∀ v t S, isWardD v = false → (∀ l, t ≠ .tp false l) → f [.d v, .d t] S = .ex (101, [(101, .str (Str.ofString "ward"))]) S) ∧
  (∀ (w : WardP) t S, (∀ l, t ≠ .tp false l) → f [.d w.D, .d t] S = if isOrd t = true then .ok (.d .non) S else .ex (101, [(101, .str (Str.ofString "order"))]) S)
theorem check_order_ok (phi : Nat → Fn) (h202 : SpCheck (phi 202)) (h223 : SpIsWard (phi 223)) (h271 : SpIsOrder (phi 271)) : SpCheckOrder (mkFn 2 2 (b_check_order_v2.den phi)) := by
  constructor
  · intro v t S h ht
    simp [mkFn_eq, b_check_order_v2, h223 _ _, h, h202 _ _ _ len_ward]
  · intro w t S ht
    simp [mkFn_eq, b_check_order_v2, h223 _ _, isWardD_ward, h202 _ _ _ len_ward, h202 _ _ _ len_order, h271 _ _ ht]
    by_cases h3 : isOrd t = true <;> simp [h3]
def SpKeyOf (f : Fn) : Prop := (∀ v t x S, isWardD v = false → (∀ l, t ≠ .tp false l) → f [.d v, .d t, .d x] S = .ex (101, [(101, .str (Str.ofString "ward"))]) S) ∧
  (∀ (w : WardP) t x S, (∀ l, t ≠ .tp false l) → isOrd t = false → f [.d w.D, .d t, .d x] S = .ex (101, [(101, .str (Str.ofString "order"))]) S) ∧
  (∀ (w : WardP) o x S, OrdOk o → isTable w.d w.p w.u x = false → f [.d w.D, .d (orderD o), .d x] S = .ex (101, [(101, .str (Str.ofString "roster"))]) S) ∧
  (∀ (w : WardP) o r S, w.ok → OrdOk o → RosOk w.d w.p w.u r → f [.d w.D, .d (orderD o), .d (rosterD r)] S = .ok (.d (keyN w [] o r)) S)
theorem order_tup (o : List Wd) : ∀ l, orderD o ≠ .tp false l := by
  intro l h
  simp [orderD] at h
theorem key_of_ok (phi : Nat → Fn) (h202 : SpCheck (phi 202)) (h224 : SpIsTable (phi 224)) (h262 : SpKeyIn (phi 262)) (h272 : SpCheckOrder (phi 272)) : SpKeyOf (mkFn 3 3 (b_key_of_v2.den phi)) := by
  refine ⟨?_, ?_, ?_, ?_⟩
  · intro v t x S h ht
    simp [mkFn_eq, b_key_of_v2, h272.1 _ _ _ h ht]
  · intro w t x S ht h
    simp [mkFn_eq, b_key_of_v2, h272.2 _ _ _ ht, h]
  · intro w o x S ho h
    simp [mkFn_eq, b_key_of_v2, h272.2 _ _ _ (order_tup o), isOrd_order ho, h224 _ _ _, h, h202 _ _ _ len_roster]
  · intro w o r S hw ho hr
    have h := isTable_ros hw.u3.1 hr
    have e := fun S => h262 w o r [] .non S hw (by have := ho.l4; omega) hr (fun h => absurd h ho.nn)
    simp [mkFn_eq, b_key_of_v2, h272.2 _ _ _ (order_tup o), isOrd_order ho, h224 _ _ _, h, h202 _ _ _ len_roster, e]
end Rg.M
set_option Elab.async false
set_option linter.all false
set_option maxRecDepth 100000
set_option maxHeartbeats 4000000
namespace Rg.M
open PySem PySem.Spec PyProof.Rows L2
theorem keyD_congr {o : List Wd} {f g : Wd → List Nat} (h : ∀ x ∈ o, f x = g x) : keyD o f = keyD o g := by
  unfold keyD
  congr 1
  apply List.map_congr_left
  intro x hx
  rw [h x hx]
theorem okA_nums (n : Nat) (l : List Nat) (h : l.length ≤ 16777216) : okA (n + 2) (numsD l) := by
  refine ⟨by simpa using h, ?_⟩
  intro x hx
  simp only [List.mem_map] at hx
  obtain ⟨a, _, rfl⟩ := hx
  trivial
theorem okA_key (n : Nat) (o : List Wd) (ps : Wd → List Nat) (h : o.length ≤ 16777216) (hp : ∀ x ∈ o, (ps x).length ≤ 16777216) : okA (n + 3) (keyD o ps) := by
  refine ⟨by simpa using h, ?_⟩
  intro x hx
  simp only [List.mem_map] at hx
  obtain ⟨w, hw, rfl⟩ := hx
  unfold kpD
  split
  · refine ⟨by simp [descI_len]; exact hp w hw, ?_⟩
    intro y hy
    simp only [List.mem_map] at hy
    obtain ⟨a, _, rfl⟩ := hy
    trivial
  · trivial
theorem map_zipIdx_fst {α β : Type} (f : α → β) (l : List α) : l.map f = l.zipIdx.map fun p => f p.1 := by
  apply List.ext_getElem
  · simp
  · intro i h1 h2
    simp
theorem keyN_law (d p u : Nat) (b : List Nat) (rs : List Rule) (ws : List Wish) (bs r : List (List Nat)) (o : List Wd) (h : Wd.near ∉ o) : keyN (wardOf d p u b rs ws) bs o r = keyD o (partsW b ws r) := by
  unfold keyN
  apply keyD_congr
  intro x hx
  cases x with
  | even => exact (map_zipIdx_fst (burdenN b) r).symm
  | sum => exact (map_zipIdx_fst (burdenN b) r).symm
  | wishes => rfl
  | worst => rfl
  | near => exact absurd hx h
theorem partsW_len (b : List Nat) (ws : List Wish) (r : List (List Nat)) (x : Wd) : (partsW b ws r x).length = r.length := by
  cases x <;> simp [partsW]
def lawB03 : Sts := .cons (.asg (.nm 7) (.ca 242 (.cons (.nm 1) (.cons (.nm 3) .nil)))) (.cons (.asg (.nm 8) (.fr (.lst (.cons (.ca 256 (.cons (.nm 4) (.cons (.nm 7) .nil))) (.cons (.ca 257 (.cons (.nm 4) (.cons (.nm 7) .nil))) (.cons (.ca 273 (.cons (.nm 4) (.cons (.nm 5) (.cons (.nm 7) .nil)))) .nil)))))) (.cons (.ite (.nt (.ca 250 (.cons (.nm 8) (.cons (.fr (.lst (.cons (.ca 267 (.cons (.ix (.nm 2) (.k (.int 1))) (.cons (.nm 7) .nil))) (.cons (.ca 268 (.cons (.ix (.nm 2) (.k (.int 3))) (.cons (.nm 7) .nil))) (.cons (.ca 269 (.cons (.nm 2) (.cons (.nm 5) (.cons (.nm 7) .nil)))) .nil))))) .nil)))) (.cons (.ret (.k (.bl false))) .nil) .nil) .nil))
structure Fn03 (phi : Nat → Fn) : Prop where
  h234 : SpPick (phi 234)
  h239 : SpParts (phi 239)
  h241 : SpWardL (phi 241)
  h242 : SpTableL (phi 242)
  h250 : SpAlike 6 (phi 250)
  h251 : SpBent (phi 251)
  h256 : SpTableE (fun w r => r.map (burdenN w.burdens)) (phi 256)
  h257 : SpTableE (fun w r => r.zipIdx.map fun p => unmetN w.wishes p.2 p.1) (phi 257)
  h265 : SpOrderL (phi 265)
  h267 : SpBurdensL (phi 267)
  h268 : SpUnmetL (phi 268)
  h269 : SpKeyL (phi 269)
  h273 : SpKeyOf (phi 273)
theorem law_step03 (phi : Nat → Fn) (F : Fn03 phi) (c : Cell) (d p u : Nat) (b : List Nat) (rs : List Rule) (ws : List Wish) (most : Nat) (o : List Wd) (hc : RowOk c) (ho : PartsOk d p u b rs ws most 3) (hord : OrdOk o) (s0 s6 s7 s8 : Slot) : ∃ (r : List (List Nat)) (c' : Cell) (t8 : Slot),
    lawB03.den phi [s0, .w (.l (.inr 0)), .w (.d (partsD d p u b rs ws)), .w (.d (sizeT d p u)), .w (.d (wardOf d p u b rs ws).D), .w (.d (orderD o)), s6, s7, s8, .un, .un, .un, .un] [c] = .nx [s0, .w (.l (.inr 0)), .w (.d (partsD d p u b rs ws)), .w (.d (sizeT d p u)), .w (.d (wardOf d p u b rs ws).D), .w (.d (orderD o)), s6, .w (.d (rosterD r)), t8, .un, .un, .un, .un] [c'] ∧ RosOk d p u r ∧ RowOk c' := by
  obtain ⟨r, c1, e1, hr, k1⟩ := F.h242 c [] d p u hc ho.s
  have hw := wardOf_ok (by omega : (3 : Nat) ≤ 12) ho
  have hp := wardOf_p (b := b) (r := rs) (w := ws) ho.s
  have hu := wardOf_u (b := b) (r := rs) (w := ws) ho.s
  have hr' : RosOk (wardOf d p u b rs ws).d (wardOf d p u b rs ws).p (wardOf d p u b rs ws).u r := by
    rw [hp, hu]
    exact hr
  have hp4 := ho.s.p4
  have hrn := hr.n
  have q1 := fun S => F.h256.2.2 (wardOf d p u b rs ws) r S hw hr'
  have q2 := fun S => F.h257.2.2 (wardOf d p u b rs ws) r S hw hr'
  have q3 := fun S => F.h273.2.2.2 (wardOf d p u b rs ws) o r S hw hord hr'
  have q4 := fun S => F.h267 d p u b r S ho.s ho.bl hr
  have q5 := fun S => F.h268 d p u ws r S ho.s (by have := ho.wn; omega) ho.wo hr
  have q6 := fun S => F.h269 d p u b rs ws most 3 o r S ho hord.nn (by have := hord.l4; omega) hr
  simp only [keyN_law d p u b rs ws [] r o hord.nn] at q3
  have eb : (wardOf d p u b rs ws).burdens = b := rfl
  have ew : (wardOf d p u b rs ws).wishes = ws := rfl
  simp only [eb] at q1
  simp only [ew] at q2
  have hl1 := hord.l4
  have q7 := fun S => F.h250 (.lst [numsD (r.map (burdenN b)), numsD (r.zipIdx.map fun p => unmetN ws p.2 p.1), keyD o (partsW b ws r)]) S ⟨by simp, by
    intro x hx
    simp only [List.mem_cons, List.not_mem_nil, or_false] at hx
    rcases hx with rfl | rfl | rfl
    · exact okA_nums 3 _ (by simp; omega)
    · exact okA_nums 3 _ (by simp; omega)
    · exact okA_key 2 _ _ (by omega) fun x _ => by rw [partsW_len]; omega⟩
  have a1 : atI [sizeT d p u, numsD b, rulesD rs, wishesD ws] 1 = some (numsD b) := by simp
  have a3 : atI [sizeT d p u, numsD b, rulesD rs, wishesD ws] 3 = some (wishesD ws) := by simp
  refine ⟨r, c1, .w (.d (.lst [numsD (r.map (burdenN b)), numsD (r.zipIdx.map fun p => unmetN ws p.2 p.1), keyD o (partsW b ws r)])), ?_, hr, k1⟩
  generalize hA : numsD (r.map (burdenN b)) = A at *
  generalize hB : numsD (r.zipIdx.map fun p => unmetN ws p.2 p.1) = B at *
  generalize hC : keyD o (partsW b ws r) = C at *
  simp only [partsD] at q6 ⊢
  simp [lawB03, e1, q1, q2, q3, q4, q5, q6, q7]
theorem law_loop03 (phi : Nat → Fn) (F : Fn03 phi) (c : Cell) (d p u : Nat) (b : List Nat) (rs : List Rule) (ws : List Wish) (most : Nat) (o : List Wd) (hc : RowOk c) (ho : PartsOk d p u b rs ws most 3) (hord : OrdOk o) (s0 : Slot) : ∃ (r : List (List Nat)) (c' : Cell) (t6 t8 : Slot),
    (St.fr (.nm 6) (.rg1 (.k (.int 3))) lawB03).den phi [s0, .w (.l (.inr 0)), .w (.d (partsD d p u b rs ws)), .w (.d (sizeT d p u)), .w (.d (wardOf d p u b rs ws).D), .w (.d (orderD o)), .un, .un, .un, .un, .un, .un, .un] [c] = .nx [s0, .w (.l (.inr 0)), .w (.d (partsD d p u b rs ws)), .w (.d (sizeT d p u)), .w (.d (wardOf d p u b rs ws).D), .w (.d (orderD o)), t6, .w (.d (rosterD r)), t8, .un, .un, .un, .un] [c'] ∧ RosOk d p u r ∧ RowOk c' := by
  obtain ⟨r1, c1, t1, e1, h1, k1⟩ := law_step03 phi F c d p u b rs ws most o hc ho hord s0 (.w (.d (.int 0))) .un .un
  obtain ⟨r2, c2, t2, e2, h2, k2⟩ := law_step03 phi F c1 d p u b rs ws most o k1 ho hord s0 (.w (.d (.int 1))) (.w (.d (rosterD r1))) t1
  obtain ⟨r3, c3, t3, e3, h3, k3⟩ := law_step03 phi F c2 d p u b rs ws most o k2 ho hord s0 (.w (.d (.int 2))) (.w (.d (rosterD r2))) t2
  refine ⟨r3, c3, .w (.d (.int 2)), t3, ?_, h3, k3⟩
  have e : rangeD 0 (3 : Int).toNat = [.int 0, .int 1, .int 2] := rfl
  have rg3 : rgOk 3 = true := rgOk_ok (by omega) (by omega)
  rw [den_for, den_irg1, den_k]
  simp only [Res.bnd_ok, rg1D_ok rg3, Res.ou_ok, e]
  rw [forL_cons_nx (by simp only [set_nm, Out.opt_some, List.set_cons_succ, List.set_cons_zero]; exact e1), forL_cons_nx (by simp only [set_nm, Out.opt_some, List.set_cons_succ, List.set_cons_zero]; exact e2), forL_cons_nx (by simp only [set_nm, Out.opt_some, List.set_cons_succ, List.set_cons_zero]; exact e3)]
  rfl
def wrongL (o : List Wd) : List D := [.non, .tup [], .str "even", .lst [.str "even"], .tup [.str "even", .str "even"], .tup [.str "evens"], .tup (o.map Wd.D ++ [.non]), .tup (o.map Wd.D ++ (o.take 1).map Wd.D), .tup [.int 0]]
theorem wrong_ok {o : List Wd} (ho : OrdOk o) : ∀ v ∈ wrongL o, isOrd v = false ∧ ∀ l, v ≠ .tp false l := by
  intro v hv
  refine ⟨?_, ?_⟩
  · simp only [wrongL, List.mem_cons, List.not_mem_nil, or_false] at hv
    rcases hv with rfl | rfl | rfl | rfl | rfl | rfl | rfl | rfl | rfl
    · rfl
    · rfl
    · rfl
    · rfl
    · have e : strsL [.str "even", .str "even"] = some [("even" : Str), ("even" : Str)] := rfl
      simp [isOrd, e]
    · simp [isOrd, isWdD, wordsL]
    · simp [isOrd, isWdD]
    · have hl := ho.l1
      obtain ⟨x, o', rfl⟩ : ∃ x o', o = x :: o' := by
        cases o with
        | nil => simp at hl
        | cons x o' => exact ⟨x, o', rfl⟩
      have e : strsL ((x :: o').map Wd.D ++ ((x :: o').take 1).map Wd.D) = some ((x :: o').map Wd.s ++ [x.s]) := by
        have := strsL_map ((x :: o').map Wd.s ++ [x.s])
        rw [List.map_append, List.map_map] at this
        exact this
      have nd : ¬ ((x :: o').map Wd.s ++ [x.s]).Nodup := by
        intro h
        rw [List.nodup_append] at h
        exact h.2.2 x.s (by simp) x.s (by simp) rfl
      simp only [isOrd, e, decide_eq_false nd, Bool.and_false]
    · simp [isOrd, isWdD]
  · intro l h
    subst h
    simp [wrongL] at hv
theorem mul_lst1 (x : D) : O2.f .mul (.lst [x]) (.int 3) = some (.lst [x, x, x]) := by
  show (if (0 : Int) ≤ 3 ∧ (3 : Int) ≤ 1000000 ∧ [x].length * (3 : Int).toNat ≤ LN then some (D.lst (List.replicate (3 : Int).toNat [x]).flatten) else none) = _
  rw [if_pos ⟨by omega, by omega, LN_le _ (by simp)⟩]
  rfl
theorem law_ok03 (phi : Nat → Fn) (F : Fn03 phi) (ns : List Int) : ∃ S, mkFn 1 13 (b_law_v3.den phi) [.d (.lst (ns.map D.int))] [] = .ok (.d (.bl true)) S := by
  obtain ⟨c, hcd⟩ : ∃ c, c = Cell.lst [.lst (ns.map D.int), .int 0, .int 7402603, .int 0] := ⟨_, rfl⟩
  have hc : RowOk c := ⟨ns, 0, 7402603, 0, hcd, by omega, by omega⟩
  obtain ⟨d, p, u, b, rs, ws, c1, e1, ho, k1⟩ := F.h239 c [] 1000000000 3 hc (by omega) (by omega)
  replace e1 : phi 239 [.l (.inr 0), .d (.int 1000000000), .d (.int 3)] [c] = _ := e1
  have e2 := fun S => F.h241 d p u b rs ws 1000000000 3 S (by omega) ho
  obtain ⟨o, c2, e3, hord, k2⟩ := F.h265 c1 [] k1
  obtain ⟨r, c3, t6, t8, e4, hr, k3⟩ := law_loop03 phi F c2 d p u b rs ws _ o k2 ho hord (.w (.d (.lst (ns.map D.int))))
  obtain ⟨bad, c4, e5, hb, k4⟩ := F.h251 c3 [] d p u r k3 ho.s hr
  have hl1 := hord.l1
  have hl4 := hord.l4
  obtain ⟨wrong, c5, e6, hwr, k5⟩ := F.h234 c4 [] (wrongL o) k4 (by simp [wrongL]) (by simp [wrongL])
  obtain ⟨hwo, hwt⟩ := wrong_ok hord wrong hwr
  have hw := wardOf_ok (by omega : (3 : Nat) ≤ 12) ho
  have hp := wardOf_p (b := b) (r := rs) (w := ws) ho.s
  have hu := wardOf_u (b := b) (r := rs) (w := ws) ho.s
  have hb' : isTable (wardOf d p u b rs ws).d (wardOf d p u b rs ws).p (wardOf d p u b rs ws).u bad = false := by
    rw [hp, hu]
    exact hb
  have q1 := fun S => F.h256.2.1 (wardOf d p u b rs ws) bad S hb'
  have q2 := fun S => F.h257.2.1 (wardOf d p u b rs ws) bad S hb'
  have q3 := fun S => F.h273.2.2.1 (wardOf d p u b rs ws) o bad S hord hb'
  have q4 := fun S => F.h273.2.1 (wardOf d p u b rs ws) wrong bad S hwt hwo
  have q5 := fun S => F.h273.1 .non wrong bad S rfl hwt
  have q6 := fun S => F.h256.1 (.int 0) (rosterD r) S rfl
  have q7 := fun S => F.h257.1 (.tup []) (rosterD r) S rfl
  have g1 : O2.f .add (.tup (o.map Wd.D)) (.tup [.non]) = some (.tup (o.map Wd.D ++ [.non])) := f_addT _ _ (by simp; omega)
  have g2 : O2.f .add (.tup (o.map Wd.D)) (.tup ((o.take 1).map Wd.D)) = some (.tup (o.map Wd.D ++ (o.take 1).map Wd.D)) := f_addT _ _ (by simp; omega)
  have g3 := cut_j Wd.D o 1
  simp only [Int.natCast_one] at g3
  obtain ⟨B1, hB1⟩ : ∃ x : D, x = .tup [.str (Str.ofString "bad"), .str (Str.ofString "roster"), .bl true] := ⟨_, rfl⟩
  obtain ⟨B2, hB2⟩ : ∃ x : D, x = .tup [.str (Str.ofString "bad"), .str (Str.ofString "order"), .bl true] := ⟨_, rfl⟩
  obtain ⟨B3, hB3⟩ : ∃ x : D, x = .tup [.str (Str.ofString "bad"), .str (Str.ofString "ward"), .bl true] := ⟨_, rfl⟩
  have q8 := fun S => F.h250 (.lst [B1, B1, B1, B2, B3, B3, B3]) S (by simp [okA, hB1, hB2, hB3])
  have j1 : O2.f .add (.lst [B1, B1, B1, B2]) (.lst [B3, B3, B3]) = some (.lst [B1, B1, B1, B2, B3, B3, B3]) := f_addL _ _ (by simp)
  have j2 : O2.f .add (.lst [B1, B1, B1]) (.lst [B2]) = some (.lst [B1, B1, B1, B2]) := f_addL _ _ (by simp)
  have e7 : ∀ l, (Tg.tp l).set (.tup [sizeT d p u, (wardOf d p u b rs ws).D, orderD o]) = l.set [sizeT d p u, (wardOf d p u b rs ws).D, orderD o] := fun l => rfl
  have a0 : ixD (partsD d p u b rs ws) (.int 0) = some (sizeT d p u) := by simp [partsD]
  refine ⟨trunc [] [c5], ?_⟩
  simp only [lawB03] at e4
  simp only [wrongL] at e6
  simp only [orderD] at e3 e4 q3 e7
  simp [mkFn_eq, b_law_v3, -List.map_take, ← hcd, e1, e2, e3, e7, a0, -den_for, e4, e5, g1, g2, g3, slD, e6, q1, q2, q3, q4, q5, q6, q7, heard_bad, ← hB1, ← hB2, ← hB3, mul_lst1, j1, j2, q8]
end Rg.M
set_option Elab.async false
set_option linter.all false
set_option maxRecDepth 100000
set_option maxHeartbeats 0
namespace K03
open PySem PySem.Spec PyProof.Rows L2 Rg Rg.M
def L0 : List Dx := []
def L1 : List Dx := d_is_number :: L0
def L2 : List Dx := d_check :: L1
def L3 : List Dx := d_is_word :: L2
def L4 : List Dx := d_are_words :: L3
def L5 : List Dx := d_are_numbers :: L4
def L6 : List Dx := d_Size_init :: L5
def L7 : List Dx := d_Size_is_day :: L6
def L8 : List Dx := d_Size_is_person :: L7
def L9 : List Dx := d_Size_is_duty :: L8
def L10 : List Dx := d_is_rule_in :: L9
def L11 : List Dx := d_is_wish_in :: L10
def L12 : List Dx := d_are_rules_in :: L11
def L13 : List Dx := d_are_wishes_in :: L12
def L14 : List Dx := d_Ward_init :: L13
def L15 : List Dx := d_Ward_days :: L14
def L16 : List Dx := d_Ward_people :: L15
def L17 : List Dx := d_Ward_duties :: L16
def L18 : List Dx := d_Ward_burdens :: L17
def L19 : List Dx := d_Ward_rules :: L18
def L20 : List Dx := d_Ward_wishes :: L19
def L21 : List Dx := d_Ward_size :: L20
def L22 : List Dx := d_parts_of :: L21
def L23 : List Dx := d_is_ward :: L22
def L24 : List Dx := d_is_table :: L23
def L25 : List Dx := d_check_roster :: L24
def L26 : List Dx := d_burden_in :: L25
def L27 : List Dx := d_unmet_in :: L26
def L28 : List Dx := d_burdens_of :: L27
def L29 : List Dx := d_unmet :: L28
def L30 : List Dx := d_is_order :: L29
def L31 : List Dx := d_no_key :: L30
def L32 : List Dx := d_part_of :: L31
def L33 : List Dx := d_parts_of_life :: L32
def L34 : List Dx := d_with_parts :: L33
def L35 : List Dx := d_key_in :: L34
def L36 : List Dx := d_check_order_v2 :: L35
def L37 : List Dx := d_key_of_v2 :: L36
def L38 : List Dx := d__law_taken :: L37
def L39 : List Dx := d__law_pick :: L38
def L40 : List Dx := d__law_power :: L39
def L41 : List Dx := d__law_size :: L40
def L42 : List Dx := d__law_rule :: L41
def L43 : List Dx := d__law_wish :: L42
def L44 : List Dx := d__law_parts :: L43
def L45 : List Dx := d__law_names :: L44
def L46 : List Dx := d__law_ward :: L45
def L47 : List Dx := d__law_order :: L46
def L48 : List Dx := d__law_table :: L47
def L49 : List Dx := d__law_alike1 :: L48
def L50 : List Dx := d__law_alike2 :: L49
def L51 : List Dx := d__law_alike3 :: L50
def L52 : List Dx := d__law_alike4 :: L51
def L53 : List Dx := d__law_alike5 :: L52
def L54 : List Dx := d__law_alike6 :: L53
def L55 : List Dx := d__law_sum :: L54
def L56 : List Dx := d__law_burdens :: L55
def L57 : List Dx := d__law_unmet :: L56
def L58 : List Dx := d__law_key :: L57
def L59 : List Dx := d__law_bent_table :: L58
def L60 : List Dx := d_law_v3 :: L59
theorem sp_is_number : SpIsNumber (phiOf L1 201) := @hereL (SpIsNumber) d_is_number L0 (is_number_ok (phiOf L0) )
theorem sp_check : SpCheck (phiOf L2 202) := @hereL (SpCheck) d_check L1 (check_ok (phiOf L1) )
theorem sp_is_word : SpIsWord (phiOf L3 203) := @hereL (SpIsWord) d_is_word L2 (is_word_ok (phiOf L2) )
theorem sp_are_words : SpAreWords (phiOf L4 204) := @hereL (SpAreWords) d_are_words L3 (are_words_ok (phiOf L3) sp_is_word)
theorem sp_are_numbers : SpAreNumbers (phiOf L5 205) := @hereL (SpAreNumbers) d_are_numbers L4 (are_numbers_ok (phiOf L4) (@liftL (SpIsNumber) [d_are_words, d_is_word, d_check] L1 201 sp_is_number rfl))
theorem sp_Size_init : SpSize (phiOf L6 206) := @hereL (SpSize) d_Size_init L5 (size_ok (phiOf L5) )
theorem sp_Size_is_day : SpIsDay (phiOf L7 207) := @hereL (SpIsDay) d_Size_is_day L6 (is_day_ok (phiOf L6) (@liftL (SpIsNumber) [d_Size_init, d_are_numbers, d_are_words, d_is_word, d_check] L1 201 sp_is_number rfl))
theorem sp_Size_is_person : SpIsPerson (phiOf L8 208) := @hereL (SpIsPerson) d_Size_is_person L7 (is_person_ok (phiOf L7) (@liftL (SpIsNumber) [d_Size_is_day, d_Size_init, d_are_numbers, d_are_words, d_is_word, d_check] L1 201 sp_is_number rfl))
theorem sp_Size_is_duty : SpIsDuty (phiOf L9 209) := @hereL (SpIsDuty) d_Size_is_duty L8 (is_duty_ok (phiOf L8) (@liftL (SpIsNumber) [d_Size_is_person, d_Size_is_day, d_Size_init, d_are_numbers, d_are_words, d_is_word, d_check] L1 201 sp_is_number rfl))
theorem sp_is_rule_in : SpIsRule (phiOf L10 210) := @hereL (SpIsRule) d_is_rule_in L9 (is_rule_in_ok (phiOf L9) (@liftL (SpIsNumber) [d_Size_is_duty, d_Size_is_person, d_Size_is_day, d_Size_init, d_are_numbers, d_are_words, d_is_word, d_check] L1 201 sp_is_number rfl) (@liftL (SpIsDay) [d_Size_is_duty, d_Size_is_person] L7 207 sp_Size_is_day rfl) (@liftL (SpIsPerson) [d_Size_is_duty] L8 208 sp_Size_is_person rfl) sp_Size_is_duty)
theorem sp_is_wish_in : SpIsWish (phiOf L11 211) := @hereL (SpIsWish) d_is_wish_in L10 (is_wish_in_ok (phiOf L10) (@liftL (SpIsNumber) [d_is_rule_in, d_Size_is_duty, d_Size_is_person, d_Size_is_day, d_Size_init, d_are_numbers, d_are_words, d_is_word, d_check] L1 201 sp_is_number rfl) (@liftL (SpIsDay) [d_is_rule_in, d_Size_is_duty, d_Size_is_person] L7 207 sp_Size_is_day rfl) (@liftL (SpIsPerson) [d_is_rule_in, d_Size_is_duty] L8 208 sp_Size_is_person rfl) (@liftL (SpIsDuty) [d_is_rule_in] L9 209 sp_Size_is_duty rfl))
theorem sp_are_rules_in : SpAreRules (phiOf L12 212) := @hereL (SpAreRules) d_are_rules_in L11 (are_rules_ok (phiOf L11) (@liftL (SpIsRule) [d_is_wish_in] L10 210 sp_is_rule_in rfl))
theorem sp_are_wishes_in : SpAreWishes (phiOf L13 213) := @hereL (SpAreWishes) d_are_wishes_in L12 (are_wishes_ok (phiOf L12) (@liftL (SpIsWish) [d_are_rules_in] L11 211 sp_is_wish_in rfl))
theorem sp_Ward_init : SpWard (phiOf L14 214) := @hereL (SpWard) d_Ward_init L13 (ward_ok (phiOf L13) (@liftL (SpIsNumber) [d_are_wishes_in, d_are_rules_in, d_is_wish_in, d_is_rule_in, d_Size_is_duty, d_Size_is_person, d_Size_is_day, d_Size_init, d_are_numbers, d_are_words, d_is_word, d_check] L1 201 sp_is_number rfl) (@liftL (SpCheck) [d_are_wishes_in, d_are_rules_in, d_is_wish_in, d_is_rule_in, d_Size_is_duty, d_Size_is_person, d_Size_is_day, d_Size_init, d_are_numbers, d_are_words, d_is_word] L2 202 sp_check rfl) (@liftL (SpAreWords) [d_are_wishes_in, d_are_rules_in, d_is_wish_in, d_is_rule_in, d_Size_is_duty, d_Size_is_person, d_Size_is_day, d_Size_init, d_are_numbers] L4 204 sp_are_words rfl) (@liftL (SpAreNumbers) [d_are_wishes_in, d_are_rules_in, d_is_wish_in, d_is_rule_in, d_Size_is_duty, d_Size_is_person, d_Size_is_day, d_Size_init] L5 205 sp_are_numbers rfl) (@liftL (SpSize) [d_are_wishes_in, d_are_rules_in, d_is_wish_in, d_is_rule_in, d_Size_is_duty, d_Size_is_person, d_Size_is_day] L6 206 sp_Size_init rfl) (@liftL (SpAreRules) [d_are_wishes_in] L12 212 sp_are_rules_in rfl) sp_are_wishes_in)
theorem sp_Ward_days : (SpGet (fun w => .int w.d)) (phiOf L15 215) := @hereL (SpGet (fun w => .int w.d)) d_Ward_days L14 (days_ok (phiOf L14) )
theorem sp_Ward_people : (SpGet (fun w => wordsD w.people)) (phiOf L16 216) := @hereL (SpGet (fun w => wordsD w.people)) d_Ward_people L15 (people_ok (phiOf L15) )
theorem sp_Ward_duties : (SpGet (fun w => wordsD w.duties)) (phiOf L17 217) := @hereL (SpGet (fun w => wordsD w.duties)) d_Ward_duties L16 (duties_ok (phiOf L16) )
theorem sp_Ward_burdens : (SpGet (fun w => numsD w.burdens)) (phiOf L18 218) := @hereL (SpGet (fun w => numsD w.burdens)) d_Ward_burdens L17 (burdens_ok (phiOf L17) )
theorem sp_Ward_rules : (SpGet (fun w => rulesD w.rules)) (phiOf L19 219) := @hereL (SpGet (fun w => rulesD w.rules)) d_Ward_rules L18 (rules_ok (phiOf L18) )
theorem sp_Ward_wishes : (SpGet (fun w => wishesD w.wishes)) (phiOf L20 220) := @hereL (SpGet (fun w => wishesD w.wishes)) d_Ward_wishes L19 (wishes_ok (phiOf L19) )
theorem sp_is_ward : SpIsWard (phiOf L23 223) := @hereL (SpIsWard) d_is_ward L22 (is_ward_ok (phiOf L22) )
theorem sp_is_table : SpIsTable (phiOf L24 224) := @hereL (SpIsTable) d_is_table L23 (is_table_ok (phiOf L23) (@liftL (SpAreNumbers) [d_is_ward, d_parts_of, d_Ward_size, d_Ward_wishes, d_Ward_rules, d_Ward_burdens, d_Ward_duties, d_Ward_people, d_Ward_days, d_Ward_init, d_are_wishes_in, d_are_rules_in, d_is_wish_in, d_is_rule_in, d_Size_is_duty, d_Size_is_person, d_Size_is_day, d_Size_init] L5 205 sp_are_numbers rfl) (@liftL (SpGet (fun w => .int w.d)) [d_is_ward, d_parts_of, d_Ward_size, d_Ward_wishes, d_Ward_rules, d_Ward_burdens, d_Ward_duties, d_Ward_people] L15 215 sp_Ward_days rfl) (@liftL (SpGet (fun w => wordsD w.people)) [d_is_ward, d_parts_of, d_Ward_size, d_Ward_wishes, d_Ward_rules, d_Ward_burdens, d_Ward_duties] L16 216 sp_Ward_people rfl) (@liftL (SpGet (fun w => wordsD w.duties)) [d_is_ward, d_parts_of, d_Ward_size, d_Ward_wishes, d_Ward_rules, d_Ward_burdens] L17 217 sp_Ward_duties rfl))
theorem sp_check_roster : SpCheckRoster (phiOf L25 229) := @hereL (SpCheckRoster) d_check_roster L24 (check_roster_ok (phiOf L24) (@liftL (SpCheck) [d_is_table, d_is_ward, d_parts_of, d_Ward_size, d_Ward_wishes, d_Ward_rules, d_Ward_burdens, d_Ward_duties, d_Ward_people, d_Ward_days, d_Ward_init, d_are_wishes_in, d_are_rules_in, d_is_wish_in, d_is_rule_in, d_Size_is_duty, d_Size_is_person, d_Size_is_day, d_Size_init, d_are_numbers, d_are_words, d_is_word] L2 202 sp_check rfl) (@liftL (SpIsWard) [d_is_table] L23 223 sp_is_ward rfl) sp_is_table)
theorem sp_burden_in : SpBurdenIn (phiOf L26 254) := @hereL (SpBurdenIn) d_burden_in L25 (burden_in_ok (phiOf L25) (@liftL (SpGet (fun w => numsD w.burdens)) [d_check_roster, d_is_table, d_is_ward, d_parts_of, d_Ward_size, d_Ward_wishes, d_Ward_rules] L18 218 sp_Ward_burdens rfl))
theorem sp_unmet_in : SpUnmetIn (phiOf L27 255) := @hereL (SpUnmetIn) d_unmet_in L26 (unmet_in_ok (phiOf L26) (@liftL (SpGet (fun w => wishesD w.wishes)) [d_burden_in, d_check_roster, d_is_table, d_is_ward, d_parts_of, d_Ward_size] L20 220 sp_Ward_wishes rfl))
theorem sp_burdens_of : (SpTableE (fun w r => r.map (burdenN w.burdens))) (phiOf L28 256) := @hereL (SpTableE (fun w r => r.map (burdenN w.burdens))) d_burdens_of L27 (burdens_of_ok (phiOf L27) (@liftL (SpCheckRoster) [d_unmet_in, d_burden_in] L25 229 sp_check_roster rfl) (@liftL (SpBurdenIn) [d_unmet_in] L26 254 sp_burden_in rfl))
theorem sp_unmet : (SpTableE (fun w r => r.zipIdx.map fun p => unmetN w.wishes p.2 p.1)) (phiOf L29 257) := @hereL (SpTableE (fun w r => r.zipIdx.map fun p => unmetN w.wishes p.2 p.1)) d_unmet L28 (unmet_ok (phiOf L28) (@liftL (SpCheckRoster) [d_burdens_of, d_unmet_in, d_burden_in] L25 229 sp_check_roster rfl) (@liftL (SpUnmetIn) [d_burdens_of] L27 255 sp_unmet_in rfl))
theorem sp_is_order : SpIsOrder (phiOf L30 271) := @hereL (SpIsOrder) d_is_order L29 (is_order_ok (phiOf L29) )
theorem sp_no_key : SpNoKey (phiOf L31 258) := @hereL (SpNoKey) d_no_key L30 (no_key_ok (phiOf L30) )
theorem sp_part_of : SpPartOf (phiOf L32 259) := @hereL (SpPartOf) d_part_of L31 (part_of_ok (phiOf L31) (@liftL (SpGet (fun w => .int w.d)) [d_no_key, d_is_order, d_unmet, d_burdens_of, d_unmet_in, d_burden_in, d_check_roster, d_is_table, d_is_ward, d_parts_of, d_Ward_size, d_Ward_wishes, d_Ward_rules, d_Ward_burdens, d_Ward_duties, d_Ward_people] L15 215 sp_Ward_days rfl) (@liftL (SpBurdenIn) [d_no_key, d_is_order, d_unmet, d_burdens_of, d_unmet_in] L26 254 sp_burden_in rfl) (@liftL (SpUnmetIn) [d_no_key, d_is_order, d_unmet, d_burdens_of] L27 255 sp_unmet_in rfl))
theorem sp_parts_of_life : SpPartsOfLife (phiOf L33 260) := @hereL (SpPartsOfLife) d_parts_of_life L32 (parts_of_life_ok (phiOf L32) sp_part_of)
theorem sp_with_parts : SpWithParts (phiOf L34 261) := @hereL (SpWithParts) d_with_parts L33 (with_parts_ok (phiOf L33) )
theorem sp_key_in : SpKeyIn (phiOf L35 262) := @hereL (SpKeyIn) d_key_in L34 (key_in_ok (phiOf L34) (@liftL (SpNoKey) [d_with_parts, d_parts_of_life, d_part_of] L31 258 sp_no_key rfl) (@liftL (SpPartsOfLife) [d_with_parts] L33 260 sp_parts_of_life rfl) sp_with_parts)
theorem sp_check_order_v2 : SpCheckOrder (phiOf L36 272) := @hereL (SpCheckOrder) d_check_order_v2 L35 (check_order_ok (phiOf L35) (@liftL (SpCheck) [d_key_in, d_with_parts, d_parts_of_life, d_part_of, d_no_key, d_is_order, d_unmet, d_burdens_of, d_unmet_in, d_burden_in, d_check_roster, d_is_table, d_is_ward, d_parts_of, d_Ward_size, d_Ward_wishes, d_Ward_rules, d_Ward_burdens, d_Ward_duties, d_Ward_people, d_Ward_days, d_Ward_init, d_are_wishes_in, d_are_rules_in, d_is_wish_in, d_is_rule_in, d_Size_is_duty, d_Size_is_person, d_Size_is_day, d_Size_init, d_are_numbers, d_are_words, d_is_word] L2 202 sp_check rfl) (@liftL (SpIsWard) [d_key_in, d_with_parts, d_parts_of_life, d_part_of, d_no_key, d_is_order, d_unmet, d_burdens_of, d_unmet_in, d_burden_in, d_check_roster, d_is_table] L23 223 sp_is_ward rfl) (@liftL (SpIsOrder) [d_key_in, d_with_parts, d_parts_of_life, d_part_of, d_no_key] L30 271 sp_is_order rfl))
theorem sp_key_of_v2 : SpKeyOf (phiOf L37 273) := @hereL (SpKeyOf) d_key_of_v2 L36 (key_of_ok (phiOf L36) (@liftL (SpCheck) [d_check_order_v2, d_key_in, d_with_parts, d_parts_of_life, d_part_of, d_no_key, d_is_order, d_unmet, d_burdens_of, d_unmet_in, d_burden_in, d_check_roster, d_is_table, d_is_ward, d_parts_of, d_Ward_size, d_Ward_wishes, d_Ward_rules, d_Ward_burdens, d_Ward_duties, d_Ward_people, d_Ward_days, d_Ward_init, d_are_wishes_in, d_are_rules_in, d_is_wish_in, d_is_rule_in, d_Size_is_duty, d_Size_is_person, d_Size_is_day, d_Size_init, d_are_numbers, d_are_words, d_is_word] L2 202 sp_check rfl) (@liftL (SpIsTable) [d_check_order_v2, d_key_in, d_with_parts, d_parts_of_life, d_part_of, d_no_key, d_is_order, d_unmet, d_burdens_of, d_unmet_in, d_burden_in, d_check_roster] L24 224 sp_is_table rfl) (@liftL (SpKeyIn) [d_check_order_v2] L35 262 sp_key_in rfl) sp_check_order_v2)
theorem sp__law_taken : SpTaken (phiOf L38 233) := @hereL (SpTaken) d__law_taken L37 (taken_ok (phiOf L37) )
theorem sp__law_pick : SpPick (phiOf L39 234) := @hereL (SpPick) d__law_pick L38 (pick_ok (phiOf L38) sp__law_taken)
theorem sp__law_power : SpPower (phiOf L40 235) := @hereL (SpPower) d__law_power L39 (power_ok (phiOf L39) )
theorem sp__law_size : SpSizeL (phiOf L41 236) := @hereL (SpSizeL) d__law_size L40 (size_law_ok (phiOf L40) (@liftL (SpTaken) [d__law_power, d__law_pick] L38 233 sp__law_taken rfl) (@liftL (SpPick) [d__law_power] L39 234 sp__law_pick rfl) sp__law_power)
theorem sp__law_rule : SpRuleL (phiOf L42 237) := @hereL (SpRuleL) d__law_rule L41 (rule_law_ok (phiOf L41) (@liftL (SpTaken) [d__law_size, d__law_power, d__law_pick] L38 233 sp__law_taken rfl) (@liftL (SpPick) [d__law_size, d__law_power] L39 234 sp__law_pick rfl))
theorem sp__law_wish : SpWishL (phiOf L43 238) := @hereL (SpWishL) d__law_wish L42 (wish_law_ok (phiOf L42) (@liftL (SpTaken) [d__law_rule, d__law_size, d__law_power, d__law_pick] L38 233 sp__law_taken rfl) (@liftL (SpPick) [d__law_rule, d__law_size, d__law_power] L39 234 sp__law_pick rfl))
theorem sp__law_parts : SpParts (phiOf L44 239) := @hereL (SpParts) d__law_parts L43 (parts_law_ok (phiOf L43) (@liftL (SpTaken) [d__law_wish, d__law_rule, d__law_size, d__law_power, d__law_pick] L38 233 sp__law_taken rfl) (@liftL (SpPick) [d__law_wish, d__law_rule, d__law_size, d__law_power] L39 234 sp__law_pick rfl) (@liftL (SpSizeL) [d__law_wish, d__law_rule] L41 236 sp__law_size rfl) (@liftL (SpRuleL) [d__law_wish] L42 237 sp__law_rule rfl) sp__law_wish)
theorem sp__law_names : SpNames (phiOf L45 240) := @hereL (SpNames) d__law_names L44 (names_ok (phiOf L44) )
theorem sp__law_ward : SpWardL (phiOf L46 241) := @hereL (SpWardL) d__law_ward L45 (ward_law_ok (phiOf L45) (@liftL (SpWard) [d__law_names, d__law_parts, d__law_wish, d__law_rule, d__law_size, d__law_power, d__law_pick, d__law_taken, d_key_of_v2, d_check_order_v2, d_key_in, d_with_parts, d_parts_of_life, d_part_of, d_no_key, d_is_order, d_unmet, d_burdens_of, d_unmet_in, d_burden_in, d_check_roster, d_is_table, d_is_ward, d_parts_of, d_Ward_size, d_Ward_wishes, d_Ward_rules, d_Ward_burdens, d_Ward_duties, d_Ward_people, d_Ward_days] L14 214 sp_Ward_init rfl) sp__law_names)
theorem sp__law_order : SpOrderL (phiOf L47 265) := @hereL (SpOrderL) d__law_order L46 (order_law_ok (phiOf L46) (@liftL (SpTaken) [d__law_ward, d__law_names, d__law_parts, d__law_wish, d__law_rule, d__law_size, d__law_power, d__law_pick] L38 233 sp__law_taken rfl))
theorem sp__law_table : SpTableL (phiOf L48 242) := @hereL (SpTableL) d__law_table L47 (table_law_ok (phiOf L47) (@liftL (SpTaken) [d__law_order, d__law_ward, d__law_names, d__law_parts, d__law_wish, d__law_rule, d__law_size, d__law_power, d__law_pick] L38 233 sp__law_taken rfl))
theorem sp__law_alike1 : (SpAlike 1) (phiOf L49 245) := @hereL (SpAlike 1) d__law_alike1 L48 (alike_ok (phiOf L48) 0 244 (alike0 _))
theorem sp__law_alike2 : (SpAlike 2) (phiOf L50 246) := @hereL (SpAlike 2) d__law_alike2 L49 (alike_ok (phiOf L49) 1 245 sp__law_alike1)
theorem sp__law_alike3 : (SpAlike 3) (phiOf L51 247) := @hereL (SpAlike 3) d__law_alike3 L50 (alike_ok (phiOf L50) 2 246 sp__law_alike2)
theorem sp__law_alike4 : (SpAlike 4) (phiOf L52 248) := @hereL (SpAlike 4) d__law_alike4 L51 (alike_ok (phiOf L51) 3 247 sp__law_alike3)
theorem sp__law_alike5 : (SpAlike 5) (phiOf L53 249) := @hereL (SpAlike 5) d__law_alike5 L52 (alike_ok (phiOf L52) 4 248 sp__law_alike4)
theorem sp__law_alike6 : (SpAlike 6) (phiOf L54 250) := @hereL (SpAlike 6) d__law_alike6 L53 (alike_ok (phiOf L53) 5 249 sp__law_alike5)
theorem sp__law_sum : SpSumL (phiOf L55 266) := @hereL (SpSumL) d__law_sum L54 (sum_law_ok (phiOf L54) )
theorem sp__law_burdens : SpBurdensL (phiOf L56 267) := @hereL (SpBurdensL) d__law_burdens L55 (burdens_law_ok (phiOf L55) sp__law_sum)
theorem sp__law_unmet : SpUnmetL (phiOf L57 268) := @hereL (SpUnmetL) d__law_unmet L56 (unmet_law_ok (phiOf L56) (@liftL (SpSumL) [d__law_burdens] L55 266 sp__law_sum rfl))
theorem sp__law_key : SpKeyL (phiOf L58 269) := @hereL (SpKeyL) d__law_key L57 (key_law_ok (phiOf L57) (@liftL (SpSumL) [d__law_unmet, d__law_burdens] L55 266 sp__law_sum rfl) (@liftL (SpBurdensL) [d__law_unmet] L56 267 sp__law_burdens rfl) sp__law_unmet)
theorem sp__law_bent_table : SpBent (phiOf L59 251) := @hereL (SpBent) d__law_bent_table L58 (bent_ok (phiOf L58) (@liftL (SpPick) [d__law_key, d__law_unmet, d__law_burdens, d__law_sum, d__law_alike6, d__law_alike5, d__law_alike4, d__law_alike3, d__law_alike2, d__law_alike1, d__law_table, d__law_order, d__law_ward, d__law_names, d__law_parts, d__law_wish, d__law_rule, d__law_size, d__law_power] L39 234 sp__law_pick rfl))
theorem fnOk : Fn03 (phiOf L59) := ⟨(@liftL (SpPick) [d__law_bent_table, d__law_key, d__law_unmet, d__law_burdens, d__law_sum, d__law_alike6, d__law_alike5, d__law_alike4, d__law_alike3, d__law_alike2, d__law_alike1, d__law_table, d__law_order, d__law_ward, d__law_names, d__law_parts, d__law_wish, d__law_rule, d__law_size, d__law_power] L39 234 sp__law_pick rfl), (@liftL (SpParts) [d__law_bent_table, d__law_key, d__law_unmet, d__law_burdens, d__law_sum, d__law_alike6, d__law_alike5, d__law_alike4, d__law_alike3, d__law_alike2, d__law_alike1, d__law_table, d__law_order, d__law_ward, d__law_names] L44 239 sp__law_parts rfl), (@liftL (SpWardL) [d__law_bent_table, d__law_key, d__law_unmet, d__law_burdens, d__law_sum, d__law_alike6, d__law_alike5, d__law_alike4, d__law_alike3, d__law_alike2, d__law_alike1, d__law_table, d__law_order] L46 241 sp__law_ward rfl), (@liftL (SpTableL) [d__law_bent_table, d__law_key, d__law_unmet, d__law_burdens, d__law_sum, d__law_alike6, d__law_alike5, d__law_alike4, d__law_alike3, d__law_alike2, d__law_alike1] L48 242 sp__law_table rfl), (@liftL (SpAlike 6) [d__law_bent_table, d__law_key, d__law_unmet, d__law_burdens, d__law_sum] L54 250 sp__law_alike6 rfl), sp__law_bent_table, (@liftL (SpTableE (fun w r => r.map (burdenN w.burdens))) [d__law_bent_table, d__law_key, d__law_unmet, d__law_burdens, d__law_sum, d__law_alike6, d__law_alike5, d__law_alike4, d__law_alike3, d__law_alike2, d__law_alike1, d__law_table, d__law_order, d__law_ward, d__law_names, d__law_parts, d__law_wish, d__law_rule, d__law_size, d__law_power, d__law_pick, d__law_taken, d_key_of_v2, d_check_order_v2, d_key_in, d_with_parts, d_parts_of_life, d_part_of, d_no_key, d_is_order, d_unmet] L28 256 sp_burdens_of rfl), (@liftL (SpTableE (fun w r => r.zipIdx.map fun p => unmetN w.wishes p.2 p.1)) [d__law_bent_table, d__law_key, d__law_unmet, d__law_burdens, d__law_sum, d__law_alike6, d__law_alike5, d__law_alike4, d__law_alike3, d__law_alike2, d__law_alike1, d__law_table, d__law_order, d__law_ward, d__law_names, d__law_parts, d__law_wish, d__law_rule, d__law_size, d__law_power, d__law_pick, d__law_taken, d_key_of_v2, d_check_order_v2, d_key_in, d_with_parts, d_parts_of_life, d_part_of, d_no_key, d_is_order] L29 257 sp_unmet rfl), (@liftL (SpOrderL) [d__law_bent_table, d__law_key, d__law_unmet, d__law_burdens, d__law_sum, d__law_alike6, d__law_alike5, d__law_alike4, d__law_alike3, d__law_alike2, d__law_alike1, d__law_table] L47 265 sp__law_order rfl), (@liftL (SpBurdensL) [d__law_bent_table, d__law_key, d__law_unmet] L56 267 sp__law_burdens rfl), (@liftL (SpUnmetL) [d__law_bent_table, d__law_key] L57 268 sp__law_unmet rfl), (@liftL (SpKeyL) [d__law_bent_table] L58 269 sp__law_key rfl), (@liftL (SpKeyOf) [d__law_bent_table, d__law_key, d__law_unmet, d__law_burdens, d__law_sum, d__law_alike6, d__law_alike5, d__law_alike4, d__law_alike3, d__law_alike2, d__law_alike1, d__law_table, d__law_order, d__law_ward, d__law_names, d__law_parts, d__law_wish, d__law_rule, d__law_size, d__law_power, d__law_pick, d__law_taken] L37 273 sp_key_of_v2 rfl)⟩
theorem math : ∀ ns : List Int, ns.length ≤ 63 → (∀ z ∈ ns, Builtin.Int.intBits z ≤ 1048576) → ∃ S, phiOf dxs d_law_v3.ix [.d (.lst (ns.map D.int))] [] = .ok (.d (.bl true)) S := by
  intro ns h1 h2
  obtain ⟨S, e⟩ := law_ok03 (phiOf L59) fnOk ns
  exact ⟨S, (congrFun (congrFun (if_pos rfl : phiOf (d_law_v3 :: L59) d_law_v3.ix = _) _) _).trans e⟩
end K03
open PySem PySem.W PySem.Calls PyProof.Rows
theorem PySem.Challenge.cw_evenrosters_k03_burdens_and_wishes_holds : PySem.Challenge.rw_evenrosters_k03_burdens_and_wishes.Holds := by
  w_on; o_law
  refine HandSHeadRun.head_any (r := OpenLaw.row PySem.Challenge.rw_evenrosters_k03_burdens_and_wishes) (q := view (OpenLaw.row PySem.Challenge.rw_evenrosters_k03_burdens_and_wishes).prog [81]) (H := K03.hk) (ob := K03.ob) (M := 6000) (loose := K03.names) (d := HandSHeadRun.topDef (OpenLaw.row PySem.Challenge.rw_evenrosters_k03_burdens_and_wishes).prog 81) (kwd := []) K03.ob_eq
    (by kernel_rfl) (fun s => by kernel_rfl) K03.run (by kernel_rfl) (by kernel_rfl) (by kernel_rfl) (by rfl) (by first | assumption | decide +kernel) (by decide +kernel) ⟨rfl, rfl, rfl, rfl, rfl, by decide +kernel⟩ ?hw ?hc
  case hw => w_witness2
  case hc =>
    refine LamX.walk_ofTsE (l := PySem.Challenge.rw_evenrosters_k03_burdens_and_wishes) (n := 63) (k := K03.d_law_v3.j + 1) (x := "script") (CX := fun w => L2.CX PySem.Challenge.rw_evenrosters_k03_burdens_and_wishes.prog w) rfl (by decide) (by kernel_rfl) ⟨rfl, by decide, by decide⟩ ?F (fun _ _ _ _ _ z => by
      obtain ⟨_, _, _, _, _, _, _, _, _, _, _, _, z⟩ := z
      exact z)
    intro w mg fa h Y G hmg0
    obtain ⟨K, KX, c⟩ := Y
    have hmg : mg ("law" : PySem.Str) = some (.ref fa) := by
      have e : (HandSHeadRun.topDef (OpenLaw.row PySem.Challenge.rw_evenrosters_k03_burdens_and_wishes).prog 81).name = ("law" : PySem.Str) := by kernel_rfl
      rw [← e]
      exact hmg0
    exact ⟨K, KX, Rg.law_at rfl rfl KX G c hmg K03.math⟩
