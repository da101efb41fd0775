import PyProof.Rows.All
import Wide.All
import OpenK.AllK
import Wide.FinOn
import HandS.ForMost
import HandS.Wide
import HandS.Text
import HandS.StrMore
import HandS.Rindex
import PyProof.StrBlock2
import HandS.Lambda
import HandS.Flow
import HandS.Conv
import HandS.TupAny
import HandS.IsInst
import HandS.Zip
import HandS.Style
import HandS.NoneIn
import HandS.ExcOwn
import HandS.ForExc
import KE.KRevSl
import HandS.Deep
import HandS.TupLe
import HandS.TupMul
import HandS.More
import HandS.Dict
import KE.GoesEnum
import HandS.ExcInit
import KE.KExcIs
import HandS.WordsDict
import HandS.Small
import HandS.Iter
import HandS.Defaults
import HandS.Head0
import HandS.Head1
import HandS.Head2
import HandS.HeadEnd
import HandS.HeadHook1
import HandS.HeadHook2
import HandS.HeadHook3
import HandS.HeadHook4
import HandS.EndTab
import HandS.Codes
import PySem.Challenge.RW_wendleaf_k40_shelf_texts
set_option Elab.async false
set_option linter.all false
set_option maxRecDepth 100000
namespace WL
open PySem
inductive D where
  | non | bl (b : Bool) | int (i : Int) | str (s : Str) | tup (l : List D) | ref (n : Nat) | frz (l : List Int) | gd (ks : List Str) (vs : List D)
  deriving Inhabited
mutual
def D.beq : D → D → Bool
  | .non, .non => true
  | .bl a, .bl b => decide (a = b)
  | .int a, .int b => decide (a = b)
  | .str a, .str b => decide (a = b)
  | .tup a, .tup b => D.beqs a b
  | .ref a, .ref b => decide (a = b)
  | .frz a, .frz b => decide (a = b)
  | .gd a x, .gd b y => decide (a = b) && D.beqs x y
  | _, _ => false
def D.beqs : List D → List D → Bool
  | [], [] => true
  | a :: as, b :: bs => D.beq a b && D.beqs as bs
  | _, _ => false
end
mutual
theorem D.eq_of_beq : ∀ {a b : D}, D.beq a b = true → a = b
  | .non, b, h => by cases b <;> simp [D.beq] at h ⊢
  | .bl _, b, h => by cases b <;> simp [D.beq] at h ⊢; exact h
  | .int _, b, h => by cases b <;> simp [D.beq] at h ⊢; exact h
  | .str _, b, h => by cases b <;> simp [D.beq] at h ⊢; exact h
  | .tup x, b, h => by
    cases b <;> simp [D.beq] at h ⊢
    exact D.eqs_of_beqs h
  | .ref _, b, h => by cases b <;> simp [D.beq] at h ⊢; exact h
  | .frz _, b, h => by cases b <;> simp [D.beq] at h ⊢; exact h
  | .gd _ x, b, h => by
    cases b <;> simp [D.beq] at h ⊢
    exact ⟨h.1, D.eqs_of_beqs h.2⟩
theorem D.eqs_of_beqs : ∀ {a b : List D}, D.beqs a b = true → a = b
  | [], b, h => by cases b <;> simp [D.beqs] at h ⊢
  | x :: xs, b, h => by
    cases b <;> simp [D.beqs] at h ⊢
    exact ⟨D.eq_of_beq h.1, D.eqs_of_beqs h.2⟩
end
mutual
theorem D.beq_self : ∀ a : D, D.beq a a = true
  | .non => rfl
  | .bl _ => by simp [D.beq]
  | .int _ => by simp [D.beq]
  | .str _ => by simp [D.beq]
  | .tup x => by simp only [D.beq]; exact D.beqs_self x
  | .ref _ => by simp [D.beq]
  | .frz _ => by simp [D.beq]
  | .gd _ x => by simp only [D.beq, decide_true, Bool.true_and]; exact D.beqs_self x
theorem D.beqs_self : ∀ a : List D, D.beqs a a = true
  | [] => rfl
  | x :: xs => by simp only [D.beqs, D.beq_self x, D.beqs_self xs, Bool.and_self]
end
instance : DecidableEq D := fun a b => if h : D.beq a b = true then .isTrue (D.eq_of_beq h) else .isFalse fun e => h (e ▸ D.beq_self a)
inductive Cell where
  | lst (l : List D)
  | dct (l : List (L2.Key × D))
  deriving DecidableEq, Inhabited
abbrev Store := List Cell
abbrev Env := List (Option D)
mutual
def D.und (n : Nat) : D → Bool
  | .tup l => D.unds n l
  | .ref m => decide (m < n)
  | _ => true
def D.unds (n : Nat) : List D → Bool
  | [] => true
  | d :: ds => D.und n d && D.unds n ds
end
def Cell.und (n : Nat) : Cell → Bool
  | .lst l => D.unds n l
  | .dct l => D.unds n (l.map (·.2))
def agree (n : Nat) : Store → Store → Bool
  | [], _ => true
  | _ :: _, [] => false
  | c :: s, c' :: s' => (decide (c = c') || c'.und n) && agree n s s'
def trunc (s : Store) (d : D) (s' : Store) : Store := if D.und s.length d && agree s.length s s' then s'.take s.length else s'
inductive Bi where
  | len | int | str | tuple | list | sum | min | max | abs | ord | sorted | dict
  deriving DecidableEq, Repr
inductive Ty where
  | int | bool | str | tuple | list
  deriving DecidableEq, Repr
inductive Me where
  | join | split | zfill | part | rpart | upper | find | count | get | dpop | update
  deriving DecidableEq, Repr
mutual
inductive E where
  | var (i : Nat)
  | int (i : Int)
  | str (s : Str)
  | bl (b : Bool)
  | non
  | glob (g : Nat)
  | tup (es : List E)
  | lst (es : List E)
  | bin (op : Operator) (a b : E)
  | neg (a : E)
  | not (a : E)
  | and (a b : E)
  | or (a b : E)
  | cmp (a : E) (op : CmpOp) (b : E)
  | chain (a : E) (op : CmpOp) (b : E) (op' : CmpOp) (c : E)
  | ife (c a b : E)
  | ix (a b : E)
  | slice (a : E) (lo hi : List E)
  | rev (a : E)
  | call (f : Nat) (es : List E)
  | heard (h f : Nat) (es : List E)
  | bi (b : Bi) (es : List E)
  | isi (a : E) (t : Ty)
  | lrg (es : List E)
  | trg (es : List E)
  | app (o a : E)
  | pop (o a : E)
  | ext (o a : E)
  | lc (elt : E) (tg : Tg) (it : It) (ifs : List E) (own : List Nat)
  | meth (m : Me) (o : E) (es : List E)
  | dnew
inductive It where
  | val (e : E)
  | rng (es : List E)
  | enm (e : E)
  | zip (a b : E)
inductive Tg where
  | nm (i : Nat)
  | tup (ts : List Tg)
  | sub (o i : E)
end
inductive HS where
  | ret (e : E)
  | ifret (c e : E)
structure Hd where
  cs : List Nat
  nm : Option Nat
  b : List HS
inductive S where
  | asg (t : Tg) (e : E)
  | par (is : List Nat) (es : List E)
  | aug (i : Nat) (op : Operator) (e : E)
  | augS (o i : E) (op : Operator) (e : E)
  | expr (e : E)
  | ret (e : E)
  | retN
  | iff (c : E) (a b : List S)
  | for (t : Tg) (it : It) (b : List S)
  | whl (c : E) (b : List S)
  | brk
  | cnt
  | pass
  | nev
  | rais (c : Nat) (e : E)
  | tryx (b : List S) (hs : List Hd)
  | heard (z : Option Str) (hs : List Hd)
inductive R (α : Type) where
  | ok (a : α) (s : Store)
  | exc (c : Nat) (w : D) (s : Store)
  | bad
@[simp] def R.bind {α β : Type} (r : R α) (f : α → Store → R β) : R β := match r with
  | .ok a s => f a s
  | .exc c w s => .exc c w s
  | .bad => .bad
inductive RS where
  | nx (ρ : Env) (s : Store)
  | ret (d : D) (s : Store)
  | brk (ρ : Env) (s : Store)
  | cnt (ρ : Env) (s : Store)
  | exc (c : Nat) (w : D) (ρ : Env) (s : Store)
  | bad
@[simp] def R.stm {α : Type} (r : R α) (ρ : Env) (f : α → Store → RS) : RS := match r with
  | .ok a s => f a s
  | .exc c w s => .exc c w ρ s
  | .bad => .bad
def isLst (s : Store) (n : Nat) : Option (List D) := match s[n]? with
  | some (.lst l) => some l
  | _ => none
def isDct (s : Store) (n : Nat) : Option (List (L2.Key × D)) := match s[n]? with
  | some (.dct l) => some l
  | _ => none
def valD {κ : Type} [DecidableEq κ] (l : List (κ × D)) (k : κ) : Option D := (l.find? fun p => decide (p.1 = k)).map (·.2)
def putD {κ : Type} [DecidableEq κ] (l : List (κ × D)) (k : κ) (v : D) : List (κ × D) :=
  if (l.any fun p => decide (p.1 = k)) = true then l.map (fun p => if p.1 = k then (p.1, v) else p) else l ++ [(k, v)]
def dropD {κ : Type} [DecidableEq κ] (l : List (κ × D)) (k : κ) : List (κ × D) := l.filter fun p => decide (p.1 ≠ k)
def keyD : D → Option L2.Key
  | .int i => some (.inl i)
  | .str x => some (.inr x)
  | _ => none
def lookD (s : Store) (d k : D) : Option (Option D) := match d with
  | .gd ks vs => (match k with
    | .str x => some (valD (ks.zip vs) x)
    | _ => none)
  | .ref n => (match isDct s n, keyD k with
    | some l, some k => some (valD l k)
    | _, _ => none)
  | _ => none
def isL (s : Store) : D → Bool
  | .ref n => (isLst s n).isSome
  | _ => false
def items (s : Store) : D → Option (List D)
  | .tup l => some l
  | .ref n => isLst s n
  | .frz l => some (l.map .int)
  | _ => none
def newLst (l : List D) (s : Store) : R D := if l.length ≤ sizeLine then .ok (.ref s.length) (s ++ [.lst l]) else .bad
def truth (s : Store) : D → Option Bool
  | .non => some false
  | .bl b => some b
  | .int i => some (i != 0)
  | .str x => if x.length ≤ sizeLine then some ((x.length : Int) != 0) else none
  | d => (items s d).map fun l => !l.isEmpty
def mulSOk (x : Str) (n : Int) : Bool := decide (-(2 ^ 62) < n) && decide (n < 2 ^ 62) && decide (x.length * n.toNat ≤ sizeLine) && decide (x.length ≤ 2 ^ 62)
def mulOk (i j : Int) : Bool := (decide (-(2 ^ 64) < i) && decide (i < 2 ^ 64)) || (decide (-(2 ^ 64) < j) && decide (j < 2 ^ 64))
def binop (op : Operator) (x y : D) (s : Store) : R D := match op, x, y with
  | .Add, .int i, .int j => .ok (.int (i + j)) s
  | .Sub, .int i, .int j => .ok (.int (i - j)) s
  | .Mult, .int i, .int j => if mulOk i j then .ok (.int (i * j)) s else .bad
  | .Mod, .int i, .int j => if 0 < j then .ok (.int (i % j)) s else .bad
  | .FloorDiv, .int i, .int j => if 0 < j ∧ j.natAbs.log2 < 9000 then .ok (.int (i / j)) s else .bad
  | .Pow, .int i, .int j => if 0 ≤ j ∧ j ≤ 1000000 ∧ i.natAbs < 2 ^ 64 then .ok (.int (i ^ j.toNat)) s else .bad
  | .Add, .str a, .str b => if a.length + b.length ≤ sizeLine then .ok (.str (a ++ b)) s else .bad
  | .Add, .tup a, .tup b => if a.length + b.length ≤ sizeLine then .ok (.tup (a ++ b)) s else .bad
  | .Add, .ref a, .ref b => match isLst s a, isLst s b with
    | some l, some m => if l.length + m.length ≤ sizeLine then newLst (l ++ m) s else .bad
    | _, _ => .bad
  | .Mult, .str x, .int k => if mulSOk x k then .ok (.str (Txt.mul x k)) s else .bad
  | .Mult, .tup l, .int k => if l ≠ [] ∧ 2 ≤ k ∧ k ≤ 1000 ∧ l.length ≤ 1000 then .ok (.tup (List.replicate k.toNat l).flatten) s else .bad
  | .Mult, .ref a, .int k => match isLst s a with
    | some l => if -(2 ^ 63) ≤ k ∧ k < 2 ^ 63 ∧ l.length * k.toNat ≤ sizeLine then newLst (List.replicate k.toNat l).flatten s else .bad
    | _ => .bad
  | _, _, _ => .bad
def toPy : Nat → Store → D → Option PyData
  | 0, _, _ => none
  | n + 1, s, d => match d with
    | .non => some .none
    | .bl b => some (.bool b)
    | .int i => some (.int i)
    | .str x => some (.str x)
    | .tup l => (l.mapM (toPy n s)).map .tuple
    | .ref a => match isLst s a with
      | some l => (l.mapM (toPy n s)).map .list
      | none => none
    | .frz l => some (.list (l.map .int))
    | .gd _ _ => none
def eqD (s : Store) (x y : D) : Option Bool := match toPy 60 s x, toPy 60 s y with
  | some a, some b => if SeqAt.shaped a && SeqAt.shaped b then some (PyData.eqv a b) else none
  | _, _ => none
def flatD : D → Bool
  | .non | .bl _ | .int _ | .str _ => true
  | _ => false
def eqF : D → D → Bool
  | .non, .non => true
  | .bl a, .bl b => a == b
  | .bl a, .int b => (if a then 1 else 0) == b
  | .int a, .bl b => a == (if b then 1 else 0)
  | .int a, .int b => a == b
  | .str a, .str b => a == b
  | _, _ => false
def inO (s : Store) (x y : D) : Option Bool := match y with
  | .str z => (match x with
    | .str c => (match c.cps.toList with
      | [u] => some (decide (u ∈ z.cps.toList))
      | _ => none)
    | _ => none)
  | d => (lookD s d x).map (·.isSome)
def inD (s : Store) (x y : D) : Option Bool := match items s y with
  | some l => if flatD x && l.all flatD then some (l.any fun z => eqF z x) else (match toPy 60 s x, toPy 60 s y with
    | some a, some (.list ds) => if SeqAt.shaped a && SeqAt.shaped (.list ds) then some (ds.any fun z => PyData.eqv z a) else none
    | some a, some (.tuple ds) => if SeqAt.shaped a && SeqAt.shaped (.tuple ds) then some (ds.any fun z => PyData.eqv z a) else none
    | _, _ => none)
  | none => inO s x y
def cmpD (op : CmpOp) (s : Store) (x y : D) : Option Bool := match op with
  | .Eq => eqD s x y
  | .NotEq => (eqD s x y).map (!·)
  | .Is => if y = .non then some (decide (x = .non)) else (match x, y with
    | .bl a, .bl b => some (decide (a = b))
    | _, _ => none)
  | .IsNot => if y = .non then some (!decide (x = .non)) else (match x, y with
    | .bl a, .bl b => some (!decide (a = b))
    | _, _ => none)
  | .In => inD s x y
  | .NotIn => (inD s x y).map (!·)
  | .Lt => match x, y with
    | .int i, .int j => some (decide (i < j))
    | .str a, .str b => some (decide (a.cps.toList < b.cps.toList))
    | _, _ => none
  | .LtE => match x, y with
    | .int i, .int j => some (decide (i ≤ j))
    | .str a, .str b => some (!decide (b.cps.toList < a.cps.toList))
    | _, _ => none
  | .Gt => match x, y with
    | .int i, .int j => some (decide (j < i))
    | .str a, .str b => some (decide (b.cps.toList < a.cps.toList))
    | _, _ => none
  | .GtE => match x, y with
    | .int i, .int j => some (decide (j ≤ i))
    | .str a, .str b => some (!decide (a.cps.toList < b.cps.toList))
    | _, _ => none
def R.ofBool (o : Option Bool) (s : Store) : R D := match o with
  | some b => .ok (.bl b) s
  | none => .bad
def R.ofD (o : Option D) (s : Store) : R D := match o with
  | some d => .ok d s
  | none => .bad
def ixOf (n : Nat) (i : Int) : Option Nat := if 0 ≤ i then (if i < n then some i.toNat else none) else if -(n : Int) ≤ i then some (i + n).toNat else none
def atD {α : Type} (l : List α) (i : Int) : Option α := (ixOf l.length i).bind fun j => l[j]?
def ixD (s : Store) (x y : D) : Option D := match x, y with
  | .str z, .int i => if z.length ≤ sizeLine then (atD z.cps.toList i).map fun c => .str ⟨#[c]⟩ else none
  | x, .int i => (match items s x with
    | some l => atD l i
    | none => (lookD s x (.int i)).bind id)
  | x, k => (lookD s x k).bind id
def endOf (n d : Nat) : Option Int → Nat
  | none => d
  | some v => if v < 0 then (v + n).toNat else min v.toNat n
def cutD (xs : List D) (lo hi : Option Int) : List D := (xs.drop (endOf xs.length 0 lo)).take (endOf xs.length xs.length hi - endOf xs.length 0 lo)
def sliceD (s : Store) (x : D) (lo hi : Option Int) : R D := match x with
  | .tup l => .ok (.tup (cutD l lo hi)) s
  | .ref n => match isLst s n with
    | some l => newLst (cutD l lo hi) s
    | none => .bad
  | .frz l => newLst (cutD (l.map .int) lo hi) s
  | .str z => if z.length ≤ sizeLine then .ok (.str (L2.cutS z lo hi)) s else .bad
  | _ => .bad
def revD (s : Store) (x : D) : R D := match x with
  | .tup l => .ok (.tup l.reverse) s
  | .ref n => match isLst s n with
    | some l => newLst l.reverse s
    | none => .bad
  | _ => .bad
def intsOf : List D → Option (List Int)
  | [] => some []
  | .int i :: r => (intsOf r).map (i :: ·)
  | _ :: _ => none
def strsOf : List D → Option (List Str)
  | [] => some []
  | .str x :: r => (strsOf r).map (x :: ·)
  | _ :: _ => none
def insS (x : Str) : List Str → List Str
  | [] => [x]
  | y :: r => if y.cps.toList < x.cps.toList then y :: insS x r else x :: y :: r
def sortS : List Str → List Str
  | [] => []
  | x :: r => insS x (sortS r)
def keysS : List (L2.Key × D) → Option (List Str)
  | [] => some []
  | (.inr x, _) :: r => (keysS r).map (x :: ·)
  | _ :: _ => none
def newDct (l : List (L2.Key × D)) (s : Store) : R D := .ok (.ref s.length) (s ++ [.dct l])
def biD (b : Bi) (ds : List D) (s : Store) : R D := match b, ds with
  | .len, [.str x] => if x.length ≤ sizeLine then .ok (.int x.length) s else .bad
  | .len, [d] => match items s d with
    | some l => .ok (.int l.length) s
    | none => (match d with
      | .ref n => (match isDct s n with
        | some l => .ok (.int l.length) s
        | none => .bad)
      | _ => .bad)
  | .int, [.int i] => .ok (.int i) s
  | .int, [.bl b] => .ok (.int (if b then 1 else 0)) s
  | .int, [.str x] => (match PySem.intText? x with
    | some n => if x.length ≤ 640 then .ok (.int n) s else .bad
    | none => .bad)
  | .str, [.int i] => if i.natAbs.log2 < 1920 then .ok (.str (toString i)) s else .bad
  | .tuple, [d] => match items s d with
    | some l => .ok (.tup l) s
    | none => .bad
  | .list, [d] => match items s d with
    | some l => newLst l s
    | none => .bad
  | .sum, [.ref n] => match isLst s n with
    | some l => match intsOf l with
      | some ns => .ok (.int ns.sum) s
      | none => .bad
    | none => .bad
  | .min, [.int i, .int j] => .ok (.int (if j < i then j else i)) s
  | .max, [.int i, .int j] => .ok (.int (if j > i then j else i)) s
  | .abs, [.int i] => .ok (.int (if i < 0 then -i else i)) s
  | .ord, [.str x] => if x.length = 1 then .ok (.int (x.cps.getD 0 0 : Nat)) s else .bad
  | .sorted, [.ref n] => (match isLst s n with
    | some l => (match strsOf l with
      | some xs => if xs.length < 64 then newLst ((sortS xs).map .str) s else .bad
      | none => .bad)
    | none => (match isDct s n with
      | some l => (match keysS l with
        | some xs => if xs.length < 64 then newLst ((sortS xs).map .str) s else .bad
        | none => .bad)
      | none => .bad))
  | .dict, [.ref n] => (match isDct s n with
    | some l => newDct l s
    | none => .bad)
  | _, _ => .bad
def isiD (s : Store) (d : D) (t : Ty) : Option Bool := match d with
  | .non => some false
  | .bl _ => some (decide (t = .bool ∨ t = .int))
  | .int _ => some (decide (t = .int))
  | .str _ => some (decide (t = .str))
  | .tup _ => some (decide (t = .tuple))
  | .ref n => (isLst s n).map fun _ => decide (t = .list)
  | .frz _ => none
  | .gd _ _ => none
def rngL (a b : Int) : List D := (List.range (b - a).toNat).map fun (i : Nat) => .int (a + i)
def small (a : Int) : Bool := decide (-(2 ^ 62) ≤ a) && decide (a < 2 ^ 62)
def rngD : List D → Option (List D)
  | [.int b] => if small b then some (rngL 0 b) else none
  | [.int a, .int b] => if small a && small b then some (rngL a b) else none
  | [.int a, .int b, .int c] => if small a && small b && decide (c = -1) then some ((List.range (a - b).toNat).map fun (i : Nat) => .int (a - i)) else none
  | _ => none
def rngNew (b : Option (List D)) (k : List D → Store → R D) (s : Store) : R D := match b with
  | some l => if l.length ≤ sizeLine then k l s else .bad
  | none => .bad
def appD (o a : D) (s : Store) : R D := match o with
  | .ref n => match isLst s n with
    | some l => if l.length < sizeLine then .ok .non (s.set n (.lst (l ++ [a]))) else .bad
    | none => .bad
  | _ => .bad
def popD (o a : D) (s : Store) : R D := match o, a with
  | .ref n, .int i => match isLst s n with
    | some l => if -(2 ^ 63) ≤ i ∧ i < 2 ^ 63 then (match ixOf l.length i with
      | some k => match l[k]? with
        | some d => .ok d (s.set n (.lst (l.eraseIdx k)))
        | none => .bad
      | none => .bad) else .bad
    | none => .bad
  | _, _ => .bad
def extD (o a : D) (s : Store) : R D := match o, a with
  | .ref n, .ref m => match isLst s n, isLst s m with
    | some l, some r => if l.length + r.length ≤ sizeLine then .ok .non (s.set n (.lst (l ++ r))) else .bad
    | _, _ => .bad
  | _, _ => .bad
def setK (n : Nat) (k v : D) (s : Store) : R Unit := match isDct s n, keyD k with
  | some l, some k => if l.length < sizeLine then .ok () (s.set n (.dct (putD l k v))) else .bad
  | _, _ => .bad
def setD (o i v : D) (s : Store) : R Unit := match o, i with
  | .ref n, .int k => match isLst s n with
    | some l => match ixOf l.length k with
      | some j => .ok () (s.set n (.lst (l.set j v)))
      | none => .bad
    | none => setK n (.int k) v s
  | .ref n, k => setK n k v s
  | _, _ => .bad
def Me.isT : Me → Bool
  | .join | .split | .zfill | .part | .rpart | .upper | .find | .count => true
  | _ => false
def meT (m : Me) (s : Store) (d : D) : Bool := match m.isT, d with
  | true, .str _ => true
  | false, .gd _ _ => true
  | false, .ref n => (isDct s n).isSome
  | _, _ => false
def meD (m : Me) (x : D) (ds : List D) (s : Store) : R D := match m, x, ds with
  | .join, .str a, [d] => (match items s d with
    | some l => (match strsOf l with
      | some ys => if (ys.map (·.length)).sum + ys.length * a.length ≤ 16777216 then .ok (.str (Txt.join a ys)) s else .bad
      | none => .bad)
    | none => .bad)
  | .split, .str a, [.str b] => if b.length ≠ 0 ∧ a.length + 2 ≤ sizeLine then newLst ((Txt.split a b).map .str) s else .bad
  | .zfill, .str a, [.int i] => if PySem.PadOk i then .ok (.str (Txt.zfill a i)) s else .bad
  | .part, .str a, [.str b] => if b.length ≠ 0 ∧ a.length ≤ sizeLine then .ok (.tup [.str (Txt.partition a b).1, .str (Txt.partition a b).2.1, .str (Txt.partition a b).2.2]) s else .bad
  | .upper, .str a, [] => if a.length ≤ 5592405 then .ok (.str (Txt.upper a)) s else .bad
  | .find, .str a, [.str b] => .ok (.int (Txt.find a b)) s
  | .count, .str a, [.str b] => .ok (.int (Txt.count a b)) s
  | .get, d, [k] => (match lookD s d k with
    | some o => .ok (o.getD .non) s
    | none => .bad)
  | .get, d, [k, e] => (match lookD s d k with
    | some o => .ok (o.getD e) s
    | none => .bad)
  | .dpop, .ref n, [k] => (match isDct s n, keyD k with
    | some l, some k => (match valD l k with
      | some d => .ok d (s.set n (.dct (dropD l k)))
      | none => .bad)
    | _, _ => .bad)
  | _, _, _ => .bad
def wipeE (ρ : Env) : List Nat → Env
  | [] => ρ
  | v :: vs => (wipeE ρ vs).set v none
abbrev Calls := Nat → List D → Store → R D
abbrev Globs := Nat → Option D
structure Walk where
  chk : List (Nat × List D)
  its : List D
def Walk.stays (w : Walk) (s : Store) : Bool := w.chk.all fun p => decide (isLst s p.1 = some p.2)
def walkOf (s : Store) (d : D) : Option Walk := match d with
  | .tup l => some ⟨[], l⟩
  | .frz l => some ⟨[], l.map .int⟩
  | .ref n => (isLst s n).map fun l => ⟨[(n, l)], l⟩
  | _ => none
def walkS (s : Store) : D → Option Walk
  | .str x => some ⟨[], x.cps.toList.map fun c => .str ⟨#[c]⟩⟩
  | d => walkOf s d
def enmOf (w : Walk) : Walk := ⟨w.chk, w.its.zipIdx.map fun p => .tup [.int p.2, p.1]⟩
def zipOf (w u : Walk) : Walk := ⟨w.chk ++ u.chk, (w.its.zip u.its).map fun p => .tup [p.1, p.2]⟩
def zipKind : D → D → Bool
  | .ref _, .ref _ => true
  | .tup _, .tup _ => true
  | .ref _, .tup _ => true
  | _, _ => false
def R.quiet {α : Type} : R α → R α
  | .exc _ _ _ => .bad
  | r => r
def hB : Nat := 1000000
def low (C : Calls) : Calls := fun f => C (f + hB)
def hrdR (c : List D → Store → R D) : R D → R D
  | .ok d s => (c [.bl true, d] s).quiet
  | .exc n w s => (c [.int n, w] s).quiet
  | .bad => .bad
section
def lcGo (w : Walk) (n : Nat) (f : D → Store → R (Option D)) : List D → Store → R D
  | [], s => if w.stays s then .ok (.ref n) s else .bad
  | x :: xs, s => if w.stays s then (f x s).quiet.bind fun o s1 => match o with
      | none => lcGo w n f xs s1
      | some d => match isLst s1 n with
        | some l => if l.length < sizeLine then lcGo w n f xs (s1.set n (.lst (l ++ [d]))) else .bad
        | none => .bad
    else .bad
mutual
def evE (C : Calls) (G : Globs) : E → Env → Store → R D
  | .var i, ρ, s => match ρ[i]? with
    | some (some d) => .ok d s
    | _ => .bad
  | .int i, _, s => .ok (.int i) s
  | .str x, _, s => .ok (.str x) s
  | .bl b, _, s => .ok (.bl b) s
  | .non, _, s => .ok .non s
  | .glob g, _, s => R.ofD (G g) s
  | .tup es, ρ, s => (evEs C G es ρ s).bind fun l s => if l.length ≤ sizeLine then .ok (.tup l) s else .bad
  | .lst es, ρ, s => (evEs C G es ρ s).bind fun l s => newLst l s
  | .bin op a b, ρ, s => (evE C G a ρ s).bind fun x s => (evE C G b ρ s).bind fun y s => binop op x y s
  | .neg a, ρ, s => (evE C G a ρ s).bind fun x s => match x with
    | .int i => .ok (.int (-i)) s
    | _ => .bad
  | .not a, ρ, s => (evE C G a ρ s).bind fun x s => R.ofBool ((truth s x).map (!·)) s
  | .and a b, ρ, s => (evE C G a ρ s).bind fun x s => match truth s x with
    | some true => evE C G b ρ s
    | some false => .ok x s
    | none => .bad
  | .or a b, ρ, s => (evE C G a ρ s).bind fun x s => match truth s x with
    | some true => .ok x s
    | some false => evE C G b ρ s
    | none => .bad
  | .cmp a op b, ρ, s => (evE C G a ρ s).bind fun x s => (evE C G b ρ s).bind fun y s => R.ofBool (cmpD op s x y) s
  | .chain a op b op' c, ρ, s => (evE C G a ρ s).bind fun x s => (evE C G b ρ s).bind fun y s => match cmpD op s x y with
    | some true => (evE C G c ρ s).bind fun z s => R.ofBool (cmpD op' s y z) s
    | some false => .ok (.bl false) s
    | none => .bad
  | .ife c a b, ρ, s => (evE C G c ρ s).bind fun x s => match truth s x with
    | some true => evE C G a ρ s
    | some false => evE C G b ρ s
    | none => .bad
  | .ix a b, ρ, s => (evE C G a ρ s).bind fun x s => (evE C G b ρ s).bind fun y s => R.ofD (ixD s x y) s
  | .slice a lo hi, ρ, s => (evE C G a ρ s).bind fun x s => (evEnd C G lo ρ s).bind fun l s => (evEnd C G hi ρ s).bind fun h s => sliceD s x l h
  | .rev a, ρ, s => (evE C G a ρ s).bind fun x s => revD s x
  | .call f es, ρ, s => (evEs C G es ρ s).bind fun l s => C f l s
  | .heard h f es, ρ, s => (evEs (low C) G es ρ s).quiet.bind fun ds s => hrdR (C h) (low C f ds s)
  | .bi b es, ρ, s => (evEs C G es ρ s).bind fun l s => biD b l s
  | .isi a t, ρ, s => (evE C G a ρ s).bind fun x s => R.ofBool (isiD s x t) s
  | .lrg es, ρ, s => (evEs C G es ρ s).bind fun l s => rngNew (rngD l) newLst s
  | .trg es, ρ, s => (evEs C G es ρ s).bind fun l s => rngNew (rngD l) (fun l s => .ok (.tup l) s) s
  | .app o a, ρ, s => (evE C G o ρ s).bind fun x s => if isL s x then (evE C G a ρ s).bind fun y s => appD x y s else .bad
  | .pop o a, ρ, s => (evE C G o ρ s).bind fun x s => if isL s x then (evE C G a ρ s).bind fun y s => popD x y s else .bad
  | .ext o a, ρ, s => (evE C G o ρ s).bind fun x s => if isL s x then (evE C G a ρ s).bind fun y s => extD x y s else .bad
  | .lc elt tg it ifs own, ρ, s => (evIt C G it ρ s).bind fun w s =>
      lcGo w s.length (fun x s => (asgT C G tg x (wipeE ρ own) s).bind fun ρ1 s => match ifs with
        | [] => (evE C G elt ρ1 s).bind fun d s1 => .ok (some d) (trunc s d s1)
        | c :: _ => (evE C G c ρ1 s).bind fun b s1 => match truth s1 b with
          | some true => (evE C G elt ρ1 (trunc s .non s1)).bind fun d s2 => .ok (some d) (trunc (trunc s .non s1) d s2)
          | some false => .ok none (trunc s .non s1)
          | none => .bad) w.its (s ++ [.lst []])
  | .meth m o es, ρ, s => (evE C G o ρ s).bind fun x s => if meT m s x then (evEs C G es ρ s).bind fun ds s => meD m x ds s else .bad
  | .dnew, _, s => .ok (.ref s.length) (s ++ [.dct []])
def evEs (C : Calls) (G : Globs) : List E → Env → Store → R (List D)
  | [], _, s => .ok [] s
  | e :: es, ρ, s => (evE C G e ρ s).bind fun d s => (evEs C G es ρ s).bind fun ds s => .ok (d :: ds) s
def evEnd (C : Calls) (G : Globs) : List E → Env → Store → R (Option Int)
  | [], _, s => .ok none s
  | e :: _, ρ, s => (evE C G e ρ s).bind fun d s => match d with
    | .int i => .ok (some i) s
    | _ => .bad
def evIt (C : Calls) (G : Globs) : It → Env → Store → R Walk
  | .val e, ρ, s => (evE C G e ρ s).bind fun d s => match walkS s d with
    | some w => .ok w s
    | none => .bad
  | .rng es, ρ, s => (evEs C G es ρ s).bind fun l s => match rngD l with
    | some l => .ok ⟨[], l⟩ s
    | none => .bad
  | .enm e, ρ, s => (evE C G e ρ s).bind fun d s => match walkS s d with
    | some w => .ok (enmOf w) s
    | none => .bad
  | .zip a b, ρ, s => (evE C G a ρ s).bind fun x s => (evE C G b ρ s).bind fun y s => if zipKind x y then (match walkOf s x, walkOf s y with
    | some w, some u => .ok (zipOf w u) s
    | _, _ => .bad) else .bad
def asgT (C : Calls) (G : Globs) : Tg → D → Env → Store → R Env
  | .nm i, d, ρ, s => .ok (ρ.set i (some d)) s
  | .tup ts, d, ρ, s => match d with
    | .tup l => if l.length = ts.length then asgTs C G ts l ρ s else .bad
    | .ref n => match isLst s n with
      | some l => if l.length = ts.length then asgTs C G ts l ρ s else .bad
      | none => .bad
    | _ => .bad
  | .sub o i, d, ρ, s => (evE C G o ρ s).quiet.bind fun x s => (evE C G i ρ s).quiet.bind fun y s => (setD x y d s).bind fun _ s => .ok ρ s
def asgTs (C : Calls) (G : Globs) : List Tg → List D → Env → Store → R Env
  | [], l, ρ, s => match l with
    | [] => .ok ρ s
    | _ :: _ => .bad
  | t :: ts, l, ρ, s => match l with
    | d :: ds => (asgT C G t d ρ s).bind fun ρ s => asgTs C G ts ds ρ s
    | [] => .bad
end
end
section
variable (C : Calls) (G : Globs) (F : Nat)
def parSet : List Nat → List D → Env → Env
  | i :: is, d :: ds, ρ => (parSet is ds ρ).set i (some d)
  | _, _, ρ => ρ
def aop (op : Operator) (i j : Int) : Int := match op with
  | .Sub => i - j
  | _ => i + j
def forGo (w : Walk) (f : D → Env → Store → RS) : List D → Env → Store → RS
  | [], ρ, s => if w.stays s then .nx ρ s else .bad
  | x :: xs, ρ, s => if w.stays s then (match f x ρ s with
      | .nx ρ s => forGo w f xs ρ s
      | .cnt ρ s => forGo w f xs ρ s
      | .brk ρ s => .nx ρ s
      | r => r) else .bad
def whlGo (c : Env → Store → R Bool) (f : Env → Store → RS) : Nat → Env → Store → RS
  | 0, _, _ => .bad
  | n + 1, ρ, s => (c ρ s).stm ρ fun b s => match b with
    | false => .nx ρ s
    | true => match f ρ s with
      | .nx ρ s => whlGo c f n ρ s
      | .cnt ρ s => whlGo c f n ρ s
      | .brk ρ s => .nx ρ s
      | r => r
def tst (c : E) (ρ : Env) (s : Store) : R Bool := (evE C G c ρ s).bind fun x s1 => match truth s1 x with
  | some b => .ok b (trunc s .non s1)
  | none => .bad
def exSu : List HS → Env → Store → RS
  | [], ρ, s => .nx ρ s
  | .ret e :: _, ρ, s => (evE C G e ρ s).stm ρ fun d s1 => .ret d (trunc s d s1)
  | .ifret c e :: r, ρ, s => (tst C G c ρ s).stm ρ fun t s => match t with
    | true => (evE C G e ρ s).stm ρ fun d s1 => .ret d (trunc s d s1)
    | false => exSu r ρ s
def putX (i : Option Nat) (c : Nat) (w : D) (ρ : Env) : Env := match i with
  | some i => ρ.set i (some (.tup [.int c, w]))
  | none => ρ
def offX (i : Option Nat) (ρ : Env) : Env := match i with
  | some i => ρ.set i none
  | none => ρ
def RS.unset (i : Option Nat) : RS → RS
  | .nx ρ s => .nx (offX i ρ) s
  | .ret d s => .ret d s
  | _ => .bad
def exHd : List Hd → Nat → D → Env → Store → RS
  | [], c, w, ρ, s => .exc c w ρ s
  | h :: hs, c, w, ρ, s => if h.cs.contains c then (exSu C G h.b (putX h.nm c w ρ) s).unset h.nm else exHd hs c w ρ s
mutual
def exS : S → Env → Store → RS
  | .asg t e, ρ, s => ((evE C G e ρ s).bind fun d s1 => asgT C G t d ρ (trunc s d s1)).stm ρ fun ρ s => .nx ρ s
  | .par is es, ρ, s => (evEs C G es ρ s).stm ρ fun l s1 => if l.length = is.length then .nx (parSet is l ρ) (trunc s (.tup l) s1) else .bad
  | .aug i op e, ρ, s => match ρ[i]? with
    | some (some (.int x)) => (evE C G e ρ s).stm ρ fun d s1 => match d with
      | .int y => .nx (ρ.set i (some (.int (aop op x y)))) (trunc s .non s1)
      | _ => .bad
    | _ => .bad
  | .augS o i op e, ρ, s => (evE C G o ρ s).stm ρ fun a s => (evE C G i ρ s).stm ρ fun k s => match (if isL s a then ixD s a k else none) with
    | some (.int x) => (evE C G e ρ s).stm ρ fun y s => match y with
      | .int z => (setD a k (.int (aop op x z)) s).stm ρ fun _ s => .nx ρ s
      | _ => .bad
    | _ => .bad
  | .expr e, ρ, s => (evE C G e ρ s).stm ρ fun _ s1 => .nx ρ (trunc s .non s1)
  | .ret e, ρ, s => (evE C G e ρ s).stm ρ fun d s1 => .ret d (trunc s d s1)
  | .retN, _, s => .ret .non s
  | .iff c a b, ρ, s => (tst C G c ρ s).stm ρ fun t s => match t with
    | true => exB a ρ s
    | false => exB b ρ s
  | .for t it b, ρ, s => (evIt C G it ρ s).stm ρ fun w s => forGo w (fun x ρ s => (asgT C G t x ρ s).stm ρ fun ρ s => exB b ρ s) w.its ρ s
  | .whl c b, ρ, s => whlGo (tst C G c) (exB b) F ρ s
  | .brk, ρ, s => .brk ρ s
  | .cnt, ρ, s => .cnt ρ s
  | .pass, ρ, s => .nx ρ s
  | .nev, _, _ => .bad
  | .rais c e, ρ, s => (evE C G e ρ s).stm ρ fun d s1 => .exc c d ρ (trunc s d s1)
  | .tryx b hs, ρ, s => match exB b ρ s with
    | .exc c w ρ s => exHd C G hs c w ρ s
    | r => r
  | .heard z hs, ρ, s => match (ρ[0]? : Option (Option D)), (ρ[1]? : Option (Option D)) with
    | some (some (D.bl true)), some (some d) => .ret (match z with
      | none => d
      | some x => .tup [.str x, d]) s
    | some (some (D.int c)), some (some w) => (match exHd C G hs c.toNat w (ρ.map fun _ => none) s with
      | .exc _ _ _ _ => .bad
      | r => r)
    | _, _ => .bad
def exB : List S → Env → Store → RS
  | [], ρ, s => .nx ρ s
  | x :: xs, ρ, s => match exS x ρ s with
    | .nx ρ s => exB xs ρ s
    | r => r
end
end
structure FD where
  np : Nat
  nv : Nat
  body : List S
abbrev Prog := Nat → Option FD
def done (s : Store) : RS → R D
  | .nx _ s1 => .ok .non (trunc s .non s1)
  | .ret d s1 => .ok d (trunc s d s1)
  | .exc c w _ s1 => .exc c w (trunc s w s1)
  | _ => .bad
def callF (P : Prog) (G : Globs) (F : Nat) : Nat → Calls
  | 0 => fun _ _ _ => .bad
  | k + 1 => fun f ds s => match P f with
    | some fd => if ds.length = fd.np then done s (exB (callF P G F k) G F fd.body (ds.map some ++ List.replicate (fd.nv - fd.np) none) s) else .bad
    | none => match k with
      | 0 => .bad
      | k + 1 => callF P G F k (f - hB) ds s
end WL
namespace WL
open PySem PySem.Spec PyProof.Rows L2
def stab : HO → Bool
  | .tup _ => true
  | .frz _ _ => true
  | .xd _ => true
  | _ => false
class TBS where
  T : List (Addr × Str)
  
  gd : Addr → List Str → List D → Prop
variable [TBS]
def Keeps (H H' : Hp) : Prop := (∀ a o, H a = some o → stab o = true → H' a = some o) ∧ (LamX.Tabs TBS.T H → LamX.Tabs TBS.T H')
theorem Keeps.refl (H : Hp) : Keeps H H := ⟨fun _ _ h _ => h, fun h => h⟩
theorem Keeps.trans {H H1 H2 : Hp} (a : Keeps H H1) (b : Keeps H1 H2) : Keeps H H2 := ⟨fun x o h s => b.1 x o (a.1 x o h s) s, fun h => b.2 (a.2 h)⟩
theorem Keeps.new {H : Hp} {p : Addr} {o : HO} (h : H p = none) : Keeps H (upd H p o) := ⟨fun a u e _ => by
  rw [upd_ne (ne_of_none e h)]
  exact e, fun t => t.ext fun b u e => by
  rw [upd_ne (ne_of_none e h)]
  exact e⟩
theorem Keeps.mutO {H : Hp} {p : Addr} {o u : HO} (h : H p = some o) (hs : stab o = false) (ht : ∀ ps, o ≠ .tbl ps) (hc : ∀ c q, o ≠ LamX.CodeO c q) : Keeps H (upd H p u) := by
  refine ⟨fun a w e s => ?_, fun t q hq => ?_⟩
  · by_cases hp : a = p
    · subst hp
      rw [h] at e
      cases e
      rw [hs] at s
      cases s
    · rw [upd_ne hp]
      exact e
  · obtain ⟨ps, h1, h2, h3⟩ := t q hq
    refine ⟨ps, by rw [upd_ne (fun z => by rw [z, h] at h1; exact ht _ (Option.some.inj h1))]; exact h1, h2, fun pos cv hcc => ?_⟩
    obtain ⟨c, e1, e2⟩ := h3 pos cv hcc
    exact ⟨c, e1, by rw [upd_ne (fun z => by rw [z, h] at e2; exact hc _ _ (Option.some.inj e2))]; exact e2⟩
theorem Keeps.mutD {H : Hp} {p : Addr} {ws : List (L2.Key × V)} {u : HO} (h : H p = some (.dK ws)) : Keeps H (upd H p u) := Keeps.mutO h rfl (fun _ z => by cases z) fun _ _ z => by cases z
theorem Keeps.mut {H : Hp} {p : Addr} {ws : List V} {u : HO} (h : H p = some (.lst ws)) : Keeps H (upd H p u) := by
  refine ⟨fun a w e s => ?_, fun t q hq => ?_⟩
  · by_cases hp : a = p
    · subst hp
      rw [h] at e
      cases e
      cases s
    · rw [upd_ne hp]
      exact e
  · obtain ⟨ps, h1, h2, h3⟩ := t q hq
    refine ⟨ps, by rw [upd_ne (fun z => by rw [z, h] at h1; cases h1)]; exact h1, h2, fun pos cv hc => ?_⟩
    obtain ⟨c, e1, e2⟩ := h3 pos cv hc
    exact ⟨c, e1, by rw [upd_ne (fun z => by rw [z, h] at e2; cases e2)]; exact e2⟩
def FrzL (K : PySem.W.Frag) (H : Hp) (a : Addr) (xs : List V) : Prop := (∃ o, H a = some (.frz o (.lst xs))) ∨ ∀ H', SqL K H' a xs
theorem FrzL.sq {K : PySem.W.Frag} {H : Hp} {a : Addr} {xs : List V} (h : FrzL K H a xs) : SqL K H a xs := by
  rcases h with ⟨o, h⟩ | h
  · exact .inl (.inr ⟨o, h⟩)
  · exact h H
theorem FrzL.keep {K : PySem.W.Frag} {H H' : Hp} {a : Addr} {xs : List V} (h : FrzL K H a xs) (k : Keeps H H') : FrzL K H' a xs := by
  rcases h with ⟨o, h⟩ | h
  · exact .inl ⟨o, k.1 _ _ h rfl⟩
  · exact .inr h
theorem sqT_keep {K : PySem.W.Frag} {H H' : Hp} {a : Addr} {xs : List V} (h : SqT K H a xs) (k : Keeps H H') : SqT K H' a xs := by
  rcases h with (h | ⟨o, h⟩) | h
  · exact .inl (.inl (k.1 _ _ h rfl))
  · exact .inl (.inr ⟨o, k.1 _ _ h rfl⟩)
  · exact .inr h
mutual
def RepV (K : PySem.W.Frag) (H : Hp) (ra : List Addr) : D → V → Prop
  | .non, v => v = .non
  | .bl b, v => v = .bl b
  | .int i, v => v = .int i
  | .str x, v => v = .str x
  | .tup l, v => ∃ a vs, v = .ref a ∧ SqT K H a vs ∧ RepL K H ra l vs
  | .ref n, v => ∃ a, ra[n]? = some a ∧ v = .ref a
  | .frz l, v => ∃ a, v = .ref a ∧ FrzL K H a (l.map V.int)
  | .gd ks vs, v => ∃ a, v = .ref a ∧ TBS.gd a ks vs
def RepL (K : PySem.W.Frag) (H : Hp) (ra : List Addr) : List D → List V → Prop
  | [], vs => vs = []
  | d :: ds, vs => ∃ v r, vs = v :: r ∧ RepV K H ra d v ∧ RepL K H ra ds r
end
section
variable {K : PySem.W.Frag} {H H' : Hp} {ra rb : List Addr}
theorem pre_get {ra rb : List Addr} (h : ra <+: rb) {n : Nat} {a : Addr} (e : ra[n]? = some a) : rb[n]? = some a := by
  obtain ⟨t, rfl⟩ := h
  exact (List.getElem?_append_left (List.getElem?_eq_some_iff.mp e).1).trans e
mutual
theorem RepV.keep (k : Keeps H H') (p : ra <+: rb) : ∀ (d : D) (v : V), RepV K H ra d v → RepV K H' rb d v
  | .non, _, h => h
  | .bl _, _, h => h
  | .int _, _, h => h
  | .str _, _, h => h
  | .tup l, v, h => by
    obtain ⟨a, vs, e, s, r⟩ := h
    exact ⟨a, vs, e, sqT_keep s k, RepL.keep k p l vs r⟩
  | .ref n, v, h => by
    obtain ⟨a, e, q⟩ := h
    exact ⟨a, pre_get p e, q⟩
  | .frz l, v, h => by
    obtain ⟨a, e, s⟩ := h
    exact ⟨a, e, s.keep k⟩
  | .gd _ _, v, h => h
theorem RepL.keep (k : Keeps H H') (p : ra <+: rb) : ∀ (l : List D) (vs : List V), RepL K H ra l vs → RepL K H' rb l vs
  | [], _, h => h
  | d :: ds, vs, h => by
    obtain ⟨v, r, e, h1, h2⟩ := h
    exact ⟨v, r, e, RepV.keep k p d v h1, RepL.keep k p ds r h2⟩
end
mutual
theorem RepV.back (n : Nat) : ∀ (d : D) (v : V), D.und n d = true → RepV K H ra d v → RepV K H (ra.take n) d v
  | .non, _, _, h => h
  | .bl _, _, _, h => h
  | .int _, _, _, h => h
  | .str _, _, _, h => h
  | .tup l, v, u, h => by
    obtain ⟨a, vs, e, s, r⟩ := h
    exact ⟨a, vs, e, s, RepL.back n l vs (by simpa [D.und] using u) r⟩
  | .ref m, v, u, h => by
    obtain ⟨a, e, q⟩ := h
    have hm : m < n := by simpa [D.und] using u
    exact ⟨a, by rw [List.getElem?_take_of_lt hm]; exact e, q⟩
  | .frz l, v, _, h => h
  | .gd _ _, v, _, h => h
theorem RepL.back (n : Nat) : ∀ (l : List D) (vs : List V), D.unds n l = true → RepL K H ra l vs → RepL K H (ra.take n) l vs
  | [], _, _, h => h
  | d :: ds, vs, u, h => by
    obtain ⟨v, r, e, h1, h2⟩ := h
    have u' : D.und n d = true ∧ D.unds n ds = true := by simpa [D.unds] using u
    exact ⟨v, r, e, RepV.back n d v u'.1 h1, RepL.back n ds r u'.2 h2⟩
end
mutual
theorem RepV.lt : ∀ (d : D) (v : V), RepV K H ra d v → D.und ra.length d = true
  | .non, _, _ => rfl
  | .bl _, _, _ => rfl
  | .int _, _, _ => rfl
  | .str _, _, _ => rfl
  | .tup l, v, h => by
    obtain ⟨a, vs, e, s, r⟩ := h
    simp only [D.und]
    exact RepL.lt l vs r
  | .ref m, v, h => by
    obtain ⟨a, e, q⟩ := h
    simp only [D.und, decide_eq_true_eq]
    exact (List.getElem?_eq_some_iff.mp e).1
  | .frz l, v, _ => rfl
  | .gd _ _, v, _ => rfl
theorem RepL.lt : ∀ (l : List D) (vs : List V), RepL K H ra l vs → D.unds ra.length l = true
  | [], _, _ => rfl
  | d :: ds, vs, h => by
    obtain ⟨v, r, e, h1, h2⟩ := h
    simp only [D.unds, RepV.lt d v h1, RepL.lt ds r h2, Bool.and_self]
end
theorem RepL.length : ∀ (l : List D) (vs : List V), RepL K H ra l vs → vs.length = l.length
  | [], _, h => by rw [show _ = _ from h]; rfl
  | d :: ds, vs, h => by
    obtain ⟨v, r, e, _, h2⟩ := h
    rw [e, List.length_cons, List.length_cons, RepL.length ds r h2]
theorem RepL.get : ∀ (l : List D) (vs : List V) (i : Nat) (d : D), RepL K H ra l vs → l[i]? = some d → ∃ v, vs[i]? = some v ∧ RepV K H ra d v
  | [], _, i, d, _, e => by simp at e
  | x :: xs, vs, 0, d, h, e => by
    obtain ⟨v, r, e', h1, _⟩ := h
    simp at e
    subst e e'
    exact ⟨v, rfl, h1⟩
  | x :: xs, vs, i + 1, d, h, e => by
    obtain ⟨v, r, e', _, h2⟩ := h
    subst e'
    have e2 : xs[i]? = some d := by simpa using e
    obtain ⟨w, q1, q2⟩ := RepL.get xs r i d h2 e2
    exact ⟨w, by simpa using q1, q2⟩
theorem RepL.append : ∀ {l m : List D} {vs ws : List V}, RepL K H ra l vs → RepL K H ra m ws → RepL K H ra (l ++ m) (vs ++ ws)
  | [], m, vs, ws, h, h' => by rw [show vs = [] from h]; exact h'
  | d :: ds, m, vs, ws, h, h' => by
    obtain ⟨v, r, e, h1, h2⟩ := h
    subst e
    exact ⟨v, r ++ ws, rfl, h1, RepL.append h2 h'⟩
theorem RepL.one {d : D} {v : V} (h : RepV K H ra d v) : RepL K H ra [d] [v] := ⟨v, [], rfl, h, rfl⟩
theorem RepL.take : ∀ (l : List D) (vs : List V) (n : Nat), RepL K H ra l vs → RepL K H ra (l.take n) (vs.take n)
  | l, vs, 0, _ => by simp [RepL]
  | [], vs, n + 1, h => by rw [show vs = [] from h]; simp [RepL]
  | d :: ds, vs, n + 1, h => by
    obtain ⟨v, r, e, h1, h2⟩ := h
    subst e
    exact ⟨v, r.take n, rfl, h1, RepL.take ds r n h2⟩
theorem RepL.drop : ∀ (l : List D) (vs : List V) (n : Nat), RepL K H ra l vs → RepL K H ra (l.drop n) (vs.drop n)
  | l, vs, 0, h => h
  | [], vs, n + 1, h => by rw [show vs = [] from h]; simp [RepL]
  | d :: ds, vs, n + 1, h => by
    obtain ⟨v, r, e, h1, h2⟩ := h
    subst e
    exact RepL.drop ds r n h2
theorem RepL.set : ∀ (l : List D) (vs : List V) (i : Nat) (d : D) (v : V), RepL K H ra l vs → RepV K H ra d v → RepL K H ra (l.set i d) (vs.set i v)
  | [], vs, i, d, v, h, _ => by rw [show vs = [] from h]; simp [RepL]
  | x :: xs, vs, 0, d, v, h, q => by
    obtain ⟨w, r, e, h1, h2⟩ := h
    subst e
    exact ⟨v, r, rfl, q, h2⟩
  | x :: xs, vs, i + 1, d, v, h, q => by
    obtain ⟨w, r, e, h1, h2⟩ := h
    subst e
    exact ⟨w, r.set i v, rfl, h1, RepL.set xs r i d v h2 q⟩
theorem RepL.erase : ∀ (l : List D) (vs : List V) (i : Nat), RepL K H ra l vs → RepL K H ra (l.eraseIdx i) (vs.eraseIdx i)
  | [], vs, i, h => by rw [show vs = [] from h]; simp [RepL]
  | x :: xs, vs, 0, h => by
    obtain ⟨w, r, e, h1, h2⟩ := h
    subst e
    exact h2
  | x :: xs, vs, i + 1, h => by
    obtain ⟨w, r, e, h1, h2⟩ := h
    subst e
    exact ⟨w, r.eraseIdx i, rfl, h1, RepL.erase xs r i h2⟩
theorem RepL.rep : ∀ (k : Nat) {l : List D} {vs : List V}, RepL K H ra l vs → RepL K H ra (List.replicate k l).flatten (List.replicate k vs).flatten
  | 0, _, _, _ => rfl
  | k + 1, l, vs, h => by
    rw [List.replicate_succ, List.replicate_succ, List.flatten_cons, List.flatten_cons]
    exact h.append (RepL.rep k h)
theorem RepL.intsF : ∀ (ns : List Int), RepL K H ra (ns.map .int) (ns.map V.int)
  | [] => rfl
  | n :: ns => ⟨.int n, _, rfl, rfl, RepL.intsF ns⟩
theorem RepL.intsOf : ∀ (l : List D) (vs : List V) (ns : List Int), RepL K H ra l vs → intsOf l = some ns → vs = ns.map V.int
  | [], vs, ns, h, e => by
    rw [show vs = [] from h]
    simp [WL.intsOf] at e
    subst e
    rfl
  | d :: ds, vs, ns, h, e => by
    obtain ⟨v, r, e', h1, h2⟩ := h
    subst e'
    cases d with
    | int i =>
      simp only [WL.intsOf, Option.map_eq_some_iff] at e
      obtain ⟨ms, em, rfl⟩ := e
      rw [RepL.intsOf ds r ms h2 em, show v = .int i from h1]
      rfl
    | _ => simp [WL.intsOf] at e
def RepM (K : PySem.W.Frag) (H : Hp) (ra : List Addr) (l : List (L2.Key × D)) (kvs : List (L2.Key × V)) : Prop := kvs.map (·.1) = l.map (·.1) ∧ RepL K H ra (l.map (·.2)) (kvs.map (·.2))
theorem RepM.keep (k : Keeps H H') (p : ra <+: rb) {l : List (L2.Key × D)} {kvs : List (L2.Key × V)} (h : RepM K H ra l kvs) : RepM K H' rb l kvs := ⟨h.1, RepL.keep k p _ _ h.2⟩
theorem RepM.back (n : Nat) {l : List (L2.Key × D)} {kvs : List (L2.Key × V)} (u : D.unds n (l.map (·.2)) = true) (h : RepM K H ra l kvs) : RepM K H (ra.take n) l kvs := ⟨h.1, RepL.back n _ _ u h.2⟩
theorem RepM.nil : RepM K H ra [] [] := ⟨rfl, rfl⟩
theorem RepM.length {l : List (L2.Key × D)} {kvs : List (L2.Key × V)} (h : RepM K H ra l kvs) : kvs.length = l.length := by
  have := congrArg List.length h.1
  rwa [List.length_map, List.length_map] at this
theorem RepM.cons_inv {p : L2.Key × D} {l : List (L2.Key × D)} {kvs : List (L2.Key × V)} (h : RepM K H ra (p :: l) kvs) : ∃ v r, kvs = (p.1, v) :: r ∧ RepV K H ra p.2 v ∧ RepM K H ra l r := by
  obtain ⟨h1, v, r, h2, h3, h4⟩ := h
  cases kvs with
  | nil => cases h2
  | cons q kvs =>
    simp only [List.map_cons, List.cons.injEq] at h1 h2
    obtain ⟨e1, e2⟩ := h1
    obtain ⟨e3, e4⟩ := h2
    refine ⟨v, kvs, ?_, h3, e2, by rw [e4]; exact h4⟩
    rw [← e1, ← e3]
theorem RepM.cons {k : L2.Key} {d : D} {v : V} {l : List (L2.Key × D)} {kvs : List (L2.Key × V)} (h : RepV K H ra d v) (h2 : RepM K H ra l kvs) : RepM K H ra ((k, d) :: l) ((k, v) :: kvs) := by
  refine ⟨?_, v, _, rfl, h, h2.2⟩
  rw [List.map_cons, List.map_cons, h2.1]
theorem RepM.val : ∀ {l : List (L2.Key × D)} {kvs : List (L2.Key × V)} (k : L2.Key), RepM K H ra l kvs → (∀ d, valD l k = some d → ∃ v, valV kvs k = some v ∧ RepV K H ra d v) ∧ (valD l k = none → valV kvs k = none)
  | [], kvs, k, h => by
    have e : kvs = [] := by
      have := h.length
      exact List.eq_nil_of_length_eq_zero this
    subst e
    exact ⟨fun d q => by simp [valD] at q, fun _ => rfl⟩
  | p :: l, kvs, k, h => by
    obtain ⟨v, r, rfl, h1, h2⟩ := h.cons_inv
    obtain ⟨i1, i2⟩ := RepM.val k h2
    by_cases c : p.1 = k
    · have e1 : valD (p :: l) k = some p.2 := by simp [valD, List.find?_cons, c]
      have e2 : valV ((p.1, v) :: r) k = some v := valV_pos (p := (p.1, v)) c
      rw [e1, e2]
      exact ⟨fun d q => by cases q; exact ⟨v, rfl, h1⟩, fun q => by cases q⟩
    · have e1 : valD (p :: l) k = valD l k := by simp [valD, List.find?_cons, c]
      have e2 : valV ((p.1, v) :: r) k = valV r k := valV_neg (p := (p.1, v)) c
      rw [e1, e2]
      exact ⟨i1, i2⟩
theorem RepM.any {l : List (L2.Key × D)} {kvs : List (L2.Key × V)} (k : L2.Key) (h : RepM K H ra l kvs) : (kvs.any fun p => decide (p.1 = k)) = l.any fun p => decide (p.1 = k) := by
  have e1 : (kvs.any fun p => decide (p.1 = k)) = (kvs.map (·.1)).any fun x => decide (x = k) := by rw [List.any_map]; rfl
  have e2 : (l.any fun p => decide (p.1 = k)) = (l.map (·.1)).any fun x => decide (x = k) := by rw [List.any_map]; rfl
  rw [e1, e2, h.1]
theorem RepM.repl (k : L2.Key) {d : D} {v : V} (hv : RepV K H ra d v) : ∀ {l : List (L2.Key × D)} {kvs : List (L2.Key × V)}, RepM K H ra l kvs → RepM K H ra (l.map fun p => if p.1 = k then (p.1, d) else p) (kvs.map fun p => if p.1 = k then (p.1, v) else p)
  | [], kvs, h => by
    have e : kvs = [] := List.eq_nil_of_length_eq_zero h.length
    subst e
    exact RepM.nil
  | p :: l, kvs, h => by
    obtain ⟨w, r, rfl, h1, h2⟩ := h.cons_inv
    have ih := RepM.repl k hv h2
    obtain ⟨p1, p2⟩ := p
    rw [List.map_cons, List.map_cons]
    by_cases c : p1 = k
    · simp only [c, if_true]
      exact RepM.cons hv ih
    · simp only [c, if_false]
      exact RepM.cons h1 ih
theorem RepM.append {l m : List (L2.Key × D)} {kvs kws : List (L2.Key × V)} (h : RepM K H ra l kvs) (h2 : RepM K H ra m kws) : RepM K H ra (l ++ m) (kvs ++ kws) := by
  refine ⟨by rw [List.map_append, List.map_append, h.1, h2.1], ?_⟩
  rw [List.map_append, List.map_append]
  exact h.2.append h2.2
theorem RepM.put {l : List (L2.Key × D)} {kvs : List (L2.Key × V)} (k : L2.Key) {d : D} {v : V} (hv : RepV K H ra d v) (h : RepM K H ra l kvs) : RepM K H ra (putD l k d) (putK kvs k v) := by
  unfold putD putK
  rw [h.any k]
  split
  · exact RepM.repl k hv h
  · exact h.append (RepM.cons hv RepM.nil)
theorem RepM.drop (k : L2.Key) : ∀ {l : List (L2.Key × D)} {kvs : List (L2.Key × V)}, RepM K H ra l kvs → RepM K H ra (dropD l k) (dropK kvs k)
  | [], kvs, h => by
    have e : kvs = [] := List.eq_nil_of_length_eq_zero h.length
    subst e
    exact RepM.nil
  | p :: l, kvs, h => by
    obtain ⟨w, r, rfl, h1, h2⟩ := h.cons_inv
    have ih := RepM.drop k h2
    obtain ⟨p1, p2⟩ := p
    unfold dropD dropK at ih ⊢
    rw [List.filter_cons, List.filter_cons]
    by_cases c : p1 = k
    · simp only [c, ne_eq, not_true_eq_false, decide_false, Bool.false_eq_true, if_false]
      exact ih
    · simp only [c, ne_eq, not_false_eq_true, decide_true, if_true]
      exact RepM.cons h1 ih
variable {s : Store}
def RepC (K : PySem.W.Frag) (H : Hp) (ra : List Addr) (c : Cell) (a : Addr) : Prop := match c with
  | .lst l => ∃ vs, H a = some (.lst vs) ∧ RepL K H ra l vs
  | .dct l => ∃ kvs, H a = some (.dK kvs) ∧ RepM K H ra l kvs
theorem RepC.some {c : Cell} {a : Addr} (h : RepC K H ra c a) : ∃ o, H a = some o := by
  cases c with
  | lst l => exact ⟨_, h.choose_spec.1⟩
  | dct l => exact ⟨_, h.choose_spec.1⟩
theorem RepC.keep {c : Cell} {a : Addr} (k : Keeps H H') (p : ra <+: rb) (e : H' a = H a) (h : RepC K H ra c a) : RepC K H' rb c a := by
  cases c with
  | lst l =>
    obtain ⟨vs, hv, r⟩ := h
    exact ⟨vs, by rw [e]; exact hv, RepL.keep k p l vs r⟩
  | dct l =>
    obtain ⟨vs, hv, r⟩ := h
    exact ⟨vs, by rw [e]; exact hv, r.keep k p⟩
structure SRel (K : PySem.W.Frag) (H : Hp) (ra : List Addr) (s : Store) : Prop where
  len : ra.length = s.length
  nd : ra.Nodup
  rep : ∀ (i : Nat) (c : Cell) (a : Addr), s[i]? = some c → ra[i]? = some a → RepC K H ra c a
  tab : LamX.Tabs TBS.T H
theorem SRel.at (R : SRel K H ra s) {i : Nat} {c : Cell} (e : s[i]? = some c) : ∃ a, ra[i]? = some a ∧ RepC K H ra c a := by
  have hi : i < ra.length := by
    rw [R.len]
    exact (List.getElem?_eq_some_iff.mp e).1
  exact ⟨ra[i], List.getElem?_eq_getElem hi, R.rep i c _ e (List.getElem?_eq_getElem hi)⟩
theorem SRel.lst (R : SRel K H ra s) {n : Nat} {l : List D} (e : isLst s n = some l) : ∃ a vs, ra[n]? = some a ∧ H a = some (.lst vs) ∧ RepL K H ra l vs := by
  unfold isLst at e
  split at e
  · rename_i l' h
    cases e
    obtain ⟨a, ea, vs, hv, r⟩ := R.at h
    exact ⟨a, vs, ea, hv, r⟩
  · cases e
theorem isDct_get {s : Store} {n : Nat} {l : List (L2.Key × D)} (e : isDct s n = some l) : s[n]? = some (.dct l) := by
  unfold isDct at e
  split at e
  · rename_i l' h
    cases e
    exact h
  · cases e
theorem SRel.dct (R : SRel K H ra s) {n : Nat} {l : List (L2.Key × D)} (e : isDct s n = some l) : ∃ a kvs, ra[n]? = some a ∧ H a = some (.dK kvs) ∧ RepM K H ra l kvs := by
  obtain ⟨a, ea, vs, hv, r⟩ := R.at (isDct_get e)
  exact ⟨a, vs, ea, hv, r⟩
theorem isLst_get {s : Store} {n : Nat} {l : List D} (e : isLst s n = some l) : s[n]? = some (.lst l) := by
  unfold isLst at e
  split at e
  · rename_i l' h
    cases e
    exact h
  · cases e
theorem SRel.keep (R : SRel K H ra s) (k : Keeps H H') (m : ∀ a ∈ ra, H' a = H a) : SRel K H' ra s := by
  exact ⟨R.len, R.nd, fun i c a e ea => (R.rep i c a e ea).keep k (List.prefix_refl _) (m a (List.mem_of_getElem? ea)), k.2 R.tab⟩
theorem SRel.aside (R : SRel K H ra s) {p : Addr} {o : HO} (hp : H p = none) : SRel K (upd H p o) ra s := R.keep (Keeps.new hp) fun a ha => by
  obtain ⟨i, hi⟩ := List.getElem?_of_mem ha
  have hl : i < s.length := by
    rw [← R.len]
    exact (List.getElem?_eq_some_iff.mp hi).1
  have h := R.rep i _ a (List.getElem?_eq_getElem hl) hi
  have : a ≠ p := fun z => by
    subst z
    obtain ⟨o, ho⟩ := h.some
    rw [hp] at ho
    cases ho
  exact upd_ne this
theorem SRel.fresh (R : SRel K H ra s) {p : Addr} (hp : H p = none) : p ∉ ra := fun ha => by
  obtain ⟨i, hi⟩ := List.getElem?_of_mem ha
  have hl : i < s.length := by
    rw [← R.len]
    exact (List.getElem?_eq_some_iff.mp hi).1
  have h := R.rep i _ p (List.getElem?_eq_getElem hl) hi
  obtain ⟨o, ho⟩ := h.some
  rw [hp] at ho
  cases ho
theorem SRel.newC (R : SRel K H ra s) {p : Addr} {c0 : Cell} {o : HO} (hp : H p = none) (hc : RepC K (upd H p o) (ra ++ [p]) c0 p) : SRel K (upd H p o) (ra ++ [p]) (s ++ [c0]) := by
  have k : Keeps H (upd H p o) := Keeps.new hp
  have pf : ra <+: ra ++ [p] := List.prefix_append _ _
  have nf := R.fresh hp
  refine ⟨by simp [R.len], List.nodup_append.mpr ⟨R.nd, by simp, fun a ha b hb => ?_⟩, fun i c a e ea => ?_, k.2 R.tab⟩
  · have : b = p := by simpa using hb
    subst this
    exact fun z => nf (z ▸ ha)
  · by_cases hi : i < s.length
    · rw [List.getElem?_append_left hi] at e
      rw [List.getElem?_append_left (by rw [R.len]; exact hi)] at ea
      have hne : a ≠ p := fun z => nf (z ▸ List.mem_of_getElem? ea)
      exact (R.rep i c a e ea).keep k pf (upd_ne hne)
    · have hi' : i = s.length := by
        have := (List.getElem?_eq_some_iff.mp e).1
        simp at this
        omega
      subst hi'
      have e1 : c = c0 := by simpa using e.symm
      have e2 : a = p := by
        rw [← R.len] at ea
        simpa using ea.symm
      subst e1 e2
      exact hc
theorem SRel.newL (R : SRel K H ra s) {p : Addr} {l : List D} {vs : List V} (hp : H p = none) (r : RepL K H ra l vs) : SRel K (upd H p (.lst vs)) (ra ++ [p]) (s ++ [.lst l]) :=
  R.newC hp ⟨vs, upd_same, RepL.keep (Keeps.new hp) (List.prefix_append _ _) l vs r⟩
theorem SRel.newD (R : SRel K H ra s) {p : Addr} {l : List (L2.Key × D)} {vs : List (L2.Key × V)} (hp : H p = none) (r : RepM K H ra l vs) : SRel K (upd H p (.dK vs)) (ra ++ [p]) (s ++ [.dct l]) :=
  R.newC hp ⟨vs, upd_same, r.keep (Keeps.new hp) (List.prefix_append _ _)⟩
theorem SRel.setC (R : SRel K H ra s) {n : Nat} {p : Addr} {c0 : Cell} {o : HO} (hn : n < s.length) (ep : ra[n]? = some p) (k : Keeps H (upd H p o)) (hc : RepC K (upd H p o) ra c0 p) : SRel K (upd H p o) ra (s.set n c0) := by
  refine ⟨by simp [R.len], R.nd, fun i c a e ea => ?_, k.2 R.tab⟩
  by_cases hi : i = n
  · subst hi
    rw [ep] at ea
    cases ea
    rw [List.getElem?_set_self hn] at e
    cases e
    exact hc
  · rw [List.getElem?_set_ne (Ne.symm hi)] at e
    have hne : a ≠ p := fun z => by
      subst z
      have h1 := (List.getElem?_eq_some_iff.mp ea)
      have h2 := (List.getElem?_eq_some_iff.mp ep)
      exact hi ((List.getElem_inj R.nd).mp (h1.2.trans h2.2.symm))
    exact (R.rep i c a e ea).keep k (List.prefix_refl _) (upd_ne hne)
theorem SRel.setL (R : SRel K H ra s) {n : Nat} {p : Addr} {l l0 : List D} {vs : List V} (en : isLst s n = some l0) (ep : ra[n]? = some p) (r : RepL K H ra l vs) : SRel K (upd H p (.lst vs)) ra (s.set n (.lst l)) ∧ Keeps H (upd H p (.lst vs)) := by
  obtain ⟨p', ws, e1, e2, _⟩ := R.lst en
  rw [ep] at e1
  cases e1
  have k : Keeps H (upd H p (.lst vs)) := Keeps.mut e2
  have hl : n < s.length := by
    rw [← R.len]
    exact (List.getElem?_eq_some_iff.mp ep).1
  exact ⟨R.setC hl ep k ⟨vs, upd_same, RepL.keep k (List.prefix_refl _) l vs r⟩, k⟩
theorem SRel.setD (R : SRel K H ra s) {n : Nat} {p : Addr} {l l0 : List (L2.Key × D)} {vs : List (L2.Key × V)} (en : isDct s n = some l0) (ep : ra[n]? = some p) (r : RepM K H ra l vs) : SRel K (upd H p (.dK vs)) ra (s.set n (.dct l)) ∧ Keeps H (upd H p (.dK vs)) := by
  obtain ⟨p', ws, e1, e2, _⟩ := R.dct en
  rw [ep] at e1
  cases e1
  have k : Keeps H (upd H p (.dK vs)) := Keeps.mutD e2
  have hl : n < s.length := by
    rw [← R.len]
    exact (List.getElem?_eq_some_iff.mp ep).1
  exact ⟨R.setC hl ep k ⟨vs, upd_same, r.keep k (List.prefix_refl _)⟩, k⟩
theorem agree_get {n : Nat} : ∀ {s s' : Store}, agree n s s' = true → ∀ (i : Nat) (c c' : Cell), s[i]? = some c → s'[i]? = some c' → c' = c ∨ c'.und n = true
  | [], s', _, i, c, c', e, _ => by simp at e
  | x :: s, [], h, _, _, _, _, _ => by simp [agree] at h
  | x :: s, y :: s', h, 0, c, c', e, e' => by
    simp only [agree, Bool.and_eq_true, Bool.or_eq_true, decide_eq_true_eq] at h
    simp at e e'
    subst e e'
    rcases h.1 with z | z
    · exact .inl z.symm
    · exact .inr z
  | x :: s, y :: s', h, i + 1, c, c', e, e' => by
    simp only [agree, Bool.and_eq_true] at h
    exact agree_get h.2 i c c' (by simpa using e) (by simpa using e')
theorem agree_len {n : Nat} : ∀ {s s' : Store}, agree n s s' = true → s.length ≤ s'.length
  | [], s', _ => Nat.zero_le _
  | x :: s, [], h => by simp [agree] at h
  | x :: s, y :: s', h => by
    simp only [agree, Bool.and_eq_true] at h
    simpa using agree_len h.2
theorem SRel.trunc {s s' : Store} (R : SRel K H ra s) (R' : SRel K H' rb s') (p : ra <+: rb) (d : D) (v : V) (hv : RepV K H' rb d v) : ∃ rc, ra <+: rc ∧ SRel K H' rc (trunc s d s') ∧ RepV K H' rc d v := by
  unfold WL.trunc
  split
  · rename_i h
    rw [Bool.and_eq_true] at h
    obtain ⟨hd, ha⟩ := h
    have hl := agree_len ha
    have ep : rb.take s.length = ra := by
      obtain ⟨t, rfl⟩ := p
      rw [← R.len]
      simp
    refine ⟨ra, List.prefix_refl _, ?_, ?_⟩
    · refine ⟨?_, R.nd, fun i c a e ea => ?_, R'.tab⟩
      · rw [List.length_take, Nat.min_eq_left hl]
        exact R.len
      · have hi : i < s.length := by
          rw [← R.len]
          exact (List.getElem?_eq_some_iff.mp ea).1
        rw [List.getElem?_take_of_lt hi] at e
        have h' := R'.rep i c a e (pre_get p ea)
        have hu : c.und s.length = true := by
          rcases agree_get ha i _ c (List.getElem?_eq_getElem hi) e with z | z
          · have q := R.rep i _ a (List.getElem?_eq_getElem hi) ea
            rw [← z] at q
            cases c with
            | lst l =>
              obtain ⟨ws, _, r⟩ := q
              rw [← R.len]
              exact RepL.lt l ws r
            | dct l =>
              obtain ⟨ws, _, r⟩ := q
              rw [← R.len]
              exact RepL.lt _ _ r.2
          · exact z
        cases c with
        | lst l =>
          obtain ⟨ws, q, r⟩ := h'
          exact ⟨ws, q, by rw [← ep]; exact RepL.back s.length l ws hu r⟩
        | dct l =>
          obtain ⟨ws, q, r⟩ := h'
          exact ⟨ws, q, by rw [← ep]; exact r.back s.length hu⟩
    · rw [← ep]
      exact RepV.back s.length d v hd hv
  · exact ⟨rb, p, R', hv⟩
end
end WL
namespace WL
open PySem PySem.Spec PyProof.Rows L2
variable [TBS]
structure Cfg where
  fname : Nat → Str
  gname : Nat → Str
  cls : List Str
  base : Str
  P : Prog
  G : Globs
  F : Nat
  
  mks : Scope → Bool := fun _ => false
  
  n : Nat := 0
def heardP (M : Cfg) (h : Nat) : Bool := match M.P h with
  | some fd => (match fd.body with
    | [.heard _ _] => true
    | _ => false)
  | none => false
def noArgs (a : Arguments) : Bool := a.posonlyargs.isEmpty && a.args.isEmpty && a.vararg.isNone && a.kwonlyargs.isEmpty && a.kw_defaults.isEmpty && a.kwarg.isNone && a.defaults.isEmpty
def RepX (M : Cfg) (mg : Str → Option Value) (K : PySem.W.Frag) (H : Hp) (ra : List Addr) (c : Nat) (w : D) (cls : Value) (dd : Option Addr) : Prop :=
  ∃ (x : Str) (d : Addr) (v : V), M.cls[c]? = some x ∧ mg x = some cls ∧ dd = some d ∧ H d = some (.xd [(("what" : Str), v)]) ∧ RepV K H ra w v
section
variable (M : Cfg) (mg : Str → Option Value) (K : PySem.W.Frag) (W : WX) (σ : L2.St)
def PostR {α β : Type} (rep : Hp → List Addr → α → β → Prop) (H : Hp) (ra : List Addr) (r : R α) (Q : β → Hp → Prop) : Prop := match r with
  | .ok a s => ∀ b rb H', Keeps H H' → ra <+: rb → SRel K H' rb s → rep H' rb a b → Q b H'
  | .exc c w s => ∀ cls dd rb H', Keeps H H' → ra <+: rb → SRel K H' rb s → RepX M mg K H' rb c w cls dd → W cls dd σ H'
  | .bad => False
end
section
variable {M : Cfg} {mg : Str → Option Value} {K : PySem.W.Frag} {W : WX} {σ : L2.St} {α β γ δ : Type} {H H' : Hp} {ra rb : List Addr}
theorem PostR.mono {rep : Hp → List Addr → α → β → Prop} {r : R α} {Q : β → Hp → Prop} (h : PostR M mg K W σ rep H ra r Q) (k : Keeps H H') (p : ra <+: rb) : PostR M mg K W σ rep H' rb r Q := by
  cases r with
  | ok a s => exact fun b rc H2 k2 p2 => h b rc H2 (k.trans k2) (p.trans p2)
  | exc c w s => exact fun cls dd rc H2 k2 p2 => h cls dd rc H2 (k.trans k2) (p.trans p2)
  | bad => exact h
theorem PostR.imp {rep : Hp → List Addr → α → β → Prop} {r : R α} {Q Q' : β → Hp → Prop} (h : PostR M mg K W σ rep H ra r Q) (i : ∀ b H', Q b H' → Q' b H') : PostR M mg K W σ rep H ra r Q' := by
  cases r with
  | ok a s => exact fun b rc H2 k2 p2 s2 r2 => i _ _ (h b rc H2 k2 p2 s2 r2)
  | exc c w s => exact h
  | bad => exact h
theorem PostR.bind0 {repA : Hp → List Addr → α → β → Prop} {repB : Hp → List Addr → γ → δ → Prop} {r : R α} {f : α → Store → R γ} {Q : δ → Hp → Prop} (h : PostR M mg K W σ repB H ra (r.bind f) Q) :
    PostR M mg K W σ repA H ra r fun b H1 => ∃ a s1 r1, Keeps H H1 ∧ ra <+: r1 ∧ SRel K H1 r1 s1 ∧ repA H1 r1 a b ∧ PostR M mg K W σ repB H ra (f a s1) Q := by
  cases r with
  | ok a s => exact fun b rb H1 k p s1 rp => ⟨a, s, rb, k, p, s1, rp, h⟩
  | exc c w s => exact h
  | bad => exact h
theorem PostR.bind {repA : Hp → List Addr → α → β → Prop} {repB : Hp → List Addr → γ → δ → Prop} {r : R α} {f : α → Store → R γ} {Q : δ → Hp → Prop} (h : PostR M mg K W σ repB H ra (r.bind f) Q) :
    PostR M mg K W σ repA H ra r fun b H1 => ∃ a s1 r1, Keeps H H1 ∧ ra <+: r1 ∧ SRel K H1 r1 s1 ∧ repA H1 r1 a b ∧ PostR M mg K W σ repB H1 r1 (f a s1) Q :=
  (PostR.bind0 h).imp fun b H1 ⟨a, s1, r1, k, p, sr, rp, q⟩ => ⟨a, s1, r1, k, p, sr, rp, q.mono k p⟩
theorem PostR.quiet0 {ε : Type} {repA : Hp → List Addr → α → β → Prop} {repC : Hp → List Addr → γ → δ → Prop} {W' : WX} {σ' : L2.St} {r : R α} {f : α → Store → R ε} {f2 : ε → Store → R γ} {Q : δ → Hp → Prop}
    (h : PostR M mg K W σ repC H ra (((r.bind f).quiet).bind f2) Q) :
    PostR M mg K W' σ' repA H ra r fun b H1 => ∃ a s1 r1, Keeps H H1 ∧ ra <+: r1 ∧ SRel K H1 r1 s1 ∧ repA H1 r1 a b ∧ PostR M mg K W σ repC H ra (((f a s1).quiet).bind f2) Q := by
  cases r with
  | ok a s => exact fun b rb H1 k p s1 rp => ⟨a, s, rb, k, p, s1, rp, h⟩
  | exc c w s => exact (show False from h).elim
  | bad => exact h
theorem PostR.quiet1 {repA : Hp → List Addr → α → β → Prop} {repC : Hp → List Addr → γ → δ → Prop} {W' : WX} {σ' : L2.St} {r : R α} {f2 : α → Store → R γ} {Q : δ → Hp → Prop}
    (h : PostR M mg K W σ repC H ra ((r.quiet).bind f2) Q) :
    PostR M mg K W' σ' repA H ra r fun b H1 => ∃ a s1 r1, Keeps H H1 ∧ ra <+: r1 ∧ SRel K H1 r1 s1 ∧ repA H1 r1 a b ∧ PostR M mg K W σ repC H ra (f2 a s1) Q := by
  cases r with
  | ok a s => exact fun b rb H1 k p s1 rp => ⟨a, s, rb, k, p, s1, rp, h⟩
  | exc c w s => exact (show False from h).elim
  | bad => exact h
theorem PostR.quiet0q {ε : Type} {repA : Hp → List Addr → α → β → Prop} {repC : Hp → List Addr → γ → δ → Prop} {W' : WX} {σ' : L2.St} {r : R α} {f : α → Store → R ε} {f2 : ε → Store → R γ} {Q : δ → Hp → Prop}
    (h : PostR M mg K W σ repC H ra (((r.bind f).quiet).bind f2) Q) :
    PostR M mg K W' σ' repA H ra r.quiet fun b H1 => ∃ a s1 r1, Keeps H H1 ∧ ra <+: r1 ∧ SRel K H1 r1 s1 ∧ repA H1 r1 a b ∧ PostR M mg K W σ repC H ra (((f a s1).quiet).bind f2) Q := by
  cases r with
  | ok a s => exact fun b rb H1 k p s1 rp => ⟨a, s, rb, k, p, s1, rp, h⟩
  | exc c w s => exact (show False from h).elim
  | bad => exact h
theorem PostR.quiet {rep : Hp → List Addr → α → β → Prop} {W' : WX} {σ' : L2.St} {r : R α} {Q : β → Hp → Prop} (h : PostR M mg K W σ rep H ra r.quiet Q) : PostR M mg K W' σ' rep H ra r.quiet Q := by
  cases r with
  | ok a s => exact h
  | exc c w s => exact h
  | bad => exact h
end
structure ERel (K : PySem.W.Frag) (H : Hp) (ra : List Addr) (ρ : Env) (σ : L2.St) : Prop where
  len : σ.length = ρ.length
  get : ∀ (i : Nat) (d : D), ρ[i]? = some (some d) → ∃ v, σ[i]? = some (some v) ∧ RepV K H ra d v
section
variable {K : PySem.W.Frag} {H H' : Hp} {ra rb : List Addr} {ρ : Env} {σ : L2.St}
theorem ERel.keep (h : ERel K H ra ρ σ) (k : Keeps H H') (p : ra <+: rb) : ERel K H' rb ρ σ :=
  ⟨h.len, fun i d e => let ⟨v, e1, r⟩ := h.get i d e; ⟨v, e1, RepV.keep k p d v r⟩⟩
theorem ERel.set (h : ERel K H ra ρ σ) (i : Nat) {d : D} {v : V} (r : RepV K H ra d v) : ERel K H ra (ρ.set i (some d)) (σ.set i (some v)) := by
  refine ⟨by simp [h.len], fun j e ej => ?_⟩
  by_cases hj : i = j
  · subst hj
    have hl : i < ρ.length := by
      have := (List.getElem?_eq_some_iff.mp ej).1
      simpa using this
    rw [List.getElem?_set_self hl] at ej
    cases ej
    exact ⟨v, by rw [List.getElem?_set_self (by rw [h.len]; exact hl)], r⟩
  · rw [List.getElem?_set_ne hj] at ej
    obtain ⟨w, e1, r1⟩ := h.get j e ej
    exact ⟨w, by rw [List.getElem?_set_ne hj]; exact e1, r1⟩
theorem wipeE_length (ρ : Env) : ∀ vs : List Nat, (wipeE ρ vs).length = ρ.length
  | [] => rfl
  | v :: vs => by unfold wipeE; rw [List.length_set, wipeE_length ρ vs]
theorem ERel.wipe (h : ERel K H ra ρ σ) : ∀ vs : List Nat, ERel K H ra (wipeE ρ vs) (L2.wipe σ vs)
  | [] => h
  | v :: vs => by
    have ih := ERel.wipe h vs
    refine ⟨by rw [L2.wipe_length, wipeE_length, h.len], fun j e ej => ?_⟩
    unfold wipeE at ej
    unfold L2.wipe
    by_cases hj : v = j
    · subst hj
      have hl : v < (wipeE ρ vs).length := by
        have := (List.getElem?_eq_some_iff.mp ej).1
        simpa using this
      rw [List.getElem?_set_self hl] at ej
      cases ej
    · rw [List.getElem?_set_ne hj] at ej
      rw [List.getElem?_set_ne hj]
      exact ih.get j e ej
end
section
variable (M : Cfg) (X : Cx) (W : WX)
def repB : Hp → List Addr → Bool → Bool → Prop := fun _ _ a b => b = a
def tE (f : Env → Store → R D) : TE := fun σ H Q => ∃ ra ρ s, ERel X.K H ra ρ σ ∧ SRel X.K H ra s ∧ PostR M X.mg X.K W σ (RepV X.K) H ra (f ρ s) Q
def tT (f : Env → Store → R Bool) : TT := fun σ H Q => ∃ ra ρ s, ERel X.K H ra ρ σ ∧ SRel X.K H ra s ∧ PostR M X.mg X.K W σ repB H ra (f ρ s) Q
def tA (f : Env → Store → R (List D)) : TA := fun σ H Q => ∃ ra ρ s, ERel X.K H ra ρ σ ∧ SRel X.K H ra s ∧ PostR M X.mg X.K W σ (RepL X.K) H ra (f ρ s) Q
def Walks (K : PySem.W.Frag) (H0 : Hp) (r0 : List Addr) (w : Walk) (J : L2.It) : Prop := ∀ (i : Nat) (H : Hp) (ra : List Addr) (s : Store), Keeps H0 H → r0 <+: ra → SRel K H ra s → w.stays s = true →
  (∀ d, w.its[i]? = some d → J.go i H ∧ ∀ x H', J.yld i H x H' → Keeps H H' ∧ SRel K H' ra s ∧ RepV K H' ra d x) ∧ (w.its.length = i → J.stop i H)
def tI (f : Env → Store → R Walk) : TI := fun σ H Q => ∃ ra ρ s, ERel X.K H ra ρ σ ∧ SRel X.K H ra s ∧ PostR M X.mg X.K W σ (Walks X.K) H ra (f ρ s) Q
def SameOut (l : List Nat) (σ σ' : L2.St) : Prop := σ'.length = σ.length ∧ ∀ j, j ∉ l → σ'[j]? = σ[j]?
def tG (l : List Nat) (f : D → Env → Store → R Env) : TG := fun v σ H Q => ∃ ra ρ s d, ERel X.K H ra ρ σ ∧ SRel X.K H ra s ∧ RepV X.K H ra d v ∧
  PostR M X.mg X.K (fun _ _ _ _ => False) σ (fun H' rb ρ' σ' => ERel X.K H' rb ρ' σ' ∧ SameOut l σ σ') H ra (f d ρ s).quiet Q
def tGs (l : List Nat) (f : List D → Env → Store → R Env) : TGs := fun vs σ H Q => ∃ ra ρ s ds, ERel X.K H ra ρ σ ∧ SRel X.K H ra s ∧ RepL X.K H ra ds vs ∧
  PostR M X.mg X.K (fun _ _ _ _ => False) σ (fun H' rb ρ' σ' => ERel X.K H' rb ρ' σ' ∧ SameOut l σ σ') H ra (f ds ρ s).quiet Q
def PostS (D : L2.Ends) (H : Hp) (ra : List Addr) (r : RS) : Prop := match r with
  | .nx ρ s => ∀ σ' rb H', Keeps H H' → ra <+: rb → SRel X.K H' rb s → ERel X.K H' rb ρ σ' → D.nx σ' H'
  | .brk ρ s => ∀ σ' rb H', Keeps H H' → ra <+: rb → SRel X.K H' rb s → ERel X.K H' rb ρ σ' → D.bk σ' H'
  | .cnt ρ s => ∀ σ' rb H', Keeps H H' → ra <+: rb → SRel X.K H' rb s → ERel X.K H' rb ρ σ' → D.ct σ' H'
  | .ret d s => ∀ v rb H', Keeps H H' → ra <+: rb → SRel X.K H' rb s → RepV X.K H' rb d v → D.rt v H'
  | .exc c w ρ s => ∀ cls dd σ' rb H', Keeps H H' → ra <+: rb → SRel X.K H' rb s → ERel X.K H' rb ρ σ' → RepX M X.mg X.K H' rb c w cls dd → W cls dd σ' H'
  | .bad => False
def tS (f : Env → Store → RS) : TS := fun D σ H => ∃ ra ρ s, ERel X.K H ra ρ σ ∧ SRel X.K H ra s ∧ PostS M X W D H ra (f ρ s)
end
section
variable {M : Cfg} {X : Cx} {W : WX}
theorem PE.sub {e : Expr} {t t' : TE} (h : PE X e t) (i : ∀ σ H Q, t' σ H Q → t σ H Q) : PE X e t' := ⟨fun pins s σ H Q I q => h.run pins s σ H Q I (i σ H Q q)⟩
theorem PT.sub {e : Expr} {t t' : TT} (h : PT X e t) (i : ∀ σ H Q, t' σ H Q → t σ H Q) : PT X e t' := ⟨fun pins s σ H Q I q => h.run pins s σ H Q I (i σ H Q q)⟩
theorem PW.sub {e : Expr} {t t' : TT} (h : PW X e t) (i : ∀ σ H Q, t' σ H Q → t σ H Q) : PW X e t' := ⟨fun wh pins s σ H Q I q => h.run wh pins s σ H Q I (i σ H Q q)⟩
theorem PA.sub {e : List Expr} {t t' : TA} (h : PA X e t) (i : ∀ σ H Q, t' σ H Q → t σ H Q) : PA X e t' := ⟨fun pos pins s σ H Q I q => h.run pos pins s σ H Q I (i σ H Q q)⟩
theorem PS.sub {e : Stmt} {t t' : TS} (h : PS X e t) (i : ∀ D σ H, t' D σ H → t D σ H) : PS X e t' := ⟨fun pins s σ H D I q => h.run pins s σ H D I (i D σ H q)⟩
theorem PSs.sub {e : List Stmt} {t t' : TS} (h : PSs X e t) (i : ∀ D σ H, t' D σ H → t D σ H) : PSs X e t' := ⟨fun pins s σ H D I q => h.run pins s σ H D I (i D σ H q)⟩
theorem PG.sub {e : Expr} {t t' : TG} (h : PG X e t) (i : ∀ v σ H Q, t' v σ H Q → t v σ H Q) : PG X e t' := ⟨fun pins s σ H v u Q I r q => h.run pins s σ H v u Q I r (i v σ H Q q)⟩
theorem PGs.sub {e : List Expr} {t t' : TGs} (h : PGs X e t) (i : ∀ v σ H Q, t' v σ H Q → t v σ H Q) : PGs X e t' := ⟨fun pins s σ H v u Q I r q => h.run pins s σ H v u Q I r (i v σ H Q q)⟩
theorem PI.sub {tg e : Expr} {t t' : TI} (h : PI X tg e t) (i : ∀ σ H Q, t' σ H Q → t σ H Q) : PI X tg e t' := ⟨fun pins s σ H Q I q => h.run pins s σ H Q I (i σ H Q q)⟩
theorem tE_bind {γ δ : Type} {repB : Hp → List Addr → γ → δ → Prop} {f : Env → Store → R D} {g : D → Store → R γ} {σ : L2.St} {H : Hp} {ra : List Addr} {ρ : Env} {s : Store} {Q : δ → Hp → Prop} {Q' : V → Hp → Prop}
    (e : ERel X.K H ra ρ σ) (r : SRel X.K H ra s) (p : PostR M X.mg X.K W σ repB H ra ((f ρ s).bind g) Q)
    (h : ∀ x H1 a s1 r1, Keeps H H1 → ra <+: r1 → ERel X.K H1 r1 ρ σ → SRel X.K H1 r1 s1 → RepV X.K H1 r1 a x → PostR M X.mg X.K W σ repB H1 r1 (g a s1) Q → Q' x H1) : tE M X W f σ H Q' :=
  ⟨ra, ρ, s, e, r, (PostR.bind (repA := RepV X.K) p).imp fun x H1 ⟨a, s1, r1, k, pf, sr, rp, q⟩ => h x H1 a s1 r1 k pf (e.keep k pf) sr rp q⟩
theorem tA_bind {γ δ : Type} {repB : Hp → List Addr → γ → δ → Prop} {f : Env → Store → R (List D)} {g : List D → Store → R γ} {σ : L2.St} {H : Hp} {ra : List Addr} {ρ : Env} {s : Store} {Q : δ → Hp → Prop} {Q' : List V → Hp → Prop}
    (e : ERel X.K H ra ρ σ) (r : SRel X.K H ra s) (p : PostR M X.mg X.K W σ repB H ra ((f ρ s).bind g) Q)
    (h : ∀ x H1 a s1 r1, Keeps H H1 → ra <+: r1 → ERel X.K H1 r1 ρ σ → SRel X.K H1 r1 s1 → RepL X.K H1 r1 a x → PostR M X.mg X.K W σ repB H1 r1 (g a s1) Q → Q' x H1) : tA M X W f σ H Q' :=
  ⟨ra, ρ, s, e, r, (PostR.bind (repA := RepL X.K) p).imp fun x H1 ⟨a, s1, r1, k, pf, sr, rp, q⟩ => h x H1 a s1 r1 k pf (e.keep k pf) sr rp q⟩
end
end WL
set_option maxHeartbeats 2000000
namespace WL
open PySem PySem.Spec PyProof.Rows L2 HT
section
variable {prog : Program} {w : World} {A : Around} {E : Value → Shared → Prop} {s : Shared}
theorem sliceApplied_rev {sl : Addr} {vl vu vs : Value} {n : Nat} {Q : Int × Int × Nat → Shared → Prop} (hs : s.heap.IsSliceOf sl vl vu vs) (pl : IsPart vl none) (pu : IsPart vu none) (ps : IsPart vs (some (-1)))
    (h : Q ((n : Int) - 1, -1, n) s) : wpAny (model prog w) A (Builtin.Slice.sliceApplied (.ref sl) (pure (n : Int))) Q E s := by
  obtain ⟨os, hos, hcs, hds⟩ := id hs
  unfold Builtin.Slice.sliceApplied Builtin.Slice.sliceFields
  refine wpAny_bind (wpAny_bind (wpAny_field hos hds (x := vl) rfl (wpAny_bind (wpAny_field hos hds (x := vu) rfl (wpAny_bind (wpAny_field hos hds (x := vs) rfl (wpAny_pure ?_)))))))
  refine wpAny_bind (slicePart_ ps ?_)
  show wpAny _ _ (if ((-1 : Int) == 0) = true then _ else _) _ _ s
  rw [if_neg (by decide)]
  refine wpAny_bind (slicePart_ pl (wpAny_bind (slicePart_ pu (wpAny_bind (wpAny_pure ?_)))))
  have e : Builtin.Slice.sliceAdjust none none (-1) (n : Int) = ((n : Int) - 1, -1) := rfl
  show wpAny _ _ (match Builtin.Slice.sliceAdjust none none (-1) (n : Int) with | (lo, hi) => pure (lo, (-1 : Int), Builtin.Slice.slicePlaces lo hi (-1))) _ _ s
  rw [e]
  have e2 : Builtin.Slice.slicePlaces ((n : Int) - 1) (-1) (-1) = n := by
    unfold Builtin.Slice.slicePlaces
    have h1 : ¬ ((-1 : Int) > 0) := by omega
    simp only [h1, if_false, Int.neg_neg, Int.ediv_one]
    split <;> omega
  show wpAny _ _ (pure ((n : Int) - 1, (-1 : Int), Builtin.Slice.slicePlaces ((n : Int) - 1) (-1) (-1))) _ _ s
  rw [e2]
  exact wpAny_pure h
theorem fm_some {α β : Type} {f : α → Option β} {g : α → β} : ∀ {l : List α}, (∀ m ∈ l, f m = some (g m)) → l.filterMap f = l.map g
  | [], _ => rfl
  | a :: l, h => by
    rw [List.filterMap_cons, h a List.mem_cons_self, List.map_cons, fm_some fun m hm => h m (List.mem_cons_of_mem _ hm)]
theorem pick_rev (xs : Array Value) : ((List.range xs.size).filterMap fun (m : Nat) => xs[((xs.size : Int) - 1 + (m : Int) * (-1)).toNat]?).toArray = xs.toList.reverse.toArray := by
  congr 1
  rw [fm_some (g := fun m => xs.toList.reverse.getD m .none)]
  · refine List.ext_getElem? fun i => ?_
    rw [List.getElem?_map]
    by_cases hi : i < xs.size
    · rw [List.getElem?_range hi, Option.map_some, List.getD_eq_getElem?_getD, List.getElem?_eq_getElem (by rw [List.length_reverse, Array.length_toList]; exact hi)]
      rfl
    · rw [List.getElem?_eq_none (by rw [List.length_range]; omega), List.getElem?_eq_none (by rw [List.length_reverse, Array.length_toList]; omega)]
      rfl
  · intro m hm
    have hm := List.mem_range.mp hm
    have e : ((xs.size : Int) - 1 + (m : Int) * (-1)).toNat = xs.size - 1 - m := by omega
    rw [e, List.getD_eq_getElem?_getD, List.getElem?_reverse (by rw [Array.length_toList]; exact hm), Array.length_toList, ← Array.getElem?_toList, List.getElem?_eq_getElem (by rw [Array.length_toList]; omega)]
    rfl
theorem getItem_tuple_rev {t sl : Addr} {items : Array Value} {vl vu vs : Value} {Q : Value → Shared → Prop} (ht : IsTup s.heap t items) (hs : s.heap.IsSliceOf sl vl vu vs) (pl : IsPart vl none) (pu : IsPart vu none) (ps : IsPart vs (some (-1)))
    (h : Q (.ref s.heap.objs.size) { s with heap := s.heap.push { cls := .type "tuple", data := .seq items.toList.reverse.toArray } })
    (hsz : items.size ≤ sizeLine) : wpAny (model prog w) A (getItem (.ref t) (.ref sl)) Q E s := by
  have htake : sizeOk (.seq items.toList.reverse.toArray) := by
    show items.toList.reverse.toArray.size ≤ sizeLine
    rw [List.size_toArray, List.length_reverse, Array.length_toList]
    exact hsz
  obtain ⟨os, hos, hcs, hds⟩ := id hs
  have hTs : s.TypeIs (.ref sl) "slice" := ⟨os, hos, hcs⟩
  unfold getItem
  try with_reducible refine wpAny_holding ?_
  first | refine wpAny_bind (wpAny_pure ?_) | skip
  refine wpAny_bind (wpAny_sequenceKey ht.typeIs (by decide) ?_)
  refine wpAny_bind (wpAny_callSpecial?_slot (name := Str.ofString "__getitem__") ht.typeIs PyProof.Rows.slot_tuple_getitem
    (wpAny_call_entry PyProof.Rows.slot_tuple_getitem ht.typeIs entry_tuple_getitem ?_ (args_tuple_getitem _ _)))
  show wpAny _ _ (Builtin.Tuple.tupleItemsOf (.ref t) >>= _) _ _ s
  refine wpAny_bind (tupleItemsOf_ ht ?_)
  refine wpAny_bind (wpAny_typeOf hTs ?_)
  rw [if_pos (by decide)]
  refine wpAny_bind (sliceApplied_rev hs pl pu ps ?_)
  have hno : ¬ ((((items.size : Int) - 1) == 0 && (-1 : Int) == 1 && items.size == items.size) = true) := by
    intro q
    rw [Bool.and_eq_true, Bool.and_eq_true] at q
    exact absurd q.1.2 (by decide)
  show wpAny _ _ (if (((items.size : Int) - 1) == 0 && (-1 : Int) == 1 && items.size == items.size) = true then _ else _) _ _ s
  rw [if_neg hno, pick_rev]
  first
    | exact wpAny_bind (m := Builtin.Tuple.tupleExact _) (wpAny_newObj_type (wpAny_pure ⟨_, rfl, wpAny_pure h⟩) htake)
    | exact wpAny_bind (m := Builtin.Tuple.tupleExact _) (wpAny_newObj_type (wpAny_bind (wpAny_pure (wpAny_pure ⟨_, rfl, wpAny_pure h⟩))) htake)
    | exact wpAny_bind (wpAny_bind (m := Builtin.Tuple.tupleExact _) (wpAny_newObj_type (wpAny_pure (wpAny_pure ⟨_, rfl, wpAny_pure h⟩)) htake))
    | exact wpAny_bind (wpAny_bind (m := Builtin.Tuple.tupleExact _) (wpAny_newObj_type (wpAny_pure ⟨_, rfl, wpAny_pure h⟩) htake))
end
end WL
namespace WL
open PySem PySem.Spec PyProof.Rows L2 HT
variable [TBS]
def tRevA (K : PySem.W.Frag) (te : TE) : TE := fun σ H Q => te σ H fun x H1 => ∃ a xs, x = .ref a ∧ ((SqL K H1 a xs ∧ ∀ p, H1 p = none → Q (.ref p) (upd H1 p (.lst xs.reverse))) ∨ (SqT K H1 a xs ∧ ∀ p, H1 p = none → Q (.ref p) (upd H1 p (.tup xs.reverse))))
theorem pe_revA {X : Cx} {e : Expr} {te : TE} {k : Nat} {p1 p2 p3 pos : Pos} (he : PE X e te) : PE X (.Subscript e (.Slice none none (some (.UnaryOp .USub (.Constant (.int 1) k p1) p2)) p3) pos) (tRevA X.K te) := by
  refine ⟨fun pins s σ H Q I h => ?_⟩
  refine Subscript_ (thn (he.run pins s σ H _ I h) fun v s1 ⟨x, H1, I1, r1, q1⟩ => ?_)
  obtain ⟨a, xs, ex, hx⟩ := q1
  subst ex
  cases r1
  have hst : PO X (some (.UnaryOp .USub (.Constant (.int 1) k p1) p2)) (tPart (tUn (rU fun i => .int (-i)) (tC (.int 1)))) := po_some (pe_un un_neg pe_int)
  refine wpAny_Slice (thn (po_none.run pins s1 σ H1 (fun o H2 => o = none ∧ H2 = H1) I1 ⟨rfl, rfl⟩) fun vl s2 ⟨l, H2, I2, pl, el, e2⟩ => ?_)
  subst el e2
  refine thn (po_none.run pins s2 σ H2 (fun o H3 => o = none ∧ H3 = H2) I2 ⟨rfl, rfl⟩) fun vu s3 ⟨u, H3, I3, pu, eu, e3⟩ => ?_
  subst eu e3
  refine thn (hst.run pins s3 σ H3 (fun o H4 => o = some (-1) ∧ H4 = H3) I3 ⟨1, rfl, -1, rfl, rfl, rfl⟩) fun vs s4 ⟨o, H4, I4, ps, eo, e4⟩ => ?_
  subst eo e4
  have I5 : Inv X pins σ H4 { s4 with heap := s4.heap.push { cls := .type "slice", data := .fields #[vl, vu, vs] } } := I4.kept (t' := s4.toks) fun b ob q => Heap.get?_push_of_some _ q
  show wpAny (model X.prog X.w) X.A (subscriptTail e (.Slice none none (some (.UnaryOp .USub (.Constant (.int 1) k p1) p2)) p3) (.ref a) (.ref s4.heap.objs.size)) (EP X pins σ Q) X.xe { s4 with heap := s4.heap.push { cls := .type "slice", data := .fields #[vl, vu, vs] } }
  rcases hx with ⟨hx, q⟩ | ⟨hx, q⟩
  · obtain ⟨its, r, ht, hz⟩ := I5.list hx
    have hlen := r.length
    refine tail_any (ops := [.ref a, .ref s4.heap.objs.size]) ht.isList.typeIs (PySem.slot_list_getitem.lookup) ?_ (by with_unfolding_all rfl)
    refine wpAny_getItem_list_slice ht.isList (Heap.IsSliceOf.new _ vl vu vs) pl pu ps (by decide) ?_ (by rw [List.size_toArray]; omega)
    rw [PySem.W.krv_pick]
    refine ⟨.ref _, _, I5.laid (t' := s4.toks) (o := .lst xs.reverse) (fun b ob q => Heap.get?_push_of_some _ q) (Nat.le_refl _) ?_, rfl, q _ (I5.hok.fresh (Nat.le_refl _))⟩
    exact ⟨by rw [List.length_reverse]; exact hz, _, 0, r.reverse, Heap.get?_push_size _ rfl⟩
  · obtain ⟨its, r, ht, hz⟩ := I5.tuple hx
    have hlen := r.length
    refine tail_any (ops := [.ref a, .ref s4.heap.objs.size]) ht.typeIs (PyProof.Rows.slot_tuple_getitem.lookup) ?_ (by with_unfolding_all rfl)
    refine getItem_tuple_rev ht (Heap.IsSliceOf.new _ vl vu vs) pl pu ps ?_ (by rw [List.size_toArray]; omega)
    refine ⟨.ref _, _, I5.laid (t' := s4.toks) (o := .tup xs.reverse) (fun b ob q => Heap.get?_push_of_some _ q) (Nat.le_refl _) ?_, rfl, q _ (I5.hok.fresh (Nat.le_refl _))⟩
    exact ⟨by rw [List.length_reverse]; exact hz, _, r.reverse, ⟨_, Heap.get?_push_size _ rfl, rfl, _, rfl⟩⟩
end WL
set_option maxHeartbeats 1000000
namespace WL
open PySem PySem.Spec PyProof.Rows L2
variable [TBS]
section
variable {M : Cfg} {X : Cx} {W : WX} {σ : L2.St} {H : Hp} {ra : List Addr} {s : Store}
theorem PostR.fin {α β : Type} {rep : Hp → List Addr → α → β → Prop} {a : α} {b : β} {Q : β → Hp → Prop} (p : PostR M X.mg X.K W σ rep H ra (.ok a s) Q) (r : SRel X.K H ra s) (h : rep H ra a b) : Q b H :=
  p b ra H (Keeps.refl H) (List.prefix_refl _) r h
theorem PostR.finL {l : List D} {vs : List V} {Q : VK} (p : PostR M X.mg X.K W σ (RepV X.K) H ra (newLst l s) Q) (r : SRel X.K H ra s) (h : RepL X.K H ra l vs) :
    l.length ≤ sizeLine ∧ ∀ q, H q = none → Q (.ref q) (upd H q (.lst vs)) := by
  unfold newLst at p
  split at p
  · rename_i hl
    refine ⟨hl, fun q hq => p (.ref q) (ra ++ [q]) _ (Keeps.new hq) (List.prefix_append _ _) (r.newL hq h) ⟨q, ?_, rfl⟩⟩
    rw [← r.len, List.getElem?_append_right (Nat.le_refl _)]
    simp
  · exact p.elim
theorem PostR.finT {l : List D} {vs : List V} {Q : VK} (p : PostR M X.mg X.K W σ (RepV X.K) H ra (.ok (.tup l) s) Q) (r : SRel X.K H ra s) (h : RepL X.K H ra l vs) :
    ∀ q, H q = none → Q (.ref q) (upd H q (.tup vs)) := fun q hq =>
  p (.ref q) ra _ (Keeps.new hq) (List.prefix_refl _) (r.aside hq) ⟨q, vs, rfl, .inl (.inl upd_same), RepL.keep (Keeps.new hq) (List.prefix_refl _) l vs h⟩
theorem RepV.intE {i : Int} {v : V} (h : RepV X.K H ra (.int i) v) : v = .int i := h
theorem mulOk_ok {i j : Int} (h : mulOk i j = true) : CMul i j := by
  simp only [mulOk, Bool.or_eq_true, Bool.and_eq_true, decide_eq_true_eq] at h
  exact h
def BinR (M : Cfg) (X : Cx) (op : Operator) : Prop := ∃ r : R2, OpR X (binaryOp op) r ∧
  ∀ (W : WX) (σ : L2.St) (H : Hp) (ra : List Addr) (s : Store) (dx dy : D) (x y : V) (Q : VK), SRel X.K H ra s → RepV X.K H ra dx x → RepV X.K H ra dy y → PostR M X.mg X.K W σ (RepV X.K) H ra (binop op dx dy s) Q → r x y H Q
theorem bin_sub : BinR M X .Sub := by
  refine ⟨_, op_sub, fun W σ H ra s dx dy x y Q R rx ry p => ?_⟩
  cases dx with
  | int i =>
    cases dy with
    | int j => exact ⟨i, j, rx, ry, p.fin R rfl⟩
    | _ => exact p.elim
  | _ => exact p.elim
theorem bin_mod : BinR M X .Mod := by
  refine ⟨_, op_mod, fun W σ H ra s dx dy x y Q R rx ry p => ?_⟩
  cases dx with
  | int i =>
    cases dy with
    | int j =>
      simp only [binop] at p
      split at p
      · rename_i h
        exact ⟨i, j, rx, ry, h, p.fin R rfl⟩
      · exact p.elim
    | _ => exact p.elim
  | _ => exact p.elim
theorem bin_fdiv : BinR M X .FloorDiv := by
  refine ⟨_, op_fdivW, fun W σ H ra s dx dy x y Q R rx ry p => ?_⟩
  cases dx with
  | int i =>
    cases dy with
    | int j =>
      simp only [binop] at p
      split at p
      · rename_i h
        exact ⟨i, j, rx, ry, h, p.fin R rfl⟩
      · exact p.elim
    | _ => exact p.elim
  | _ => exact p.elim
theorem bin_pow : BinR M X .Pow := by
  refine ⟨_, op_pow, fun W σ H ra s dx dy x y Q R rx ry p => ?_⟩
  cases dx with
  | int i =>
    cases dy with
    | int j =>
      simp only [binop] at p
      split at p
      · rename_i h
        exact ⟨i, j, rx, ry, h, p.fin R rfl⟩
      · exact p.elim
    | _ => exact p.elim
  | _ => exact p.elim
theorem mulS_ok {x : Str} {n : Int} (h : mulSOk x n = true) : MulOk x n := by
  unfold mulSOk at h
  simp only [Bool.and_eq_true, decide_eq_true_eq] at h
  obtain ⟨⟨⟨h1, h2⟩, h3⟩, h4⟩ := h
  have h5 : sizeLine = 16777216 := sizeLine_eq
  refine ⟨?_, fun c1 c2 => ?_, fun c1 c2 => ?_⟩
  · rw [Bool.or_eq_false_iff]
    exact ⟨decide_eq_false (by omega), decide_eq_false (by omega)⟩
  · intro z
    have e : n.toNat = n := Int.toNat_of_nonneg (by omega)
    have h6 : (x.length : Int) * n ≤ 2 ^ 63 - 1 := by
      rw [← e]
      have : ((x.length * n.toNat : Nat) : Int) ≤ 16777216 := by omega
      rw [Int.natCast_mul] at this
      omega
    have h7 : (x.length : Int) ≤ (2 ^ 63 - 1) / n := by
      rw [Int.le_ediv_iff_mul_le (by omega)]
      exact h6
    omega
  · unfold Builtin.Str.tooLong
    rw [h5] at h3
    first | exact decide_eq_false (by omega) | simpa using h3
theorem op_mulS : OpR X (binaryOp .Mult) (fun x y H Q => ∃ (a : Str) (n : Int), x = .str a ∧ y = .int n ∧ MulOk a n ∧ Q (.str (Txt.mul a n)) H) := by
  intro pins s σ H x y v u Q I rx ry h
  obtain ⟨a, n, rfl, rfl, hm, q⟩ := h
  obtain ⟨t, rfl⟩ := rx
  obtain ⟨t2, rfl⟩ := ry
  exact SB.mul hm fun t' k => ⟨.str _, H, I.tok k, ⟨t', rfl⟩, q⟩
theorem bin_mul : BinR M X .Mult := by
  refine ⟨_, ((op_mul.or op_rep).or op_repT).or op_mulS, fun W σ H ra s dx dy x y Q R rx ry p => ?_⟩
  cases dx with
  | int i =>
    cases dy with
    | int j =>
      simp only [binop] at p
      split at p
      · rename_i h
        exact .inl (.inl (.inl ⟨i, j, rx, ry, mulOk_ok h, p.fin R rfl⟩))
      · exact p.elim
    | _ => exact p.elim
  | str z =>
    cases dy with
    | int k =>
      simp only [binop] at p
      split at p
      · rename_i h
        exact .inr ⟨z, k, rx, ry, mulS_ok h, p.fin R rfl⟩
      · exact p.elim
    | _ => exact p.elim
  | tup l =>
    cases dy with
    | int k =>
      simp only [binop] at p
      split at p
      · rename_i h
        obtain ⟨a, vs, ex, sx, rl⟩ := rx
        have e1 := RepL.length l vs rl
        refine .inl <| .inr ⟨a, k, vs, ex, ry, sx, ?_, h.2.1, h.2.2.1, by rw [e1]; exact h.2.2.2, PostR.finT p R (RepL.rep k.toNat rl)⟩
        intro z
        subst z
        exact h.1 (List.eq_nil_of_length_eq_zero (by rw [← e1]; rfl))
      · exact p.elim
    | _ => exact p.elim
  | ref n =>
    cases dy with
    | int k =>
      simp only [binop] at p
      split at p
      · rename_i l hl
        split at p
        · rename_i h
          obtain ⟨a, vs, ea, hv, rl⟩ := R.lst hl
          obtain ⟨a', ea', e⟩ := rx
          rw [ea] at ea'
          cases ea'
          have e2 := RepL.length l vs rl
          exact .inl <| .inl (.inr ⟨a, k, vs, e, ry, hv, h.1, h.2.1, by rw [e2]; exact h.2.2, (PostR.finL p R (RepL.rep k.toNat rl)).2⟩)
        · exact p.elim
      · exact p.elim
    | _ => exact p.elim
  | _ => exact p.elim
theorem bin_add : BinR M X .Add := by
  refine ⟨_, (op_add.or op_add_str).or (op_catA.or op_cat), fun W σ H ra s dx dy x y Q R rx ry p => ?_⟩
  cases dx with
  | int i =>
    cases dy with
    | int j => exact .inl (.inl ⟨i, j, rx, ry, p.fin R rfl⟩)
    | _ => exact p.elim
  | str i =>
    cases dy with
    | str j =>
      simp only [binop] at p
      split at p
      · rename_i h
        exact .inl (.inr ⟨i, j, rx, ry, h, p.fin R rfl⟩)
      · exact p.elim
    | _ => exact p.elim
  | tup l =>
    cases dy with
    | tup m =>
      simp only [binop] at p
      split at p
      · rename_i h
        obtain ⟨a, vs, ex, sx, rl⟩ := rx
        obtain ⟨b, ws, ey, sy, rm⟩ := ry
        have e1 := RepL.length l vs rl
        have e2 := RepL.length m ws rm
        refine .inr (.inl ⟨a, b, vs, ws, ex, ey, sx, sy, by rw [e1, e2]; exact h, fun z => ?_, fun z z2 => ?_, fun z z2 => PostR.finT p R (rl.append rm)⟩)
        · subst z
          have e0 : l = [] := List.eq_nil_of_length_eq_zero (by rw [← e1]; rfl)
          subst e0
          exact p.fin R ⟨b, ws, rfl, sy, rm⟩
        · subst z2
          have e0 : m = [] := List.eq_nil_of_length_eq_zero (by rw [← e2]; rfl)
          subst e0
          rw [List.append_nil] at p
          exact p.fin R ⟨a, vs, rfl, sx, rl⟩
      · exact p.elim
    | _ => exact p.elim
  | ref n =>
    cases dy with
    | ref m =>
      simp only [binop] at p
      split at p
      · rename_i l l' hl hm
        split at p
        · rename_i h
          obtain ⟨a, vs, ea, hv, rl⟩ := R.lst hl
          obtain ⟨a', ea', e⟩ := rx
          rw [ea] at ea'
          cases ea'
          obtain ⟨b, ws, eb, hw, rm⟩ := R.lst hm
          obtain ⟨b', eb', e'⟩ := ry
          rw [eb] at eb'
          cases eb'
          have e1 := RepL.length l vs rl
          have e2 := RepL.length l' ws rm
          exact .inr (.inr ⟨a, b, vs, ws, e, e', hv, hw, by rw [e1, e2]; exact h, (PostR.finL p R (rl.append rm)).2⟩)
        · exact p.elim
      · exact p.elim
    | _ => exact p.elim
  | _ => exact p.elim
theorem bin_all {op : Operator} (h : op = .Add ∨ op = .Sub ∨ op = .Mult ∨ op = .Mod ∨ op = .FloorDiv ∨ op = .Pow) : BinR M X op := by
  rcases h with rfl | rfl | rfl | rfl | rfl | rfl
  · exact bin_add
  · exact bin_sub
  · exact bin_mul
  · exact bin_mod
  · exact bin_fdiv
  · exact bin_pow
theorem dp_ints (K : PySem.W.Frag) (H : Hp) : ∀ l : List Int, DpAll K H (l.map V.int) (l.map PyData.int)
  | [] => .nil
  | i :: l => .cons (.int i) (dp_ints K H l)
theorem dp_all {K : PySem.W.Frag} {H : Hp} {ra : List Addr} {f : D → Option PyData} (ih : ∀ (d : D) (v : V) (p : PyData), f d = some p → RepV K H ra d v → Dp K H v p) :
    ∀ (l : List D) (vs : List V) (ps : List PyData), l.mapM f = some ps → RepL K H ra l vs → DpAll K H vs ps
  | [], vs, ps, e, h => by
    rw [show vs = [] from h]
    simp at e
    subst e
    exact .nil
  | d :: ds, vs, ps, e, h => by
    obtain ⟨v, r, e', h1, h2⟩ := h
    subst e'
    simp only [List.mapM_cons, Option.pure_def, Option.bind_eq_bind, Option.bind_eq_some_iff] at e
    obtain ⟨p, ep, ps', eps, e3⟩ := e
    cases e3
    exact .cons (ih d v p ep h1) (dp_all ih ds r ps' eps h2)
theorem dp_of {K : PySem.W.Frag} {H : Hp} {ra : List Addr} {s : Store} (R : SRel K H ra s) : ∀ (n : Nat) (d : D) (v : V) (p : PyData), toPy n s d = some p → RepV K H ra d v → Dp K H v p
  | 0, _, _, _, e, _ => by simp [toPy] at e
  | n + 1, d, v, p, e, h => by
    cases d with
    | non => simp only [toPy, Option.some.injEq] at e; subst e; rw [show v = .non from h]; exact .non
    | bl b => simp only [toPy, Option.some.injEq] at e; subst e; rw [show v = .bl b from h]; exact .bl b
    | int i => simp only [toPy, Option.some.injEq] at e; subst e; rw [show v = .int i from h]; exact .int i
    | str x => simp only [toPy, Option.some.injEq] at e; subst e; rw [show v = .str x from h]; exact .str x
    | tup l =>
      simp only [toPy, Option.map_eq_some_iff] at e
      obtain ⟨ps, ep, rfl⟩ := e
      obtain ⟨a, vs, rfl, sq, r⟩ := h
      exact .tup sq (dp_all (dp_of R n) l vs ps ep r)
    | ref m =>
      simp only [toPy] at e
      split at e
      · rename_i l hl
        simp only [Option.map_eq_some_iff] at e
        obtain ⟨ps, ep, rfl⟩ := e
        obtain ⟨a, vs, ea, hv, rl⟩ := R.lst hl
        obtain ⟨a', ea', e'⟩ := h
        rw [ea] at ea'
        cases ea'
        rw [e']
        exact .lst (SqL.of hv) (dp_all (dp_of R n) l vs ps ep rl)
      · cases e
    | frz l =>
      simp only [toPy, Option.some.injEq] at e
      subst e
      obtain ⟨a, rfl, f⟩ := h
      exact .lst f.sq (dp_ints K H l)
    | gd ks vs => simp [toPy] at e
def CmpR (M : Cfg) (X : Cx) (op : CmpOp) : Prop := ∃ r : R2, OpR X (compareOp op) r ∧
  ∀ (H : Hp) (ra : List Addr) (s : Store) (dx dy : D) (x y : V) (b : Bool) (Q : VK), SRel X.K H ra s → RepV X.K H ra dx x → RepV X.K H ra dy y → cmpD op s dx dy = some b → Q (.bl b) H → r x y H Q
theorem eqD_of {K : PySem.W.Frag} {H : Hp} {ra : List Addr} {s : Store} {dx dy : D} {x y : V} {b : Bool} (R : SRel K H ra s) (rx : RepV K H ra dx x) (ry : RepV K H ra dy y) (e : eqD s dx dy = some b) :
    ∃ p q, Dp K H x p ∧ Dp K H y q ∧ SeqAt.shaped p = true ∧ SeqAt.shaped q = true ∧ b = PyData.eqv p q := by
  unfold eqD at e
  split at e
  · rename_i p q hp hq
    split at e
    · rename_i h
      rw [Bool.and_eq_true] at h
      cases e
      exact ⟨p, q, dp_of R 60 dx x p hp rx, dp_of R 60 dy y q hq ry, h.1, h.2, rfl⟩
    · cases e
  · cases e
theorem cmp_eq (hu : X.A.units + 100 < cLine) : CmpR M X .Eq := by
  refine ⟨_, op_eqD (show X.A.units + 64 < cLine by omega), fun H ra s dx dy x y b Q R rx ry e q => ?_⟩
  obtain ⟨p, p', h1, h2, h3, h4, rfl⟩ := eqD_of R rx ry e
  exact ⟨p, p', h1, h2, h3, h4, q⟩
theorem cmp_ne (hu : X.A.units + 100 < cLine) : CmpR M X .NotEq := by
  refine ⟨_, op_neD (show X.A.units + 64 < cLine by omega), fun H ra s dx dy x y b Q R rx ry e q => ?_⟩
  simp only [cmpD, Option.map_eq_some_iff] at e
  obtain ⟨c, ec, rfl⟩ := e
  obtain ⟨p, p', h1, h2, h3, h4, rfl⟩ := eqD_of R rx ry ec
  exact ⟨p, p', h1, h2, h3, h4, q⟩
theorem rep_non {K : PySem.W.Frag} {H : Hp} {ra : List Addr} {d : D} {v : V} (h : RepV K H ra d v) : decide (v = .non) = decide (d = .non) := by
  cases d with
  | non => rw [show v = .non from h]; simp
  | bl b => rw [show v = .bl b from h]; simp
  | int b => rw [show v = .int b from h]; simp
  | str b => rw [show v = .str b from h]; simp
  | tup l => obtain ⟨a, vs, rfl, _⟩ := h; simp
  | ref n => obtain ⟨a, _, rfl⟩ := h; simp
  | frz l => obtain ⟨a, rfl, _⟩ := h; simp
  | gd ks vs => obtain ⟨a, rfl, _⟩ := h; simp
theorem rep_bl {K : PySem.W.Frag} {H : Hp} {ra : List Addr} {b : Bool} {v : V} (h : RepV K H ra (.bl b) v) : v = .bl b := h
theorem cmp_is : CmpR M X .Is := by
  refine ⟨_, op_isN.or op_is_bl, fun H ra s dx dy x y b Q R rx ry e q => ?_⟩
  simp only [cmpD] at e
  split at e
  · rename_i h
    subst h
    cases e
    exact .inl ⟨ry, by rw [rep_non rx]; exact q⟩
  · split at e
    · cases e
      exact .inr ⟨_, _, rep_bl rx, rep_bl ry, q⟩
    · cases e
theorem cmp_isnot : CmpR M X .IsNot := by
  refine ⟨_, op_notN.or op_isnot_bl, fun H ra s dx dy x y b Q R rx ry e q => ?_⟩
  simp only [cmpD] at e
  split at e
  · rename_i h
    subst h
    cases e
    exact .inl ⟨ry, by rw [rep_non rx]; exact q⟩
  · split at e
    · cases e
      exact .inr ⟨_, _, rep_bl rx, rep_bl ry, q⟩
    · cases e
theorem flat_rep {K : PySem.W.Frag} {H : Hp} {ra : List Addr} {d e : D} {v u : V} (hd : flatD d = true) (he : flatD e = true) (h : RepV K H ra d v) (h' : RepV K H ra e u) : flatV v = true ∧ L2.eqV v u = eqF d e := by
  cases d with
  | non =>
    rw [show v = .non from h]
    cases e with
    | non => rw [show u = .non from h']; exact ⟨rfl, rfl⟩
    | bl b => rw [show u = .bl b from h']; exact ⟨rfl, rfl⟩
    | int b => rw [show u = .int b from h']; exact ⟨rfl, rfl⟩
    | str b => rw [show u = .str b from h']; exact ⟨rfl, rfl⟩
    | _ => simp [flatD] at he
  | bl a =>
    rw [show v = .bl a from h]
    cases e with
    | non => rw [show u = .non from h']; exact ⟨rfl, rfl⟩
    | bl b => rw [show u = .bl b from h']; exact ⟨rfl, rfl⟩
    | int b => rw [show u = .int b from h']; exact ⟨rfl, rfl⟩
    | str b => rw [show u = .str b from h']; exact ⟨rfl, rfl⟩
    | _ => simp [flatD] at he
  | int a =>
    rw [show v = .int a from h]
    cases e with
    | non => rw [show u = .non from h']; exact ⟨rfl, rfl⟩
    | bl b => rw [show u = .bl b from h']; exact ⟨rfl, rfl⟩
    | int b => rw [show u = .int b from h']; exact ⟨rfl, rfl⟩
    | str b => rw [show u = .str b from h']; exact ⟨rfl, rfl⟩
    | _ => simp [flatD] at he
  | str a =>
    rw [show v = .str a from h]
    cases e with
    | non => rw [show u = .non from h']; exact ⟨rfl, rfl⟩
    | bl b => rw [show u = .bl b from h']; exact ⟨rfl, rfl⟩
    | int b => rw [show u = .int b from h']; exact ⟨rfl, rfl⟩
    | str b => rw [show u = .str b from h']; exact ⟨rfl, rfl⟩
    | _ => simp [flatD] at he
  | _ => simp [flatD] at hd
theorem flat_reps {K : PySem.W.Frag} {H : Hp} {ra : List Addr} {e : D} {u : V} (he : flatD e = true) (h' : RepV K H ra e u) : ∀ (l : List D) (vs : List V), l.all flatD = true → RepL K H ra l vs → vs.all flatV = true ∧ (vs.any fun y => L2.eqV y u) = l.any fun z => eqF z e
  | [], vs, _, h => by rw [show vs = [] from h]; exact ⟨rfl, rfl⟩
  | d :: ds, vs, hl, h => by
    obtain ⟨v, r, rfl, h1, h2⟩ := h
    rw [List.all_cons, Bool.and_eq_true] at hl
    obtain ⟨a1, a2⟩ := flat_rep hl.1 he h1 h'
    obtain ⟨b1, b2⟩ := flat_reps he h' ds r hl.2 h2
    exact ⟨by rw [List.all_cons, a1, b1]; rfl, by rw [List.any_cons, List.any_cons, a2, b2]⟩
theorem items_rep {K : PySem.W.Frag} {H : Hp} {ra : List Addr} {s : Store} (R : SRel K H ra s) {d : D} {v : V} {l : List D} (h : RepV K H ra d v) (e : items s d = some l) : ∃ a vs, v = .ref a ∧ (SqL K H a vs ∨ SqT K H a vs) ∧ RepL K H ra l vs := by
  cases d with
  | tup m =>
    cases e
    obtain ⟨a, vs, e1, sq, r⟩ := h
    exact ⟨a, vs, e1, .inr sq, r⟩
  | ref n =>
    obtain ⟨a, vs, ea, hv, r⟩ := R.lst e
    obtain ⟨a', ea', e'⟩ := h
    rw [ea] at ea'
    cases ea'
    exact ⟨a, vs, e', .inl (SqL.of hv), r⟩
  | frz m =>
    cases e
    obtain ⟨a, e1, f⟩ := h
    exact ⟨a, _, e1, .inl f.sq, RepL.intsF m⟩
  | _ => cases e
def rInT (neg : Bool) (K : PySem.W.Frag) : R2 := fun x y H Q => ∃ d ds, Dp K H x d ∧ Dp K H y (.tuple ds) ∧ SeqAt.shaped d = true ∧ SeqAt.shaped (.tuple ds) = true ∧ Q (.bl (if neg then !ds.any fun z => PyData.eqv z d else ds.any fun z => PyData.eqv z d)) H
theorem op_inT {X : Cx} (hu : X.A.units + 65 < cLine) : OpR X (compareOp .In) (rInT false X.K) := by
  intro pins s σ H x y v u Q I rx ry h
  obtain ⟨d, ds, hd, he, sd, se, q⟩ := h
  obtain ⟨as, r1⟩ := Dp.reads I d x v hd rx
  obtain ⟨bs, r2⟩ := Dp.reads I (.tuple ds) y u he ry
  exact SeqAt.in_tuple_reads r2 r1 (SeqAt.canLay_of_shaped se) (SeqAt.canLay_of_shaped sd) (room_in_shaped sd hu) ⟨.bl _, H, I, rfl, q⟩
theorem op_notInT {X : Cx} (hu : X.A.units + 65 < cLine) : OpR X (compareOp .NotIn) (rInT true X.K) := by
  intro pins s σ H x y v u Q I rx ry h
  obtain ⟨d, ds, hd, he, sd, se, q⟩ := h
  obtain ⟨as, r1⟩ := Dp.reads I d x v hd rx
  obtain ⟨bs, r2⟩ := Dp.reads I (.tuple ds) y u he ry
  exact SeqAt.notIn_tuple_reads r2 r1 (SeqAt.canLay_of_shaped se) (SeqAt.canLay_of_shaped sd) (room_in_shaped sd hu) ⟨.bl _, H, I, rfl, q⟩
def GdOk (K : PySem.W.Frag) (w : World) : Prop := ∀ a ks vs, TBS.gd a ks vs → (∃ es n, KDict K w a es n) ∧ ∀ z : Str, (∀ d, valD (ks.zip vs) z = some d → ∃ v u, PySem.W.nsIn K a z = some (some u) ∧ RelV v u ∧ ∀ H ra, RepV K H ra d v) ∧
  (valD (ks.zip vs) z = none → PySem.W.nsIn K a z = some none)
def LkV (K : PySem.W.Frag) (w : World) (H : Hp) (x y : V) (o : Option V) : Prop := (∃ a, x = .ref a ∧ DGet H a y o) ∨ ∃ a es n z r, x = .ref a ∧ y = .str z ∧ KDict K w a es n ∧ PySem.W.nsIn K a z = some r ∧ RelO o r
theorem keyD_kV {K : PySem.W.Frag} {H : Hp} {ra : List Addr} {d : D} {v : V} {k : L2.Key} (e : keyD d = some k) (h : RepV K H ra d v) : v = kV k := by
  cases d with
  | int i => cases e; exact h
  | str x => cases e; exact h
  | _ => cases e
theorem look_of {K : PySem.W.Frag} {w : World} (G : GdOk K w) {H : Hp} {ra : List Addr} {s : Store} {dx dy : D} {x y : V} {o : Option D} (R : SRel K H ra s) (rx : RepV K H ra dx x) (ry : RepV K H ra dy y) (e : lookD s dx dy = some o) :
    ∃ ov, LkV K w H x y ov ∧ (∀ d, o = some d → ∃ v, ov = some v ∧ RepV K H ra d v) ∧ (o = none → ov = none) := by
  cases dx with
  | gd ks vs =>
    cases dy with
    | str z =>
      cases e
      obtain ⟨a, rfl, g⟩ := rx
      obtain ⟨⟨es, n, kd⟩, hz⟩ := G a ks vs g
      obtain ⟨h1, h2⟩ := hz z
      cases q : valD (ks.zip vs) z with
      | none => exact ⟨none, .inr ⟨a, es, n, z, none, rfl, ry, kd, h2 q, trivial⟩, ⟨(fun d z => by cases z), fun _ => rfl⟩⟩
      | some d =>
        obtain ⟨v, u, e1, rv, rr⟩ := h1 d q
        exact ⟨some v, .inr ⟨a, es, n, z, some u, rfl, ry, kd, e1, rv⟩, ⟨(fun d' z => by cases z; exact ⟨v, rfl, rr H ra⟩), fun z => by cases z⟩⟩
    | _ => cases e
  | ref n =>
    simp only [lookD] at e
    cases hl : isDct s n with
    | none => rw [hl] at e; cases e
    | some l =>
      cases hk : keyD dy with
      | none => rw [hl, hk] at e; cases e
      | some k =>
        rw [hl, hk] at e
        cases e
        obtain ⟨a, kvs, ea, hv, rm⟩ := R.dct hl
        obtain ⟨a', ea', rfl⟩ := rx
        rw [ea] at ea'
        cases ea'
        obtain ⟨h1, h2⟩ := rm.val k
        refine ⟨valV kvs k, .inl ⟨a, rfl, ?_⟩, h1, h2⟩
        rw [keyD_kV hk ry]
        exact DGet.k hv
  | _ => cases e
theorem op_inLk (hu : X.A.units + 1 < cLine) : OpR X (compareOp .In) (fun x y H Q => ∃ ov, LkV X.K X.w H y x ov ∧ Q (.bl ov.isSome) H) := by
  intro pins s σ H x y v u Q I rx ry h
  obtain ⟨ov, l, q⟩ := h
  rcases l with ⟨a, rfl, g⟩ | ⟨a, es, n, z, r, rfl, rfl, kd, e, ro⟩
  · obtain rfl : u = Value.ref a := ry
    exact d_in hu I g rx fun s' I' => ⟨.bl _, H, I', rfl, q⟩
  · refine op_in_kd kd pins s σ H _ _ v u Q I rx ry ⟨z, r, rfl, rfl, e, ?_⟩
    rw [← ro.isSome_eq]
    exact q
theorem op_notInLk (hu : X.A.units + 1 < cLine) : OpR X (compareOp .NotIn) (fun x y H Q => ∃ ov, LkV X.K X.w H y x ov ∧ Q (.bl (!ov.isSome)) H) := by
  intro pins s σ H x y v u Q I rx ry h
  obtain ⟨ov, l, q⟩ := h
  rcases l with ⟨a, rfl, g⟩ | ⟨a, es, n, z, r, rfl, rfl, kd, e, ro⟩
  · obtain rfl : u = Value.ref a := ry
    exact d_notIn hu I g rx fun s' I' => ⟨.bl _, H, I', rfl, q⟩
  · refine op_notIn_kd kd pins s σ H _ _ v u Q I rx ry ⟨z, r, rfl, rfl, e, ?_⟩
    rw [← ro.isSome_eq]
    exact q
def rIxLk (K : PySem.W.Frag) (w : World) : R2 := fun x y H Q => ∃ v, LkV K w H x y (some v) ∧ Q v H
theorem ix_lk (hu : X.A.units + 1 < cLine) : IxR X (rIxLk X.K X.w) := by
  intro value slice pins s σ H x y v u Q I rx ry h hs
  obtain ⟨v0, l, q⟩ := h
  rcases l with ⟨a, rfl, g⟩ | ⟨a, es, n, z, r, rfl, rfl, kd, e, ro⟩
  · obtain rfl : v = Value.ref a := rx
    have hd : IsD H a := by
      rcases g with ⟨kvs, k, e, _⟩ | ⟨kvs, k, b, e, _⟩
      · exact .inl ⟨kvs, e⟩
      · exact .inr ⟨kvs, e⟩
    obtain ⟨t1, _, _⟩ := isD_at I hd
    exact tail_any t1 slot_dict_getitem.lookup (d_getItem hu I g ry fun w' s' I' rw' => ⟨v0, H, I', rw', q⟩) hs
  · cases r with
    | none => exact ro.elim
    | some u0 => exact ix_kdict value slice pins s σ H _ _ v u Q I rx ry ⟨a, z, v0, rfl, rfl, ⟨es, n, u0, kd.at_, kd.lit, e, ro⟩, q⟩ hs
theorem mt_getLk1 (hu : X.A.units + 1 < cLine) : MtR X "dict.get" (fun x xs H Q => ∃ y ov, xs = [y] ∧ LkV X.K X.w H x y ov ∧ Q (ov.getD .non) H) := by
  intro pins s σ H x xs v us Q I rx rs h
  obtain ⟨y, ov, rfl, l, q⟩ := h
  obtain ⟨u, rfl, ry⟩ := Vals.one rs
  rcases l with ⟨a, rfl, g⟩ | ⟨a, es, n, z, r, rfl, rfl, kd, e, ro⟩
  · obtain rfl : v = Value.ref a := rx
    exact d_get1 hu I g ry fun w' s' I' rw' => ⟨_, H, I', rw', q⟩
  · obtain rfl : v = Value.ref a := rx
    obtain ⟨t, rfl⟩ := ry
    have hm := PySem.W.mapOf_K (prog := X.prog) (w := X.w) I.kIn kd.at_ kd.lit
    refine call_meetsIn PySem.F.slot_dict_get hm.typeIs PySem.F.entry_dict_get (PySem.F.args_dict_get_2 _ _) (meets_dict_get (strKind X.prog X.w) a (strKind_is X.prog X.w z t) kd.low) ⟨_, hm, ?_⟩
    rw [PySem.W.find_K kd.at_ e]
    exact ⟨_, H, I.tok _, RelO.getD (d := V.non) (d' := Value.none) ro (show Value.none = Value.none from rfl), q⟩
theorem mt_getLk2 (hu : X.A.units + 1 < cLine) : MtR X "dict.get" (fun x xs H Q => ∃ y d ov, xs = [y, d] ∧ LkV X.K X.w H x y ov ∧ Q (ov.getD d) H) := by
  intro pins s σ H x xs v us Q I rx rs h
  obtain ⟨y, d, ov, rfl, l, q⟩ := h
  obtain ⟨u, u2, rfl, ry, rd⟩ := Vals.two rs
  rcases l with ⟨a, rfl, g⟩ | ⟨a, es, n, z, r, rfl, rfl, kd, e, ro⟩
  · obtain rfl : v = Value.ref a := rx
    exact d_get2 hu I g ry rd fun w' s' I' rw' => ⟨_, H, I', rw', q⟩
  · obtain rfl : v = Value.ref a := rx
    obtain ⟨t, rfl⟩ := ry
    have hm := PySem.W.mapOf_K (prog := X.prog) (w := X.w) I.kIn kd.at_ kd.lit
    refine call_meetsIn PySem.F.slot_dict_get hm.typeIs PySem.F.entry_dict_get (PySem.F.args_dict_get_3 _ _ _) (meets_dict_get_default (strKind X.prog X.w) a (strKind_is X.prog X.w z t) kd.low u2) ⟨_, hm, ?_⟩
    rw [PySem.W.find_K kd.at_ e]
    exact ⟨_, H, I.tok _, ro.getD rd, q⟩
theorem mt_dpop1 : MtR X "dict.pop" (fun x xs H Q => ∃ a kvs k v, x = .ref a ∧ xs = [kV k] ∧ H a = some (.dK kvs) ∧ valV kvs k = some v ∧ Q v (upd H a (.dK (dropK kvs k)))) := by
  intro pins s σ H x xs v us Q I rx rs h
  obtain ⟨a, kvs, k, v0, rfl, rfl, e, l, q⟩ := h
  obtain ⟨u, rfl, ry⟩ := Vals.one rs
  obtain rfl : v = Value.ref a := rx
  exact d_pop I e ry l (.inl rfl) fun w' s' I' rw' => ⟨v0, _, I', rw', q⟩
theorem inD_of {K : PySem.W.Frag} {w : World} (G : GdOk K w) {H : Hp} {ra : List Addr} {s : Store} {dx dy : D} {x y : V} {b : Bool} (R : SRel K H ra s) (rx : RepV K H ra dx x) (ry : RepV K H ra dy y) (e : inD s dx dy = some b) :
    (∃ p xs, y = .ref p ∧ (SqL K H p xs ∨ SqT K H p xs) ∧ flatV x = true ∧ xs.all flatV = true ∧ b = inV x xs) ∨
    (∃ d ds, Dp K H x d ∧ Dp K H y (.list ds) ∧ SeqAt.shaped d = true ∧ SeqAt.shaped (.list ds) = true ∧ b = ds.any fun z => PyData.eqv z d) ∨
    (∃ d ds, Dp K H x d ∧ Dp K H y (.tuple ds) ∧ SeqAt.shaped d = true ∧ SeqAt.shaped (.tuple ds) = true ∧ b = ds.any fun z => PyData.eqv z d) ∨
    (∃ (c : Nat) (z : Str), x = .str ⟨#[c]⟩ ∧ y = .str z ∧ b = decide (c ∈ z.cps.toList)) ∨ ∃ ov, LkV K w H y x ov ∧ b = ov.isSome := by
  unfold inD at e
  split at e
  · rename_i l hl
    split at e
    · rename_i h
      rw [Bool.and_eq_true] at h
      cases e
      obtain ⟨a, vs, e1, sq, r⟩ := items_rep R ry hl
      obtain ⟨b1, b2⟩ := flat_reps h.1 rx l vs h.2 r
      exact .inl ⟨a, vs, e1, sq, (flat_rep h.1 h.1 rx rx).1, b1, b2.symm⟩
    · split at e
      · rename_i p q hp hq
        split at e
        · rename_i h
          rw [Bool.and_eq_true] at h
          cases e
          exact .inr (.inl ⟨p, _, dp_of R 60 dx x p hp rx, dp_of R 60 dy y _ hq ry, h.1, h.2, rfl⟩)
        · cases e
      · rename_i p q hp hq
        split at e
        · rename_i h
          rw [Bool.and_eq_true] at h
          cases e
          exact .inr (.inr (.inl ⟨p, _, dp_of R 60 dx x p hp rx, dp_of R 60 dy y _ hq ry, h.1, h.2, rfl⟩))
        · cases e
      · cases e
  · unfold inO at e
    split at e
    · rename_i z _
      split at e
      · rename_i c
        split at e
        · rename_i u hu
          cases e
          refine .inr (.inr (.inr (.inl ⟨u, z, ?_, ry, rfl⟩)))
          rw [show x = .str c from rx]
          obtain ⟨a⟩ := c
          obtain ⟨l⟩ := a
          have hu : l = [u] := hu
          rw [hu]
        · cases e
      · cases e
    · rw [Option.map_eq_some_iff] at e
      obtain ⟨o, eo, rfl⟩ := e
      obtain ⟨ov, l, h1, h2⟩ := look_of G R ry rx eo
      refine .inr (.inr (.inr (.inr ⟨ov, l, ?_⟩)))
      cases o with
      | none => rw [h2 rfl]; rfl
      | some d =>
        obtain ⟨v, ev, _⟩ := h1 d rfl
        rw [ev]
        rfl
theorem cmp_in (hu : X.A.units + 100 < cLine) (G : GdOk X.K X.w) : CmpR M X .In := by
  refine ⟨fun x y H Q => rIn X.K false x y H Q ∨ rInD X.K x y H Q ∨ rInT false X.K x y H Q ∨ (∃ (c : Nat) (z : Str), x = .str ⟨#[c]⟩ ∧ y = .str z ∧ Q (.bl (decide (c ∈ z.cps.toList))) H) ∨ (∃ ov, LkV X.K X.w H y x ov ∧ Q (.bl ov.isSome) H), ?_, fun H ra s dx dy x y b Q R rx ry e q => ?_⟩
  · intro pins s σ H x y v u Q I rx ry h
    rcases h with h | h | h | h | h
    · exact op_in_seq pins s σ H x y v u Q I rx ry h
    · exact op_inD (show X.A.units + 65 < cLine by omega) pins s σ H x y v u Q I rx ry h
    · exact op_inT (show X.A.units + 65 < cLine by omega) pins s σ H x y v u Q I rx ry h
    · exact op_in_sign pins s σ H x y v u Q I rx ry h
    · exact op_inLk (by omega) pins s σ H x y v u Q I rx ry h
  · rcases inD_of G R rx ry e with ⟨p, xs, e1, sq, f1, f2, rfl⟩ | ⟨d, ds, h1, h2, h3, h4, rfl⟩ | ⟨d, ds, h1, h2, h3, h4, rfl⟩ | ⟨c, z, h1, h2, rfl⟩ | ⟨ov, l, rfl⟩
    · exact .inl ⟨p, xs, e1, sq, f1, f2, q⟩
    · exact .inr (.inl ⟨d, ds, h1, h2, h3, h4, q⟩)
    · exact .inr (.inr (.inl ⟨d, ds, h1, h2, h3, h4, q⟩))
    · exact .inr (.inr (.inr (.inl ⟨c, z, h1, h2, q⟩)))
    · exact .inr (.inr (.inr (.inr ⟨ov, l, q⟩)))
theorem cmp_notin (hu : X.A.units + 100 < cLine) (G : GdOk X.K X.w) : CmpR M X .NotIn := by
  refine ⟨fun x y H Q => rIn X.K true x y H Q ∨ rNotInD X.K x y H Q ∨ rInT true X.K x y H Q ∨ (∃ (c : Nat) (z : Str), x = .str ⟨#[c]⟩ ∧ y = .str z ∧ Q (.bl (!decide (c ∈ z.cps.toList))) H) ∨ (∃ ov, LkV X.K X.w H y x ov ∧ Q (.bl (!ov.isSome)) H), ?_, fun H ra s dx dy x y b Q R rx ry e q => ?_⟩
  · intro pins s σ H x y v u Q I rx ry h
    rcases h with h | h | h | h | h
    · exact op_notIn_seq pins s σ H x y v u Q I rx ry h
    · exact op_notInD (show X.A.units + 65 < cLine by omega) pins s σ H x y v u Q I rx ry h
    · exact op_notInT (show X.A.units + 65 < cLine by omega) pins s σ H x y v u Q I rx ry h
    · exact op_notIn_sign pins s σ H x y v u Q I rx ry h
    · exact op_notInLk (by omega) pins s σ H x y v u Q I rx ry h
  · simp only [cmpD, Option.map_eq_some_iff] at e
    obtain ⟨c, ec, rfl⟩ := e
    rcases inD_of G R rx ry ec with ⟨p, xs, e1, sq, f1, f2, rfl⟩ | ⟨d, ds, h1, h2, h3, h4, rfl⟩ | ⟨d, ds, h1, h2, h3, h4, rfl⟩ | ⟨c, z, h1, h2, rfl⟩ | ⟨ov, l, rfl⟩
    · exact .inl ⟨p, xs, e1, sq, f1, f2, q⟩
    · exact .inr (.inl ⟨d, ds, h1, h2, h3, h4, q⟩)
    · exact .inr (.inr (.inl ⟨d, ds, h1, h2, h3, h4, q⟩))
    · exact .inr (.inr (.inr (.inl ⟨c, z, h1, h2, q⟩)))
    · exact .inr (.inr (.inr (.inr ⟨ov, l, q⟩)))
theorem cmp_lt : CmpR M X .Lt := by
  refine ⟨_, op_lt.or op_lt_str, fun H ra s dx dy x y b Q R rx ry e q => ?_⟩
  cases dx with
  | int i =>
    cases dy with
    | int j => cases e; exact .inl ⟨i, j, rx, ry, q⟩
    | _ => cases e
  | str i =>
    cases dy with
    | str j => cases e; exact .inr ⟨i, j, rx, ry, q⟩
    | _ => cases e
  | _ => cases e
theorem cmp_le : CmpR M X .LtE := by
  refine ⟨_, op_le.or op_le_str, fun H ra s dx dy x y b Q R rx ry e q => ?_⟩
  cases dx with
  | int i =>
    cases dy with
    | int j => cases e; exact .inl ⟨i, j, rx, ry, q⟩
    | _ => cases e
  | str i =>
    cases dy with
    | str j => cases e; exact .inr ⟨i, j, rx, ry, q⟩
    | _ => cases e
  | _ => cases e
theorem cmp_gt : CmpR M X .Gt := by
  refine ⟨_, op_gt.or op_gt_str, fun H ra s dx dy x y b Q R rx ry e q => ?_⟩
  cases dx with
  | int i =>
    cases dy with
    | int j => cases e; exact .inl ⟨i, j, rx, ry, q⟩
    | _ => cases e
  | str i =>
    cases dy with
    | str j => cases e; exact .inr ⟨i, j, rx, ry, q⟩
    | _ => cases e
  | _ => cases e
theorem cmp_ge : CmpR M X .GtE := by
  refine ⟨_, op_ge.or op_ge_str, fun H ra s dx dy x y b Q R rx ry e q => ?_⟩
  cases dx with
  | int i =>
    cases dy with
    | int j => cases e; exact .inl ⟨i, j, rx, ry, q⟩
    | _ => cases e
  | str i =>
    cases dy with
    | str j => cases e; exact .inr ⟨i, j, rx, ry, q⟩
    | _ => cases e
  | _ => cases e
theorem cmp_all (hu : X.A.units + 100 < cLine) (G : GdOk X.K X.w) (op : CmpOp) : CmpR M X op := by
  cases op with
  | Eq => exact cmp_eq hu
  | NotEq => exact cmp_ne hu
  | Lt => exact cmp_lt
  | LtE => exact cmp_le
  | Gt => exact cmp_gt
  | GtE => exact cmp_ge
  | Is => exact cmp_is
  | IsNot => exact cmp_isnot
  | In => exact cmp_in hu G
  | NotIn => exact cmp_notin hu G
theorem truth_of {K : PySem.W.Frag} {H : Hp} {ra : List Addr} {s : Store} {d : D} {v : V} {b : Bool} (R : SRel K H ra s) (h : RepV K H ra d v) (e : truth s d = some b) : TruV K v H b := by
  cases d with
  | non => cases e; rw [show v = .non from h]; exact rfl
  | bl c => cases e; rw [show v = .bl _ from h]; exact rfl
  | int i => cases e; rw [show v = .int i from h]; exact rfl
  | str x =>
    simp only [truth] at e
    split at e
    · cases e
      rw [show v = .str x from h]
      exact ⟨by assumption, rfl⟩
    · cases e
  | _ =>
    simp only [truth, Option.map_eq_some_iff] at e
    obtain ⟨l, el, rfl⟩ := e
    obtain ⟨a, vs, rfl, sq, r⟩ := items_rep R h el
    have e2 := RepL.length l vs r
    have e3 : (!l.isEmpty) = !vs.isEmpty := by
      cases l <;> cases vs <;> simp at e2 ⊢
    rcases sq with sq | sq
    · exact .inl ⟨vs, sq, e3⟩
    · exact .inr (.inl ⟨vs, sq, e3⟩)
theorem ixOf_eq (n : Nat) (i : Int) : ixOf n i = ixN n i := rfl
theorem atD_rep {K : PySem.W.Frag} {H : Hp} {ra : List Addr} {l : List D} {vs : List V} {i : Int} {d : D} (r : RepL K H ra l vs) (e : atD l i = some d) : ∃ v, atI vs i = some v ∧ RepV K H ra d v := by
  unfold atD at e
  rw [Option.bind_eq_some_iff] at e
  obtain ⟨j, ej, e⟩ := e
  obtain ⟨v, q1, q2⟩ := RepL.get l vs j d r e
  refine ⟨v, ?_, q2⟩
  unfold atI
  rw [RepL.length l vs r, ← ixOf_eq, ej]
  exact q1
theorem ixD_of {K : PySem.W.Frag} {w : World} (G : GdOk K w) {H : Hp} {ra : List Addr} {s : Store} {dx dy d : D} {x y : V} {Q : VK} (R : SRel K H ra s) (rx : RepV K H ra dx x) (ry : RepV K H ra dy y) (e : ixD s dx dy = some d) (q : ∀ v, RepV K H ra d v → Q v H) : rIx K x y H Q ∨ rIxLk K w x y H Q := by
  have lk : ∀ {dy : D}, RepV K H ra dy y → (lookD s dx dy).bind id = some d → rIxLk K w x y H Q := fun {dy} ry h => by
    rw [Option.bind_eq_some_iff] at h
    obtain ⟨o, h1, h2⟩ := h
    obtain ⟨ov, l, g1, g2⟩ := look_of G R rx ry h1
    obtain ⟨v, rfl, rv⟩ := g1 d h2
    exact ⟨v, l, q v rv⟩
  cases dy with
  | int i =>
    have hy : y = .int i := ry
    cases dx with
    | str z =>
      simp only [ixD] at e
      split at e
      · rename_i hz
        rw [Option.map_eq_some_iff] at e
        obtain ⟨c, ec, rfl⟩ := e
        refine .inl (.inr (.inr ⟨z, i, c, rx, hy, hz, ?_, q _ rfl⟩))
        exact ec
      · cases e
    | tup l =>
      simp only [ixD, items] at e
      obtain ⟨a, vs, e1, sq, r⟩ := rx
      obtain ⟨v, ev, rv⟩ := atD_rep r e
      exact .inl (.inr (.inl ⟨a, vs, i, v, e1, hy, sq, ev, q v rv⟩))
    | ref n =>
      simp only [ixD, items] at e
      cases hl : isLst s n with
      | some l =>
        rw [hl] at e
        obtain ⟨a, vs, ea, hv, r⟩ := R.lst hl
        obtain ⟨a', ea', e'⟩ := rx
        rw [ea] at ea'
        cases ea'
        obtain ⟨v, ev, rv⟩ := atD_rep r e
        exact .inl (.inl ⟨a, vs, i, v, e', hy, SqL.of hv, ev, q v rv⟩)
      | none =>
        rw [hl] at e
        exact .inr (lk ry e)
    | frz l =>
      simp only [ixD, items] at e
      obtain ⟨a, e1, f⟩ := rx
      obtain ⟨v, ev, rv⟩ := atD_rep (RepL.intsF (K := K) (H := H) (ra := ra) l) e
      exact .inl (.inl ⟨a, _, i, v, e1, hy, f.sq, ev, q v rv⟩)
    | gd ks vs => exact .inr (lk ry (by simpa [ixD, items] using e))
    | _ => simp [ixD, items, lookD] at e
  | _ => exact .inr (lk ry (by cases dx <;> simpa [ixD] using e))
theorem endOf_eq (n d : Nat) (o : Option Int) : endOf n d o = HT.sIx n d o := by
  unfold endOf HT.sIx
  cases o <;> rfl
theorem cut_rep {K : PySem.W.Frag} {H : Hp} {ra : List Addr} {l : List D} {vs : List V} (r : RepL K H ra l vs) (lo hi : Option Int) : RepL K H ra (cutD l lo hi) (cutV vs lo hi) := by
  unfold cutD cutV
  rw [RepL.length l vs r, endOf_eq, endOf_eq]
  exact RepL.take _ _ _ (RepL.drop _ _ _ r)
theorem slice_of {dx : D} {x : V} {lo hi : Option Int} {Q : VK} (R : SRel X.K H ra s) (rx : RepV X.K H ra dx x) (p : PostR M X.mg X.K W σ (RepV X.K) H ra (sliceD s dx lo hi) Q) :
    (rSlL X.K x lo hi H Q ∨ rSlA X.K x lo hi H Q) ∨ rSlS x lo hi H Q := by
  cases dx with
  | tup l =>
    obtain ⟨a, vs, e1, sq, r⟩ := rx
    refine .inl <| .inr ⟨a, vs, e1, sq, fun z => ?_, fun _ => PostR.finT p R (cut_rep r lo hi)⟩
    have e2 := RepL.length l vs r
    have e3 : cutD l lo hi = l := by
      unfold cutD
      rw [endOf_eq, endOf_eq, ← e2, z.1, z.2, List.drop_zero, Nat.sub_zero, e2]
      exact List.take_length
    have p' : PostR M X.mg X.K W σ (RepV X.K) H ra (.ok (.tup l) s) Q := by
      have := p
      simp only [sliceD, e3] at this
      exact this
    exact p'.fin R ⟨a, vs, rfl, sq, r⟩
  | ref n =>
    simp only [sliceD] at p
    split at p
    · rename_i l hl
      obtain ⟨a, vs, ea, hv, r⟩ := R.lst hl
      obtain ⟨a', ea', e'⟩ := rx
      rw [ea] at ea'
      cases ea'
      exact .inl <| .inl ⟨a, vs, e', SqL.of hv, (PostR.finL p R (cut_rep r lo hi)).2⟩
    · exact p.elim
  | frz l =>
    obtain ⟨a, e1, f⟩ := rx
    exact .inl <| .inl ⟨a, _, e1, f.sq, (PostR.finL p R (cut_rep (RepL.intsF l) lo hi)).2⟩
  | str z =>
    simp only [sliceD] at p
    split at p
    · rename_i hz
      exact .inr ⟨z, rx, hz, p.fin R rfl⟩
    · exact p.elim
  | _ => exact p.elim
theorem RepL.rev {K : PySem.W.Frag} {H : Hp} {ra : List Addr} : ∀ (l : List D) (vs : List V), RepL K H ra l vs → RepL K H ra l.reverse vs.reverse
  | [], vs, h => by rw [show vs = [] from h]; rfl
  | d :: ds, vs, h => by
    obtain ⟨v, r, e, h1, h2⟩ := h
    subst e
    rw [List.reverse_cons, List.reverse_cons]
    exact RepL.append (RepL.rev ds r h2) (RepL.one h1)
theorem rev_of {dx : D} {x : V} {Q : VK} (R : SRel X.K H ra s) (rx : RepV X.K H ra dx x) (p : PostR M X.mg X.K W σ (RepV X.K) H ra (revD s dx) Q) :
    ∃ a xs, x = .ref a ∧ ((SqL X.K H a xs ∧ ∀ p, H p = none → Q (.ref p) (upd H p (.lst xs.reverse))) ∨ (SqT X.K H a xs ∧ ∀ p, H p = none → Q (.ref p) (upd H p (.tup xs.reverse)))) := by
  cases dx with
  | tup l =>
    obtain ⟨a, vs, e1, sq, r⟩ := rx
    exact ⟨a, vs, e1, .inr ⟨sq, PostR.finT p R (RepL.rev _ _ r)⟩⟩
  | ref n =>
    simp only [revD] at p
    split at p
    · rename_i l hl
      obtain ⟨a, vs, ea, hv, r⟩ := R.lst hl
      obtain ⟨a', ea', e'⟩ := rx
      rw [ea] at ea'
      cases ea'
      exact ⟨a, vs, e', .inl ⟨SqL.of hv, (PostR.finL p R (RepL.rev _ _ r)).2⟩⟩
    · exact p.elim
  | _ => exact p.elim
end
end WL
set_option maxHeartbeats 2000000
namespace WL
open PySem PySem.Spec PyProof.Rows L2
variable [TBS]
open Sem (wp)
theorem begun_enum1 {v : Value} {ob : Obj} {HH : Heap → Prop} (B : Begins v ob HH) :
    Meets (Builtin.«enumerate.__new__» ⟨[.type "enumerate", v], []⟩) (fun _ RR sh => HH sh.heap ∧
      RR (.ok (.ret (.ref (sh.heap.push ob).objs.size))) { sh with heap := (sh.heap.push ob).push { cls := .type "enumerate", data := .fields #[.none, .bool false, .ref sh.heap.objs.size, rawInt 0, .none, .none] } }) :=
  .of_wp fun prog w A RR sh hh => by
    obtain ⟨hp, ge, dr, tk, os⟩ := sh
    obtain ⟨h1, hR⟩ := hh
    have hsub := sub_enumerate
    have goIt : ∀ {A' : Around} {E' : Value → Shared → Prop} {Q' : Value → Shared → Prop}, Q' (.ref hp.objs.size) ⟨hp.push ob, ge, dr, tk, os⟩ → wpAny (model prog w) A' (pyIter v) Q' E' ⟨hp, ge, dr, tk, os⟩ :=
      fun qq => B.iter prog w _ _ ⟨hp, ge, dr, tk, os⟩ _ h1 qq
    wp_walk using goIt
    refine wpAny_stack_any fun _ => wpAny_pure ?_
    split
    · rename_i cc _ _ _ _ _
      cases (cc == Value.type "enumerate")
      · wp_walk using goIt
        exact ⟨_, rfl, hR⟩
      · wp_walk using goIt
        exact ⟨_, rfl, hR⟩
    · wp_walk using goIt
      exact ⟨_, rfl, hR⟩
section
variable {prog : Program} {w : World} {A : Around} {E : Value → Shared → Prop} {s : Shared}
theorem enum_of1 {v : Value} {ob : Obj} {HH : Heap → Prop} {Q : Value → Shared → Prop} (B : Begins v ob HH) (h1 : HH s.heap)
    (hq : ∀ h2, IsEnum h2 (s.heap.objs.size + 1) s.heap.objs.size 0 .none → h2.get? s.heap.objs.size = some ob → (∀ b u, s.heap.get? b = some u → h2.get? b = some u) → Q (.ref (s.heap.objs.size + 1)) { s with heap := h2 }) :
    wpAny (model prog w) A (call (.type "enumerate") [v]) Q E s := by
  have sz : (s.heap.push ob).objs.size = s.heap.objs.size + 1 := Heap.size_push ..
  have he : IsEnum ((s.heap.push ob).push { cls := .type "enumerate", data := .fields #[.none, .bool false, .ref s.heap.objs.size, rawInt 0, .none, .none] }) (s.heap.objs.size + 1) s.heap.objs.size 0 .none := by
    rw [← sz]
    exact Heap.get?_push_size _ rfl
  refine callType_new F.called_enumerate (by decide) (F.typeCall_enumerate_1 _) (F.newCall_enumerate_1 _) (fun x => F.args_object_init_2 x _) F.entry_enumerate_new (begun_enum1 B) ⟨h1, ?_⟩
  rw [sz]
  exact ⟨⟨_, he, rfl⟩, hq _ he (Heap.get?_push_of_some _ (Heap.get?_push_size _ B.free)) fun b u e => Heap.get?_push_of_some _ (Heap.get?_push_of_some _ e)⟩
end
def IteT (K : PySem.W.Frag) (a : Addr) : L2.It :=
  ⟨fun i H => ∃ (xs : List V) (x : V), SqT K H a xs ∧ xs[i]? = some x,
   fun i H v H' => ∃ T x, v = .ref T ∧ H T = none ∧ H' = upd H T (.tup [.int (i : Nat), x]) ∧ ∀ xs, SqT K H a xs → xs[i]? = some x,
   fun i H => ∃ xs : List V, SqT K H a xs ∧ xs.length ≤ i⟩
theorem turn_enumT {P : Program} {w : World} {K : PySem.W.Frag} {elts : List Expr} {kk : Nat} {tpos : Pos} (a e it : Addr) :
    Turn P w K (.Tuple elts kk tpos) (IteT K a) [e, it] e (fun i h => (∃ old, IsEnum h e it ((i : Nat) : Int) old) ∧ h.IsTupleIter it a i ∧ e ≠ it) where
  mem := List.mem_cons_self
  obj := fun i h st b hb => by
    obtain ⟨⟨old, he⟩, ⟨o, ho, hc, hd⟩, _⟩ := st
    rcases List.mem_cons.mp hb with z | z
    · subst z
      exact ⟨_, he, fun v q => nomatch q⟩
    · rw [List.mem_singleton.mp z]
      exact ⟨o, ho, fun v q => by rw [hd] at q; cases q⟩
  keep := fun i h h' st k => by
    obtain ⟨⟨old, he⟩, hi, hne⟩ := st
    exact ⟨⟨old, k e (by simp) _ he⟩, hi.at fun o q => k it (by simp) o q, hne⟩
  item := by
    intro X hP hw hK hc i pins s σ H E I hf st hg
    subst hP hw hK
    obtain ⟨⟨old, he⟩, hit, hne⟩ := st
    obtain ⟨xs, x, hq, hx⟩ := hg
    obtain ⟨its, rv, p, hz⟩ := I.tuple hq
    obtain ⟨u, hu, ru⟩ := rv.get hx
    have hel : e < s.heap.objs.size := Heap.lt_size he
    have hil : it < s.heap.objs.size := by obtain ⟨_, q, _⟩ := hit; exact Heap.lt_size q
    have hat : a ≠ it := fun z => by
      obtain ⟨o1, e1, c1, _⟩ := hit
      obtain ⟨o2, e2, c2, _⟩ := p
      rw [z, e1] at e2
      cases e2
      rw [c1] at c2
      exact absurd (Value.type.inj c2) (by decide)
    have hae : a ≠ e := fun z => by
      obtain ⟨o2, e2, c2, _⟩ := p
      rw [z, he] at e2
      cases e2
      exact absurd (Value.type.inj c2) (by decide)
    have hlt : i < its.toArray.size := by
      have h1 := (List.getElem?_eq_some_iff.mp hu).1
      simpa using h1
    refine wpAny_pyNext_enum_itemC (Draws.tuple (A := X.A.in1) (I.ok.hd hc) it a hat its.toArray) he ⟨hit, p⟩ hlt hne (by simp [hne, Ne.symm hae]) fun y h' tk hy ho hst hT hsz hk => ?_
    obtain ⟨hit', hp'⟩ := hst
    have ey : y = u := by
      have hy' : its[i]? = some y := by simpa using hy
      rw [hu] at hy'
      exact (Option.some.inj hy').symm
    subst ey
    refine ⟨_, rfl, wpAny_letOwnedTupleGo_enum (s := { s with heap := h', toks := tk + 1 }) ho fun h2 he2 sb => ?_⟩
    have hT2 : h2.get? s.heap.objs.size = some { cls := .type "tuple", data := .seq #[.int i tk, y] } := (sb.2 _ (Nat.ne_of_gt hel)).trans hT
    have new : ObjOk X.prog X.w (upd H s.heap.objs.size (.tup [.int (i : Nat), x])) h2 s.heap.objs.size (.tup [.int (i : Nat), x]) :=
      ⟨by show 2 ≤ sizeLine; decide, [.int i tk, y], .cons ⟨_, rfl⟩ (.cons ru .nil), ⟨_, hT2, rfl, _, rfl⟩⟩
    have I1 : Inv X pins σ (upd H s.heap.objs.size (.tup [.int (i : Nat), x])) { s with heap := h2, toks := tk + 1 } :=
      I.turnedNew (ch := [e, it]) (fun b ob hb q => (sb.2 b (fun z => hb (by simp [z]))).trans (hk b ob (fun z => hb (by simp [z])) (fun z => hb (by simp [z])) q)) hf (Nat.le_refl _) new
    refine ⟨.ref s.heap.objs.size, _, I1, rfl, ⟨_, x, rfl, I.hok.fresh (Nat.le_refl _), rfl, fun ys hys => by rw [I.tuple_inj hys hq]; exact hx⟩, ⟨⟨y, ?_⟩, hit'.at fun o q => (sb.2 it (Ne.symm hne)).trans q, hne⟩, fun b hb => ?_⟩
    · rw [show ((i + 1 : Nat) : Int) = (i : Int) + 1 by omega]
      exact he2
    · have hb2 : b < s.heap.objs.size := by
        rcases List.mem_cons.mp hb with z | z
        · rw [z]; exact hel
        · rw [List.mem_singleton.mp z]; exact hil
      rw [upd_ne (Nat.ne_of_lt hb2)]
      exact (hf b hb).1
  done := by
    intro X hP hw hK hc i pins s σ H E I hf st hg
    subst hP hw hK
    obtain ⟨⟨old, he⟩, hit, hne⟩ := st
    obtain ⟨xs, hq, hx⟩ := hg
    obtain ⟨its, rv, p, hz⟩ := I.tuple hq
    obtain ⟨f0, f1, f2, f3, f4, f5⟩ := hf it (by simp)
    have hl := rv.length
    have hT : s.TypeIs (.ref e) "enumerate" := ⟨_, he, rfl⟩
    unfold pyNext
    refine wpAny_bind (wpAny_attempt (wpAny_callSpecial?_slot (name := Str.ofString "__next__") hT F.slot_enumerate_next (wpAny_call_entry F.slot_enumerate_next hT F.entry_enumerate_next ?_ (F.args_enumerate_next_1 _))))
    show wpAny _ _ (field (.ref e) 2 >>= _) _ _ _
    refine wpAny_bind (wpAny_field he rfl (x := .ref it) rfl ?_)
    refine wpAny_bind (RZ.nextOf_tuple_end (A := X.A.in1) (I.ok.hd hc) hit p (by simp; omega) fun h' y eb hy => ?_)
    obtain ⟨o, ho, hcl⟩ := hy
    exact wpAny_bind (wpAny_isInstance (T := "StopIteration") (b := true) ⟨o, ho, hcl⟩ isSubtype_stop (wpAny_pure ⟨rfl, I.turned (t' := s.toks) (fun b o hb q => eb b o hb q) f0 f1 f3 f4 f5⟩))
  self := fun A i s Q E st h => by
    obtain ⟨⟨_, he⟩, _⟩ := st
    exact wpAny_pyIter_enum he h
def IteS (x : Str) : L2.It :=
  ⟨fun i _ => i < x.cps.size,
   fun i H v H' => ∃ T c, v = .ref T ∧ H T = none ∧ H' = upd H T (.tup [.int (i : Nat), .str ⟨#[c]⟩]) ∧ x.cps[i]? = some c,
   fun i _ => x.cps.size ≤ i⟩
theorem nextOf_text_end {prog : Program} {w : World} {A : Around} {E : Value → Shared → Prop} {s : Shared} {it : Addr} {x : Str} {t : Tok} {i : Nat} {Q : Value → Shared → Prop} (hh : A.handled = none) (hit : s.heap.IsStrIter it (strIterType x) x t i) (hx : x.cps[i]? = none)
    (hE : ∀ h' e, Heap.ExtBut it s.heap h' → (∃ o, h'.get? e = some o ∧ o.cls = .type "StopIteration") → E (.ref e) { s with heap := h' }) : wpAny (model prog w) A (Builtin.SmallTypes.nextOf (.ref it)) Q E s := by
  cases ha : x.cps.all (· < 128)
  · simp only [strIterType, ha, Bool.false_eq_true, if_false] at hit
    exact wpAny_nextOf_wide_end hh hit hx hE
  · simp only [strIterType, ha, if_true] at hit
    exact wpAny_nextOf_ascii_end hh hit hx hE
theorem turn_enumS {P : Program} {w : World} {K : PySem.W.Frag} {elts : List Expr} {kk : Nat} {tpos : Pos} (e it : Addr) (x : Str) (t : Tok) :
    Turn P w K (.Tuple elts kk tpos) (IteS x) [e, it] e (fun i h => (∃ old, IsEnum h e it ((i : Nat) : Int) old) ∧ h.IsStrIter it (strIterType x) x t i ∧ e ≠ it) where
  mem := List.mem_cons_self
  obj := fun i h st b hb => by
    obtain ⟨⟨old, he⟩, ⟨o, ho, hc, hd⟩, _⟩ := st
    rcases List.mem_cons.mp hb with z | z
    · subst z
      exact ⟨_, he, fun v q => nomatch q⟩
    · rw [List.mem_singleton.mp z]
      exact ⟨o, ho, fun v q => by rw [hd] at q; cases q⟩
  keep := fun i h h' st k => by
    obtain ⟨⟨old, he⟩, ⟨o, ho, r⟩, hne⟩ := st
    exact ⟨⟨old, k e (by simp) _ he⟩, ⟨o, k it (by simp) o ho, r⟩, hne⟩
  item := by
    intro X hP hw hK hc i pins s σ H E I hf st hg
    subst hP hw hK
    obtain ⟨⟨old, he⟩, hit, hne⟩ := st
    have hel : e < s.heap.objs.size := Heap.lt_size he
    have hil : it < s.heap.objs.size := by obtain ⟨_, q, _⟩ := hit; exact Heap.lt_size q
    refine wpAny_pyNext_enum_itemC (Draws.text (A := X.A.in1) (I.ok.hd hc) it x t) he hit hg hne (by simp [hne]) fun y h' tk hy ho hst hT hsz hk => ?_
    obtain ⟨c, u, hcx, rfl⟩ := hy
    refine ⟨_, rfl, wpAny_letOwnedTupleGo_enum (s := { s with heap := h', toks := tk + 1 }) ho fun h2 he2 sb => ?_⟩
    have hT2 : h2.get? s.heap.objs.size = some { cls := .type "tuple", data := .seq #[.int i tk, .str ⟨#[c]⟩ u] } := (sb.2 _ (Nat.ne_of_gt hel)).trans hT
    have new : ObjOk X.prog X.w (upd H s.heap.objs.size (.tup [.int (i : Nat), .str ⟨#[c]⟩])) h2 s.heap.objs.size (.tup [.int (i : Nat), .str ⟨#[c]⟩]) :=
      ⟨by show 2 ≤ sizeLine; decide, [.int i tk, .str ⟨#[c]⟩ u], .cons ⟨_, rfl⟩ (.cons ⟨_, rfl⟩ .nil), ⟨_, hT2, rfl, _, rfl⟩⟩
    have I1 : Inv X pins σ (upd H s.heap.objs.size (.tup [.int (i : Nat), .str ⟨#[c]⟩])) { s with heap := h2, toks := tk + 1 } :=
      I.turnedNew (ch := [e, it]) (fun b ob hb q => (sb.2 b (fun z => hb (by simp [z]))).trans (hk b ob (fun z => hb (by simp [z])) (fun z => hb (by simp [z])) q)) hf (Nat.le_refl _) new
    refine ⟨.ref s.heap.objs.size, _, I1, rfl, ⟨_, c, rfl, I.hok.fresh (Nat.le_refl _), rfl, hcx⟩, ⟨⟨.str ⟨#[c]⟩ u, ?_⟩, ?_, hne⟩, fun b hb => ?_⟩
    · rw [show ((i + 1 : Nat) : Int) = (i : Int) + 1 by omega]
      exact he2
    · obtain ⟨o, ho2, r⟩ := hst
      exact ⟨o, (sb.2 it (Ne.symm hne)).trans ho2, r⟩
    · have hb2 : b < s.heap.objs.size := by
        rcases List.mem_cons.mp hb with z | z
        · rw [z]; exact hel
        · rw [List.mem_singleton.mp z]; exact hil
      rw [upd_ne (Nat.ne_of_lt hb2)]
      exact (hf b hb).1
  done := by
    intro X hP hw hK hc i pins s σ H E I hf st hg
    subst hP hw hK
    obtain ⟨⟨old, he⟩, hit, hne⟩ := st
    obtain ⟨f0, f1, f2, f3, f4, f5⟩ := hf it (by simp)
    have hx : x.cps[i]? = none := Array.getElem?_eq_none hg
    have hT : s.TypeIs (.ref e) "enumerate" := ⟨_, he, rfl⟩
    unfold pyNext
    refine wpAny_bind (wpAny_attempt (wpAny_callSpecial?_slot (name := Str.ofString "__next__") hT F.slot_enumerate_next (wpAny_call_entry F.slot_enumerate_next hT F.entry_enumerate_next ?_ (F.args_enumerate_next_1 _))))
    show wpAny _ _ (field (.ref e) 2 >>= _) _ _ _
    refine wpAny_bind (wpAny_field he rfl (x := .ref it) rfl ?_)
    refine wpAny_bind (nextOf_text_end (A := X.A.in1) (I.ok.hd hc) hit hx fun h' y eb hy => ?_)
    obtain ⟨o, ho, hcl⟩ := hy
    exact wpAny_bind (wpAny_isInstance (T := "StopIteration") (b := true) ⟨o, ho, hcl⟩ isSubtype_stop (wpAny_pure ⟨rfl, I.turned (t' := s.toks) (fun b o hb q => eb b o hb q) f0 f1 f3 f4 f5⟩))
  self := fun A i s Q E st h => by
    obtain ⟨⟨_, he⟩, _⟩ := st
    exact wpAny_pyIter_enum he h
def iEnumA (K : PySem.W.Frag) (ta : TA) : TI := fun σ H R => ta σ H fun vs H1 => (∃ a xs, vs = [.ref a] ∧ ((SqL K H1 a xs ∧ R (Ite K a) H1) ∨ (SqT K H1 a xs ∧ R (IteT K a) H1))) ∨ ∃ z, vs = [.str z] ∧ R (IteS z) H1
theorem pi_enumA {X : Cx} {e : Expr} {ta : TA} {p pos tpos : Pos} {elts : List Expr} {kk : Nat} (hg : Gl X "enumerate") (hm : X.mg "enumerate" = none) (ha : PA X [e] ta) (hs : starEach [e] X.env = [(false, eval e X.env)]) :
    PI X (.Tuple elts kk tpos) (.Call (.Name "enumerate" p) [e] [] pos) (iEnumA X.K ta) := by
  refine ⟨fun pins s σ H R I h => ?_⟩
  refine Call_ (ld_blt I hg hm boot_enumerate (PyProof.Rows.callWith_type1 (thn (ha.run pos pins s σ H _ I h) fun us s1 ⟨vs, H1, I1, r1, q1⟩ => ?_) hs rfl))
  have fr : ∀ b, b ∈ [s1.heap.objs.size + 1, s1.heap.objs.size] → FpOk X pins H1 b := fun b hb => by
    have hle : s1.heap.objs.size ≤ b := by
      rcases List.mem_cons.mp hb with z | z
      · rw [z]; exact Nat.le_add_right _ _
      · rw [List.mem_singleton.mp z]; exact Nat.le_refl _
    exact I1.fpOk hle (I1.hok.fresh hle)
  rcases q1 with ⟨a, xs, ex, q1⟩ | ⟨z, ex, q⟩
  · subst ex
    cases r1 with
    | cons r rr =>
      cases rr
      cases r
      rcases q1 with ⟨hq, q⟩ | ⟨hq, q⟩
      · obtain ⟨its, rv, p', hz⟩ := I1.list hq
        refine call_enumerate_list p'.isList fun h' he hit hsz hk => wpAny_pyIter_enum he ?_
        have I2 : Inv X pins σ H1 { s1 with heap := h' } := I1.kept (t' := s1.toks) hk
        exact ⟨s1.heap.objs.size + 1, _, _, _, H1, rfl, I2, turn_enum a (s1.heap.objs.size + 1) s1.heap.objs.size, ⟨⟨.none, he⟩, hit, Nat.succ_ne_self _⟩, fr, q⟩
      · obtain ⟨its, rv, p', hz⟩ := I1.tuple hq
        refine enum_of1 (begins_tuple a its.toArray) p' fun h' he hit hk => wpAny_pyIter_enum he ?_
        have I2 : Inv X pins σ H1 { s1 with heap := h' } := I1.kept (t' := s1.toks) hk
        exact ⟨s1.heap.objs.size + 1, _, _, _, H1, rfl, I2, turn_enumT a (s1.heap.objs.size + 1) s1.heap.objs.size, ⟨⟨.none, he⟩, ⟨_, hit, rfl, rfl⟩, Nat.succ_ne_self _⟩, fr, q⟩
  · subst ex
    cases r1 with
    | cons r rr =>
      cases rr
      obtain ⟨t, rfl⟩ := r
      refine enum_of1 (begins_text z t) trivial fun h' he hit hk => wpAny_pyIter_enum he ?_
      have I2 : Inv X pins σ H1 { s1 with heap := h' } := I1.kept (t' := s1.toks) hk
      exact ⟨s1.heap.objs.size + 1, _, _, _, H1, rfl, I2, turn_enumS (s1.heap.objs.size + 1) s1.heap.objs.size z t, ⟨⟨.none, he⟩, ⟨_, hit, rfl, rfl⟩, Nat.succ_ne_self _⟩, fr, q⟩
end WL
set_option maxHeartbeats 2000000
namespace WL
open PySem PySem.Spec PyProof.Rows L2
variable [TBS]
open Sem (wp)
def ItzM (K : PySem.W.Frag) (a b : Addr) : L2.It :=
  ⟨fun i H => ∃ (xs ys : List V) (x y : V), SqL K H a xs ∧ SqT K H b ys ∧ xs[i]? = some x ∧ ys[i]? = some y,
    fun i H v H' => ∃ T x y, v = .ref T ∧ H T = none ∧ H' = upd H T (.tup [x, y]) ∧ (∀ xs, SqL K H a xs → xs[i]? = some x) ∧ ∀ ys, SqT K H b ys → ys[i]? = some y,
    fun i H => ∃ xs ys : List V, SqL K H a xs ∧ SqT K H b ys ∧ ((xs.length ≤ i ∧ i ≤ xs.length ∧ i ≤ ys.length) ∨ (ys.length ≤ i ∧ i ≤ xs.length ∧ i ≤ ys.length))⟩
theorem sep_of {z TI TO i1 i2 a b : Addr} (D : ZipApart z TI TO i1 i2 a b) : ZipSep2 z TI TO i1 i2 [i1, a] [i2, b] where
  TIz := D.TIz
  TOz := D.TOz
  TITO := D.TITO
  TIi1 := D.TIi1
  mem1 := List.mem_cons_self
  zf1 := by simp [Ne.symm D.i1z, Ne.symm D.l1z]
  Tf1 := by simp [D.TOi1, Ne.symm D.l1TO]
  TIi2 := D.TIi2
  mem2 := List.mem_cons_self
  zf2 := by simp [Ne.symm D.i2z, Ne.symm D.l2z]
  Tf2 := by simp [D.TOi2, Ne.symm D.l2TO]
  sep1_2 := by simp [D.i12, Ne.symm D.l2i1]
  sep2_1 := by simp [Ne.symm D.i12, Ne.symm D.l1i2]
theorem turn_zipM {P : Program} {w : World} {K : PySem.W.Frag} {elts : List Expr} {kk : Nat} {tpos : Pos} {a b z TI TO i1 i2 : Addr} (D : ZipApart z TI TO i1 i2 a b) :
    Turn P w K (.Tuple elts kk tpos) (ItzM K a b) [z, TI, TO, i1, i2] z (fun i h => IsZip h z TI TO .none ∧ IsPair h TI (.ref i1) (.ref i2) ∧ (∃ x y, IsPair h TO x y) ∧ h.IsListIter i1 a i ∧ h.IsTupleIter i2 b i) where
  mem := by simp
  obj := fun i h st c hc => by
    obtain ⟨hz, hTI, ⟨x, y, hTO⟩, ⟨o1, e1, _, d1⟩, ⟨o2, e2, _, d2⟩⟩ := st
    have e' : c = z ∨ c = TI ∨ c = TO ∨ c = i1 ∨ c = i2 := by simpa using hc
    rcases e' with q | q | q | q | q
    · rw [q]; exact ⟨_, hz, fun v q => nomatch q⟩
    · rw [q]; exact ⟨_, hTI, fun v q => nomatch q⟩
    · rw [q]; exact ⟨_, hTO, fun v q => nomatch q⟩
    · rw [q]; exact ⟨o1, e1, fun v q => by rw [d1] at q; cases q⟩
    · rw [q]; exact ⟨o2, e2, fun v q => by rw [d2] at q; cases q⟩
  keep := fun i h h' st k => by
    obtain ⟨hz, hTI, ⟨x, y, hTO⟩, h1, h2⟩ := st
    exact ⟨k z (by simp) _ hz, k TI (by simp) _ hTI, ⟨x, y, k TO (by simp) _ hTO⟩, h1.at fun o q => k i1 (by simp) o q, h2.at fun o q => k i2 (by simp) o q⟩
  item := by
    intro X hP hw hK hc i pins s σ H E I hf st hg
    subst hP hw hK
    obtain ⟨hz, hTI, ⟨x0, y0, hTO⟩, h1, h2⟩ := st
    obtain ⟨xs, ys, x, y, hqx, hqy, hx, hy⟩ := hg
    obtain ⟨its, rv, p, _⟩ := I.list hqx
    obtain ⟨its2, rv2, p2, _⟩ := I.tuple hqy
    obtain ⟨u, hu, ru⟩ := rv.get hx
    obtain ⟨u2, hu2, ru2⟩ := rv2.get hy
    have hzl : z < s.heap.objs.size := Heap.lt_size hz
    have l1 : i < its.toArray.size := by simpa using (List.getElem?_eq_some_iff.mp hu).1
    have l2 : i < its2.toArray.size := by simpa using (List.getElem?_eq_some_iff.mp hu2).1
    refine wpAny_pyNext_zipD2_item (sep_of D) (Draws.list (A := X.A.in1) (I.ok.hd hc) i1 a D.l1i1 its.toArray) (Draws.tuple (A := X.A.in1) (I.ok.hd hc) i2 b D.l2i2 its2.toArray) hz hTI hTO ⟨h1, p.isList⟩ ⟨h2, p2⟩ l1 l2 fun w1 w2 h' tk hw1 hw2 z' TO' st1 st2 hT hsz hk => ?_
    obtain ⟨h1', _⟩ := st1
    obtain ⟨h2', _⟩ := st2
    have e1 : w1 = u := by
      have hy' : its[i]? = some w1 := by simpa using hw1
      rw [hu] at hy'
      exact (Option.some.inj hy').symm
    have e2 : w2 = u2 := by
      have hy' : its2[i]? = some w2 := by simpa using hw2
      rw [hu2] at hy'
      exact (Option.some.inj hy').symm
    subst e1 e2
    refine ⟨_, rfl, wpAny_letOwnedTupleGo_zip (s := { s with heap := h', toks := tk }) z' fun h'' z'' sb => ?_⟩
    have hT2 : h''.get? s.heap.objs.size = some { cls := .type "tuple", data := .seq #[w1, w2] } := (sb.2 _ (Nat.ne_of_gt hzl)).trans hT
    have new : ObjOk X.prog X.w (upd H s.heap.objs.size (.tup [x, y])) h'' s.heap.objs.size (.tup [x, y]) :=
      ⟨by show 2 ≤ sizeLine; decide, [w1, w2], .cons ru (.cons ru2 .nil), ⟨_, hT2, rfl, _, rfl⟩⟩
    have I1 : Inv X pins σ (upd H s.heap.objs.size (.tup [x, y])) { s with heap := h'', toks := tk } :=
      I.turnedNew (t' := tk) (ch := [z, TI, TO, i1, i2]) (fun c o hb q => (sb.2 c (fun q' => hb (by simp [q']))).trans (hk c o (fun q' => hb (by simp [q'])) (fun q' => hb (by simp [q'])) (fun q' => hb (by simp [q'])) (fun q' => hb (by simp [q'])) q)) hf (Nat.le_refl _) new
    refine ⟨.ref s.heap.objs.size, _, I1, rfl, ⟨_, x, y, rfl, I.hok.fresh (Nat.le_refl _), rfl, fun l hl => by rw [I.list_inj hl hqx]; exact hx, fun l hl => by rw [I.tuple_inj hl hqy]; exact hy⟩, ⟨z'', ?_, ⟨w1, w2, ?_⟩, ?_, ?_⟩, fun c hcm => ?_⟩
    · exact (sb.2 _ D.TIz).trans (hk _ _ D.TIz D.TITO D.TIi1 D.TIi2 hTI)
    · exact (sb.2 _ D.TOz).trans TO'
    · exact h1'.at fun o q => (sb.2 _ D.i1z).trans q
    · exact h2'.at fun o q => (sb.2 _ D.i2z).trans q
    · have hlt : c < s.heap.objs.size := by
        have e' : c = z ∨ c = TI ∨ c = TO ∨ c = i1 ∨ c = i2 := by simpa using hcm
        rcases e' with q | q | q | q | q
        · rw [q]; exact hzl
        · rw [q]; exact Heap.lt_size hTI
        · rw [q]; exact Heap.lt_size hTO
        · rw [q]; obtain ⟨_, e1, _⟩ := h1; exact Heap.lt_size e1
        · rw [q]; obtain ⟨_, e2, _⟩ := h2; exact Heap.lt_size e2
      rw [upd_ne (Nat.ne_of_lt hlt)]
      exact (hf c hcm).1
  done := by
    intro X hP hw hK hc i pins s σ H E I hf st hg
    subst hP hw hK
    obtain ⟨hz, hTI, ⟨x0, y0, hTO⟩, h1, h2⟩ := st
    obtain ⟨xs, ys, hqx, hqy, hend⟩ := hg
    obtain ⟨its, rv, p, _⟩ := I.list hqx
    obtain ⟨its2, rv2, p2, _⟩ := I.tuple hqy
    have l1 := rv.length
    have l2 := rv2.length
    have s1 : its.toArray.size = its.length := by simp
    have s2 : its2.toArray.size = its2.length := by simp
    refine wpAny_pyNext_zipD2_end (sep_of D) (Draws.list (A := X.A.in1) (I.ok.hd hc) i1 a D.l1i1 its.toArray) (Draws.tuple (A := X.A.in1) (I.ok.hd hc) i2 b D.l2i2 its2.toArray) hz hTI hTO ⟨h1, p.isList⟩ ⟨h2, p2⟩ (by omega) (by omega) (by omega) fun h' tk hk => ⟨rfl, I.turnedL (t' := tk) (ch := [z, TI, TO, i1, i2]) (fun c o hb q =>
      hk c o (fun q' => hb (by simp [q'])) (fun q' => hb (by simp [q'])) (fun q' => hb (by simp [q'])) (fun q' => hb (by simp [q'])) q) hf⟩
  self := fun A i s Q E st h => wpAny_pyIter_zip st.1 h
def iZipM (K : PySem.W.Frag) (ta : TA) : TI := fun σ H R => ta σ H fun vs H1 => ∃ a b xs ys, vs = [.ref a, .ref b] ∧ ((SqL K H1 a xs ∧ SqL K H1 b ys ∧ R (Itz K a b) H1) ∨ (SqT K H1 a xs ∧ SqT K H1 b ys ∧ R (RZ.ItzT K a b) H1) ∨ (SqL K H1 a xs ∧ SqT K H1 b ys ∧ R (ItzM K a b) H1))
theorem pi_zipM {X : Cx} {e e2 : Expr} {ta : TA} {p pos tpos : Pos} {elts : List Expr} {kk : Nat} (hg : Gl X "zip") (hm : X.mg "zip" = none) (ha : PA X [e, e2] ta)
    (hs : starEach [e, e2] X.env = (false, eval e X.env) :: starEach [e2] X.env := by rfl) (hpl : (backTo pos (starEach [e2] X.env)).any (·.1) = false := by rfl) :
    PI X (.Tuple elts kk tpos) (.Call (.Name "zip" p) [e, e2] [] pos) (iZipM X.K ta) := by
  refine ⟨fun pins s σ H R I h => ?_⟩
  refine Call_ (ld_blt I hg hm PyProof.Rows.boot_zip (PyProof.Rows.callWith_type1 (thn (ha.run pos pins s σ H _ I h) fun us s1 ⟨vs, H1, I1, r1, q1⟩ => ?_) hs hpl))
  obtain ⟨a, b, xs, ys, ex, q1⟩ := q1
  subst ex
  cases r1 with
  | cons r rr =>
    cases rr with
    | cons r' rr =>
      cases rr
      cases r
      cases r'
      have fresh5 : ∀ c, c ∈ [s1.heap.objs.size + 4, s1.heap.objs.size + 2, s1.heap.objs.size + 3, s1.heap.objs.size, s1.heap.objs.size + 1] → FpOk X pins H1 c := fun c hcm => by
        have e' : c = s1.heap.objs.size + 4 ∨ c = s1.heap.objs.size + 2 ∨ c = s1.heap.objs.size + 3 ∨ c = s1.heap.objs.size ∨ c = s1.heap.objs.size + 1 := by simpa using hcm
        have hle : s1.heap.objs.size ≤ c := by
          rcases e' with z | z | z | z | z
          · rw [z]; exact Nat.le_add_right _ _
          · rw [z]; exact Nat.le_add_right _ _
          · rw [z]; exact Nat.le_add_right _ _
          · rw [z]; exact Nat.le_refl _
          · rw [z]; exact Nat.le_add_right _ _
        exact I1.fpOk hle (I1.hok.fresh hle)
      rcases q1 with ⟨hqx, hqy, q⟩ | ⟨hqx, hqy, q⟩ | ⟨hqx, hqy, q⟩
      · obtain ⟨its, rv, p1, _⟩ := I1.list hqx
        obtain ⟨its2, rv2, p2, _⟩ := I1.list hqy
        refine call_zip_2 p1.isList p2.isList fun h' hz hTI hTO h1 h2 hsz hk => wpAny_pyIter_zip hz ?_
        have I2 : Inv X pins σ H1 { s1 with heap := h' } := I1.kept (t' := s1.toks) hk
        exact ⟨s1.heap.objs.size + 4, [s1.heap.objs.size + 4, s1.heap.objs.size + 2, s1.heap.objs.size + 3, s1.heap.objs.size, s1.heap.objs.size + 1], _, _, H1, rfl, I2, turn_zip (PySem.W.ktu_apart s1.heap.objs.size a b p1.lt p2.lt), ⟨hz, hTI, ⟨_, _, hTO⟩, h1, h2⟩, fresh5, q⟩
      · obtain ⟨its, rv, p1, _⟩ := I1.tuple hqx
        obtain ⟨its2, rv2, p2, _⟩ := I1.tuple hqy
        obtain ⟨o1, ho1, _⟩ := id p1
        obtain ⟨o2, ho2, _⟩ := id p2
        refine RZ.call_zipT (show s1.heap.IsTuple a its.toArray from p1) (show s1.heap.IsTuple b its2.toArray from p2) fun h' hz hTI hTO h1 h2 hsz hk => wpAny_pyIter_zip hz ?_
        have I2 : Inv X pins σ H1 { s1 with heap := h' } := I1.kept (t' := s1.toks) hk
        exact ⟨s1.heap.objs.size + 4, [s1.heap.objs.size + 4, s1.heap.objs.size + 2, s1.heap.objs.size + 3, s1.heap.objs.size, s1.heap.objs.size + 1], _, _, H1, rfl, I2, RZ.turn_zipT (PySem.W.ktu_apart s1.heap.objs.size a b (Heap.lt_size ho1) (Heap.lt_size ho2)), ⟨hz, hTI, ⟨_, _, hTO⟩, h1, h2⟩, fresh5, q⟩
      · obtain ⟨its, rv, p1, _⟩ := I1.list hqx
        obtain ⟨its2, rv2, p2, _⟩ := I1.tuple hqy
        obtain ⟨o2, ho2, _⟩ := id p2
        refine zip_begins2 (begins_list a its.toArray) (begins_tuple b its2.toArray) p1.isList p2 fun h' hz hTI hTO h1 h2 hsz hk => wpAny_pyIter_zip hz ?_
        have I2 : Inv X pins σ H1 { s1 with heap := h' } := I1.kept (t' := s1.toks) hk
        exact ⟨s1.heap.objs.size + 4, [s1.heap.objs.size + 4, s1.heap.objs.size + 2, s1.heap.objs.size + 3, s1.heap.objs.size, s1.heap.objs.size + 1], _, _, H1, rfl, I2, turn_zipM (PySem.W.ktu_apart s1.heap.objs.size a b p1.lt (Heap.lt_size ho2)), ⟨hz, hTI, ⟨_, _, hTO⟩, ⟨_, h1, rfl, rfl⟩, ⟨_, h2, rfl, rfl⟩⟩, fresh5, q⟩
end WL
set_option maxHeartbeats 2000000
namespace WL
open PySem PySem.Spec PyProof.Rows L2
def visB (sc : Scope) (x : Str) : Bool := match sc.names.lookup x with
  | some .local => true
  | some .cell => true
  | some .free => true
  | _ => false
def glB (sc : Scope) (x : Str) : Bool := match sc.names.lookup x with
  | some .globalImplicit => true
  | _ => false
def locB (sc : Scope) (fn : Str → Bool) (x : Str) : Bool := match sc.names.lookup x with
  | some .local => true
  | some .cell => fn x
  | _ => false
def okName (x : Str) : Bool := !(x == ("__debug__" : Str)) && !(x == ("__classdict__" : Str))
def okOp (op : Operator) : Bool := match op with
  | .Add | .Sub | .Mult | .Mod | .FloorDiv | .Pow => true
  | _ => false
def biName : Bi → Str
  | .len => "len"
  | .int => "int"
  | .str => "str"
  | .tuple => "tuple"
  | .list => "list"
  | .sum => "sum"
  | .min => "min"
  | .max => "max"
  | .abs => "abs"
  | .ord => "ord"
  | .sorted => "sorted"
  | .dict => "dict"
def Me.name : Me → Str
  | .join => "join"
  | .split => "split"
  | .zfill => "zfill"
  | .part => "partition"
  | .rpart => "rpartition"
  | .upper => "upper"
  | .find => "find"
  | .count => "count"
  | .get => "get"
  | .dpop => "pop"
  | .update => "update"
def Me.ar : Me → Nat → Bool
  | .upper, n => n == 0
  | .get, n => n == 1 || n == 2
  | .rpart, _ | .update, _ => false
  | _, n => n == 1
def tyName : Ty → Str
  | .int => "int"
  | .bool => "bool"
  | .str => "str"
  | .tuple => "tuple"
  | .list => "list"
def bltNames : List Str := ["len", "int", "str", "tuple", "list", "sum", "min", "max", "abs", "bool", "isinstance", "range", "enumerate", "zip", "ValueError", "ord", "sorted", "dict"]
def plainBase : Expr → Bool
  | .Call _ (_ :: _) _ _ => true
  | .Call .. => false
  | _ => true
def notSlice : Expr → Bool
  | .Slice .. => false
  | _ => true
def isNone : Expr → Bool
  | .Constant .none _ _ => true
  | _ => false
def cmpOk (op : CmpOp) (y : Expr) : Bool := !behindInMarks op y
mutual
def Tg.names : Tg → List Nat
  | .nm i => [i]
  | .tup ts => Tg.namesL ts
  | .sub _ _ => []
def Tg.namesL : List Tg → List Nat
  | [] => []
  | t :: ts => t.names ++ Tg.namesL ts
end
section
variable (M : Cfg) (N : List Str)
mutual
def mE (sc : Scope) (fn : Str → Bool) : E → Expr → Bool
  | .var i => fun x => match x with
    | .Name y _ => decide (N[i]? = some y) && visB sc y && okName y
    | _ => false
  | .int i => fun x => match x with
    | .Constant (.int j) _ _ => decide (i = j)
    | _ => false
  | .str a => fun x => match x with
    | .Constant (.str b) _ _ => decide (a = b)
    | _ => false
  | .bl a => fun x => match x with
    | .Constant (.bool b) _ _ => decide (a = b)
    | _ => false
  | .non => fun x => match x with
    | .Constant .none _ _ => true
    | _ => false
  | .glob g => fun x => match x with
    | .Name y _ => decide (M.gname g = y) && glB sc y && okName y
    | _ => false
  | .tup es => fun x => match x with
    | .Tuple xs _ _ => mEs sc fn es xs
    | _ => false
  | .lst es => fun x => match x with
    | .List xs _ => mEs sc fn es xs
    | _ => false
  | .bin op a b => fun x => match x with
    | .BinOp y op' z _ => decide (op = op') && okOp op && mE sc fn a y && mE sc fn b z
    | _ => false
  | .neg a => fun x => match x with
    | .UnaryOp .USub y _ => mE sc fn a y
    | _ => false
  | .not a => fun x => match x with
    | .UnaryOp .Not y _ => mE sc fn a y
    | _ => false
  | .and a b => fun x => match x with
    | .BoolOp .And (y :: z :: r) pos => mE sc fn a y && (match r with
      | [] => mE sc fn b z
      | _ :: _ => mE sc fn b (.BoolOp .And (z :: r) pos))
    | _ => false
  | .or a b => fun x => match x with
    | .BoolOp .Or (y :: z :: r) pos => mE sc fn a y && (match r with
      | [] => mE sc fn b z
      | _ :: _ => mE sc fn b (.BoolOp .Or (z :: r) pos))
    | _ => false
  | .cmp a op b => fun x => match x with
    | .Compare y [op'] [z] _ => decide (op = op') && cmpOk op z && mE sc fn a y && mE sc fn b z
    | _ => false
  | .chain a op b op2 c => fun x => match x with
    | .Compare y [op', op2'] [z, u] _ => decide (op = op') && decide (op2 = op2') && cmpOk op2 u && mE sc fn a y && mE sc fn b z && mE sc fn c u
    | _ => false
  | .ife c a b => fun x => match x with
    | .IfExp y z u _ => mE sc fn c y && mE sc fn a z && mE sc fn b u
    | _ => false
  | .ix a b => fun x => match x with
    | .Subscript y z _ => notSlice z && mE sc fn a y && mE sc fn b z
    | _ => false
  | .slice a lo hi => fun x => match x with
    | .Subscript y (.Slice l h none _) _ => mE sc fn a y && mEs sc fn lo l.toList && mEs sc fn hi h.toList
    | _ => false
  | .rev a => fun x => match x with
    | .Subscript y (.Slice none none (some (.UnaryOp .USub (.Constant (.int 1) _ _) _)) _) _ => mE sc fn a y
    | _ => false
  | .call f es => fun x => match x with
    | .Call (.Name y _) xs [] _ => decide (M.fname f = y) && ((M.P f).isSome && !heardP M f) && glB sc y && okName y && mEs sc fn es xs
    | _ => false
  | .heard h f es => fun x => match x with
    | .Call (.Name y _) [.Lambda ps (.Call (.Name u _) xs [] _) scope _] [] _ => decide (M.fname h = y) && heardP M h && glB sc y && okName y && M.mks sc && !M.mks scope && noArgs ps && LamX.lamSB sc scope &&
        decide (M.fname f = u) && ((M.P f).isSome && !heardP M f) && glB scope u && okName u && mEs scope (fun _ => false) es xs
    | _ => false
  | .bi b es => fun x => match x with
    | .Call (.Name y _) (z :: xs) [] _ => decide (biName b = y) && glB sc y && mEs sc fn es (z :: xs)
    | _ => false
  | .isi a t => fun x => match x with
    | .Call (.Name y _) [z, .Name u _] [] _ => decide (y = ("isinstance" : Str)) && glB sc y && decide (tyName t = u) && glB sc u && mE sc fn a z
    | _ => false
  | .lrg es => fun x => match x with
    | .Call (.Name y _) [.Call (.Name u _) xs [] _] [] _ => decide (y = ("list" : Str)) && glB sc y && decide (u = ("range" : Str)) && glB sc u && decide (xs.length < 3) && mEs sc fn es xs
    | _ => false
  | .trg es => fun x => match x with
    | .Call (.Name y _) [.Call (.Name u _) xs [] _] [] _ => decide (y = ("tuple" : Str)) && glB sc y && decide (u = ("range" : Str)) && glB sc u && decide (xs.length < 3) && mEs sc fn es xs
    | _ => false
  | .app o a => fun x => match x with
    | .Call (.Attribute y n p) [z] [] q => decide (n = ("append" : Str)) && plainBase y && (p.endLine == q.line) && mE sc fn o y && mE sc fn a z
    | _ => false
  | .pop o a => fun x => match x with
    | .Call (.Attribute y n p) [z] [] q => decide (n = ("pop" : Str)) && plainBase y && (p.endLine == q.line) && mE sc fn o y && mE sc fn a z
    | _ => false
  | .ext o a => fun x => match x with
    | .Call (.Attribute y n p) [z] [] q => decide (n = ("extend" : Str)) && plainBase y && (p.endLine == q.line) && mE sc fn o y && mE sc fn a z
    | _ => false
  | .lc elt tg it ifs own => fun x => match x with
    | .ListComp y gs scope _ => (match gs with
      | [⟨t, i, cs, a⟩] => decide (a = 0) && (decide (ifs.length ≤ 1) && !M.mks (relS scope sc)) && blkC N sc scope (own.map fun j => (N.getD j (default : Str), j)) && (Tg.names tg).all (fun j => own.contains j) &&
          mIt sc fn it t i && mTg (relS scope sc) (fun y => scope.names.lookup y == some .cell) tg t &&
          mEs (relS scope sc) (fun y => scope.names.lookup y == some .cell) ifs cs && mE (relS scope sc) (fun y => scope.names.lookup y == some .cell) elt y
      | _ => false)
    | _ => false
  | .meth m o es => fun x => match x with
    | .Call (.Attribute y n p) xs [] q => decide (n = m.name) && plainBase y && (p.endLine == q.line) && m.ar xs.length && mE sc fn o y && mEs sc fn es xs
    | _ => false
  | .dnew => fun x => match x with
    | .Dict [] [] _ => true
    | _ => false
def mEs (sc : Scope) (fn : Str → Bool) : List E → List Expr → Bool
  | [] => fun xs => xs.isEmpty
  | e :: es => fun xs => match xs with
    | x :: r => mE sc fn e x && mEs sc fn es r
    | [] => false
def mIt (sc : Scope) (fn : Str → Bool) : It → Expr → Expr → Bool
  | .val e => fun _ x => mE sc fn e x
  | .rng es => fun _ x => match x with
    | .Call (.Name y _) xs [] _ => decide (y = ("range" : Str)) && glB sc y && decide (xs.length = 1 ∨ xs.length = 2 ∨ xs.length = 3) && mEs sc fn es xs
    | _ => false
  | .enm e => fun t x => match t, x with
    | .Tuple .., .Call (.Name y _) [z] [] _ => decide (y = ("enumerate" : Str)) && glB sc y && mE sc fn e z
    | _, _ => false
  | .zip a b => fun t x => match t, x with
    | .Tuple .., .Call (.Name y _) [z, u] [] _ => decide (y = ("zip" : Str)) && glB sc y && mE sc fn a z && mE sc fn b u
    | _, _ => false
def mTg (sc : Scope) (fn : Str → Bool) : Tg → Expr → Bool
  | .nm i => fun x => match x with
    | .Name y _ => decide (N[i]? = some y) && locB sc fn y
    | _ => false
  | .tup ts => fun x => match x with
    | .Tuple xs _ _ => mTgs sc fn ts xs
    | _ => false
  | .sub o i => fun x => match x with
    | .Subscript y z _ => notSlice z && mE sc fn o y && mE sc fn i z
    | _ => false
def mTgs (sc : Scope) (fn : Str → Bool) : List Tg → List Expr → Bool
  | [] => fun xs => xs.isEmpty
  | e :: es => fun xs => match xs with
    | x :: r => mTg sc fn e x && mTgs sc fn es r
    | [] => false
end
end
def notStar : Expr → Bool
  | .Starred .. => false
  | _ => true
theorem star_cons {e : Expr} (h : notStar e = true) (es : List Expr) (env : PySem.Env) : starEach (e :: es) env = (false, eval e env) :: starEach es env := by
  cases e <;> first | rfl | cases h
theorem asg_cons {e : Expr} (h : notStar e = true) (es : List Expr) (env : PySem.Env) : assignEach (e :: es) env = (false, assign e env) :: assignEach es env := by
  cases e <;> first | rfl | cases h
section
variable {M : Cfg} {N : List Str} {sc : Scope} {fn : Str → Bool}
theorem mE_star : ∀ {e : E} {x : Expr}, mE M N sc fn e x = true → notStar x = true := by
  intro e x h
  cases x with
  | Starred v p => cases e <;> simp [mE] at h
  | _ => rfl
theorem mTg_star : ∀ {t : Tg} {x : Expr}, mTg M N sc fn t x = true → notStar x = true := by
  intro e x h
  cases x with
  | Starred v p => cases e <;> simp [mTg] at h
  | _ => rfl
theorem mEs_back : ∀ {es : List E} {xs : List Expr} (pos : Pos) (env : PySem.Env), mEs M N sc fn es xs = true → (backTo pos (starEach xs env)).any (·.1) = false
  | [], xs, pos, env, h => by
    cases xs with
    | nil => rfl
    | cons x r => simp [mEs] at h
  | e :: es, xs, pos, env, h => by
    cases xs with
    | nil => simp [mEs] at h
    | cons x r =>
      simp only [mEs, Bool.and_eq_true] at h
      have ih := mEs_back pos env h.2
      rw [star_cons (mE_star h.1)]
      unfold backTo at ih ⊢
      rw [List.map_cons, List.any_cons, ih]
      rfl
theorem mTgs_each : ∀ {ts : List Tg} {xs : List Expr} (env : PySem.Env), mTgs M N sc fn ts xs = true → (assignEach xs env).length = ts.length ∧ (assignEach xs env).findIdx? (·.1) = none
  | [], xs, env, h => by
    cases xs with
    | nil => exact ⟨rfl, rfl⟩
    | cons x r => simp [mTgs] at h
  | e :: es, xs, env, h => by
    cases xs with
    | nil => simp [mTgs] at h
    | cons x r =>
      simp only [mTgs, Bool.and_eq_true] at h
      obtain ⟨h1, h2⟩ := mTgs_each env h.2
      rw [asg_cons (mTg_star h.1)]
      refine ⟨by rw [List.length_cons, List.length_cons, h1], ?_⟩
      rw [List.findIdx?_cons]
      simp [h2]
theorem base_ok {y : Expr} (h : plainBase y = true) (n : Str) (env : PySem.Env) : attributeBase y n env (eval y env) = eval y env := by
  cases y with
  | Call f as ks p => cases as with
    | nil => cases h
    | cons a as => cases f <;> rfl
  | _ => rfl
theorem folded_ok {it : It} {t x : Expr} (h : mIt M N sc fn it t x = true) (env : PySem.Env) (v : Value) : foldedSetIterable x env v = pure v := by
  cases x with
  | Set es k p =>
    cases it with
    | val e => cases e <;> simp [mIt, mE] at h
    | rng es => simp [mIt] at h
    | enm e => cases t <;> simp [mIt] at h
    | zip a b => cases t <;> simp [mIt] at h
  | _ => rfl
theorem ix_ok {z : Expr} (h : notSlice z = true) : PlainIx z := by
  intro o i
  cases z <;> first | rfl | cases h
end
end WL
set_option maxHeartbeats 4000000
namespace WL
open PySem PySem.Spec PyProof.Rows L2
variable [TBS]
def spF (M : Cfg) (mg : Str → Option Value) (K : PySem.W.Frag) (k f : Nat) : Sp := fun vs H Q E => ∃ ra ds s, SRel K H ra s ∧ RepL K H ra ds vs ∧
  PostR M mg K (fun cls d _ H' => E cls d H') [] (RepV K) H ra (callF M.P M.G M.F k f ds s) Q
def spInit (K : PySem.W.Frag) : Sp := fun vs H Q _ => ∃ (a C : Addr) (y : V), vs = [.ref a, y] ∧ OexC K C ∧ PySem.W.findIn K (.ref C) "what" = some none ∧ H a = some (exo a C none) ∧
  ∀ d, H d = none → d ≠ a → Q .non (upd (upd H d (exd d [("what", y)])) a (exo a C (some d)))
structure XF (prog : Program) (w : World) (K : PySem.W.Frag) (mg : Str → Option Value) (base : Heap) (C : Addr) : Prop where
  oex : OexC K C
  ini : ∃ (fI : Addr) (fd : FuncData), PySem.W.findIn K (.ref C) "__init__" = some (some (.ref fI)) ∧ PySem.W.typeIn K (.ref fI) = some (.type "function") ∧ Binds K fd ["self", "what"] [] ∧ FnOk prog w K mg base (L2.CX prog w) 1 fI fd ["self", "what"] (spInit K)
  no : PySem.W.findIn K (.ref C) "what" = some none
  ga : PySem.W.findIn K (.ref C) "__getattribute__" = some (some (.builtin "BaseException.__getattribute__"))
  gg : PySem.W.findIn K (.ref C) "__getattr__" = some none
  hd : PySem.W.hasDictIn K C = true
  cc : PySem.W.findIn K (.ref C) "__class__" = some (some (.builtin "object.__class__"))
  hn : PySem.W.specialIn K (.builtin "object.__class__") "__get__" = some (some (.builtin "getset_descriptor.__get__"))
  ht : PySem.W.takesIn K (.builtin "object.__class__") = some true
  hm : PySem.W.mroIn K C (.type "object") = some true
  ve : PySem.W.kitOne K (.ref C) (.type "ValueError") = some true
def TTh (M : Cfg) (K : PySem.W.Frag) (mg : Str → Option Value) (k h : Nat) : (XK → Hp → VK → Prop) → Hp → VK → Prop := fun tl H Q =>
  tl (fun cls dd H' => ∃ c w ra s, SRel K H' ra s ∧ RepX M mg K H' ra c w cls dd ∧ PostR M mg K (fun _ _ _ _ => False) [] (RepV K) H' ra (callF M.P M.G M.F k h [.int (c : Nat), w] s) Q)
    H fun v H' => ∃ d ra s, SRel K H' ra s ∧ RepV K H' ra d v ∧ PostR M mg K (fun _ _ _ _ => False) [] (RepV K) H' ra (callF M.P M.G M.F k h [.bl true, d] s) Q
def HrdOk (M : Cfg) (prog : Program) (w : World) (K : PySem.W.Frag) (mg : Str → Option Value) (base : Heap) (k h : Nat) : Prop :=
  ∃ (g : Addr) (pg : Arguments) (bg : List Stmt) (sg : Scope) (dV kV doc pm cdv ct oc : Value) (an od : Option Addr) (osl : Array (Option Value)) (Ng : List Str) (a : Str),
    mg (M.fname h) = some (.ref g) ∧ PySem.W.keepIn K (.ref g) = true ∧ K.lookup g = some ⟨oc, od, .func (PySem.W.fnOf (M.fname h) (M.fname h) pg bg sg dV kV doc pm an cdv ct), osl⟩ ∧ PySem.W.codeIn K cdv (M.fname h) = true ∧
    L2.Binds K (PySem.W.fnOf (M.fname h) (M.fname h) pg bg sg dV kV doc pm an cdv ct) [a] [] ∧ FnScope Ng [a] sg ∧ Ng[0]? = some a ∧ Vis sg a ∧ (a == ("__debug__" : Str)) = false ∧ (a == ("__classdict__" : Str)) = false ∧
    ∀ X : Cx, X.prog = prog → X.w = w → X.K = K → X.mg = mg → X.base = base → Room (k + 2) X.A → ∀ q, LamX.GivesTo X Ng (M.fname h) sg g cdv bg a q (TTh M K mg k h)
def Maker (X : Cx) : Prop := ∃ c P, X.env.code = .ref c ∧ LamX.TabB X.base X.mg c P ∧ (P, X.env.qual ++ "<lambda>") ∈ TBS.T ∧ ∀ p ∈ TBS.T, p.1 = P → p.2 = X.env.qual ++ "<lambda>"
structure Stat (M : Cfg) (prog : Program) (w : World) (K : PySem.W.Frag) (mg : Str → Option Value) (base : Heap) (k : Nat) : Prop where
  blt : ∀ x ∈ bltNames, mg x = none
  glob : ∀ g d, M.G g = some d → ∃ v u, mg (M.gname g) = some u ∧ RelV v u ∧ ∀ H ra, RepV K H ra d v
  fns : ∀ f fd, M.P f = some fd → heardP M f = false → ∃ (a : Addr) (fdat : FuncData) (ps : List Str), mg (M.fname f) = some (.ref a) ∧ PySem.W.keepIn K (.ref a) = true ∧ Binds K fdat ps [] ∧ FnOk prog w K mg base (L2.CX prog w) (k + 2) a fdat ps (spF M mg K k f)
  exc : ∀ (c : Nat) (x : Str), M.cls[c]? = some x → ∃ C, mg x = some (.ref C) ∧ XF prog w K mg base C
  rel : ∀ (c : Nat) (x : Str) (c2 : Nat) (x2 : Str) (C C2 : Addr), M.cls[c]? = some x → M.cls[c2]? = some x2 → mg x = some (.ref C) → mg x2 = some (.ref C2) → PySem.W.exmOne K (.ref C) (.ref C2) = some (decide (c = c2)) ∧ PySem.W.kitOne K (.ref C) (.ref C2) = some (decide (c = c2))
  bas : ∃ B, mg M.base = some (.ref B) ∧ ∀ (c : Nat) (x : Str) (C : Addr), M.cls[c]? = some x → mg x = some (.ref C) → PySem.W.exmOne K (.ref C) (.ref B) = some true ∧ PySem.W.kitOne K (.ref C) (.ref B) = some true
  hrd : ∀ h, heardP M h = true → 0 < k → HrdOk M prog w K mg base k h
  far : ∀ f, M.P (f + hB) = none
  gds : GdOk K w
structure Good (M : Cfg) (N : List Str) (X : Cx) (W : WX) (k : Nat) (sc : Scope) (fn : Str → Bool) : Prop where
  esc : X.env.scope = sc
  eN : X.N = N
  nd : N.Nodup
  efn : X.fn = fn
  calm : X.calm = true
  knd : sc.kind = .function
  tk : Takes X W
  hr : Room (k + 2) X.A
  st : Stat M X.prog X.w X.K X.mg X.base k
  mkr : M.mks sc = true → Maker X
  stl : ∀ j, j ≤ k → Stat M X.prog X.w X.K X.mg X.base j
def evT (C : Calls) (G : Globs) (e : E) (ρ : Env) (s : Store) : R Bool := (evE C G e ρ s).bind fun d s1 => match truth s1 d with
  | some b => .ok b s1
  | none => .bad
abbrev Cfg.C (M : Cfg) (k : Nat) : Calls := callF M.P M.G M.F k
section
variable {M : Cfg} {N : List Str} {X : Cx} {W : WX} {k : Nat} {sc : Scope} {fn : Str → Bool}
theorem vis_ok {x : Str} (h : visB sc x = true) (g : Good M N X W k sc fn) : Vis X.env.scope x := by
  rw [g.esc]
  unfold visB at h
  split at h
  · exact .inl (by assumption)
  · exact .inr (.inl (by assumption))
  · exact .inr (.inr (by assumption))
  · cases h
theorem gl_ok {x : Str} (h : glB sc x = true) (g : Good M N X W k sc fn) : Gl X x := by
  show X.env.scope.names.lookup x = some .globalImplicit
  rw [g.esc]
  unfold glB at h
  split at h
  · assumption
  · cases h
theorem loc_ok {x : Str} (h : locB sc fn x = true) (g : Good M N X W k sc fn) : Loc X.env.scope x ∧ (X.fn x = true ∨ X.env.scope.names.lookup x = some .local) := by
  rw [g.esc, g.efn]
  unfold locB at h
  split at h
  · exact ⟨.inl (by assumption), .inr (by assumption)⟩
  · exact ⟨.inr (by assumption), .inl h⟩
  · cases h
theorem okName_ok {x : Str} (h : okName x = true) : (x == ("__debug__" : Str)) = false ∧ (x == ("__classdict__" : Str)) = false := by
  unfold okName at h
  simpa using h
theorem Good.blt (g : Good M N X W k sc fn) {x : Str} (h : x ∈ bltNames) : X.mg x = none := g.st.blt x h
theorem pt_gen {x : Expr} {f : Env → Store → R D} (h : PE X x (tE M X W f)) (he : ∀ whole, isTrue x X.env whole = (do let v ← whole; standAt x.pos; holding [v] (truthy v))) :
    PT X x (tT M X W fun ρ s => (f ρ s).bind fun d s1 => match truth s1 d with
      | some b => .ok b s1
      | none => .bad) := by
  refine PT.sub (pt_truth h he) fun σ H Q ⟨ra, ρ, s, e, r, p⟩ => tE_bind e r p fun x H1 a s1 r1 _ _ e1 R1 rp q => ?_
  split at q
  · rename_i b hb
    exact ⟨b, truth_of R1 rp hb, q.fin R1 rfl⟩
  · exact q.elim
theorem Gl.of_mem {x : Str} (g : Good M N X W k sc fn) (hg : glB sc x = true) : Gl X x := gl_ok hg g
theorem ref_lst {K : PySem.W.Frag} {H : Hp} {ra : List Addr} {s : Store} (R : SRel K H ra s) {n : Nat} {v : V} {l : List D} (h : RepV K H ra (.ref n) v) (e : isLst s n = some l) :
    ∃ a vs, v = .ref a ∧ ra[n]? = some a ∧ H a = some (.lst vs) ∧ RepL K H ra l vs := by
  obtain ⟨a, vs, ea, hv, r⟩ := R.lst e
  obtain ⟨a', ea', e'⟩ := h
  rw [ea] at ea'
  cases ea'
  exact ⟨a, vs, e', ea, hv, r⟩
theorem PostR.setFin {σ : L2.St} {H : Hp} {ra : List Addr} {s : Store} {n : Nat} {a : Addr} {l l0 : List D} {vs : List V} {d : D} {v : V} {Q : VK} (p : PostR M X.mg X.K W σ (RepV X.K) H ra (.ok d (s.set n (.lst l))) Q) (R : SRel X.K H ra s)
    (en : isLst s n = some l0) (ea : ra[n]? = some a) (r : RepL X.K H ra l vs) (rd : RepV X.K H ra d v) : Q v (upd H a (.lst vs)) := by
  obtain ⟨R2, k2⟩ := R.setL en ea r
  exact p v ra _ k2 (List.prefix_refl _) R2 (RepV.keep k2 (List.prefix_refl _) d v rd)
def biVal : Bi → Value
  | .len => .builtin "len"
  | .int => .type "int"
  | .str => .type "str"
  | .tuple => .type "tuple"
  | .list => .type "list"
  | .sum => .builtin "sum"
  | .min => .builtin "min"
  | .max => .builtin "max"
  | .abs => .builtin "abs"
  | .ord => .builtin "ord"
  | .sorted => .builtin "sorted"
  | .dict => .type "dict"
theorem pe_bi (b : Bi) {r : List V → Hp → VK → Prop} {p pos : Pos} {z : Expr} {xs : List Expr} {t : TA} (hc : CallR X (biVal b) r) (hg : Gl X (biName b)) (hm : X.mg (biName b) = none) (ha : PA X (z :: xs) t)
    (he : starEach (z :: xs) X.env = (false, eval z X.env) :: starEach xs X.env) (hpl : (backTo pos (starEach xs X.env)).any (·.1) = false) : PE X (.Call (.Name (biName b) p) (z :: xs) [] pos) (tCB r t) := by
  cases b with
  | len => exact pe_callB hc hg hm (by decide +kernel) ha (by decide) (by decide) he hpl
  | int => exact pe_callTy hc hg hm (by decide +kernel) ha (by decide) (by decide) he hpl
  | str => exact pe_callTy hc hg hm (by decide +kernel) ha (by decide) (by decide) he hpl
  | tuple => exact pe_callTy hc hg hm (by decide +kernel) ha (by decide) (by decide) he hpl
  | list => exact pe_callTy hc hg hm (by decide +kernel) ha (by decide) (by decide) he hpl
  | sum => exact pe_callB hc hg hm (by decide +kernel) ha (by decide) (by decide) he hpl
  | min => exact pe_callB hc hg hm (by decide +kernel) ha (by decide) (by decide) he hpl
  | max => exact pe_callB hc hg hm (by decide +kernel) ha (by decide) (by decide) he hpl
  | abs => exact pe_callB hc hg hm (by decide +kernel) ha (by decide) (by decide) he hpl
  | ord => exact pe_callB hc hg hm (by decide +kernel) ha (by decide) (by decide) he hpl
  | sorted => exact pe_callB hc hg hm (by decide +kernel) ha (by decide) (by decide) he hpl
  | dict => exact pe_callTy hc hg hm (by decide +kernel) ha (by decide) (by decide) he hpl
def BiR (M : Cfg) (X : Cx) (b : Bi) : Prop := ∃ r : List V → Hp → VK → Prop, CallR X (biVal b) r ∧
  ∀ (W : WX) (σ : L2.St) (H : Hp) (ra : List Addr) (s : Store) (ds : List D) (vs : List V) (Q : VK), SRel X.K H ra s → RepL X.K H ra ds vs → PostR M X.mg X.K W σ (RepV X.K) H ra (biD b ds s) Q → r vs H Q
theorem one_of {K : PySem.W.Frag} {H : Hp} {ra : List Addr} {d : D} {vs : List V} (h : RepL K H ra [d] vs) : ∃ v, vs = [v] ∧ RepV K H ra d v := by
  obtain ⟨v, r, rfl, h1, h2⟩ := h
  rw [show r = [] from h2]
  exact ⟨v, rfl, h1⟩
theorem two_of {K : PySem.W.Frag} {H : Hp} {ra : List Addr} {d e : D} {vs : List V} (h : RepL K H ra [d, e] vs) : ∃ v u, vs = [v, u] ∧ RepV K H ra d v ∧ RepV K H ra e u := by
  obtain ⟨v, r, rfl, h1, h2⟩ := h
  obtain ⟨u, rfl, h3⟩ := one_of h2
  exact ⟨v, u, rfl, h1, h3⟩
theorem ltCps_iff : ∀ (a b : List Nat), ltCps a b = decide (a < b)
  | [], [] => by simp [ltCps]
  | [], _ :: _ => by simp [ltCps]
  | _ :: _, [] => by simp [ltCps]
  | x :: a, y :: b => by
    rw [ltCps, ltCps_iff a b, Bool.eq_iff_iff]
    simp [List.cons_lt_cons_iff]
def leS (a b : Str) : Prop := ¬ b.cps.toList < a.cps.toList
theorem leS_trans {a b c : Str} (h : leS a b) (h2 : leS b c) : leS a c := fun z => by
  have h : a.cps.toList ≤ b.cps.toList := h
  have h2 : b.cps.toList ≤ c.cps.toList := h2
  exact (List.le_trans h h2) z
theorem leS_anti {a b : Str} (h : leS a b) (h2 : leS b a) : a = b := by
  have h : a.cps.toList ≤ b.cps.toList := h
  have h2 : b.cps.toList ≤ a.cps.toList := h2
  have e := List.le_antisymm h h2
  obtain ⟨⟨x⟩⟩ := a
  obtain ⟨⟨y⟩⟩ := b
  have e : x = y := e
  rw [e]
theorem ins_perm (x : Str) : ∀ l : List Str, (insS x l).Perm (x :: l)
  | [] => List.Perm.refl _
  | y :: r => by
    unfold insS
    split
    · exact ((ins_perm x r).cons y).trans (List.Perm.swap x y r)
    · exact List.Perm.refl _
theorem sort_perm : ∀ l : List Str, (sortS l).Perm l
  | [] => List.Perm.refl _
  | x :: r => (ins_perm x (sortS r)).trans ((sort_perm r).cons x)
theorem ins_pair (x : Str) : ∀ l : List Str, l.Pairwise leS → (insS x l).Pairwise leS
  | [], _ => List.pairwise_singleton _ _
  | y :: r, h => by
    obtain ⟨h1, h2⟩ := List.pairwise_cons.mp h
    unfold insS
    split
    · rename_i c
      refine List.pairwise_cons.mpr ⟨fun z hz => ?_, ins_pair x r h2⟩
      rcases List.mem_cons.mp ((ins_perm x r).mem_iff.mp hz) with rfl | q
      · exact fun w => by
          have h : y.cps.toList ≤ z.cps.toList := List.le_of_lt c
          exact h w
      · exact h1 z q
    · rename_i c
      refine List.pairwise_cons.mpr ⟨fun z hz => ?_, h⟩
      rcases List.mem_cons.mp hz with rfl | q
      · exact c
      · exact leS_trans c (h1 z q)
theorem sort_pair : ∀ l : List Str, (sortS l).Pairwise leS
  | [] => List.Pairwise.nil
  | x :: r => ins_pair x _ (sort_pair r)
theorem rising_pair : ∀ (p : Str) (l : List Str), risingS p l = true → (p :: l).Pairwise leS
  | p, [], _ => List.pairwise_singleton _ _
  | p, x :: r, h => by
    have h : (!ltCps x.cps.toList p.cps.toList && risingS x r) = true := h
    rw [Bool.and_eq_true, ltCps_iff] at h
    have ih := rising_pair x r h.2
    have hx : leS p x := by simpa [leS] using h.1
    refine List.pairwise_cons.mpr ⟨fun z hz => ?_, ih⟩
    rcases List.mem_cons.mp hz with rfl | q
    · exact hx
    · exact leS_trans hx ((List.pairwise_cons.mp ih).1 z q)
theorem sorted_eq {ys xs : List Str} (h : ys.Perm xs) (hs : sortedS ys = true) : ys = sortS xs := by
  refine List.Perm.eq_of_pairwise (le := leS) (fun a b _ _ => leS_anti) ?_ (sort_pair xs) (h.trans (sort_perm xs).symm)
  cases ys with
  | nil => exact List.Pairwise.nil
  | cons y r => exact rising_pair y r hs
theorem RepL.strsF {K : PySem.W.Frag} {H : Hp} {ra : List Addr} : ∀ xs : List Str, RepL K H ra (xs.map .str) (xs.map V.str)
  | [] => rfl
  | x :: xs => ⟨.str x, _, rfl, rfl, RepL.strsF xs⟩
theorem RepL.strsOf {K : PySem.W.Frag} {H : Hp} {ra : List Addr} : ∀ (l : List D) (vs : List V) (xs : List Str), RepL K H ra l vs → strsOf l = some xs → vs = xs.map V.str
  | [], vs, xs, h, e => by
    rw [show vs = [] from h]
    simp [WL.strsOf] at e
    subst e
    rfl
  | d :: ds, vs, xs, h, e => by
    obtain ⟨v, r, e', h1, h2⟩ := h
    subst e'
    cases d with
    | str i =>
      simp only [WL.strsOf, Option.map_eq_some_iff] at e
      obtain ⟨ms, em, rfl⟩ := e
      rw [RepL.strsOf ds r ms h2 em, show v = .str i from h1]
      rfl
    | _ => simp [WL.strsOf] at e
theorem keysS_map : ∀ {l : List (L2.Key × D)} {xs : List Str}, keysS l = some xs → l.map (·.1) = xs.map Sum.inr
  | [], xs, e => by
    simp [keysS] at e
    subst e
    rfl
  | (.inr x, d) :: r, xs, e => by
    simp only [keysS, Option.map_eq_some_iff] at e
    obtain ⟨ms, em, rfl⟩ := e
    rw [List.map_cons, List.map_cons, keysS_map em]
  | (.inl i, d) :: r, xs, e => by simp [keysS] at e
theorem ref_dct {K : PySem.W.Frag} {H : Hp} {ra : List Addr} {s : Store} (R : SRel K H ra s) {n : Nat} {v : V} {l : List (L2.Key × D)} (h : RepV K H ra (.ref n) v) (e : isDct s n = some l) :
    ∃ a vs, v = .ref a ∧ ra[n]? = some a ∧ H a = some (.dK vs) ∧ RepM K H ra l vs := by
  obtain ⟨a, vs, ea, hv, r⟩ := R.dct e
  obtain ⟨a', ea', e'⟩ := h
  rw [ea] at ea'
  cases ea'
  exact ⟨a, vs, e', ea, hv, r⟩
theorem PostR.finD {σ : L2.St} {H : Hp} {ra : List Addr} {s : Store} {l : List (L2.Key × D)} {vs : List (L2.Key × V)} {Q : VK} (p : PostR M X.mg X.K W σ (RepV X.K) H ra (newDct l s) Q) (r : SRel X.K H ra s) (h : RepM X.K H ra l vs) :
    ∀ q, H q = none → Q (.ref q) (upd H q (.dK vs)) := fun q hq =>
  p (.ref q) (ra ++ [q]) _ (Keeps.new hq) (List.prefix_append _ _) (r.newD hq h) ⟨q, by
    rw [← r.len, List.getElem?_append_right (Nat.le_refl _)]
    simp, rfl⟩
theorem PostR.setFinD {σ : L2.St} {H : Hp} {ra : List Addr} {s : Store} {n : Nat} {a : Addr} {l l0 : List (L2.Key × D)} {vs : List (L2.Key × V)} {d : D} {v : V} {Q : VK} (p : PostR M X.mg X.K W σ (RepV X.K) H ra (.ok d (s.set n (.dct l))) Q) (R : SRel X.K H ra s)
    (en : isDct s n = some l0) (ea : ra[n]? = some a) (r : RepM X.K H ra l vs) (rd : RepV X.K H ra d v) : Q v (upd H a (.dK vs)) := by
  obtain ⟨R2, k2⟩ := R.setD en ea r
  exact p v ra _ k2 (List.prefix_refl _) R2 (RepV.keep k2 (List.prefix_refl _) d v rd)
theorem bi_ord : BiR M X .ord := by
  refine ⟨_, call_ord, fun W σ H ra s ds vs Q R rs p => ?_⟩
  unfold biD at p
  split at p <;> first | (exact p.elim) | skip
  all_goals (first | (rename_i h; cases h; done) | skip)
  · obtain ⟨v, rfl, rv⟩ := one_of rs
    split at p
    · rename_i h
      exact ⟨_, by rw [show v = .str _ from rv], h, p.fin R rfl⟩
    · exact p.elim
theorem bi_sorted (hc : X.calm = true) : BiR M X .sorted := by
  refine ⟨_, CallR.or cr_sortedS (call_sortedD hc), fun W σ H ra s ds vs Q R rs p => ?_⟩
  unfold biD at p
  split at p <;> first | (exact p.elim) | skip
  all_goals (first | (rename_i h; cases h; done) | skip)
  · obtain ⟨v, rfl, rv⟩ := one_of rs
    split at p
    · rename_i l hl
      split at p
      · rename_i xs hx
        split at p
        · rename_i h64
          obtain ⟨a, vs, rfl, ea, hv, r⟩ := ref_lst R rv hl
          have e := RepL.strsOf l vs xs r hx
          subst e
          refine .inl ⟨a, xs, rfl, SqL.of hv, h64, fun ys p' hp hs hn => ?_⟩
          rw [sorted_eq hp hs]
          exact (PostR.finL p R (RepL.strsF (sortS xs))).2 p' hn
        · exact p.elim
      · exact p.elim
    · split at p
      · rename_i l hl
        split at p
        · rename_i xs hx
          split at p
          · rename_i h64
            obtain ⟨a, vs, rfl, ea, hv, r⟩ := ref_dct R rv hl
            refine .inr ⟨a, vs, xs, rfl, .inl hv, by rw [r.1, keysS_map hx], h64, fun ys p' hp hs hn => ?_⟩
            rw [sorted_eq hp hs]
            exact (PostR.finL p R (RepL.strsF (sortS xs))).2 p' hn
          · exact p.elim
        · exact p.elim
      · exact p.elim
theorem bi_dict : BiR M X .dict := by
  refine ⟨_, call_dictD, fun W σ H ra s ds vs Q R rs p => ?_⟩
  unfold biD at p
  split at p <;> first | (exact p.elim) | skip
  all_goals (first | (rename_i h; cases h; done) | skip)
  · obtain ⟨v, rfl, rv⟩ := one_of rs
    split at p
    · rename_i l hl
      obtain ⟨a, vs, rfl, ea, hv, r⟩ := ref_dct R rv hl
      exact ⟨a, vs, rfl, .inl hv, PostR.finD p R r⟩
    · exact p.elim
theorem bi_len : BiR M X .len := by
  refine ⟨_, CallR.or call_len call_lenD, fun W σ H ra s ds vs Q R rs p => ?_⟩
  unfold biD at p
  split at p <;> first | (exact p.elim) | skip
  all_goals (first | (rename_i h; cases h; done) | skip)
  · rename_i x _
    obtain ⟨v, rfl, rv⟩ := one_of rs
    split at p
    · rename_i hx
      exact .inl ⟨v, x.length, rfl, by rw [show v = .str x from rv]; exact ⟨hx, rfl⟩, p.fin R rfl⟩
    · exact p.elim
  · rename_i d hd
    obtain ⟨v, rfl, rv⟩ := one_of rs
    split at p
    · rename_i l hl
      obtain ⟨a, xs, rfl, sq, r⟩ := items_rep R rv hl
      have e := RepL.length l xs r
      refine .inl ⟨.ref a, xs.length, rfl, ?_, by rw [e]; exact p.fin R rfl⟩
      rcases sq with sq | sq
      · exact .inl ⟨xs, sq, rfl⟩
      · exact .inr ⟨xs, sq, rfl⟩
    · split at p
      · split at p
        · rename_i l hl
          obtain ⟨a, vs, rfl, ea, hv, r⟩ := ref_dct R rv hl
          exact .inr ⟨a, vs, rfl, hv, by rw [r.length]; exact p.fin R rfl⟩
        · exact p.elim
      · exact p.elim
theorem bi_int : BiR M X .int := by
  refine ⟨_, CallR.or call_int1 call_int_str, fun W σ H ra s ds vs Q R rs p => ?_⟩
  unfold biD at p
  split at p <;> first | (exact p.elim) | skip
  all_goals (first | (rename_i h; cases h; done) | skip)
  · obtain ⟨v, rfl, rv⟩ := one_of rs
    exact .inl (.inl ⟨_, by rw [show v = .int _ from rv], p.fin R rfl⟩)
  · obtain ⟨v, rfl, rv⟩ := one_of rs
    exact .inl (.inr ⟨_, by rw [show v = .bl _ from rv], p.fin R rfl⟩)
  · obtain ⟨v, rfl, rv⟩ := one_of rs
    split at p
    · rename_i n hn
      split at p
      · rename_i h
        exact .inr ⟨_, n, by rw [show v = .str _ from rv], hn, h, p.fin R rfl⟩
      · exact p.elim
    · exact p.elim
theorem bi_str : BiR M X .str := by
  refine ⟨_, call_str_int, fun W σ H ra s ds vs Q R rs p => ?_⟩
  unfold biD at p
  split at p <;> first | (exact p.elim) | skip
  all_goals (first | (rename_i h; cases h; done) | skip)
  · obtain ⟨v, rfl, rv⟩ := one_of rs
    split at p
    · rename_i h
      exact ⟨_, by rw [show v = .int _ from rv], h, p.fin R rfl⟩
    · exact p.elim
theorem bi_tuple : BiR M X .tuple := by
  refine ⟨_, call_tuple_of, fun W σ H ra s ds vs Q R rs p => ?_⟩
  unfold biD at p
  split at p <;> first | (exact p.elim) | skip
  all_goals (first | (rename_i h; cases h; done) | skip)
  · obtain ⟨v, rfl, rv⟩ := one_of rs
    split at p
    · rename_i l hl
      obtain ⟨a, xs, rfl, sq, r⟩ := items_rep R rv hl
      refine ⟨a, xs, rfl, ?_⟩
      rcases sq with sq | sq
      · exact .inl ⟨sq, PostR.finT p R r⟩
      · exact .inr ⟨sq, p.fin R ⟨a, xs, rfl, sq, r⟩⟩
    · exact p.elim
theorem bi_list : BiR M X .list := by
  refine ⟨_, call_list_of, fun W σ H ra s ds vs Q R rs p => ?_⟩
  unfold biD at p
  split at p <;> first | (exact p.elim) | skip
  all_goals (first | (rename_i h; cases h; done) | skip)
  · obtain ⟨v, rfl, rv⟩ := one_of rs
    split at p
    · rename_i l hl
      obtain ⟨a, xs, rfl, sq, r⟩ := items_rep R rv hl
      exact ⟨a, xs, rfl, sq, (PostR.finL p R r).2⟩
    · exact p.elim
theorem bi_sum (hc : X.calm = true) : BiR M X .sum := by
  refine ⟨_, cr_sum hc, fun W σ H ra s ds vs Q R rs p => ?_⟩
  unfold biD at p
  split at p <;> first | (exact p.elim) | skip
  all_goals (first | (rename_i h; cases h; done) | skip)
  · obtain ⟨v, rfl, rv⟩ := one_of rs
    split at p
    · rename_i l hl
      split at p
      · rename_i ns hn
        obtain ⟨a, xs, rfl, ea, hv, r⟩ := ref_lst R rv hl
        exact ⟨a, ns, rfl, by rw [← RepL.intsOf l xs ns r hn]; exact SqL.of hv, p.fin R rfl⟩
      · exact p.elim
    · exact p.elim
theorem bi_min (hc : X.calm = true) : BiR M X .min := by
  refine ⟨_, call_min2 hc, fun W σ H ra s ds vs Q R rs p => ?_⟩
  unfold biD at p
  split at p <;> first | (exact p.elim) | skip
  all_goals (first | (rename_i h; cases h; done) | skip)
  · obtain ⟨v, u, rfl, rv, ru⟩ := two_of rs
    exact ⟨_, _, by rw [show v = .int _ from rv, show u = .int _ from ru], p.fin R rfl⟩
theorem bi_max (hc : X.calm = true) : BiR M X .max := by
  refine ⟨_, call_max2 hc, fun W σ H ra s ds vs Q R rs p => ?_⟩
  unfold biD at p
  split at p <;> first | (exact p.elim) | skip
  all_goals (first | (rename_i h; cases h; done) | skip)
  · obtain ⟨v, u, rfl, rv, ru⟩ := two_of rs
    exact ⟨_, _, by rw [show v = .int _ from rv, show u = .int _ from ru], p.fin R rfl⟩
theorem bi_abs : BiR M X .abs := by
  refine ⟨_, call_abs, fun W σ H ra s ds vs Q R rs p => ?_⟩
  unfold biD at p
  split at p <;> first | (exact p.elim) | skip
  all_goals (first | (rename_i h; cases h; done) | skip)
  · obtain ⟨v, rfl, rv⟩ := one_of rs
    exact ⟨_, by rw [show v = .int _ from rv], p.fin R rfl⟩
theorem bi_all (hc : X.calm = true) (b : Bi) : BiR M X b := by
  cases b with
  | len => exact bi_len
  | ord => exact bi_ord
  | sorted => exact bi_sorted hc
  | dict => exact bi_dict
  | int => exact bi_int
  | str => exact bi_str
  | tuple => exact bi_tuple
  | list => exact bi_list
  | sum => exact bi_sum hc
  | min => exact bi_min hc
  | max => exact bi_max hc
  | abs => exact bi_abs
def tyOf : Ty → String
  | .int => "int"
  | .bool => "bool"
  | .str => "str"
  | .tuple => "tuple"
  | .list => "list"
theorem isi_of {H : Hp} {ra : List Addr} {s : Store} {d : D} {v : V} {t : Ty} {b : Bool} (R : SRel X.K H ra s) (rv : RepV X.K H ra d v) (e : isiD s d t = some b) : ∃ u, TyX X.K H v (.type u) ∧ PySem.W.kitOne X.K (.type u) (.type (tyOf t)) = some b := by
  cases d with
  | non =>
    cases e
    rw [show v = .non from rv]
    exact ⟨_, .base .non, by cases t <;> exact kit_ty (by decide +kernel)⟩
  | bl c =>
    cases e
    rw [show v = .bl c from rv]
    exact ⟨_, .base (.bl c), by cases t <;> exact kit_ty (by decide +kernel)⟩
  | int c =>
    cases e
    rw [show v = .int c from rv]
    exact ⟨_, .base (.int c), by cases t <;> exact kit_ty (by decide +kernel)⟩
  | str c =>
    cases e
    rw [show v = .str c from rv]
    exact ⟨_, .base (.str c), by cases t <;> exact kit_ty (by decide +kernel)⟩
  | tup l =>
    cases e
    obtain ⟨a, vs, rfl, sq, r⟩ := rv
    refine ⟨"tuple", ?_, by cases t <;> exact kit_ty (by decide +kernel)⟩
    rcases sq with (h | ⟨o, h⟩) | ⟨o, its, n, h, hc, _⟩
    · exact .base (.tup h)
    · exact .fTuple h
    · exact .kTuple h hc
  | ref n =>
    simp only [isiD, Option.map_eq_some_iff] at e
    obtain ⟨l, hl, rfl⟩ := e
    obtain ⟨a, vs, rfl, ea, hv, r⟩ := ref_lst R rv hl
    exact ⟨_, .base (.lst hv), by cases t <;> exact kit_ty (by decide +kernel)⟩
  | gd ks vs => cases e
  | frz l => cases e
theorem small_ok {i : Int} (h : small i = true) : -(2 ^ 62) ≤ i ∧ i < 2 ^ 62 := by
  simpa [small] using h
theorem rng_rep {K : PySem.W.Frag} {H : Hp} {ra : List Addr} (a b : Int) : RepL K H ra (rngL a b) (rgV a b) := by
  unfold rngL rgV
  generalize List.range (b - a).toNat = l
  induction l with
  | nil => rfl
  | cons i r ih => exact ⟨.int (a + i), _, rfl, rfl, ih⟩
theorem rngL_length (a b : Int) : (rngL a b).length = (b - a).toNat := by
  unfold rngL
  rw [List.length_map, List.length_range]
end
end WL
set_option maxHeartbeats 4000000
namespace WL
open PySem PySem.Spec PyProof.Rows L2
variable [TBS]
section
variable {M : Cfg} {N : List Str}
abbrev GE (M : Cfg) (X : Cx) (W : WX) (k : Nat) (e : E) (x : Expr) : Prop := PE X x (tE M X W (evE (M.C k) M.G e)) ∧ PT X x (tT M X W (evT (M.C k) M.G e))
theorem plainT {X : Cx} {W : WX} {k : Nat} {e : E} {x : Expr} (h : PE X x (tE M X W (evE (M.C k) M.G e))) (he : ∀ whole, isTrue x X.env whole = (do let v ← whole; standAt x.pos; holding [v] (truthy v))) : GE M X W k e x := ⟨h, pt_gen h he⟩
theorem pt_ifExp {X : Cx} {c a b : Expr} {pos : Pos} {tc ta tb : TT} (hc : PT X c tc) (ha : PT X a ta) (hb : PT X b tb) : PT X (.IfExp c a b pos) (fun σ H Q => tc σ H fun k H1 => if k = true then ta σ H1 Q else tb σ H1 Q) := by
  refine ⟨fun pins s σ H Q I h => ?_⟩
  show wpAny _ _ (do if ← isTrue c X.env (eval c X.env) then isTrue a X.env (eval a X.env) else isTrue b X.env (eval b X.env)) _ _ _
  refine wpAny_bind (thn (hc.run pins s σ H _ I h) fun d s1 hd => ?_)
  obtain ⟨H1, I1, q1⟩ := hd
  cases d with
  | true => exact ha.run pins s1 σ H1 Q I1 q1
  | false => exact hb.run pins s1 σ H1 Q I1 q1
theorem evT_bind (C : Calls) (G : Globs) (e : E) (ρ : Env) (s : Store) {α : Type} (f : Bool → Store → R α) :
    ((evE C G e ρ s).bind fun d s1 => match truth s1 d with
      | some b => f b s1
      | none => .bad) = (evT C G e ρ s).bind f := by
  unfold evT
  cases evE C G e ρ s with
  | ok d s1 => simp only [R.bind]; cases truth s1 d <;> rfl
  | exc c w s1 => rfl
  | bad => rfl
theorem evT_and (C : Calls) (G : Globs) (a b : E) (ρ : Env) (s : Store) : evT C G (.and a b) ρ s = (evT C G a ρ s).bind fun c s1 => match c with
    | true => evT C G b ρ s1
    | false => .ok false s1 := by
  rw [← evT_bind]
  unfold evT
  simp only [evE]
  cases evE C G a ρ s with
  | ok d s1 =>
    simp only [R.bind]
    cases ht : truth s1 d with
    | none => rfl
    | some c => cases c with
      | true => rfl
      | false => simp only [ht]
  | exc c w s1 => rfl
  | bad => rfl
theorem evT_or (C : Calls) (G : Globs) (a b : E) (ρ : Env) (s : Store) : evT C G (.or a b) ρ s = (evT C G a ρ s).bind fun c s1 => match c with
    | true => .ok true s1
    | false => evT C G b ρ s1 := by
  rw [← evT_bind]
  unfold evT
  simp only [evE]
  cases evE C G a ρ s with
  | ok d s1 =>
    simp only [R.bind]
    cases ht : truth s1 d with
    | none => rfl
    | some c => cases c with
      | true => simp only [ht]
      | false => rfl
  | exc c w s1 => rfl
  | bad => rfl
theorem evT_not (C : Calls) (G : Globs) (a : E) (ρ : Env) (s : Store) : evT C G (.not a) ρ s = (evT C G a ρ s).bind fun c s1 => .ok (!c) s1 := by
  rw [← evT_bind]
  unfold evT
  simp only [evE]
  cases evE C G a ρ s with
  | ok d s1 =>
    simp only [R.bind]
    cases ht : truth s1 d with
    | none => rfl
    | some c => rfl
  | exc c w s1 => rfl
  | bad => rfl
theorem evT_ife (C : Calls) (G : Globs) (c a b : E) (ρ : Env) (s : Store) : evT C G (.ife c a b) ρ s = (evT C G c ρ s).bind fun t s1 => match t with
    | true => evT C G a ρ s1
    | false => evT C G b ρ s1 := by
  rw [← evT_bind]
  unfold evT
  simp only [evE]
  cases evE C G c ρ s with
  | ok d s1 =>
    simp only [R.bind]
    cases ht : truth s1 d with
    | none => rfl
    | some c => cases c with
      | true => rfl
      | false => rfl
  | exc c w s1 => rfl
  | bad => rfl
theorem evT_cmp (C : Calls) (G : Globs) (a b : E) (op : CmpOp) (ρ : Env) (s : Store) : evT C G (.cmp a op b) ρ s = (evE C G a ρ s).bind fun x s1 => (evE C G b ρ s1).bind fun y s2 => match cmpD op s2 x y with
    | some c => .ok c s2
    | none => .bad := by
  unfold evT
  simp only [evE]
  cases evE C G a ρ s with
  | ok d s1 =>
    simp only [R.bind]
    cases evE C G b ρ s1 with
    | ok d2 s2 =>
      simp only [R.bind]
      cases cmpD op s2 d d2 <;> rfl
    | exc c w s1 => rfl
    | bad => rfl
  | exc c w s1 => rfl
  | bad => rfl
theorem evT_chain (C : Calls) (G : Globs) (a b c : E) (op op' : CmpOp) (ρ : Env) (s : Store) : evT C G (.chain a op b op' c) ρ s = (evE C G a ρ s).bind fun x s1 => (evE C G b ρ s1).bind fun y s2 => match cmpD op s2 x y with
    | some true => (evE C G c ρ s2).bind fun z s3 => match cmpD op' s3 y z with
      | some t => .ok t s3
      | none => .bad
    | some false => .ok false s2
    | none => .bad := by
  unfold evT
  simp only [evE]
  cases evE C G a ρ s with
  | ok d s1 =>
    simp only [R.bind]
    cases evE C G b ρ s1 with
    | ok d2 s2 =>
      simp only [R.bind]
      cases cmpD op s2 d d2 with
      | none => rfl
      | some t => cases t with
        | true =>
          simp only
          cases evE C G c ρ s2 with
          | ok d3 s3 =>
            simp only [R.bind]
            cases cmpD op' s3 d2 d3 <;> rfl
          | exc c w s1 => rfl
          | bad => rfl
        | false => rfl
    | exc c w s1 => rfl
    | bad => rfl
  | exc c w s1 => rfl
  | bad => rfl
section
variable {X : Cx} {W : WX}
theorem tT_bind {γ δ : Type} {repC : Hp → List Addr → γ → δ → Prop} {f : Env → Store → R Bool} {g : Bool → Store → R γ} {σ : L2.St} {H : Hp} {ra : List Addr} {ρ : Env} {s : Store} {Q : δ → Hp → Prop} {Q' : Bool → Hp → Prop}
    (e : ERel X.K H ra ρ σ) (r : SRel X.K H ra s) (p : PostR M X.mg X.K W σ repC H ra ((f ρ s).bind g) Q)
    (h : ∀ b H1 s1 r1, Keeps H H1 → ra <+: r1 → ERel X.K H1 r1 ρ σ → SRel X.K H1 r1 s1 → PostR M X.mg X.K W σ repC H1 r1 (g b s1) Q → Q' b H1) : tT M X W f σ H Q' :=
  ⟨ra, ρ, s, e, r, (PostR.bind (repA := repB) p).imp fun x H1 ⟨a, s1, r1, k, pf, sr, rp, q⟩ => by
    have e' : x = a := rp
    subst e'
    exact h x H1 s1 r1 k pf (e.keep k pf) sr q⟩
theorem tE_of {f : Env → Store → R D} {σ : L2.St} {H : Hp} {ra : List Addr} {ρ : Env} {s : Store} {Q : VK} (e : ERel X.K H ra ρ σ) (r : SRel X.K H ra s) (p : PostR M X.mg X.K W σ (RepV X.K) H ra (f ρ s) Q) : tE M X W f σ H Q := ⟨ra, ρ, s, e, r, p⟩
theorem tT_of {f : Env → Store → R Bool} {σ : L2.St} {H : Hp} {ra : List Addr} {ρ : Env} {s : Store} {Q : Bool → Hp → Prop} (e : ERel X.K H ra ρ σ) (r : SRel X.K H ra s) (p : PostR M X.mg X.K W σ repB H ra (f ρ s) Q) : tT M X W f σ H Q := ⟨ra, ρ, s, e, r, p⟩
end
section
variable {X : Cx} {W : WX} {k : Nat} {sc : Scope} {fn : Str → Bool}
theorem s_var (i : Nat) {x : Expr} (h : mE M N sc fn (.var i) x = true) (g : Good M N X W k sc fn) : GE M X W k (.var i) x := by
  unfold mE at h
  split at h
  · simp only [Bool.and_eq_true, decide_eq_true_eq] at h
    obtain ⟨⟨h1, h2⟩, h3⟩ := h
    obtain ⟨h4, h5⟩ := okName_ok h3
    refine plainT (PE.sub (pv i (by rw [g.eN]; exact h1) (vis_ok h2 g) h4 h5) fun σ H Q ⟨ra, ρ, s, e, r, p⟩ => ?_) (fun _ => rfl)
    simp only [evE] at p
    split at p
    · rename_i d hd
      obtain ⟨v, ev, rv⟩ := e.get i d hd
      exact ⟨v, ev, p.fin r rv⟩
    · exact p.elim
  · cases h
theorem s_int (i : Int) {x : Expr} (h : mE M N sc fn (.int i) x = true) (g : Good M N X W k sc fn) : GE M X W k (.int i) x := by
  unfold mE at h
  split at h
  · have e := of_decide_eq_true h
    subst e
    exact plainT (PE.sub pe_int fun σ H Q ⟨ra, ρ, s, e, r, p⟩ => p.fin r rfl) (fun _ => rfl)
  · cases h
theorem s_str (a : Str) {x : Expr} (h : mE M N sc fn (.str a) x = true) (g : Good M N X W k sc fn) : GE M X W k (.str a) x := by
  unfold mE at h
  split at h
  · have e := of_decide_eq_true h
    subst e
    exact plainT (PE.sub pe_str fun σ H Q ⟨ra, ρ, s, e, r, p⟩ => p.fin r rfl) (fun _ => rfl)
  · cases h
theorem s_bl (a : Bool) {x : Expr} (h : mE M N sc fn (.bl a) x = true) (g : Good M N X W k sc fn) : GE M X W k (.bl a) x := by
  unfold mE at h
  split at h
  · have e := of_decide_eq_true h
    subst e
    exact plainT (PE.sub pe_bl fun σ H Q ⟨ra, ρ, s, e, r, p⟩ => p.fin r rfl) (fun _ => rfl)
  · cases h
theorem s_non {x : Expr} (h : mE M N sc fn .non x = true) (g : Good M N X W k sc fn) : GE M X W k .non x := by
  unfold mE at h
  split at h
  · exact plainT (PE.sub pe_non fun σ H Q ⟨ra, ρ, s, e, r, p⟩ => p.fin r rfl) (fun _ => rfl)
  · cases h
theorem s_glob (i : Nat) {x : Expr} (h : mE M N sc fn (.glob i) x = true) (g : Good M N X W k sc fn) : GE M X W k (.glob i) x := by
  unfold mE at h
  split at h
  · simp only [Bool.and_eq_true, decide_eq_true_eq] at h
    obtain ⟨⟨h1, h2⟩, h3⟩ := h
    subst h1
    obtain ⟨h4, h5⟩ := okName_ok h3
    cases hd : M.G i with
    | none =>
      refine plainT ⟨fun pins s σ H Q I ⟨ra, ρ, s', e, r, p⟩ => ?_⟩ (fun _ => rfl)
      simp only [evE, hd, R.ofD] at p
      exact p.elim
    | some d =>
      obtain ⟨v, u, e1, e2, e3⟩ := g.st.glob i d hd
      refine plainT (PE.sub (pe_glob (gl_ok h2 g) e1 e2 h4) fun σ H Q ⟨ra, ρ, s, e, r, p⟩ => ?_) (fun _ => rfl)
      simp only [evE, hd, R.ofD] at p
      exact p.fin r (e3 H ra)
  · cases h
abbrev GA (M : Cfg) (X : Cx) (W : WX) (k : Nat) (es : List E) (xs : List Expr) : Prop := PA X xs (tA M X W (evEs (M.C k) M.G es))
def GEs (M : Cfg) (X : Cx) (W : WX) (k : Nat) : List E → List Expr → Prop
  | [], [] => True
  | e :: es, x :: xs => GE M X W k e x ∧ notStar x = true ∧ GEs M X W k es xs
  | _, _ => False
theorem s_nil : GA M X W k [] [] := PA.sub pa_nil fun σ H Q ⟨ra, ρ, s, e, r, p⟩ => p.fin r rfl
theorem s_cons {e : E} {x : Expr} {es : List E} {xs : List Expr} (hs : notStar x = true) (h1 : GE M X W k e x) (h2 : GA M X W k es xs) : GA M X W k (e :: es) (x :: xs) := by
  refine PA.sub (pa_cons h1.1 h2 (star_cons hs xs X.env)) fun σ H Q ⟨ra, ρ, s, e, r, p⟩ => ?_
  simp only [evEs] at p
  refine tE_bind e r p fun v H1 d s1 r1 k1 p1 e1 R1 rv q => ?_
  refine tA_bind e1 R1 q fun vs H2 ds s2 r2 k2 p2 e2 R2 rvs q2 => ?_
  exact q2.fin R2 ⟨v, vs, rfl, RepV.keep k2 p2 d v rv, rvs⟩
theorem GEs.ga : ∀ {es : List E} {xs : List Expr}, GEs M X W k es xs → GA M X W k es xs
  | [], [], _ => s_nil
  | e :: es, x :: xs, h => s_cons h.2.1 h.1 (GEs.ga h.2.2)
  | [], _ :: _, h => h.elim
  | _ :: _, [], h => h.elim
theorem s_tup {es : List E} {xs : List Expr} {x1 : Nat} {pos : Pos} (h : GA M X W k es xs) : GE M X W k (.tup es) (.Tuple xs x1 pos) := by
  refine plainT (PE.sub (pe_tup h) fun σ H Q ⟨ra, ρ, s, e, r, p⟩ => ?_) (fun _ => rfl)
  simp only [evE] at p
  refine tA_bind e r p fun vs H1 ds s1 r1 k1 p1 e1 R1 rv q => ?_
  split at q
  · rename_i hl
    exact ⟨by rw [RepL.length ds vs rv]; exact hl, PostR.finT q R1 rv⟩
  · exact q.elim
theorem s_lst {es : List E} {xs : List Expr} {pos : Pos} (h : GA M X W k es xs) : GE M X W k (.lst es) (.List xs pos) := by
  refine plainT (PE.sub (pe_lst h) fun σ H Q ⟨ra, ρ, s, e, r, p⟩ => ?_) (fun _ => rfl)
  simp only [evE] at p
  refine tA_bind e r p fun vs H1 ds s1 r1 k1 p1 e1 R1 rv q => ?_
  obtain ⟨a, b⟩ := PostR.finL q R1 rv
  exact ⟨by rw [RepL.length ds vs rv]; exact a, b⟩
theorem okOp_or {op : Operator} (h : okOp op = true) : op = .Add ∨ op = .Sub ∨ op = .Mult ∨ op = .Mod ∨ op = .FloorDiv ∨ op = .Pow := by
  cases op <;> simp [okOp] at h ⊢
theorem s_bin {op : Operator} {a b : E} {x y : Expr} {pos : Pos} (ho : okOp op = true) (ha : GE M X W k a x) (hb : GE M X W k b y) : GE M X W k (.bin op a b) (.BinOp x op y pos) := by
  obtain ⟨r, h1, h2⟩ := bin_all (M := M) (X := X) (okOp_or ho)
  refine plainT (PE.sub (pe_op h1 ha.1 hb.1) fun σ H Q ⟨ra, ρ, s, e, r, p⟩ => ?_) (fun _ => rfl)
  simp only [evE] at p
  refine tE_bind e r p fun v H1 d s1 r1 k1 p1 e1 R1 rv q => ?_
  refine tE_bind e1 R1 q fun u H2 d2 s2 r2 k2 p2 e2 R2 ru q2 => ?_
  exact h2 W σ H2 r2 s2 d d2 v u Q R2 (RepV.keep k2 p2 d v rv) ru q2
theorem s_neg {a : E} {x : Expr} {pos : Pos} (ha : GE M X W k a x) : GE M X W k (.neg a) (.UnaryOp .USub x pos) := by
  refine plainT (PE.sub (pe_un un_neg ha.1) fun σ H Q ⟨ra, ρ, s, e, r, p⟩ => ?_) (fun _ => rfl)
  simp only [evE] at p
  refine tE_bind e r p fun v H1 d s1 r1 k1 p1 e1 R1 rv q => ?_
  cases d with
  | int i => exact ⟨i, rv, q.fin R1 rfl⟩
  | _ => exact q.elim
theorem s_not {a : E} {x : Expr} {pos : Pos} (ha : GE M X W k a x) : GE M X W k (.not a) (.UnaryOp .Not x pos) := by
  refine ⟨PE.sub (pe_notT ha.1) fun σ H Q ⟨ra, ρ, s, e, r, p⟩ => ?_, PT.sub (pt_not ha.2) fun σ H Q ⟨ra, ρ, s, e, r, p⟩ => ?_⟩
  · simp only [evE] at p
    refine tE_bind e r p fun v H1 d s1 r1 k1 p1 e1 R1 rv q => ?_
    cases ht : truth s1 d with
    | none => rw [ht] at q; exact q.elim
    | some b => rw [ht] at q; exact ⟨b, truth_of R1 rv ht, q.fin R1 rfl⟩
  · rw [evT_not] at p
    exact tT_bind e r p fun b H1 s1 r1 k1 p1 e1 R1 q => q.fin R1 rfl
theorem s_and {a b : E} {x y : Expr} {rest : List Expr} {pos : Pos} (ha : GE M X W k a x) (hb : PE X (.BoolOp .And (y :: rest) pos) (tE M X W (evE (M.C k) M.G b))) (hb2 : PW X (.BoolOp .And (y :: rest) pos) (tT M X W (evT (M.C k) M.G b))) :
    PE X (.BoolOp .And (x :: y :: rest) pos) (tE M X W (evE (M.C k) M.G (.and a b))) ∧ PW X (.BoolOp .And (x :: y :: rest) pos) (tT M X W (evT (M.C k) M.G (.and a b))) := by
  refine ⟨PE.sub (pe_andT ha.1 hb) fun σ H Q ⟨ra, ρ, s, e, r, p⟩ => ?_, PW.sub (pw_and ha.2 hb2) fun σ H Q ⟨ra, ρ, s, e, r, p⟩ => ?_⟩
  · simp only [evE] at p
    refine tE_bind e r p fun v H1 d s1 r1 k1 p1 e1 R1 rv q => ?_
    cases ht : truth s1 d with
    | none => rw [ht] at q; exact q.elim
    | some c =>
      rw [ht] at q
      refine ⟨c, truth_of R1 rv ht, ?_⟩
      cases c with
      | true => exact tE_of e1 R1 q
      | false => exact q.fin R1 rv
  · rw [evT_and] at p
    refine tT_bind e r p fun c H1 s1 r1 k1 p1 e1 R1 q => ?_
    cases c with
    | true => exact tT_of e1 R1 q
    | false => exact q.fin R1 rfl
theorem s_or {a b : E} {x y : Expr} {rest : List Expr} {pos : Pos} (ha : GE M X W k a x) (hb : PE X (.BoolOp .Or (y :: rest) pos) (tE M X W (evE (M.C k) M.G b))) (hb2 : PW X (.BoolOp .Or (y :: rest) pos) (tT M X W (evT (M.C k) M.G b))) :
    PE X (.BoolOp .Or (x :: y :: rest) pos) (tE M X W (evE (M.C k) M.G (.or a b))) ∧ PW X (.BoolOp .Or (x :: y :: rest) pos) (tT M X W (evT (M.C k) M.G (.or a b))) := by
  refine ⟨PE.sub (pe_orT ha.1 hb) fun σ H Q ⟨ra, ρ, s, e, r, p⟩ => ?_, PW.sub (pw_or ha.2 hb2) fun σ H Q ⟨ra, ρ, s, e, r, p⟩ => ?_⟩
  · simp only [evE] at p
    refine tE_bind e r p fun v H1 d s1 r1 k1 p1 e1 R1 rv q => ?_
    cases ht : truth s1 d with
    | none => rw [ht] at q; exact q.elim
    | some c =>
      rw [ht] at q
      refine ⟨c, truth_of R1 rv ht, ?_⟩
      cases c with
      | false => exact tE_of e1 R1 q
      | true => exact q.fin R1 rv
  · rw [evT_or] at p
    refine tT_bind e r p fun c H1 s1 r1 k1 p1 e1 R1 q => ?_
    cases c with
    | false => exact tT_of e1 R1 q
    | true => exact q.fin R1 rfl
theorem s_cmp (g : Good M N X W k sc fn) {op : CmpOp} {a b : E} {x y : Expr} {pos : Pos} (ho : cmpOk op y = true) (ha : GE M X W k a x) (hb : GE M X W k b y) : GE M X W k (.cmp a op b) (.Compare x [op] [y] pos) := by
  obtain ⟨r, h1, h2⟩ := cmp_all (M := M) (show X.A.units + 100 < cLine by have := g.hr.un; omega) g.st.gds op
  have hm : behindInMarks op y = false := by simpa [cmpOk] using ho
  refine ⟨PE.sub (pe_cmpR h1 ha.1 hb.1 hm) fun σ H Q ⟨ra, ρ, s, e, r, p⟩ => ?_, PT.sub (pt_cmpR h1 ha.1 hb.1 hm) fun σ H Q ⟨ra, ρ, s, e, r, p⟩ => ?_⟩
  · simp only [evE] at p
    refine tE_bind e r p fun v H1 d s1 r1 k1 p1 e1 R1 rv q => ?_
    refine tE_bind e1 R1 q fun u H2 d2 s2 r2 k2 p2 e2 R2 ru q2 => ?_
    cases hc : cmpD op s2 d d2 with
    | none => rw [hc] at q2; exact q2.elim
    | some c => rw [hc] at q2; exact h2 H2 r2 s2 d d2 v u c Q R2 (RepV.keep k2 p2 d v rv) ru hc (q2.fin R2 rfl)
  · rw [evT_cmp] at p
    refine tE_bind e r p fun v H1 d s1 r1 k1 p1 e1 R1 rv q => ?_
    refine tE_bind e1 R1 q fun u H2 d2 s2 r2 k2 p2 e2 R2 ru q2 => ?_
    cases hc : cmpD op s2 d d2 with
    | none => rw [hc] at q2; exact q2.elim
    | some c => rw [hc] at q2; exact h2 H2 r2 s2 d d2 v u c _ R2 (RepV.keep k2 p2 d v rv) ru hc ⟨c, rfl, q2.fin R2 rfl⟩
theorem s_chain (g : Good M N X W k sc fn) {op op' : CmpOp} {a b c : E} {x y z : Expr} {pos : Pos} (ho : cmpOk op' z = true) (ha : GE M X W k a x) (hb : GE M X W k b y) (hc : GE M X W k c z) :
    GE M X W k (.chain a op b op' c) (.Compare x [op, op'] [y, z] pos) := by
  obtain ⟨r, h1, h2⟩ := cmp_all (M := M) (show X.A.units + 100 < cLine by have := g.hr.un; omega) g.st.gds op
  obtain ⟨r', h1', h2'⟩ := cmp_all (M := M) (show X.A.units + 100 < cLine by have := g.hr.un; omega) g.st.gds op'
  have hm : lastMarks [op, op'] [y, z] = false := by
    show behindInMarks op' z = false
    simpa [cmpOk] using ho
  refine ⟨PE.sub (pe_chain h1 h1' ha.1 hb.1 hc.1 hm) fun σ H Q ⟨ra, ρ, s, e, r, p⟩ => ?_, PT.sub (pt_chain h1 h1' ha.1 hb.1 hc.1 hm) fun σ H Q ⟨ra, ρ, s, e, r, p⟩ => ?_⟩
  · simp only [evE] at p
    refine tE_bind e r p fun v H1 d s1 r1 k1 p1 e1 R1 rv q => ?_
    refine tE_bind e1 R1 q fun u H2 d2 s2 r2 k2 p2 e2 R2 ru q2 => ?_
    cases ht : cmpD op s2 d d2 with
    | none => rw [ht] at q2; exact q2.elim
    | some t =>
      rw [ht] at q2
      refine h2 H2 r2 s2 d d2 v u t _ R2 (RepV.keep k2 p2 d v rv) ru ht ⟨t, rfl, ?_⟩
      cases t with
      | false => exact q2.fin R2 rfl
      | true =>
        refine tE_bind e2 R2 q2 fun w' H3 d3 s3 r3 k3 p3 e3 R3 rw' q3 => ?_
        cases hc' : cmpD op' s3 d2 d3 with
        | none => rw [hc'] at q3; exact q3.elim
        | some t' => rw [hc'] at q3; exact h2' H3 r3 s3 d2 d3 u w' t' Q R3 (RepV.keep k3 p3 d2 u ru) rw' hc' (q3.fin R3 rfl)
  · rw [evT_chain] at p
    refine tE_bind e r p fun v H1 d s1 r1 k1 p1 e1 R1 rv q => ?_
    refine tE_bind e1 R1 q fun u H2 d2 s2 r2 k2 p2 e2 R2 ru q2 => ?_
    cases ht : cmpD op s2 d d2 with
    | none => rw [ht] at q2; exact q2.elim
    | some t =>
      rw [ht] at q2
      refine h2 H2 r2 s2 d d2 v u t _ R2 (RepV.keep k2 p2 d v rv) ru ht ⟨t, rfl, ?_⟩
      cases t with
      | false => exact ⟨false, rfl, q2.fin R2 rfl⟩
      | true =>
        refine tE_bind e2 R2 q2 fun w' H3 d3 s3 r3 k3 p3 e3 R3 rw' q3 => ?_
        cases hc' : cmpD op' s3 d2 d3 with
        | none => rw [hc'] at q3; exact q3.elim
        | some t' => rw [hc'] at q3; exact h2' H3 r3 s3 d2 d3 u w' t' _ R3 (RepV.keep k3 p3 d2 u ru) rw' hc' ⟨t', rfl, q3.fin R3 rfl⟩
theorem s_ife {c a b : E} {x y z : Expr} {pos : Pos} (hc : GE M X W k c x) (ha : GE M X W k a y) (hb : GE M X W k b z) : GE M X W k (.ife c a b) (.IfExp x y z pos) := by
  refine ⟨PE.sub (pe_ifExp hc.2 ha.1 hb.1) fun σ H Q ⟨ra, ρ, s, e, r, p⟩ => ?_, PT.sub (pt_ifExp hc.2 ha.2 hb.2) fun σ H Q ⟨ra, ρ, s, e, r, p⟩ => ?_⟩
  · have p' : PostR M X.mg X.K W σ (RepV X.K) H ra ((evT (M.C k) M.G c ρ s).bind fun t s1 => match t with
        | true => evE (M.C k) M.G a ρ s1
        | false => evE (M.C k) M.G b ρ s1) Q := by
      rw [← evT_bind]
      simp only [evE] at p
      have eq : (fun (d : D) (s1 : Store) => match truth s1 d with
          | some t => (match t with
            | true => evE (M.C k) M.G a ρ s1
            | false => evE (M.C k) M.G b ρ s1)
          | none => .bad) = fun (d : D) (s1 : Store) => match truth s1 d with
          | some true => evE (M.C k) M.G a ρ s1
          | some false => evE (M.C k) M.G b ρ s1
          | none => .bad := by
        funext d s1
        cases truth s1 d with
        | none => rfl
        | some t => cases t <;> rfl
      rw [eq]
      exact p
    refine tT_bind e r p' fun t H1 s1 r1 k1 p1 e1 R1 q => ?_
    cases t with
    | true => exact tE_of e1 R1 q
    | false => exact tE_of e1 R1 q
  · rw [evT_ife] at p
    refine tT_bind e r p fun t H1 s1 r1 k1 p1 e1 R1 q => ?_
    cases t with
    | true => exact tT_of e1 R1 q
    | false => exact tT_of e1 R1 q
theorem s_ix (g : Good M N X W k sc fn) {a b : E} {x y : Expr} {pos : Pos} (hn : notSlice y = true) (ha : GE M X W k a x) (hb : GE M X W k b y) : GE M X W k (.ix a b) (.Subscript x y pos) := by
  refine plainT (PE.sub (pe_ix (IxR.or ix_seq (ix_lk (show X.A.units + 1 < cLine by have := g.hr.un; omega))) ha.1 hb.1 (ix_ok hn)) fun σ H Q ⟨ra, ρ, s, e, r, p⟩ => ?_) (fun _ => rfl)
  simp only [evE] at p
  refine tE_bind e r p fun v H1 d s1 r1 k1 p1 e1 R1 rv q => ?_
  refine tE_bind e1 R1 q fun u H2 d2 s2 r2 k2 p2 e2 R2 ru q2 => ?_
  cases hd : ixD s2 d d2 with
  | none => rw [hd] at q2; exact q2.elim
  | some d3 => rw [hd] at q2; exact ixD_of g.st.gds R2 (RepV.keep k2 p2 d v rv) ru hd fun w' rw' => q2.fin R2 rw'
def tOf (M : Cfg) (X : Cx) (W : WX) (k : Nat) : List E → TO
  | [] => tNoPart
  | e :: _ => tPart (tE M X W (evE (M.C k) M.G e))
theorem end_bind {γ δ : Type} {repC : Hp → List Addr → γ → δ → Prop} {lo : List E} {g : Option Int → Store → R γ} {σ : L2.St} {H : Hp} {ra : List Addr} {ρ : Env} {s : Store} {Q : δ → Hp → Prop} {Q' : Option Int → Hp → Prop}
    (e : ERel X.K H ra ρ σ) (r : SRel X.K H ra s) (p : PostR M X.mg X.K W σ repC H ra ((evEnd (M.C k) M.G lo ρ s).bind g) Q)
    (h : ∀ o H1 s1 r1, Keeps H H1 → ra <+: r1 → ERel X.K H1 r1 ρ σ → SRel X.K H1 r1 s1 → PostR M X.mg X.K W σ repC H1 r1 (g o s1) Q → Q' o H1) : tOf M X W k lo σ H Q' := by
  cases lo with
  | nil => exact h none H s ra (Keeps.refl H) (List.prefix_refl _) e r p
  | cons b bs =>
    simp only [evEnd] at p
    have p' : PostR M X.mg X.K W σ repC H ra ((evE (M.C k) M.G b ρ s).bind fun d s1 => (match d with
        | .int i => .ok (some i) s1
        | _ => .bad : R (Option Int)).bind g) Q := by
      revert p
      cases evE (M.C k) M.G b ρ s <;> exact fun p => p
    refine tE_bind e r p' fun v H1 d s1 r1 k1 p1 e1 R1 rv q => ?_
    cases d with
    | int i => exact ⟨i, rv, h (some i) H1 s1 r1 k1 p1 e1 R1 q⟩
    | _ => exact q.elim
theorem s_slice {a : E} {lo hi : List E} {x : Expr} {l h : Option Expr} {p2 pos : Pos} (ha : GE M X W k a x) (hl : PO X l (tOf M X W k lo)) (hh : PO X h (tOf M X W k hi)) :
    GE M X W k (.slice a lo hi) (.Subscript x (.Slice l h none p2) pos) := by
  refine plainT (PE.sub (pe_slice ((sl_list.or sl_tupA).or sl_str) ha.1 hl hh) fun σ H Q ⟨ra, ρ, s, e, r, p⟩ => ?_) (fun _ => rfl)
  simp only [evE] at p
  refine tE_bind e r p fun v H1 d s1 r1 k1 p1 e1 R1 rv q => ?_
  refine end_bind e1 R1 q fun lv H2 s2 r2 k2 p2 e2 R2 q2 => ?_
  refine end_bind e2 R2 q2 fun hv H3 s3 r3 k3 p3 e3 R3 q3 => ?_
  exact slice_of R3 (RepV.keep (k2.trans k3) (p2.trans p3) d v rv) q3
theorem s_rev {a : E} {x : Expr} {q : Nat} {p1 p2 p3 pos : Pos} (ha : GE M X W k a x) : GE M X W k (.rev a) (.Subscript x (.Slice none none (some (.UnaryOp .USub (.Constant (.int 1) q p1) p2)) p3) pos) := by
  refine plainT (PE.sub (pe_revA ha.1) fun σ H Q ⟨ra, ρ, s, e, r, p⟩ => ?_) (fun _ => rfl)
  simp only [evE] at p
  refine tE_bind e r p fun v H1 d s1 r1 k1 p1 e1 R1 rv q => ?_
  exact rev_of R1 rv q
theorem pe_call0S {f : Addr} {fd : FuncData} {ps : List Str} {sp : Sp} {E : L2.St → XK} {x : Str} {p pos : Pos} (F : FnOk X.prog X.w X.K X.mg X.base (L2.CX X.prog X.w) k f fd ps sp) (hr : Room k X.A) (hg : Gl X x) (hm : X.mg x = some (.ref f)) (hk : PySem.W.keepIn X.K (.ref f) = true)
    (hb : Binds X.K fd ps []) (hx : ∀ σ, PassesAt (L2.CX X.prog X.w) X σ (E σ)) (hdb : (x == ("__debug__" : Str)) = false) : PE X (.Call (.Name x p) [] [] pos) (tCallS sp E tNil) := by
  refine ⟨fun pins s σ H Q I h => ?_⟩
  refine wpAny_Call_Name_kw (ld_glob I hg hm ?_ hdb)
  exact PySem.W.callWith_K0 I.kIn hk (run_fnS (us := []) F hr hb (hx σ) I .nil h)
theorem s_call (g : Good M N X W k sc fn) {f : Nat} {es : List E} {xs : List Expr} {p pos : Pos} (hi : (M.P f).isSome = true) (hn : heardP M f = false) (hg : glB sc (M.fname f) = true) (ho : okName (M.fname f) = true) (hs : mEs M N sc fn es xs = true) (h : GA M X W k es xs) : GE M X W k (.call f es) (.Call (.Name (M.fname f) p) xs [] pos) := by
  obtain ⟨o1, o2⟩ := okName_ok ho
  cases hf : M.P f with
  | none => rw [hf] at hi; cases hi
  | some fd =>
    obtain ⟨a, fdat, ps, hm, hk, hb, F⟩ := g.st.fns f fd hf hn
    have key : ∀ σ H Q, tE M X W (evE (M.C k) M.G (.call f es)) σ H Q → tCallS (spF M X.mg X.K k f) (WE W) (tA M X W (evEs (M.C k) M.G es)) σ H Q := by
      intro σ H Q ⟨ra, ρ, s, e, r, p⟩
      simp only [evE] at p
      exact tA_bind e r p fun vs H1 ds s1 r1 k1 p1 e1 R1 rv q => ⟨r1, ds, s1, R1, rv, q⟩
    cases xs with
    | nil =>
      cases es with
      | cons e es => simp [mEs] at hs
      | nil =>
        refine plainT (PE.sub (pe_call0S F g.hr (gl_ok hg g) hm hk hb (passAt g.tk) o1) fun σ H Q t => ?_) (fun _ => rfl)
        obtain ⟨ra, ρ, s, e, r, p⟩ := t
        simp only [evE, evEs, R.bind] at p
        exact ⟨ra, [], s, r, rfl, p⟩
    | cons x xs =>
      cases es with
      | nil => simp [mEs] at hs
      | cons e es =>
        simp only [mEs, Bool.and_eq_true] at hs
        exact plainT (PE.sub (pe_callS F g.hr (gl_ok hg g) hm hk hb (passAt g.tk) h o1 (star_cons (mE_star hs.1) xs X.env) (mEs_back pos X.env hs.2)) key) (fun _ => rfl)
theorem PostR.quietX {W W' : WX} {σ σ' : L2.St} {α β : Type} {rep : Hp → List Addr → α → β → Prop} {H : Hp} {ra : List Addr} {r : R α} {Q : β → Hp → Prop} {mg : Str → Option Value} {K : PySem.W.Frag} (p : PostR M mg K W σ rep H ra r.quiet Q) : PostR M mg K W' σ' rep H ra r Q := by
  cases r with
  | ok a s => exact p
  | exc c w s => exact p.elim
  | bad => exact p.elim
theorem low_eq (hf : ∀ f, M.P (f + hB) = none) {k : Nat} : low (M.C (k + 2)) = M.C k := by
  funext f ds s
  show callF M.P M.G M.F (k + 1 + 1) (f + hB) ds s = callF M.P M.G M.F k f ds s
  rw [callF]
  simp only [hf f, Nat.add_sub_cancel]
theorem keeps_ext {H H' : Hp} (e : LamX.ExtN H H') (t : LamX.Tabs TBS.T H') : Keeps H H' := ⟨fun a o h s => e a o h (fun ps z => by rw [z] at s; cases s), fun _ => t⟩
theorem s_heard (g : Good M N X W k sc fn) {h f : Nat} {es : List E} {body : Expr} {ps : Arguments} {scope : Scope} {p lpos pos : Pos} (hh : heardP M h = true) (hg : glB sc (M.fname h) = true) (ho : okName (M.fname h) = true) (hk : M.mks sc = true) (hk2 : M.mks scope = false) (ha : noArgs ps = true) (hL : LamX.lamSB sc scope = true)
    (hb : ∀ (X2 : Cx) (W2 : WX) (k2 : Nat), Good M N X2 W2 k2 scope (fun _ => false) → PE X2 body (tE M X2 W2 (evE (M.C k2) M.G (.call f es)))) : GE M X W k (.heard h f es) (.Call (.Name (M.fname h) p) [.Lambda ps body scope lpos] [] pos) := by
  obtain ⟨o1, o2⟩ := okName_ok ho
  have early : (∀ ds s, low (M.C k) f ds s = .bad) → PE X (.Call (.Name (M.fname h) p) [.Lambda ps body scope lpos] [] pos) (tE M X W (evE (M.C k) M.G (.heard h f es))) := fun z => ⟨fun pins s0 σ H Q I ⟨ra, ρ, s, e, r, p⟩ => by
    simp only [evE] at p
    cases hx : evEs (low (M.C k)) M.G es ρ s with
    | ok ds s1 =>
      rw [hx] at p
      simp only [R.quiet, R.bind, z, hrdR] at p
      exact p.elim
    | exc c w s1 =>
      rw [hx] at p
      exact p.elim
    | bad =>
      rw [hx] at p
      exact p.elim⟩
  refine plainT ?_ (fun _ => rfl)
  match k, g, early with
  | 0, g, early => exact early fun ds s => rfl
  | 1, g, early =>
    refine early fun ds s => ?_
    show callF M.P M.G M.F 1 (f + hB) ds s = .bad
    rw [callF]
    simp only [g.st.far f]
  | k2 + 2, g, _ =>
    obtain ⟨ga, pg, bg, sg, dV, kV, doc, pm, cdv, ct, oc, an, od, osl, Ng, a, m1, m2, m3, m4, m5, m6, m7, m8, m9, m10, G⟩ := g.st.hrd h hh (by omega)
    obtain ⟨c, tp, c1, c2, c3, c4⟩ := g.mkr hk
    have L : LamX.LamS X.env.scope scope := by
      rw [g.esc]
      exact LamX.lamS_by hL
    refine PE.sub (LamX.pe_lamcall (T := TBS.T) (TT := TTh M X.K X.mg (k2 + 2) h) (t := fun E => tE M X (fun cls dd _ H' => E cls dd H') (evE (M.C k2) M.G (.call f es))) (k := k2 + 2) (gl_ok hg g) m1 m2 m3 m4 m5 m6 m7 m8 (G X rfl rfl rfl rfl rfl g.hr _) c2 c1 c3 c4 g.hr L ?_ ?_ ?_ o1 m9 m10) fun σ H Q ⟨ra, ρ, s, e, r, p⟩ => ?_
    · obtain ⟨q1, q2, q3, q4, q5, q6, q7⟩ := ps
      unfold noArgs at ha
      simp only [Bool.and_eq_true, List.isEmpty_iff, Option.isNone_iff_eq_none] at ha
      obtain ⟨⟨⟨⟨⟨⟨rfl, rfl⟩, rfl⟩, rfl⟩, rfl⟩, rfl⟩, rfl⟩ := ha
      rfl
    · intro q cl pm cv ctv
      obtain ⟨q1, q2, q3, q4, q5, q6, q7⟩ := ps
      unfold noArgs at ha
      simp only [Bool.and_eq_true, List.isEmpty_iff, Option.isNone_iff_eq_none] at ha
      obtain ⟨⟨⟨⟨⟨⟨rfl, rfl⟩, rfl⟩, rfl⟩, rfl⟩, rfl⟩, rfl⟩ := ha
      rfl
    · intro A outer s H E f' c' hr
      exact hb _ (fun cls dd _ H' => E cls dd H') k2 ⟨rfl, g.eN, g.nd, rfl, rfl, L.kind, takes_of rfl rfl rfl rfl, hr, g.stl k2 (by omega), (fun z => by rw [hk2] at z; cases z), fun j hj => g.stl j (by omega)⟩
    · refine ⟨r.tab, fun H1 eN T1 => ?_⟩
      have kp : Keeps H H1 := keeps_ext eN T1
      have R1 : SRel X.K H1 ra s := r.keep kp fun b hb' => by
        obtain ⟨i, hi⟩ := List.getElem?_of_mem hb'
        have hl : i < s.length := by
          rw [← r.len]
          exact (List.getElem?_eq_some_iff.mp hi).1
        have q := r.rep i _ b (List.getElem?_eq_getElem hl) hi
        cases hc : s[i] with
        | lst l =>
          rw [hc] at q
          obtain ⟨vs, hv, _⟩ := q
          rw [hv]
          exact eN _ _ hv fun ps z => by cases z
        | dct l =>
          rw [hc] at q
          obtain ⟨vs, hv, _⟩ := q
          rw [hv]
          exact eN _ _ hv fun ps z => by cases z
      simp only [evE, low_eq g.st.far] at p
      refine ⟨ra, ρ, s, e.keep kp (List.prefix_refl _), R1, ?_⟩
      simp only [evE]
      cases hx : evEs (M.C k2) M.G es ρ s with
      | exc c w s1 =>
        rw [hx] at p
        exact p.elim
      | bad =>
        rw [hx] at p
        exact p.elim
      | ok ds s1 =>
        rw [hx] at p
        simp only [R.quiet, R.bind] at p ⊢
        have p := PostR.mono p kp (List.prefix_refl _)
        cases hy : M.C k2 f ds s1 with
        | ok d s2 =>
          rw [hy] at p
          exact fun b rb H2 k3 p3 R3 rv => ⟨d, rb, s2, R3, rv, PostR.quietX (PostR.mono (by exact p) k3 p3)⟩
        | exc c w s2 =>
          rw [hy] at p
          exact fun cls dd rb H2 k3 p3 R3 rx => ⟨c, w, rb, s2, R3, rx, PostR.quietX (PostR.mono (by exact p) k3 p3)⟩
        | bad =>
          rw [hy] at p
          exact p.elim
theorem s_bi (g : Good M N X W k sc fn) {b : Bi} {es : List E} {z : Expr} {xs : List Expr} {p pos : Pos} (hg : glB sc (biName b) = true) (hs : mEs M N sc fn es (z :: xs) = true) (h : GA M X W k es (z :: xs)) :
    GE M X W k (.bi b es) (.Call (.Name (biName b) p) (z :: xs) [] pos) := by
  obtain ⟨r, h1, h2⟩ := bi_all (M := M) g.calm b
  cases es with
  | nil => simp [mEs] at hs
  | cons e es =>
    simp only [mEs, Bool.and_eq_true] at hs
    have hm : X.mg (biName b) = none := g.blt (by cases b <;> simp [bltNames, biName])
    refine plainT (PE.sub (pe_bi b h1 (gl_ok hg g) hm h (star_cons (mE_star hs.1) xs X.env) (mEs_back pos X.env hs.2)) fun σ H Q ⟨ra, ρ, s, e, r, p⟩ => ?_) (fun _ => rfl)
    simp only [evE] at p
    exact tA_bind e r p fun vs H1 ds s1 r1 k1 p1 e1 R1 rv q => h2 W σ H1 r1 s1 ds vs Q R1 rv q
theorem ty_boot (t : Ty) : bootBuiltins (tyName t) = some (.type (tyOf t)) := by cases t <;> decide +kernel
theorem s_isi (g : Good M N X W k sc fn) {a : E} {t : Ty} {z : Expr} {p p2 pos : Pos} (hg : glB sc "isinstance" = true) (hg2 : glB sc (tyName t) = true) (hs : notStar z = true) (ha : GE M X W k a z) :
    GE M X W k (.isi a t) (.Call (.Name "isinstance" p) [z, .Name (tyName t) p2] [] pos) := by
  have hm : X.mg "isinstance" = none := g.blt (by simp [bltNames])
  have hm2 : X.mg (tyName t) = none := g.blt (by cases t <;> simp [bltNames, tyName])
  have hT : PE X (.Name (tyName t) p2) (tC (.ty (tyOf t))) := pe_bltn (gl_ok hg2 g) hm2 (ty_boot t) rfl (by cases t <;> decide) (by cases t <;> decide)
  have hA : PA X [z, .Name (tyName t) p2] (tCons (tE M X W (evE (M.C k) M.G a)) (tCons (tC (.ty (tyOf t))) tNil)) := pa_cons ha.1 (pa_cons hT pa_nil) (star_cons hs _ _)
  refine plainT (PE.sub (pe_callB call_isi (gl_ok hg g) hm PyProof.Rows.boot_isinstance hA (by decide) (by decide) (star_cons hs _ _) rfl) fun σ H Q ⟨ra, ρ, s, e, r, p⟩ => ?_) (fun _ => rfl)
  simp only [evE] at p
  refine tE_bind e r p fun v H1 d s1 r1 k1 p1 e1 R1 rv q => ?_
  cases hb : isiD s1 d t with
  | none => rw [hb] at q; exact q.elim
  | some b =>
    rw [hb] at q
    obtain ⟨u, ty, ki⟩ := isi_of R1 rv hb
    exact ⟨v, .ty (tyOf t), _, _, b, rfl, .ty _, ty, ki, q.fin R1 rfl⟩
theorem s_lrg (g : Good M N X W k sc fn) {es : List E} {xs : List Expr} {p p2 pos pos2 : Pos} (hg : glB sc "list" = true) (hg2 : glB sc "range" = true) (hl : xs.length < 3) (h : GEs M X W k es xs) :
    GE M X W k (.lrg es) (.Call (.Name "list" p) [.Call (.Name "range" p2) xs [] pos2] [] pos) := by
  have hm : X.mg "list" = none := g.blt (by simp [bltNames])
  have hm2 : X.mg "range" = none := g.blt (by simp [bltNames])
  match es, xs, h, hl with
  | [], [], _, _ =>
    refine plainT ⟨fun pins s σ H Q I ⟨ra, ρ, s', e, r, p⟩ => ?_⟩ (fun _ => rfl)
    simp only [evE, evEs, R.bind, rngD, rngNew] at p
    exact p.elim
  | [a], [x], h, _ =>
    refine plainT (PE.sub (pe_listRg g.calm (gl_ok hg g) hm (prg_1 (gl_ok hg2 g) hm2 h.1.1 (star_cons h.2.1 [] X.env))) fun σ H Q ⟨ra, ρ, s, e, r, p⟩ => ?_) (fun _ => rfl)
    simp only [evE, evEs] at p
    have p' : PostR M X.mg X.K W σ (RepV X.K) H ra ((evE (M.C k) M.G a ρ s).bind fun d s1 => rngNew (rngD [d]) newLst s1) Q := by
      revert p
      cases evE (M.C k) M.G a ρ s <;> exact fun p => p
    refine tE_bind e r p' fun v H1 d s1 r1 k1 p1 e1 R1 rv q => ?_
    cases d with
    | int n =>
      simp only [rngD] at q
      split at q
      · rename_i hs
        simp only [rngNew] at q
        split at q
        · rename_i hz
          rw [rngL_length] at hz
          obtain ⟨b1, b2⟩ := small_ok hs
          exact ⟨n, rv, ⟨by decide, by decide, b1, b2, by rw [sizeLine_eq] at hz; exact hz⟩, (PostR.finL q R1 (rng_rep 0 n)).2⟩
        · exact q.elim
      · exact q.elim
    | _ => exact q.elim
  | [a, b], [x, y], h, _ =>
    refine plainT (PE.sub (pe_listRg g.calm (gl_ok hg g) hm (prg_2 (gl_ok hg2 g) hm2 h.1.1 h.2.2.1.1 (star_cons h.2.1 [y] X.env) (star_cons h.2.2.2.1 [] X.env) (by rw [star_cons h.2.2.2.1]; rfl))) fun σ H Q ⟨ra, ρ, s, e, r, p⟩ => ?_) (fun _ => rfl)
    simp only [evE, evEs] at p
    have p' : PostR M X.mg X.K W σ (RepV X.K) H ra ((evE (M.C k) M.G a ρ s).bind fun d s1 => (evE (M.C k) M.G b ρ s1).bind fun d2 s2 => rngNew (rngD [d, d2]) newLst s2) Q := by
      revert p
      cases evE (M.C k) M.G a ρ s with
      | ok d s1 =>
        simp only [R.bind]
        cases evE (M.C k) M.G b ρ s1 <;> exact fun p => p
      | exc c w s1 => exact fun p => p
      | bad => exact fun p => p
    refine tE_bind e r p' fun v H1 d s1 r1 k1 p1 e1 R1 rv q => ?_
    refine tE_bind e1 R1 q fun u H2 d2 s2 r2 k2 p2 e2 R2 ru q2 => ?_
    cases d with
    | int n =>
      cases d2 with
      | int m =>
        simp only [rngD] at q2
        split at q2
        · rename_i hs
          rw [Bool.and_eq_true] at hs
          simp only [rngNew] at q2
          split at q2
          · rename_i hz
            rw [rngL_length] at hz
            obtain ⟨b1, b2⟩ := small_ok hs.1
            obtain ⟨b3, b4⟩ := small_ok hs.2
            exact ⟨n, m, rv, ru, ⟨b1, b2, b3, b4, by rw [sizeLine_eq] at hz; exact hz⟩, (PostR.finL q2 R2 (rng_rep n m)).2⟩
          · exact q2.elim
        · exact q2.elim
      | _ => exact q2.elim
    | _ => cases d2 <;> exact q2.elim
  | _ :: _ :: _ :: _, _ :: _ :: _ :: _, _, hl => exact absurd hl (by simp only [List.length_cons]; omega)
theorem s_trg (g : Good M N X W k sc fn) {es : List E} {xs : List Expr} {p p2 pos pos2 : Pos} (hg : glB sc "tuple" = true) (hg2 : glB sc "range" = true) (hl : xs.length < 3) (h : GEs M X W k es xs) :
    GE M X W k (.trg es) (.Call (.Name "tuple" p) [.Call (.Name "range" p2) xs [] pos2] [] pos) := by
  have hm : X.mg "tuple" = none := g.blt (by simp [bltNames])
  have hm2 : X.mg "range" = none := g.blt (by simp [bltNames])
  match es, xs, h, hl with
  | [], [], _, _ =>
    refine plainT ⟨fun pins s σ H Q I ⟨ra, ρ, s', e, r, p⟩ => ?_⟩ (fun _ => rfl)
    simp only [evE, evEs, R.bind, rngD, rngNew] at p
    exact p.elim
  | [a], [x], h, _ =>
    refine plainT (PE.sub (pe_tupRg g.calm (gl_ok hg g) hm (prg_1 (gl_ok hg2 g) hm2 h.1.1 (star_cons h.2.1 [] X.env))) fun σ H Q ⟨ra, ρ, s, e, r, p⟩ => ?_) (fun _ => rfl)
    simp only [evE, evEs] at p
    have p' : PostR M X.mg X.K W σ (RepV X.K) H ra ((evE (M.C k) M.G a ρ s).bind fun d s1 => rngNew (rngD [d]) (fun l s => .ok (.tup l) s) s1) Q := by
      revert p
      cases evE (M.C k) M.G a ρ s <;> exact fun p => p
    refine tE_bind e r p' fun v H1 d s1 r1 k1 p1 e1 R1 rv q => ?_
    cases d with
    | int n =>
      simp only [rngD] at q
      split at q
      · rename_i hs
        simp only [rngNew] at q
        split at q
        · rename_i hz
          rw [rngL_length] at hz
          obtain ⟨b1, b2⟩ := small_ok hs
          exact ⟨n, rv, ⟨by decide, by decide, b1, b2, by rw [sizeLine_eq] at hz; exact hz⟩, PostR.finT q R1 (rng_rep 0 n)⟩
        · exact q.elim
      · exact q.elim
    | _ => exact q.elim
  | [a, b], [x, y], h, _ =>
    refine plainT (PE.sub (pe_tupRg g.calm (gl_ok hg g) hm (prg_2 (gl_ok hg2 g) hm2 h.1.1 h.2.2.1.1 (star_cons h.2.1 [y] X.env) (star_cons h.2.2.2.1 [] X.env) (by rw [star_cons h.2.2.2.1]; rfl))) fun σ H Q ⟨ra, ρ, s, e, r, p⟩ => ?_) (fun _ => rfl)
    simp only [evE, evEs] at p
    have p' : PostR M X.mg X.K W σ (RepV X.K) H ra ((evE (M.C k) M.G a ρ s).bind fun d s1 => (evE (M.C k) M.G b ρ s1).bind fun d2 s2 => rngNew (rngD [d, d2]) (fun l s => .ok (.tup l) s) s2) Q := by
      revert p
      cases evE (M.C k) M.G a ρ s with
      | ok d s1 =>
        simp only [R.bind]
        cases evE (M.C k) M.G b ρ s1 <;> exact fun p => p
      | exc c w s1 => exact fun p => p
      | bad => exact fun p => p
    refine tE_bind e r p' fun v H1 d s1 r1 k1 p1 e1 R1 rv q => ?_
    refine tE_bind e1 R1 q fun u H2 d2 s2 r2 k2 p2 e2 R2 ru q2 => ?_
    cases d with
    | int n =>
      cases d2 with
      | int m =>
        simp only [rngD] at q2
        split at q2
        · rename_i hs
          rw [Bool.and_eq_true] at hs
          simp only [rngNew] at q2
          split at q2
          · rename_i hz
            rw [rngL_length] at hz
            obtain ⟨b1, b2⟩ := small_ok hs.1
            obtain ⟨b3, b4⟩ := small_ok hs.2
            exact ⟨n, m, rv, ru, ⟨b1, b2, b3, b4, by rw [sizeLine_eq] at hz; exact hz⟩, PostR.finT q2 R2 (rng_rep n m)⟩
          · exact q2.elim
        · exact q2.elim
      | _ => exact q2.elim
    | _ => cases d2 <;> exact q2.elim
  | _ :: _ :: _ :: _, _ :: _ :: _ :: _, _, hl => exact absurd hl (by simp only [List.length_cons]; omega)
theorem pe_meth1 {x y : Expr} {name : Str} {id : String} {r : V → List V → Hp → VK → Prop} {p pos : Pos} {to : TE} {t : TE} (slot : Slot "list" name id) (hty : typeOf (.builtin id) = pure (.type "method_descriptor")) (hm : MtR X id r)
    (hb : plainBase x = true) (hl : (p.endLine == pos.line) = true) (hs : notStar y = true) (ho : PE X x to) (ha : PE X y t) : PE X (.Call (.Attribute x name p) [y] [] pos) (tBM X.K "list" r to (tCons t tNil)) := by
  refine pe_bm PySem.F.plainAttrs_list slot hty hm ho (pa_cons ha pa_nil (star_cons hs [] X.env)) (base_ok hb name X.env) ?_ hl (star_cons hs [] X.env) rfl
  rw [star_cons hs]
  rfl
theorem isL_ok {H : Hp} {ra : List Addr} {s : Store} {d : D} {v : V} (R : SRel X.K H ra s) (rv : RepV X.K H ra d v) (h : isL s d = true) : tyV X.K "list" v H := by
  cases d with
  | ref n =>
    simp only [isL, Option.isSome_iff_exists] at h
    obtain ⟨l, hl⟩ := h
    obtain ⟨a, vs, rfl, ea, hv, r⟩ := ref_lst R rv hl
    exact .inl ⟨rfl, vs, SqL.of hv⟩
  | _ => cases h
theorem s_app {o a : E} {x y : Expr} {p pos : Pos} (hb : plainBase x = true) (hl : (p.endLine == pos.line) = true) (hs : notStar y = true) (ho : GE M X W k o x) (ha : GE M X W k a y) :
    GE M X W k (.app o a) (.Call (.Attribute x "append" p) [y] [] pos) := by
  refine plainT (PE.sub (pe_meth1 PySem.F.slot_list_append PySem.F.type_list_append mt_append hb hl hs ho.1 ha.1) fun σ H Q ⟨ra, ρ, s, e, r, p⟩ => ?_) (fun _ => rfl)
  simp only [evE] at p
  refine tE_bind e r p fun v H1 d s1 r1 k1 p1 e1 R1 rv q => ?_
  split at q
  · rename_i hL
    refine ⟨isL_ok R1 rv hL, ?_⟩
    refine tE_bind e1 R1 q fun u H2 d2 s2 r2 k2 p2 e2 R2 ru q2 => ?_
    have rv2 := RepV.keep k2 p2 d v rv
    cases d with
    | ref n =>
      simp only [appD] at q2
      split at q2
      · rename_i l hl
        split at q2
        · rename_i hz
          obtain ⟨b, vs, eb, ea, hv, rl⟩ := ref_lst R2 rv2 hl
          exact ⟨b, vs, u, eb, rfl, hv, by rw [RepL.length l vs rl]; exact hz, PostR.setFin q2 R2 hl ea (rl.append (RepL.one ru)) rfl⟩
        · exact q2.elim
      · exact q2.elim
    | _ => exact q2.elim
  · exact q.elim
theorem s_ext {o a : E} {x y : Expr} {p pos : Pos} (hb : plainBase x = true) (hl : (p.endLine == pos.line) = true) (hs : notStar y = true) (ho : GE M X W k o x) (ha : GE M X W k a y) :
    GE M X W k (.ext o a) (.Call (.Attribute x "extend" p) [y] [] pos) := by
  refine plainT (PE.sub (pe_meth1 PySem.F.slot_list_extend PySem.F.type_list_extend mt_extend hb hl hs ho.1 ha.1) fun σ H Q ⟨ra, ρ, s, e, r, p⟩ => ?_) (fun _ => rfl)
  simp only [evE] at p
  refine tE_bind e r p fun v H1 d s1 r1 k1 p1 e1 R1 rv q => ?_
  split at q
  · rename_i hL
    refine ⟨isL_ok R1 rv hL, ?_⟩
    refine tE_bind e1 R1 q fun u H2 d2 s2 r2 k2 p2 e2 R2 ru q2 => ?_
    have rv2 := RepV.keep k2 p2 d v rv
    cases d with
    | ref n =>
      cases d2 with
      | ref m =>
        simp only [extD] at q2
        split at q2
        · rename_i l l' hl hm
          split at q2
          · rename_i hz
            obtain ⟨b, vs, eb, ea, hv, rl⟩ := ref_lst R2 rv2 hl
            obtain ⟨b', vs', eb', ea', hv', rl'⟩ := ref_lst R2 ru hm
            exact ⟨b, b', vs, vs', eb, by rw [eb'], hv, hv', by rw [RepL.length l vs rl, RepL.length l' vs' rl']; exact hz, PostR.setFin q2 R2 hl ea (rl.append rl') rfl⟩
          · exact q2.elim
        · exact q2.elim
      | _ => exact q2.elim
    | _ => cases d2 <;> exact q2.elim
  · exact q.elim
theorem s_pop {o a : E} {x y : Expr} {p pos : Pos} (hb : plainBase x = true) (hl : (p.endLine == pos.line) = true) (hs : notStar y = true) (ho : GE M X W k o x) (ha : GE M X W k a y) :
    GE M X W k (.pop o a) (.Call (.Attribute x "pop" p) [y] [] pos) := by
  refine plainT (PE.sub (pe_meth1 PySem.F.slot_list_pop PySem.F.type_list_pop mt_popAt hb hl hs ho.1 ha.1) fun σ H Q ⟨ra, ρ, s, e, r, p⟩ => ?_) (fun _ => rfl)
  simp only [evE] at p
  refine tE_bind e r p fun v H1 d s1 r1 k1 p1 e1 R1 rv q => ?_
  split at q
  · rename_i hL
    refine ⟨isL_ok R1 rv hL, ?_⟩
    refine tE_bind e1 R1 q fun u H2 d2 s2 r2 k2 p2 e2 R2 ru q2 => ?_
    have rv2 := RepV.keep k2 p2 d v rv
    cases d with
    | ref n =>
      cases d2 with
      | int i =>
        simp only [popD] at q2
        split at q2
        · rename_i l hl
          split at q2
          · rename_i hz
            split at q2
            · rename_i j hj
              split at q2
              · rename_i d3 hd3
                obtain ⟨b, vs, eb, ea, hv, rl⟩ := ref_lst R2 rv2 hl
                obtain ⟨v3, e3, rv3⟩ := RepL.get l vs j d3 rl hd3
                have hj' := ixN_seq (show ixN vs.length i = some j by rw [RepL.length l vs rl]; exact hj)
                exact ⟨b, vs, i, j, v3, eb, by rw [show u = .int i from ru], hv, hz.1, hz.2, hj'.1, e3, PostR.setFin q2 R2 hl ea (RepL.erase l vs j rl) rv3⟩
              · exact q2.elim
            · exact q2.elim
          · exact q2.elim
        · exact q2.elim
      | _ => exact q2.elim
    | _ => cases d2 <;> exact q2.elim
  · exact q.elim
def TyD (X : Cx) (T : String) (x : V) (H : Hp) : Prop := ∀ (pins : List (Addr × Obj)) (σ : L2.St) (s : Shared) (v : Value), Inv X pins σ H s → RelV x v → s.TypeIs v T ∧ ∀ a, v = .ref a → ∃ ob, s.heap.get? a = some ob ∧ ob.dict = none
theorem pe_bmD {T : String} {name : Str} {id : String} {o e : Expr} {es : List Expr} {apos cpos : Pos} {to : TE} {t : TA} {r : V → List V → Hp → VK → Prop} (pa : PlainAttrs T) (slot : Slot T name id) (hty : typeOf (.builtin id) = pure (.type "method_descriptor")) (hm : MtR X id r) (ho : PE X o to) (ha : PA X (e :: es) t)
    (hbase : attributeBase o name X.env (eval o X.env) = eval o X.env)
    (hfew : ((backTo cpos (starEach (e :: es) X.env)).all (fun x => !x.1) && (backToKw cpos (keywordEach [] X.env)).all (fun x => x.1.isSome)
      && decide ((e :: es).length + ([] : List Keyword).length + (if ([] : List Keyword).isEmpty then 0 else 1) < 30)) = true)
    (hline : (apos.endLine == cpos.line) = true) (hs : starEach (e :: es) X.env = (false, eval e X.env) :: starEach es X.env) (hplain : (backTo cpos (starEach es X.env)).any (·.1) = false) :
    PE X (.Call (.Attribute o name apos) (e :: es) [] cpos) (fun σ H Q => to σ H fun x H1 => TyD X T x H1 ∧ t σ H1 fun vs H2 => r x vs H2 Q) := by
  refine ⟨fun pins s σ H Q I h => ?_⟩
  refine wpAny_Call_method_late hbase hfew hline rfl (thn (ho.run pins s σ H _ I h) fun v s1 ⟨x, H1, I1, r1, ty, q1⟩ => ?_)
  obtain ⟨h1, h2⟩ := ty pins σ s1 v I1 r1
  refine ⟨T, id, pa, slot, hty, h1, h2, ?_⟩
  have hA := ha.run cpos pins s1 σ H1 _ I1 q1
  rw [hs] at hA ⊢
  refine Calls.callWith_builtin (by show (false || (backTo cpos (starEach es X.env)).any (·.1)) = false; rw [hplain] <;> rfl) (Calls.evalArgs_plain ?_)
  exact thn hA fun us s2 ⟨vs, H2, I2, r2, q2⟩ => hm pins s2 σ H2 x vs v us Q I2 r1 r2 q2
theorem pe_bm0D {T : String} {name : Str} {id : String} {o : Expr} {apos cpos : Pos} {to : TE} {r : V → List V → Hp → VK → Prop} (pa : PlainAttrs T) (slot : Slot T name id) (hty : typeOf (.builtin id) = pure (.type "method_descriptor")) (hm : MtR X id r) (ho : PE X o to)
    (hbase : attributeBase o name X.env (eval o X.env) = eval o X.env) (hline : (apos.endLine == cpos.line) = true) : PE X (.Call (.Attribute o name apos) [] [] cpos) (fun σ H Q => to σ H fun x H1 => TyD X T x H1 ∧ r x [] H1 Q) := by
  refine ⟨fun pins s σ H Q I h => ?_⟩
  refine wpAny_Call_method0_late hbase hline (thn (ho.run pins s σ H _ I h) fun v s1 ⟨x, H1, I1, r1, ty, q1⟩ => ?_)
  obtain ⟨h1, h2⟩ := ty pins σ s1 v I1 r1
  exact ⟨T, id, pa, slot, hty, h1, h2, Calls.callWith_builtin rfl (PySem.evalArgs_none (hm pins s1 σ H1 x [] v [] Q I1 r1 .nil q1))⟩
theorem tyD_str {x : Str} {H : Hp} : TyD X "str" (.str x) H := fun pins σ s v I r => by
  obtain ⟨t, rfl⟩ := r
  exact ⟨typeIs_str _ _ _, fun a h => by cases h⟩
theorem tyD_dct {a : Addr} {kvs : List (L2.Key × V)} {H : Hp} (h : H a = some (.dK kvs)) : TyD X "dict" (.ref a) H := fun pins σ s v I r => by
  obtain rfl : v = Value.ref a := r
  obtain ⟨t1, t2, _⟩ := isD_at I (.inl ⟨kvs, .inl h⟩)
  exact ⟨t1, t2⟩
theorem tyD_gd {a : Addr} {es : Array DictEntry} {n : Nat} {H : Hp} (kd : KDict X.K X.w a es n) : TyD X "dict" (.ref a) H := fun pins σ s v I r => by
  obtain rfl : v = Value.ref a := r
  refine ⟨kd_type kd I, fun b h => ?_⟩
  cases h
  exact ⟨_, I.kIn _ _ kd.at_, rfl⟩
theorem tyD_at (G : GdOk X.K X.w) {H : Hp} {ra : List Addr} {s : Store} {d : D} {v : V} {m : Me} (R : SRel X.K H ra s) (rv : RepV X.K H ra d v) (h : meT m s d = true) : TyD X (if m.isT then "str" else "dict") v H := by
  unfold meT at h
  cases hm : m.isT with
  | true =>
    rw [hm] at h
    cases d with
    | str x =>
      rw [show v = .str x from rv]
      exact tyD_str
    | _ => cases h
  | false =>
    rw [hm] at h
    cases d with
    | gd ks vs =>
      obtain ⟨a, rfl, g⟩ := rv
      obtain ⟨⟨es, n, kd⟩, _⟩ := G a ks vs g
      exact tyD_gd kd
    | ref n =>
      simp only [Option.isSome_iff_exists] at h
      obtain ⟨l, hl⟩ := h
      obtain ⟨a, vs, rfl, ea, hv, r⟩ := ref_dct R rv hl
      exact tyD_dct hv
    | _ => cases h
def MeR (M : Cfg) (X : Cx) (m : Me) (n : Nat) : Prop := ∃ (id : String) (r : V → List V → Hp → VK → Prop), Slot (if m.isT then "str" else "dict") m.name id ∧ typeOf (.builtin id) = pure (.type "method_descriptor") ∧ MtR X id r ∧
  ∀ (W : WX) (σ : L2.St) (H H1 : Hp) (ra rb : List Addr) (s s1 : Store) (d : D) (v : V) (ds : List D) (vs : List V) (Q : VK), SRel X.K H1 rb s1 → RepV X.K H1 rb d v → RepL X.K H1 rb ds vs → ds.length = n → PostR M X.mg X.K W σ (RepV X.K) H1 rb (meD m d ds s1) Q → r v vs H1 Q
theorem str_of {K : PySem.W.Frag} {H : Hp} {ra : List Addr} {x : Str} {v : V} (h : RepV K H ra (.str x) v) : v = .str x := h
theorem me_join : MeR M X .join 1 := by
  refine ⟨_, _, PySem.F.slot_str_join, PySem.F.type_str_join, mt_join, fun W σ H H1 ra rb s s1 d v ds vs Q R rv rs hl p => ?_⟩
  match ds, hl with
  | [d2], _ =>
    obtain ⟨u, rfl, ru⟩ := one_of rs
    cases d with
    | str a =>
      simp only [meD] at p
      split at p
      · rename_i l hl
        split at p
        · rename_i ys hy
          split at p
          · rename_i hz
            obtain ⟨q, xs, rfl, sq, r⟩ := items_rep R ru hl
            have e := RepL.strsOf l xs ys r hy
            subst e
            exact ⟨a, q, ys, str_of rv, rfl, sq, hz, p.fin R rfl⟩
          · exact p.elim
        · exact p.elim
      · exact p.elim
    | _ => exact p.elim
theorem me_split : MeR M X .split 1 := by
  refine ⟨_, _, PySem.F.slot_str_split, PySem.F.type_str_split, mt_split, fun W σ H H1 ra rb s s1 d v ds vs Q R rv rs hl p => ?_⟩
  match ds, hl with
  | [d2], _ =>
    obtain ⟨u, rfl, ru⟩ := one_of rs
    cases d with
    | str a =>
      cases d2 with
      | str b =>
        simp only [meD] at p
        split at p
        · rename_i hz
          exact ⟨a, b, str_of rv, by rw [str_of ru], by simpa using hz.1, hz.2, (PostR.finL p R (RepL.strsF _)).2⟩
        · exact p.elim
      | _ => exact p.elim
    | _ => exact p.elim
theorem me_zfill : MeR M X .zfill 1 := by
  refine ⟨_, _, PySem.F.slot_str_zfill, PySem.F.type_str_zfill, mt_zfill, fun W σ H H1 ra rb s s1 d v ds vs Q R rv rs hl p => ?_⟩
  match ds, hl with
  | [d2], _ =>
    obtain ⟨u, rfl, ru⟩ := one_of rs
    cases d with
    | str a =>
      cases d2 with
      | int i =>
        simp only [meD] at p
        split at p
        · rename_i hz
          exact ⟨a, i, str_of rv, by rw [show u = .int i from ru], hz, p.fin R rfl⟩
        · exact p.elim
      | _ => exact p.elim
    | _ => exact p.elim
theorem me_part : MeR M X .part 1 := by
  refine ⟨_, _, PySem.F.slot_str_partition, PySem.F.type_str_partition, mt_partition, fun W σ H H1 ra rb s s1 d v ds vs Q R rv rs hl p => ?_⟩
  match ds, hl with
  | [d2], _ =>
    obtain ⟨u, rfl, ru⟩ := one_of rs
    cases d with
    | str a =>
      cases d2 with
      | str b =>
        simp only [meD] at p
        split at p
        · rename_i hz
          exact ⟨a, b, str_of rv, by rw [str_of ru], by simpa using hz.1, hz.2, PostR.finT p R ⟨.str _, _, rfl, rfl, .str _, _, rfl, rfl, .str _, _, rfl, rfl, rfl⟩⟩
        · exact p.elim
      | _ => exact p.elim
    | _ => exact p.elim
theorem me_upper : MeR M X .upper 0 := by
  refine ⟨_, _, PySem.F.slot_str_upper, PySem.F.type_str_upper, mt_upper, fun W σ H H1 ra rb s s1 d v ds vs Q R rv rs hl p => ?_⟩
  match ds, hl with
  | [], _ =>
    cases d with
    | str a =>
      simp only [meD] at p
      split at p
      · rename_i hz
        exact ⟨a, str_of rv, rs, hz, p.fin R rfl⟩
      · exact p.elim
    | _ => exact p.elim
theorem me_find : MeR M X .find 1 := by
  refine ⟨_, _, PySem.F.slot_str_find, PySem.F.type_str_find, mt_find, fun W σ H H1 ra rb s s1 d v ds vs Q R rv rs hl p => ?_⟩
  match ds, hl with
  | [d2], _ =>
    obtain ⟨u, rfl, ru⟩ := one_of rs
    cases d with
    | str a =>
      cases d2 with
      | str b => exact ⟨a, b, str_of rv, by rw [str_of ru], p.fin R rfl⟩
      | _ => exact p.elim
    | _ => exact p.elim
theorem me_count : MeR M X .count 1 := by
  refine ⟨_, _, PySem.F.slot_str_count, PySem.F.type_str_count, mt_count, fun W σ H H1 ra rb s s1 d v ds vs Q R rv rs hl p => ?_⟩
  match ds, hl with
  | [d2], _ =>
    obtain ⟨u, rfl, ru⟩ := one_of rs
    cases d with
    | str a =>
      cases d2 with
      | str b => exact ⟨a, b, str_of rv, by rw [str_of ru], p.fin R rfl⟩
      | _ => exact p.elim
    | _ => exact p.elim
theorem me_get1 (hu : X.A.units + 1 < cLine) (G : GdOk X.K X.w) : MeR M X .get 1 := by
  refine ⟨_, _, PySem.F.slot_dict_get, PySem.F.type_dict_get, mt_getLk1 hu, fun W σ H H1 ra rb s s1 d v ds vs Q R rv rs hl p => ?_⟩
  match ds, hl with
  | [d2], _ =>
    obtain ⟨u, rfl, ru⟩ := one_of rs
    simp only [meD] at p
    split at p
    · rename_i o ho
      obtain ⟨ov, l, g1, g2⟩ := look_of G R rv ru ho
      refine ⟨u, ov, rfl, l, ?_⟩
      cases o with
      | none => rw [g2 rfl]; exact p.fin R rfl
      | some d3 =>
        obtain ⟨v3, rfl, r3⟩ := g1 d3 rfl
        exact p.fin R r3
    · exact p.elim
theorem me_get2 (hu : X.A.units + 1 < cLine) (G : GdOk X.K X.w) : MeR M X .get 2 := by
  refine ⟨_, _, PySem.F.slot_dict_get, PySem.F.type_dict_get, mt_getLk2 hu, fun W σ H H1 ra rb s s1 d v ds vs Q R rv rs hl p => ?_⟩
  match ds, hl with
  | [d2, e2], _ =>
    obtain ⟨u, u2, rfl, ru, ru2⟩ := two_of rs
    simp only [meD] at p
    split at p
    · rename_i o ho
      obtain ⟨ov, l, g1, g2⟩ := look_of G R rv ru ho
      refine ⟨u, u2, ov, rfl, l, ?_⟩
      cases o with
      | none => rw [g2 rfl]; exact p.fin R ru2
      | some d3 =>
        obtain ⟨v3, rfl, r3⟩ := g1 d3 rfl
        exact p.fin R r3
    · exact p.elim
theorem me_dpop : MeR M X .dpop 1 := by
  refine ⟨_, _, PySem.F.slot_dict_pop, PySem.F.type_dict_pop, mt_dpop1, fun W σ H H1 ra rb s s1 d v ds vs Q R rv rs hl p => ?_⟩
  match ds, hl with
  | [d2], _ =>
    obtain ⟨u, rfl, ru⟩ := one_of rs
    cases d with
    | ref n =>
      simp only [meD] at p
      cases hl : isDct s1 n with
      | none => rw [hl] at p; exact p.elim
      | some l =>
        cases hk : keyD d2 with
        | none => rw [hl, hk] at p; exact p.elim
        | some kk =>
          rw [hl, hk] at p
          simp only at p
          cases hv : valD l kk with
          | none => rw [hv] at p; exact p.elim
          | some d3 =>
            rw [hv] at p
            obtain ⟨a, kvs, rfl, ea, hh, rm⟩ := ref_dct R rv hl
            obtain ⟨v3, e3, r3⟩ := (rm.val kk).1 d3 hv
            exact ⟨a, kvs, kk, v3, rfl, by rw [keyD_kV hk ru], hh, e3, PostR.setFinD p R hl ea (rm.drop kk) r3⟩
    | _ => exact p.elim
theorem me_all (hu : X.A.units + 1 < cLine) (G : GdOk X.K X.w) (m : Me) (n : Nat) (h : m.ar n = true) : MeR M X m n := by
  unfold Me.ar at h
  cases m with
  | join => rw [beq_iff_eq] at h; subst h; exact me_join
  | split => rw [beq_iff_eq] at h; subst h; exact me_split
  | zfill => rw [beq_iff_eq] at h; subst h; exact me_zfill
  | part => rw [beq_iff_eq] at h; subst h; exact me_part
  | rpart => cases h
  | upper => rw [beq_iff_eq] at h; subst h; exact me_upper
  | find => rw [beq_iff_eq] at h; subst h; exact me_find
  | count => rw [beq_iff_eq] at h; subst h; exact me_count
  | get =>
    rw [Bool.or_eq_true, beq_iff_eq, beq_iff_eq] at h
    rcases h with rfl | rfl
    · exact me_get1 hu G
    · exact me_get2 hu G
  | dpop => rw [beq_iff_eq] at h; subst h; exact me_dpop
  | update => cases h
theorem ar_le {m : Me} {n : Nat} (h : m.ar n = true) : n ≤ 2 := by
  unfold Me.ar at h
  cases m <;> simp at h <;> omega
theorem plain_at (m : Me) : PlainAttrs (if m.isT then "str" else "dict") := by
  cases m <;> first | exact PySem.F.plainAttrs_str | exact PySem.F.plainAttrs_dict
theorem mEs_len : ∀ {es : List E} {xs : List Expr}, mEs M N sc fn es xs = true → es.length = xs.length
  | [], xs, h => by
    cases xs with
    | nil => rfl
    | cons x r => simp [mEs] at h
  | e :: es, xs, h => by
    cases xs with
    | nil => simp [mEs] at h
    | cons x r =>
      simp only [mEs, Bool.and_eq_true] at h
      rw [List.length_cons, List.length_cons, mEs_len h.2]
theorem evs_len (C : Calls) (G : Globs) : ∀ (es : List E) (ρ : Env) (s s1 : Store) (ds : List D), evEs C G es ρ s = .ok ds s1 → ds.length = es.length
  | [], ρ, s, s1, ds, h => by simp only [evEs] at h; cases h; rfl
  | e :: es, ρ, s, s1, ds, h => by
    simp only [evEs] at h
    cases h1 : evE C G e ρ s with
    | ok d s2 =>
      rw [h1] at h
      simp only [R.bind] at h
      cases h2 : evEs C G es ρ s2 with
      | ok ds' s3 =>
        rw [h2] at h
        cases h
        rw [List.length_cons, List.length_cons, evs_len C G es ρ s2 _ ds' h2]
      | exc c w s3 => rw [h2] at h; cases h
      | bad => rw [h2] at h; cases h
    | exc c w s2 => rw [h1] at h; cases h
    | bad => rw [h1] at h; cases h
theorem s_meth (g : Good M N X W k sc fn) {m : Me} {o : E} {es : List E} {y : Expr} {xs : List Expr} {p pos : Pos} (hb : plainBase y = true) (hl : (p.endLine == pos.line) = true) (ha : m.ar xs.length = true) (hs : mEs M N sc fn es xs = true) (ho : GE M X W k o y) (h : GA M X W k es xs) :
    GE M X W k (.meth m o es) (.Call (.Attribute y m.name p) xs [] pos) := by
  obtain ⟨id, r, slot, ty, mt, rule⟩ := me_all (M := M) (show X.A.units + 1 < cLine by have := g.hr.un; omega) g.st.gds m xs.length ha
  have hn := mEs_len hs
  cases xs with
  | nil =>
    cases es with
    | cons e es => simp [mEs] at hs
    | nil =>
      refine plainT (PE.sub (pe_bm0D (plain_at m) slot ty mt ho.1 (base_ok hb _ X.env) hl) fun σ H Q ⟨ra, ρ, s, e, r1, p⟩ => ?_) (fun _ => rfl)
      simp only [evE] at p
      refine tE_bind e r1 p fun v H1 d s1 rb k1 p1 e1 R1 rv q => ?_
      split at q
      · rename_i hT
        refine ⟨tyD_at g.st.gds R1 rv hT, ?_⟩
        simp only [evEs, R.bind] at q
        exact rule W σ H H1 ra rb s s1 d v [] [] Q R1 rv rfl rfl q
      · exact q.elim
  | cons x xs =>
    cases es with
    | nil => simp [mEs] at hs
    | cons e es =>
      have hs' := hs
      simp only [mEs, Bool.and_eq_true] at hs
      have hst := star_cons (mE_star hs.1) xs X.env
      have hbk := mEs_back pos X.env hs.2
      have hfew : ((backTo pos (starEach (x :: xs) X.env)).all (fun x => !x.1) && (backToKw pos (keywordEach [] X.env)).all (fun x => x.1.isSome)
          && decide ((x :: xs).length + ([] : List Keyword).length + (if ([] : List Keyword).isEmpty then 0 else 1) < 30)) = true := by
        have h2 := ar_le ha
        have h1 := mEs_back pos X.env hs'
        rw [Bool.and_eq_true, Bool.and_eq_true]
        refine ⟨⟨?_, rfl⟩, decide_eq_true (by simp only [List.length_nil, List.isEmpty_nil, if_true]; omega)⟩
        rw [List.all_eq_true]
        rw [List.any_eq_false] at h1
        intro z hz
        have := h1 z hz
        simpa using this
      refine plainT (PE.sub (pe_bmD (plain_at m) slot ty mt ho.1 h (base_ok hb _ X.env) hfew hl hst hbk) fun σ H Q ⟨ra, ρ, s, e0, r1, p⟩ => ?_) (fun _ => rfl)
      simp only [evE] at p
      refine tE_bind e0 r1 p fun v H1 d s1 rb k1 p1 e1 R1 rv q => ?_
      split at q
      · rename_i hT
        refine ⟨tyD_at g.st.gds R1 rv hT, ?_⟩
        refine ⟨rb, ρ, s1, e1, R1, ?_⟩
        cases hx : evEs (M.C k) M.G (e :: es) ρ s1 with
        | ok ds s2 =>
          rw [hx] at q
          simp only [R.bind] at q
          intro vs rc H2 k2 p2 R2 rs
          exact rule W σ H H2 ra rc s s2 d v ds vs Q R2 (RepV.keep k2 p2 d v rv) rs (by rw [evs_len _ _ _ _ _ _ _ hx, hn]) (PostR.mono q k2 p2)
        | exc c w s2 => rw [hx] at q; exact q
        | bad => rw [hx] at q; exact q
      · exact q.elim
theorem s_dnew {pos : Pos} : GE M X W k .dnew (.Dict [] [] pos) := by
  refine plainT (PE.sub pe_dnewK fun σ H Q ⟨ra, ρ, s, e, r, p⟩ => ?_) (fun _ => rfl)
  simp only [evE] at p
  exact PostR.finD (l := []) p r RepM.nil
end
end
end WL
set_option maxHeartbeats 4000000
namespace WL
open PySem PySem.Spec PyProof.Rows L2
variable [TBS]
section
variable {M : Cfg} {N : List Str} {X : Cx} {W : WX} {k : Nat} {sc : Scope} {fn : Str → Bool}
abbrev GG (M : Cfg) (X : Cx) (k : Nat) (t : Tg) (x : Expr) : Prop := PG X x (tG M X (Tg.names t) (asgT (M.C k) M.G t))
abbrev GGs (M : Cfg) (X : Cx) (k : Nat) (ts : List Tg) (xs : List Expr) : Prop := PGs X xs (tGs M X (Tg.namesL ts) (asgTs (M.C k) M.G ts))
theorem PG.or {e : Expr} {t t' : TG} (h : PG X e t) (h' : PG X e t') : PG X e (fun v σ H Q => t v σ H Q ∨ t' v σ H Q) := ⟨fun pins s σ H v u Q I r q => by
  rcases q with q | q
  · exact h.run pins s σ H v u Q I r q
  · exact h'.run pins s σ H v u Q I r q⟩
theorem SameOut.refl {l : List Nat} {σ : L2.St} : SameOut l σ σ := ⟨rfl, fun _ _ => rfl⟩
theorem SameOut.trans {l m : List Nat} {σ σ1 σ2 : L2.St} (h : SameOut l σ σ1) (h' : SameOut m σ1 σ2) : SameOut (l ++ m) σ σ2 :=
  ⟨h'.1.trans h.1, fun j hj => (h'.2 j fun z => hj (List.mem_append_right _ z)).trans (h.2 j fun z => hj (List.mem_append_left _ z))⟩
theorem SameOut.set {σ : L2.St} (i : Nat) (v : Option V) : SameOut [i] σ (σ.set i v) := by
  refine ⟨by simp, fun j hj => ?_⟩
  have : i ≠ j := fun z => hj (by simp [z])
  rw [List.getElem?_set_ne this]
theorem g_nm (g : Good M N X W k sc fn) {i : Nat} {y : Str} {p : Pos} (h1 : N[i]? = some y) (h2 : locB sc fn y = true) : GG M X k (.nm i) (.Name y p) := by
  obtain ⟨l1, l2⟩ := loc_ok h2 g
  refine PG.sub (pg_name (i := i) (by rw [g.eN]; exact g.nd) (by rw [g.eN]; exact h1) l1 l2) fun v σ H Q ⟨ra, ρ, s, d, e, r, rv, p⟩ => ?_
  simp only [asgT, R.quiet] at p
  exact p _ ra H (Keeps.refl H) (List.prefix_refl _) r ⟨e.set i rv, SameOut.set i _⟩
theorem g_nil : GGs M X k [] [] := by
  refine PGs.sub pgs_nil fun vs σ H Q ⟨ra, ρ, s, ds, e, r, rv, p⟩ => ?_
  cases ds with
  | nil =>
    simp only [asgTs, R.quiet] at p
    exact ⟨rv, p _ ra H (Keeps.refl H) (List.prefix_refl _) r ⟨e, SameOut.refl⟩⟩
  | cons d ds =>
    simp only [asgTs, R.quiet] at p
    exact p.elim
theorem quiet_ok {α β : Type} (r : R α) (f : α → Store → R β) : (r.bind f).quiet = (r.quiet.bind fun a s => (f a s).quiet) := by
  cases r <;> rfl
theorem g_cons {t : Tg} {x : Expr} {ts : List Tg} {xs : List Expr} (hs : notStar x = true) (h1 : GG M X k t x) (h2 : GGs M X k ts xs) : GGs M X k (t :: ts) (x :: xs) := by
  refine PGs.sub (pgs_cons h1 h2 (by rw [asg_cons hs]; rfl)) fun vs σ H Q ⟨ra, ρ, s, ds, e, r, rv, p⟩ => ?_
  cases ds with
  | nil => simp only [asgTs, R.quiet] at p; exact p.elim
  | cons d ds =>
    obtain ⟨v, vr, rfl, rd, rds⟩ := rv
    simp only [asgTs] at p
    rw [quiet_ok] at p
    refine ⟨v, vr, rfl, ra, ρ, s, d, e, r, rd, ?_⟩
    refine (PostR.bind (repA := fun H' rb ρ' σ' => ERel X.K H' rb ρ' σ' ∧ SameOut (Tg.names t) σ σ') p).imp fun σ1 H1 ⟨ρ1, s1, r1, k1, p1, R1, ⟨e1, so⟩, q⟩ => ?_
    refine ⟨r1, ρ1, s1, ds, e1, R1, RepL.keep k1 p1 ds vr rds, ?_⟩
    cases hq : (asgTs (M.C k) M.G ts ds ρ1 s1).quiet with
    | ok ρ2 s2 =>
      rw [hq] at q
      exact fun σ2 rb H2 k2 p2 R2 ⟨e2, so2⟩ => q σ2 rb H2 k2 p2 R2 ⟨e2, so.trans so2⟩
    | exc c w s2 => rw [hq] at q; exact fun cls dd rb H2 k2 p2 R2 rx => q cls dd rb H2 k2 p2 R2 rx
    | bad => rw [hq] at q; exact q
theorem g_tup (g : Good M N X W k sc fn) {ts : List Tg} {xs : List Expr} {k1 : Nat} {pos : Pos} (hm : mTgs M N sc fn ts xs = true) (h : GGs M X k ts xs) : GG M X k (.tup ts) (.Tuple xs k1 pos) := by
  obtain ⟨l1, l2⟩ := mTgs_each X.env hm
  refine PG.sub (PG.or (pg_tup g.calm h l1 l2) (pg_unl g.calm h l1 l2)) fun v σ H Q ⟨ra, ρ, s, d, e, r, rv, p⟩ => ?_
  cases d with
  | tup l =>
    simp only [asgT] at p
    split at p
    · rename_i hl
      obtain ⟨a, vs, rfl, sq, rl⟩ := rv
      exact .inl ⟨a, vs, rfl, sq, by rw [RepL.length l vs rl, hl], ra, ρ, s, l, e, r, rl, p⟩
    · exact (show False from p).elim
  | ref n =>
    simp only [asgT] at p
    split at p
    · rename_i l hL
      split at p
      · rename_i hl
        obtain ⟨a, vs, rfl, ea, hv, rl⟩ := ref_lst r rv hL
        exact .inr ⟨a, vs, rfl, SqL.of hv, by rw [RepL.length l vs rl, hl], ra, ρ, s, l, e, r, rl, p⟩
      · exact (show False from p).elim
    · exact (show False from p).elim
  | _ => exact (show False from p).elim
theorem PSet.or {t t' : TSet} (h : PSet X t) (h' : PSet X t') : PSet X (fun o i v H Q => t o i v H Q ∨ t' o i v H Q) := by
  intro pins s σ H o i v ov iv u Q I ro ri rv q
  rcases q with q | q
  · exact h pins s σ H o i v ov iv u Q I ro ri rv q
  · exact h' pins s σ H o i v ov iv u Q I ro ri rv q
theorem g_sub (hu : X.A.units + 1 < cLine) {o i : E} {x y : Expr} {pos : Pos} (hn : notSlice y = true) (ho : GE M X W k o x) (hi : GE M X W k i y) : GG M X k (.sub o i) (.Subscript x y pos) := by
  refine PG.sub (pg_sub ho.1 hi.1 (PSet.or set_list (set_dict hu)) (by intro v; cases y <;> first | rfl | cases hn)) fun v σ H Q ⟨ra, ρ, s, d, e, r, rv, p⟩ => ?_
  simp only [asgT] at p
  cases h1 : evE (M.C k) M.G o ρ s with
  | exc c w s1 => rw [h1] at p; exact (show False from p).elim
  | bad => rw [h1] at p; exact (show False from p).elim
  | ok x1 s1 =>
    rw [h1] at p
    refine ⟨ra, ρ, s, e, r, ?_⟩
    rw [h1]
    intro v1 r1 H1 k1 p1 R1 rv1
    have e1 := e.keep k1 p1
    cases h2 : evE (M.C k) M.G i ρ s1 with
    | exc c w s2 => simp only [R.quiet, R.bind, h2] at p; exact (show False from p).elim
    | bad => simp only [R.quiet, R.bind, h2] at p; exact (show False from p).elim
    | ok x2 s2 =>
      simp only [R.quiet, R.bind, h2] at p
      refine ⟨r1, ρ, s1, e1, R1, ?_⟩
      rw [h2]
      intro v2 r2 H2 k2 p2 R2 rv2
      have kk := k1.trans k2
      have kk2 := kk
      have pp := p1.trans p2
      have rvv := RepV.keep kk pp d v rv
      have rv1' := RepV.keep k2 p2 x1 v1 rv1
      have dct : ∀ (n : Nat) (kd : D), RepV X.K H2 r2 (.ref n) v1 → RepV X.K H2 r2 kd v2 → PostR M X.mg X.K (fun _ _ _ _ => False) σ (fun H' rb ρ' σ' => ERel X.K H' rb ρ' σ' ∧ SameOut (Tg.names (.sub o i)) σ σ') H ra ((setK n kd d s2).bind fun _ s => .ok ρ s).quiet Q → rSetD v1 v2 v H2 (fun H' => Q σ H') := by
        intro n kd rv1 rk p
        unfold setK at p
        cases hl : isDct s2 n with
        | none => rw [hl] at p; exact (show False from p).elim
        | some l =>
          cases hk : keyD kd with
          | none => rw [hl, hk] at p; exact (show False from p).elim
          | some kk =>
            rw [hl, hk] at p
            simp only at p
            by_cases hz : l.length < sizeLine
            · rw [if_pos hz] at p
              obtain ⟨b, kvs, eb, ea, hv, rm⟩ := ref_dct R2 rv1 hl
              obtain ⟨R3, k3⟩ := R2.setD hl ea (rm.put kk rvv)
              refine ⟨b, _, eb, by rw [keyD_kV hk rk]; exact DPut.k hv (by rw [rm.length]; exact hz), ?_⟩
              exact p σ r2 _ (kk2.trans k3) pp R3 ⟨e.keep (kk2.trans k3) pp, SameOut.refl⟩
            · rw [if_neg hz] at p
              exact (show False from p).elim
      cases x1 with
      | ref n =>
        cases x2 with
        | int j =>
          simp only [setD] at p
          cases hl : isLst s2 n with
          | none =>
            rw [hl] at p
            exact .inr (dct n (.int j) rv1' rv2 p)
          | some l =>
            rw [hl] at p
            simp only at p
            cases hm : ixOf l.length j with
            | none => rw [hm] at p; exact (show False from p).elim
            | some m =>
              rw [hm] at p
              obtain ⟨b, vs, eb, ea, hv, rl⟩ := ref_lst R2 rv1' hl
              obtain ⟨R3, k3⟩ := R2.setL hl ea (RepL.set l vs m d v rl rvv)
              refine .inl ⟨b, vs, j, m, eb, rv2, hv, by rw [RepL.length l vs rl]; exact hm, ?_⟩
              exact p σ r2 _ (kk.trans k3) pp R3 ⟨e.keep (kk.trans k3) pp, SameOut.refl⟩
        | _ => exact .inr (dct n _ rv1' rv2 p)
      | _ => cases x2 <;> exact (show False from p).elim
theorem PI.or {tg e : Expr} {t t' : TI} (h : PI X tg e t) (h' : PI X tg e t') : PI X tg e (fun σ H R => t σ H R ∨ t' σ H R) := ⟨fun pins s σ H R I q => by
  rcases q with q | q
  · exact h.run pins s σ H R I q
  · exact h'.run pins s σ H R I q⟩
abbrev GI (M : Cfg) (X : Cx) (W : WX) (k : Nat) (it : It) (t x : Expr) : Prop := PI X t x (tI M X W (evIt (M.C k) M.G it))
theorem pi_any {tg l : Expr} {tl : TE} (hl : PE X l tl) : PI X tg l (fun σ H RR => tl σ H fun x H1 => (∃ a xs, x = .ref a ∧ SqL X.K H1 a xs ∧ RR (Itl X.K a) H1) ∨ ∃ a xs, x = .ref a ∧ SqT X.K H1 a xs ∧ RR (Itt X.K a) H1) := by
  refine ⟨fun pins sh σ H RR I h => thn (hl.run pins sh σ H _ I h) fun v s1 hv => ?_⟩
  obtain ⟨x, H1, I1, rx, q⟩ := hv
  rcases q with ⟨a, xs, ex, sq, q⟩ | ⟨a, xs, ex, sq, q⟩
  · subst ex
    obtain ⟨its, _, pl, _⟩ := I1.list sq
    obtain rfl : v = Value.ref a := rx
    refine wpAny_pyIter_list pl.isList ⟨s1.heap.objs.size, [s1.heap.objs.size], _, _, H1, rfl, I1.kept (t' := s1.toks) fun b o e => Heap.get?_push_of_some _ e, turn_list a _, ⟨_, Heap.get?_push_size _ rfl, rfl, rfl⟩, fun b hb => ?_, q⟩
    rw [List.mem_singleton.mp hb]
    exact I1.fpOk (Nat.le_refl _) (I1.hok.fresh (Nat.le_refl _))
  · subst ex
    obtain ⟨its, _, pl, _⟩ := I1.tuple sq
    obtain rfl : v = Value.ref a := rx
    refine wpAny_pyIter_tuple (items := its.toArray) pl ⟨s1.heap.objs.size, [s1.heap.objs.size], _, _, H1, rfl, I1.kept (t' := s1.toks) fun b o e => Heap.get?_push_of_some _ e, turn_tuple a _, ⟨_, Heap.get?_push_size _ rfl, rfl, rfl⟩, fun b hb => ?_, q⟩
    rw [List.mem_singleton.mp hb]
    exact I1.fpOk (Nat.le_refl _) (I1.hok.fresh (Nat.le_refl _))
theorem stays1 {s : Store} {n : Nat} {l its : List D} (h : (Walk.mk [(n, l)] its).stays s = true) : isLst s n = some l := by
  simpa [Walk.stays] using h
def SrcL (K : PySem.W.Frag) (H : Hp) (ra : List Addr) (a : Addr) (w : Walk) : Prop := ∀ H' rb s', Keeps H H' → ra <+: rb → SRel K H' rb s' → w.stays s' = true → ∃ vs, SqL K H' a vs ∧ RepL K H' rb w.its vs
def SrcT (K : PySem.W.Frag) (H : Hp) (ra : List Addr) (a : Addr) (w : Walk) : Prop := ∀ H' rb s', Keeps H H' → ra <+: rb → SRel K H' rb s' → w.stays s' = true → ∃ vs, SqT K H' a vs ∧ RepL K H' rb w.its vs
theorem walk_src {K : PySem.W.Frag} {H : Hp} {ra : List Addr} {s : Store} {d : D} {v : V} {w : Walk} (R : SRel K H ra s) (rv : RepV K H ra d v) (e : walkOf s d = some w) :
    ∃ a, v = .ref a ∧ (((∃ xs, SqL K H a xs) ∧ SrcL K H ra a w) ∨ ((∃ xs, SqT K H a xs) ∧ SrcT K H ra a w)) := by
  cases d with
  | tup l =>
    cases e
    obtain ⟨a, vs, rfl, sq, r⟩ := rv
    exact ⟨a, rfl, .inr ⟨⟨vs, sq⟩, fun H' rb s' k p _ _ => ⟨vs, sqT_keep sq k, RepL.keep k p l vs r⟩⟩⟩
  | frz l =>
    cases e
    obtain ⟨a, rfl, f⟩ := rv
    exact ⟨a, rfl, .inl ⟨⟨_, f.sq⟩, fun H' rb s' k p _ _ => ⟨_, (f.keep k).sq, RepL.intsF l⟩⟩⟩
  | ref n =>
    simp only [walkOf, Option.map_eq_some_iff] at e
    obtain ⟨l, hl, rfl⟩ := e
    obtain ⟨a, vs, rfl, ea, hv, r⟩ := ref_lst R rv hl
    refine ⟨a, rfl, .inl ⟨⟨vs, SqL.of hv⟩, fun H' rb s' k p R' st => ?_⟩⟩
    obtain ⟨a', vs', ea', hv', r'⟩ := R'.lst (stays1 st)
    rw [pre_get p ea] at ea'
    cases ea'
    exact ⟨vs', SqL.of hv', r'⟩
  | _ => cases e
theorem walk_srcL {K : PySem.W.Frag} {H : Hp} {ra : List Addr} {s : Store} {n : Nat} {v : V} {w : Walk} (R : SRel K H ra s) (rv : RepV K H ra (.ref n) v) (e : walkOf s (.ref n) = some w) : ∃ a xs, v = .ref a ∧ SqL K H a xs ∧ SrcL K H ra a w := by
  obtain ⟨a, rfl, h⟩ := walk_src R rv e
  rcases h with ⟨⟨xs, sq⟩, h⟩ | ⟨⟨xs, sq⟩, _⟩
  · exact ⟨a, xs, rfl, sq, h⟩
  · simp only [walkOf, Option.map_eq_some_iff] at e
    obtain ⟨l, hl, rfl⟩ := e
    obtain ⟨a', vs, ea', ea, hv, r⟩ := ref_lst R rv hl
    cases ea'
    refine ⟨a, vs, rfl, SqL.of hv, fun H' rb s' k p R' st => ?_⟩
    obtain ⟨a2, vs', ea2, hv', r'⟩ := R'.lst (stays1 st)
    rw [pre_get p ea] at ea2
    cases ea2
    exact ⟨vs', SqL.of hv', r'⟩
theorem walk_srcT {K : PySem.W.Frag} {H : Hp} {ra : List Addr} {s : Store} {l : List D} {v : V} {w : Walk} (R : SRel K H ra s) (rv : RepV K H ra (.tup l) v) (e : walkOf s (.tup l) = some w) : ∃ a xs, v = .ref a ∧ SqT K H a xs ∧ SrcT K H ra a w := by
  cases e
  obtain ⟨a, vs, rfl, sq, r⟩ := rv
  exact ⟨a, vs, rfl, sq, fun H' rb s' k p _ _ => ⟨vs, sqT_keep sq k, RepL.keep k p l vs r⟩⟩
theorem walks_l {K : PySem.W.Frag} {H : Hp} {ra : List Addr} {a : Addr} {w : Walk} (h : SrcL K H ra a w) : Walks K H ra w (Itl K a) := by
  intro i H1 rb s1 k p R st
  obtain ⟨vs, sq, r⟩ := h H1 rb s1 k p R st
  refine ⟨fun d hd => ?_, fun hn => ⟨vs, sq, by rw [RepL.length _ _ r]; exact Nat.le_of_eq hn⟩⟩
  obtain ⟨x, hx, rx⟩ := RepL.get _ _ i d r hd
  refine ⟨⟨vs, x, sq, hx⟩, fun y H2 hy => ?_⟩
  obtain ⟨rfl, hy⟩ := hy
  have : x = y := Option.some.inj (hx.symm.trans (hy vs sq))
  subst this
  exact ⟨Keeps.refl _, R, rx⟩
theorem walks_t {K : PySem.W.Frag} {H : Hp} {ra : List Addr} {a : Addr} {w : Walk} (h : SrcT K H ra a w) : Walks K H ra w (Itt K a) := by
  intro i H1 rb s1 k p R st
  obtain ⟨vs, sq, r⟩ := h H1 rb s1 k p R st
  refine ⟨fun d hd => ?_, fun hn => ⟨vs, sq, by rw [RepL.length _ _ r]; exact Nat.le_of_eq hn⟩⟩
  obtain ⟨x, hx, rx⟩ := RepL.get _ _ i d r hd
  refine ⟨⟨vs, x, sq, hx⟩, fun y H2 hy => ?_⟩
  obtain ⟨rfl, hy⟩ := hy
  have : x = y := Option.some.inj (hx.symm.trans (hy vs sq))
  subst this
  exact ⟨Keeps.refl _, R, rx⟩
theorem enm_get {w : Walk} {i : Nat} {d : D} (h : (enmOf w).its[i]? = some d) : ∃ e, w.its[i]? = some e ∧ d = .tup [.int i, e] := by
  simp only [enmOf, List.getElem?_map, Option.map_eq_some_iff, List.getElem?_zipIdx] at h
  obtain ⟨⟨e, j⟩, ⟨e', he, h1⟩, h2⟩ := h
  cases h1
  exact ⟨e, he, by rw [← h2]; simp⟩
theorem enm_len {w : Walk} : (enmOf w).its.length = w.its.length := by simp [enmOf]
theorem rep_pair {K : PySem.W.Frag} {H : Hp} {rb : List Addr} {T : Addr} {d e : D} {x y : V} (hT : H T = none) (r1 : RepV K H rb d x) (r2 : RepV K H rb e y) : RepV K (upd H T (.tup [x, y])) rb (.tup [d, e]) (.ref T) := by
  have k : Keeps H (upd H T (.tup [x, y])) := Keeps.new hT
  exact ⟨T, [x, y], rfl, .inl (.inl upd_same), x, [y], rfl, RepV.keep k (List.prefix_refl _) d x r1, y, [], rfl, RepV.keep k (List.prefix_refl _) e y r2, rfl⟩
theorem walks_el {K : PySem.W.Frag} {H : Hp} {ra : List Addr} {a : Addr} {w : Walk} (h : SrcL K H ra a w) : Walks K H ra (enmOf w) (Ite K a) := by
  intro i H1 rb s1 k p R st
  obtain ⟨vs, sq, r⟩ := h H1 rb s1 k p R st
  refine ⟨fun d hd => ?_, fun hn => ⟨vs, sq, by rw [RepL.length _ _ r, ← enm_len]; exact Nat.le_of_eq hn⟩⟩
  obtain ⟨e, he, rfl⟩ := enm_get hd
  obtain ⟨x, hx, rx⟩ := RepL.get _ _ i e r he
  refine ⟨⟨vs, x, sq, hx⟩, fun y H2 hy => ?_⟩
  obtain ⟨T, x', rfl, hT, rfl, hy⟩ := hy
  have : x = x' := Option.some.inj (hx.symm.trans (hy vs sq))
  subst this
  exact ⟨Keeps.new hT, R.aside hT, rep_pair hT rfl rx⟩
theorem walks_et {K : PySem.W.Frag} {H : Hp} {ra : List Addr} {a : Addr} {w : Walk} (h : SrcT K H ra a w) : Walks K H ra (enmOf w) (IteT K a) := by
  intro i H1 rb s1 k p R st
  obtain ⟨vs, sq, r⟩ := h H1 rb s1 k p R st
  refine ⟨fun d hd => ?_, fun hn => ⟨vs, sq, by rw [RepL.length _ _ r, ← enm_len]; exact Nat.le_of_eq hn⟩⟩
  obtain ⟨e, he, rfl⟩ := enm_get hd
  obtain ⟨x, hx, rx⟩ := RepL.get _ _ i e r he
  refine ⟨⟨vs, x, sq, hx⟩, fun y H2 hy => ?_⟩
  obtain ⟨T, x', rfl, hT, rfl, hy⟩ := hy
  have : x = x' := Option.some.inj (hx.symm.trans (hy vs sq))
  subst this
  exact ⟨Keeps.new hT, R.aside hT, rep_pair hT rfl rx⟩
theorem zip_get {w u : Walk} {i : Nat} {d : D} (h : (zipOf w u).its[i]? = some d) : ∃ e f, w.its[i]? = some e ∧ u.its[i]? = some f ∧ d = .tup [e, f] := by
  simp only [zipOf, List.getElem?_map, Option.map_eq_some_iff] at h
  obtain ⟨⟨e, f⟩, h1, h2⟩ := h
  rw [List.getElem?_zip_eq_some] at h1
  exact ⟨e, f, h1.1, h1.2, h2.symm⟩
theorem zip_len {w u : Walk} : (zipOf w u).its.length = min w.its.length u.its.length := by simp [zipOf]
theorem zip_stays {w u : Walk} {s : Store} (h : (zipOf w u).stays s = true) : w.stays s = true ∧ u.stays s = true := by
  simpa [zipOf, Walk.stays, List.all_append] using h
theorem walks_zl {K : PySem.W.Frag} {H : Hp} {ra : List Addr} {a b : Addr} {w u : Walk} (h : SrcL K H ra a w) (h' : SrcL K H ra b u) : Walks K H ra (zipOf w u) (Itz K a b) := by
  intro i H1 rb s1 k p R st
  obtain ⟨st1, st2⟩ := zip_stays st
  obtain ⟨vs, sq, r⟩ := h H1 rb s1 k p R st1
  obtain ⟨us, sq', r'⟩ := h' H1 rb s1 k p R st2
  refine ⟨fun d hd => ?_, fun hn => ⟨vs, us, sq, sq', ?_⟩⟩
  · obtain ⟨e, f, he, hf, rfl⟩ := zip_get hd
    obtain ⟨x, hx, rx⟩ := RepL.get _ _ i e r he
    obtain ⟨y, hy, ry⟩ := RepL.get _ _ i f r' hf
    refine ⟨⟨vs, us, x, y, sq, sq', hx, hy⟩, fun z H2 hz => ?_⟩
    obtain ⟨T, x', y', rfl, hT, rfl, hz1, hz2⟩ := hz
    have e1 : x = x' := Option.some.inj (hx.symm.trans (hz1 vs sq))
    have e2 : y = y' := Option.some.inj (hy.symm.trans (hz2 us sq'))
    subst e1 e2
    exact ⟨Keeps.new hT, R.aside hT, rep_pair hT rx ry⟩
  · rw [zip_len] at hn
    rw [RepL.length _ _ r, RepL.length _ _ r']
    omega
theorem walks_zt {K : PySem.W.Frag} {H : Hp} {ra : List Addr} {a b : Addr} {w u : Walk} (h : SrcT K H ra a w) (h' : SrcT K H ra b u) : Walks K H ra (zipOf w u) (RZ.ItzT K a b) := by
  intro i H1 rb s1 k p R st
  obtain ⟨st1, st2⟩ := zip_stays st
  obtain ⟨vs, sq, r⟩ := h H1 rb s1 k p R st1
  obtain ⟨us, sq', r'⟩ := h' H1 rb s1 k p R st2
  refine ⟨fun d hd => ?_, fun hn => ⟨vs, us, sq, sq', ?_⟩⟩
  · obtain ⟨e, f, he, hf, rfl⟩ := zip_get hd
    obtain ⟨x, hx, rx⟩ := RepL.get _ _ i e r he
    obtain ⟨y, hy, ry⟩ := RepL.get _ _ i f r' hf
    refine ⟨⟨vs, us, x, y, sq, sq', hx, hy⟩, fun z H2 hz => ?_⟩
    obtain ⟨T, x', y', rfl, hT, rfl, hz1, hz2⟩ := hz
    have e1 : x = x' := Option.some.inj (hx.symm.trans (hz1 vs sq))
    have e2 : y = y' := Option.some.inj (hy.symm.trans (hz2 us sq'))
    subst e1 e2
    exact ⟨Keeps.new hT, R.aside hT, rep_pair hT rx ry⟩
  · rw [zip_len] at hn
    rw [RepL.length _ _ r, RepL.length _ _ r']
    omega
theorem walks_zm {K : PySem.W.Frag} {H : Hp} {ra : List Addr} {a b : Addr} {w u : Walk} (h : SrcL K H ra a w) (h' : SrcT K H ra b u) : Walks K H ra (zipOf w u) (ItzM K a b) := by
  intro i H1 rb s1 k p R st
  obtain ⟨st1, st2⟩ := zip_stays st
  obtain ⟨vs, sq, r⟩ := h H1 rb s1 k p R st1
  obtain ⟨us, sq', r'⟩ := h' H1 rb s1 k p R st2
  refine ⟨fun d hd => ?_, fun hn => ⟨vs, us, sq, sq', ?_⟩⟩
  · obtain ⟨e, f, he, hf, rfl⟩ := zip_get hd
    obtain ⟨x, hx, rx⟩ := RepL.get _ _ i e r he
    obtain ⟨y, hy, ry⟩ := RepL.get _ _ i f r' hf
    refine ⟨⟨vs, us, x, y, sq, sq', hx, hy⟩, fun z H2 hz => ?_⟩
    obtain ⟨T, x', y', rfl, hT, rfl, hz1, hz2⟩ := hz
    have e1 : x = x' := Option.some.inj (hx.symm.trans (hz1 vs sq))
    have e2 : y = y' := Option.some.inj (hy.symm.trans (hz2 us sq'))
    subst e1 e2
    exact ⟨Keeps.new hT, R.aside hT, rep_pair hT rx ry⟩
  · rw [zip_len] at hn
    rw [RepL.length _ _ r, RepL.length _ _ r']
    omega
theorem walks_r {K : PySem.W.Frag} {H : Hp} {ra : List Addr} (a b : Int) : Walks K H ra ⟨[], rngL a b⟩ (Itr a (b - a).toNat) := by
  intro i H1 rb s1 k p R st
  refine ⟨fun d hd => ?_, fun hn => by rw [← rngL_length a b]; exact Nat.le_of_eq hn⟩
  have hi : i < (b - a).toNat := by
    rw [← rngL_length a b]
    exact (List.getElem?_eq_some_iff.mp hd).1
  have e : d = .int (a + i) := by
    simp only [rngL, List.getElem?_map, Option.map_eq_some_iff, List.getElem?_range hi] at hd
    obtain ⟨j, hj, rfl⟩ := hd
    cases hj
    rfl
  subst e
  refine ⟨hi, fun x H2 hx => ?_⟩
  obtain ⟨rfl, rfl⟩ := hx
  exact ⟨Keeps.refl _, R, rfl⟩
theorem walks_r3 {K : PySem.W.Frag} {H : Hp} {ra : List Addr} (a b : Int) : Walks K H ra ⟨[], (List.range (a - b).toNat).map fun (i : Nat) => .int (a - i)⟩ (Itc a (-1) (a - b).toNat) := by
  intro i H1 rb s1 k p R st
  have hl : ((List.range (a - b).toNat).map fun (i : Nat) => D.int (a - i)).length = (a - b).toNat := by rw [List.length_map, List.length_range]
  refine ⟨fun d hd => ?_, fun hn => by rw [← hl]; exact Nat.le_of_eq hn⟩
  have hi : i < (a - b).toNat := by
    rw [← hl]
    exact (List.getElem?_eq_some_iff.mp hd).1
  have e : d = .int (a - i) := by
    simp only [List.getElem?_map, Option.map_eq_some_iff, List.getElem?_range hi] at hd
    obtain ⟨j, hj, rfl⟩ := hd
    cases hj
    rfl
  subst e
  refine ⟨hi, fun x H2 hx => ?_⟩
  obtain ⟨rfl, rfl⟩ := hx
  exact ⟨Keeps.refl _, R, show V.int _ = V.int _ by congr 1; omega⟩
theorem pi_anyS {tg l : Expr} {tl : TE} (hl : PE X l tl) : PI X tg l (fun σ H RR => tl σ H fun x H1 => ((∃ a xs, x = .ref a ∧ SqL X.K H1 a xs ∧ RR (Itl X.K a) H1) ∨ ∃ a xs, x = .ref a ∧ SqT X.K H1 a xs ∧ RR (Itt X.K a) H1) ∨ ∃ z, x = .str z ∧ RR (Its z) H1) := by
  refine ⟨fun pins sh σ H RR I h => thn (hl.run pins sh σ H _ I h) fun v s1 hv => ?_⟩
  obtain ⟨x, H1, I1, rx, q⟩ := hv
  rcases q with (⟨a, xs, ex, sq, q⟩ | ⟨a, xs, ex, sq, q⟩) | ⟨z, ex, q⟩
  · subst ex
    obtain ⟨its, _, pl, _⟩ := I1.list sq
    obtain rfl : v = Value.ref a := rx
    refine wpAny_pyIter_list pl.isList ⟨s1.heap.objs.size, [s1.heap.objs.size], _, _, H1, rfl, I1.kept (t' := s1.toks) fun b o e => Heap.get?_push_of_some _ e, turn_list a _, ⟨_, Heap.get?_push_size _ rfl, rfl, rfl⟩, fun b hb => ?_, q⟩
    rw [List.mem_singleton.mp hb]
    exact I1.fpOk (Nat.le_refl _) (I1.hok.fresh (Nat.le_refl _))
  · subst ex
    obtain ⟨its, _, pl, _⟩ := I1.tuple sq
    obtain rfl : v = Value.ref a := rx
    refine wpAny_pyIter_tuple (items := its.toArray) pl ⟨s1.heap.objs.size, [s1.heap.objs.size], _, _, H1, rfl, I1.kept (t' := s1.toks) fun b o e => Heap.get?_push_of_some _ e, turn_tuple a _, ⟨_, Heap.get?_push_size _ rfl, rfl, rfl⟩, fun b hb => ?_, q⟩
    rw [List.mem_singleton.mp hb]
    exact I1.fpOk (Nat.le_refl _) (I1.hok.fresh (Nat.le_refl _))
  · subst ex
    obtain ⟨t, rfl⟩ := rx
    cases ha : z.cps.all (· < 128)
    · exact wpAny_pyIter_wide ha (pi_one (tk := s1.toks) I1 _ (turn_str _ z t "str_iterator" (.inr rfl)) ⟨_, Heap.get?_push_size _ rfl, rfl, rfl⟩ q)
    · exact wpAny_pyIter_ascii ha (pi_one (tk := s1.toks) I1 _ (turn_str _ z t "str_ascii_iterator" (.inl rfl)) ⟨_, Heap.get?_push_size _ rfl, rfl, rfl⟩ q)
theorem walks_s {K : PySem.W.Frag} {H : Hp} {ra : List Addr} (x : Str) : Walks K H ra ⟨[], x.cps.toList.map fun c => .str ⟨#[c]⟩⟩ (Its x) := by
  intro i H1 rb s1 k p R st
  refine ⟨fun d hd => ?_, fun hn => ?_⟩
  · simp only [List.getElem?_map, Option.map_eq_some_iff] at hd
    obtain ⟨c, hc, rfl⟩ := hd
    have hc : x.cps[i]? = some c := by rw [← Array.getElem?_toList]; exact hc
    refine ⟨(Array.getElem?_eq_some_iff.mp hc).1, fun y H2 hy => ?_⟩
    obtain ⟨rfl, c', hc', rfl⟩ := hy
    rw [hc] at hc'
    cases hc'
    exact ⟨Keeps.refl _, R, rfl⟩
  · simp only [List.length_map, Array.length_toList] at hn
    exact Nat.le_of_eq hn
theorem i_val {e : E} {t x : Expr} (h : GE M X W k e x) : GI M X W k (.val e) t x := by
  refine PI.sub (pi_anyS h.1) fun σ H Q ⟨ra, ρ, s, e1, r, p⟩ => ?_
  simp only [evIt] at p
  refine tE_bind e1 r p fun v H1 d s1 r1 k1 p1 e1 R1 rv q => ?_
  have txt : ∀ z, d = .str z → ((∃ a xs, v = .ref a ∧ SqL X.K H1 a xs ∧ Q (Itl X.K a) H1) ∨ ∃ a xs, v = .ref a ∧ SqT X.K H1 a xs ∧ Q (Itt X.K a) H1) ∨ ∃ z, v = .str z ∧ Q (Its z) H1 := fun z ez => by
    subst ez
    exact .inr ⟨z, rv, q.fin R1 (walks_s z)⟩
  by_cases hz : ∃ z, d = .str z
  · obtain ⟨z, ez⟩ := hz
    exact txt z ez
  have ew : walkS s1 d = walkOf s1 d := by
    cases d with
    | str z => exact (hz ⟨z, rfl⟩).elim
    | _ => rfl
  rw [ew] at q
  refine .inl ?_
  cases hw : walkOf s1 d with
  | none => rw [hw] at q; exact q.elim
  | some w =>
    rw [hw] at q
    obtain ⟨a, rfl, h⟩ := walk_src R1 rv hw
    rcases h with ⟨⟨xs, sq⟩, h⟩ | ⟨⟨xs, sq⟩, h⟩
    · exact .inl ⟨a, xs, rfl, sq, q.fin R1 (walks_l h)⟩
    · exact .inr ⟨a, xs, rfl, sq, q.fin R1 (walks_t h)⟩
theorem walks_es {K : PySem.W.Frag} {H : Hp} {ra : List Addr} (x : Str) : Walks K H ra (enmOf ⟨[], x.cps.toList.map fun c => .str ⟨#[c]⟩⟩) (IteS x) := by
  intro i H1 rb s1 k p R st
  refine ⟨fun d hd => ?_, fun hn => ?_⟩
  · obtain ⟨e, he, rfl⟩ := enm_get hd
    simp only [List.getElem?_map, Option.map_eq_some_iff] at he
    obtain ⟨c, hc, rfl⟩ := he
    have hc : x.cps[i]? = some c := by rw [← Array.getElem?_toList]; exact hc
    refine ⟨(Array.getElem?_eq_some_iff.mp hc).1, fun y H2 hy => ?_⟩
    obtain ⟨T, c', rfl, hT, rfl, hc'⟩ := hy
    rw [hc] at hc'
    cases hc'
    exact ⟨Keeps.new hT, R.aside hT, rep_pair hT rfl rfl⟩
  · have hl := enm_len (w := ⟨[], x.cps.toList.map fun c => D.str ⟨#[c]⟩⟩)
    rw [hl] at hn
    simp only [List.length_map, Array.length_toList] at hn
    exact Nat.le_of_eq hn
theorem i_enm (g : Good M N X W k sc fn) {e : E} {x : Expr} {ts : List Expr} {k1 : Nat} {tp p pos : Pos} (hg : glB sc "enumerate" = true) (hs : notStar x = true) (h : GE M X W k e x) :
    GI M X W k (.enm e) (.Tuple ts k1 tp) (.Call (.Name "enumerate" p) [x] [] pos) := by
  have hm : X.mg "enumerate" = none := g.blt (by simp [bltNames])
  refine PI.sub (pi_enumA (gl_ok hg g) hm (pa_cons h.1 pa_nil (star_cons hs [] X.env)) (star_cons hs [] X.env)) fun σ H Q ⟨ra, ρ, s, e1, r, p⟩ => ?_
  simp only [evIt] at p
  refine tE_bind e1 r p fun v H1 d s1 r1 k1 p1 e1 R1 rv q => ?_
  by_cases hz : ∃ z, d = .str z
  · obtain ⟨z, ez⟩ := hz
    subst ez
    exact .inr ⟨z, by rw [show v = .str z from rv], q.fin R1 (walks_es z)⟩
  have ew : walkS s1 d = walkOf s1 d := by
    cases d with
    | str z => exact (hz ⟨z, rfl⟩).elim
    | _ => rfl
  rw [ew] at q
  refine .inl ?_
  cases hw : walkOf s1 d with
  | none => rw [hw] at q; exact q.elim
  | some w =>
    rw [hw] at q
    obtain ⟨a, rfl, h⟩ := walk_src R1 rv hw
    rcases h with ⟨⟨xs, sq⟩, h⟩ | ⟨⟨xs, sq⟩, h⟩
    · exact ⟨a, xs, rfl, .inl ⟨sq, q.fin R1 (walks_el h)⟩⟩
    · exact ⟨a, xs, rfl, .inr ⟨sq, q.fin R1 (walks_et h)⟩⟩
theorem evEs_len (C : Calls) (G : Globs) : ∀ (es : List E) (ρ : Env) (s s1 : Store) (ds : List D), evEs C G es ρ s = .ok ds s1 → ds.length = es.length
  | [], ρ, s, s1, ds, h => by simp only [evEs] at h; cases h; rfl
  | e :: es, ρ, s, s1, ds, h => by
    simp only [evEs] at h
    cases h1 : evE C G e ρ s with
    | ok d s2 =>
      rw [h1] at h
      simp only [R.bind] at h
      cases h2 : evEs C G es ρ s2 with
      | ok ds' s3 =>
        rw [h2] at h
        cases h
        rw [List.length_cons, List.length_cons, evEs_len C G es ρ s2 _ ds' h2]
      | exc c w s3 => rw [h2] at h; cases h
      | bad => rw [h2] at h; cases h
    | exc c w s2 => rw [h1] at h; cases h
    | bad => rw [h1] at h; cases h
theorem rng_key {es : List E} {σ : L2.St} {H : Hp} {Q : L2.It → Hp → Prop} (h : tI M X W (evIt (M.C k) M.G (.rng es)) σ H Q) :
    tA M X W (evEs (M.C k) M.G es) σ H fun vs H1 => ∃ ra s ds l, ds.length = es.length ∧ SRel X.K H1 ra s ∧ RepL X.K H1 ra ds vs ∧ rngD ds = some l ∧ PostR M X.mg X.K W σ (Walks X.K) H1 ra (.ok ⟨[], l⟩ s) Q := by
  obtain ⟨ra, ρ, s, e1, r, p⟩ := h
  simp only [evIt] at p
  refine ⟨ra, ρ, s, e1, r, ?_⟩
  cases hx : evEs (M.C k) M.G es ρ s with
  | ok ds s1 =>
    rw [hx] at p
    simp only [R.bind] at p
    intro vs rb H1 k1 p1 R1 rv
    cases hw : rngD ds with
    | none => rw [hw] at p; exact p.elim
    | some l =>
      rw [hw] at p
      show ∃ (ra : List Addr) (s : Store) (ds : List D) (l : List D), _
      exact ⟨rb, s1, ds, l, evEs_len _ _ _ _ _ _ _ hx, R1, rv, hw, PostR.mono (r := WL.R.ok (WL.Walk.mk [] l) s1) p k1 p1⟩
  | exc c w s1 => rw [hx] at p; exact p
  | bad => rw [hx] at p; exact p
theorem i_rng (g : Good M N X W k sc fn) {es : List E} {xs : List Expr} {t : Expr} {p pos : Pos} (hg : glB sc "range" = true) (h : GEs M X W k es xs) (hl : xs.length = 1 ∨ xs.length = 2 ∨ xs.length = 3) : GI M X W k (.rng es) t (.Call (.Name "range" p) xs [] pos) := by
  have hm : X.mg "range" = none := g.blt (by simp [bltNames])
  match es, xs, h, hl with
  | [a], [x], h, _ =>
    refine PI.sub (pi_range1 (gl_ok hg g) hm h.ga (star_cons h.2.1 [] X.env)) fun σ H Q tt => ?_
    obtain ⟨ra, ρ, s, e1, r1, pp⟩ := rng_key tt
    refine ⟨ra, ρ, s, e1, r1, pp.imp fun vs H1 ⟨rb, s1, ds, l, hlen, R1, rv, hl, q⟩ => ?_⟩
    match ds, hlen, hl, rv with
    | [d], _, hl, rv =>
      obtain ⟨v, rfl, rv1⟩ := one_of rv
      cases d with
      | int b =>
        simp only [rngD] at hl
        split at hl
        · rename_i hs
          cases hl
          obtain ⟨b1, b2⟩ := small_ok hs
          have q2 := q.fin R1 (walks_r 0 b)
          rw [Int.sub_zero] at q2
          exact ⟨b, by rw [show v = .int b from rv1], b1, b2, q2⟩
        · cases hl
      | _ => cases hl
  | [a, b], [x, y], h, _ =>
    refine PI.sub (pi_range2 (gl_ok hg g) hm h.ga (by rw [star_cons h.2.1, star_cons h.2.2.2.1]; rfl) (star_cons h.2.2.2.1 [] X.env)) fun σ H Q tt => ?_
    obtain ⟨ra, ρ, s, e1, r1, pp⟩ := rng_key tt
    refine ⟨ra, ρ, s, e1, r1, pp.imp fun vs H1 ⟨rb, s1, ds, l, hlen, R1, rv, hl, q⟩ => ?_⟩
    match ds, hlen, hl, rv with
    | [d, d2], _, hl, rv =>
      obtain ⟨v, u, rfl, rv1, rv2⟩ := two_of rv
      cases d with
      | int i =>
        cases d2 with
        | int j =>
          simp only [rngD] at hl
          split at hl
          · rename_i hs
            cases hl
            rw [Bool.and_eq_true] at hs
            obtain ⟨b1, b2⟩ := small_ok hs.1
            obtain ⟨b3, b4⟩ := small_ok hs.2
            exact ⟨i, j, by rw [show v = .int i from rv1, show u = .int j from rv2], ⟨b1, b2, b3, b4⟩, q.fin R1 (walks_r i j)⟩
          · cases hl
        | _ => cases hl
      | _ => cases d2 <;> cases hl
  | [a, b, c], [x, y, z], h, _ =>
    refine PI.sub (pi_range3 (gl_ok hg g) hm h.ga (star_cons h.2.1 _ X.env) (by rw [star_cons h.2.2.2.1, star_cons h.2.2.2.2.2.1]; rfl)) fun σ H Q tt => ?_
    obtain ⟨ra, ρ, s, e1, r1, pp⟩ := rng_key tt
    refine ⟨ra, ρ, s, e1, r1, pp.imp fun vs H1 ⟨rb, s1, ds, l, hlen, R1, rv, hl, q⟩ => ?_⟩
    match ds, hlen, hl, rv with
    | [d, d2, d3], _, hl, rv =>
      obtain ⟨v, r, rfl, rv1, rr⟩ := rv
      obtain ⟨u, w, rfl, rv2, rv3⟩ := two_of rr
      cases d with
      | int i =>
        cases d2 with
        | int j =>
          cases d3 with
          | int c =>
            simp only [rngD] at hl
            split at hl
            · rename_i hs
              cases hl
              rw [Bool.and_eq_true, Bool.and_eq_true] at hs
              obtain ⟨b1, b2⟩ := small_ok hs.1.1
              obtain ⟨b3, b4⟩ := small_ok hs.1.2
              have hc : c = -1 := of_decide_eq_true hs.2
              subst hc
              exact ⟨i, j, -1, (i - j).toNat, by rw [show v = .int i from rv1, show u = .int j from rv2, show w = .int (-1) from rv3], RgC.neg b1 b2 b3 b4, q.fin R1 (walks_r3 i j)⟩
            · cases hl
          | _ => cases hl
        | _ => cases d3 <;> cases hl
      | _ => cases d2 <;> cases d3 <;> cases hl
  | [], [], _, hl => simp at hl
  | _ :: _ :: _ :: _ :: _, _ :: _ :: _ :: _ :: _, _, hl => simp at hl
  | [], _ :: _, h, _ => exact h.elim
  | _ :: _, [], h, _ => exact h.elim
  | [_], _ :: _ :: _, h, _ => exact h.2.2.elim
  | _ :: _ :: _, [_], h, _ => exact h.2.2.elim
  | [_, _], _ :: _ :: _ :: _, h, _ => exact h.2.2.2.2.elim
  | _ :: _ :: _ :: _, [_, _], h, _ => exact h.2.2.2.2.elim
  | [_, _, _], _ :: _ :: _ :: _ :: _, h, _ => exact h.2.2.2.2.2.2.elim
  | _ :: _ :: _ :: _ :: _, [_, _, _], h, _ => exact h.2.2.2.2.2.2.elim
theorem i_zip (g : Good M N X W k sc fn) {a b : E} {x y : Expr} {ts : List Expr} {k1 : Nat} {tp p pos : Pos} (hg : glB sc "zip" = true) (hs : notStar x = true) (hs2 : notStar y = true) (ha : GE M X W k a x) (hb : GE M X W k b y) :
    GI M X W k (.zip a b) (.Tuple ts k1 tp) (.Call (.Name "zip" p) [x, y] [] pos) := by
  have hm : X.mg "zip" = none := g.blt (by simp [bltNames])
  refine PI.sub (pi_zipM (gl_ok hg g) hm (pa_cons ha.1 (pa_cons hb.1 pa_nil (star_cons hs2 [] X.env)) (star_cons hs _ X.env)) (star_cons hs _ X.env) (by rw [star_cons hs2]; rfl)) fun σ H Q ⟨ra, ρ, s, e1, r, p⟩ => ?_
  simp only [evIt] at p
  refine tE_bind e1 r p fun v H1 d s1 r1 k1 p1 e1 R1 rv q => ?_
  refine tE_bind e1 R1 q fun u H2 d2 s2 r2 k2 p2 e2 R2 ru q2 => ?_
  have rv2 := RepV.keep k2 p2 d v rv
  split at q2
  · rename_i hk
    cases hw : walkOf s2 d with
    | none => rw [hw] at q2; exact q2.elim
    | some w =>
      rw [hw] at q2
      cases hw2 : walkOf s2 d2 with
      | none => rw [hw2] at q2; exact q2.elim
      | some w2 =>
        rw [hw2] at q2
        cases d with
        | ref n =>
          cases d2 with
          | ref m =>
            obtain ⟨b1, xs, rfl, sq, h1⟩ := walk_srcL R2 rv2 hw
            obtain ⟨b2, ys, rfl, sq2, h2⟩ := walk_srcL R2 ru hw2
            exact ⟨b1, b2, xs, ys, rfl, .inl ⟨sq, sq2, q2.fin R2 (walks_zl h1 h2)⟩⟩
          | tup m =>
            obtain ⟨b1, xs, rfl, sq, h1⟩ := walk_srcL R2 rv2 hw
            obtain ⟨b2, ys, rfl, sq2, h2⟩ := walk_srcT R2 ru hw2
            exact ⟨b1, b2, xs, ys, rfl, .inr (.inr ⟨sq, sq2, q2.fin R2 (walks_zm h1 h2)⟩)⟩
          | _ => cases hk
        | tup l =>
          cases d2 with
          | tup m =>
            obtain ⟨b1, xs, rfl, sq, h1⟩ := walk_srcT R2 rv2 hw
            obtain ⟨b2, ys, rfl, sq2, h2⟩ := walk_srcT R2 ru hw2
            exact ⟨b1, b2, xs, ys, rfl, .inr (.inl ⟨sq, sq2, q2.fin R2 (walks_zt h1 h2)⟩)⟩
          | _ => cases hk
        | _ => cases d2 <;> cases hk
  · exact q2.elim
theorem wipe_get {σ : L2.St} {j : Nat} : ∀ {vs : List Nat}, j ∈ vs → j < σ.length → (L2.wipe σ vs)[j]? = some none
  | [], h, _ => nomatch h
  | v :: vs, h, hl => by
    unfold L2.wipe
    by_cases e : v = j
    · subst e
      rw [List.getElem?_set_self (by rw [L2.wipe_length]; exact hl)]
    · rw [List.getElem?_set_ne e]
      rcases List.mem_cons.mp h with z | z
      · exact absurd z.symm e
      · exact wipe_get z hl
theorem wipe_other {σ : L2.St} {j : Nat} : ∀ {vs : List Nat}, j ∉ vs → (L2.wipe σ vs)[j]? = σ[j]?
  | [], _ => rfl
  | v :: vs, h => by
    unfold L2.wipe
    have h1 : v ≠ j := fun z => h (by simp [z])
    have h2 : j ∉ vs := fun z => h (List.mem_cons_of_mem _ z)
    rw [List.getElem?_set_ne h1]
    exact wipe_other h2
theorem wipe_same {σ σ2 : L2.St} {l vs : List Nat} (h : SameOut l (L2.wipe σ vs) σ2) (hl : ∀ j ∈ l, j ∈ vs) : L2.wipe σ2 vs = L2.wipe σ vs := by
  apply List.ext_getElem?
  intro j
  have e1 : σ2.length = σ.length := by rw [h.1, L2.wipe_length]
  by_cases hj : j ∈ vs
  · by_cases hlt : j < σ.length
    · rw [wipe_get hj (by rw [e1]; exact hlt), wipe_get hj hlt]
    · rw [List.getElem?_eq_none (by rw [L2.wipe_length, e1]; omega), List.getElem?_eq_none (by rw [L2.wipe_length]; omega)]
  · rw [wipe_other hj, wipe_other hj, h.2 j fun z => hj (hl j z), wipe_other hj]
abbrev Wf : WX := fun _ _ _ _ => False
theorem own_snd (N : List Str) (own : List Nat) : (own.map fun j => (N.getD j (default : Str), j)).map (·.2) = own := by
  rw [List.map_map]
  exact List.map_id own
def lcF (C : Calls) (G : Globs) (elt : E) (tg : Tg) (ifs : List E) (own : List Nat) (ρ : Env) (x : D) (s : Store) : R (Option D) :=
  (asgT C G tg x (wipeE ρ own) s).bind fun ρ1 s => match ifs with
    | [] => (evE C G elt ρ1 s).bind fun d s1 => .ok (some d) (trunc s d s1)
    | c :: _ => (evT C G c ρ1 s).bind fun b s1 => match b with
      | true => (evE C G elt ρ1 (trunc s .non s1)).bind fun d s2 => .ok (some d) (trunc (trunc s .non s1) d s2)
      | false => .ok none (trunc s .non s1)
theorem evE_lc (C : Calls) (G : Globs) (elt : E) (tg : Tg) (it : It) (ifs : List E) (own : List Nat) (ρ : Env) (s : Store) :
    evE C G (.lc elt tg it ifs own) ρ s = (evIt C G it ρ s).bind fun w s => lcGo w s.length (lcF C G elt tg ifs own ρ) w.its (s ++ [.lst []]) := by
  simp only [evE]
  congr 1
  funext w s1
  congr 1
  funext x s2
  unfold lcF
  congr 1
  funext ρ1 s3
  cases ifs with
  | nil => rfl
  | cons c cs =>
    simp only
    rw [← evT_bind]
    congr 1
    funext d s4
    cases truth s4 d with
    | none => rfl
    | some b => cases b <;> rfl
def tIfs (M : Cfg) (X : Cx) (k : Nat) : List E → TT
  | [] => tYes
  | c :: _ => tT M X Wf (evT (M.C k) M.G c)
theorem s_lc (g : Good M N X W k sc fn) {elt : E} {tg : Tg} {it : It} {ifs : List E} {own : List Nat} {x t i : Expr} {cs : List Expr} {scope : Scope}
    (ht : ∀ j ∈ Tg.names tg, j ∈ own) {σ : L2.St} {H : Hp} {Q : VK} (h : tE M X W (evE (M.C k) M.G (.lc elt tg it ifs own)) σ H Q) :
    tLc (tI M X W (evIt (M.C k) M.G it)) (tG M X (Tg.names tg) (asgT (M.C k) M.G tg)) (tIfs M X k ifs) (tE M X Wf (evE (M.C k) M.G elt)) own σ H Q := by
  obtain ⟨ra, ρ, s, e, r, p⟩ := h
  rw [evE_lc] at p
  refine ⟨ra, ρ, s, e, r, (PostR.bind (repA := Walks X.K) p).imp fun J H1 ⟨w, s1, r1, k1, p1, R1, hw, q⟩ D hD => ?_⟩
  have kD : Keeps H1 (upd H1 D (.lst [])) := Keeps.new hD
  have pD : r1 <+: r1 ++ [D] := List.prefix_append _ _
  have RD : SRel X.K (upd H1 D (.lst [])) (r1 ++ [D]) (s1 ++ [.lst []]) := R1.newL (vs := []) hD rfl
  have hDn : (r1 ++ [D])[s1.length]? = some D := by
    rw [← R1.len, List.getElem?_append_right (Nat.le_refl _)]
    simp
  refine ⟨fun i m Hc => m = w.its.length - i ∧ i ≤ w.its.length ∧ ∃ rc sc_, Keeps (upd H1 D (.lst [])) Hc ∧ r1 ++ [D] <+: rc ∧ SRel X.K Hc rc sc_ ∧
      PostR M X.mg X.K W σ (RepV X.K) Hc rc (lcGo w s1.length (lcF (M.C k) M.G elt tg ifs own ρ) (w.its.drop i) sc_) Q, ⟨w.its.length, rfl, Nat.zero_le _, r1 ++ [D], _, Keeps.refl _, List.prefix_refl _, RD, q.mono kD pD⟩, ?_⟩
  rintro i m Hc ⟨rfl, hi, rc, sc_, kc, pc, Rc, q⟩
  have W1 := hw i Hc rc sc_ (kD.trans kc) (pD.trans pc) Rc
  have hDc : rc[s1.length]? = some D := pre_get pc hDn
  by_cases hlt : i < w.its.length
  · have hd : w.its[i]? = some w.its[i] := List.getElem?_eq_getElem hlt
    rw [List.drop_eq_getElem_cons hlt] at q
    unfold lcGo at q
    split at q
    · rename_i st
      obtain ⟨go, yld⟩ := (W1 st).1 _ hd
      refine .inr ⟨go, fun H' => w.its.length - (i + 1) = w.its.length - (i + 1) ∧ i + 1 ≤ w.its.length ∧ ∃ rc sc_, Keeps (upd H1 D (.lst [])) H' ∧ r1 ++ [D] <+: rc ∧ SRel X.K H' rc sc_ ∧
        PostR M X.mg X.K W σ (RepV X.K) H' rc (lcGo w s1.length (lcF (M.C k) M.G elt tg ifs own ρ) (w.its.drop (i + 1)) sc_) Q, fun H' hN => ⟨_, by omega, hN⟩, fun x H2 hy => ?_⟩
      obtain ⟨k2, R2, rx⟩ := yld x H2 hy
      have e2 := (e.keep ((k1.trans (kD.trans kc)).trans k2) (p1.trans (pD.trans pc))).wipe own
      have q2 := q.mono k2 (List.prefix_refl rc)
      unfold lcF at q2
      have fin : ∀ (H4 : Hp) (r5 : List Addr) (s5 : Store) (d : WL.D) (y : V), Keeps (upd H1 D (.lst [])) H4 → r1 ++ [D] <+: r5 → SRel X.K H4 r5 s5 → RepV X.K H4 r5 d y →
          PostR M X.mg X.K W σ (RepV X.K) H4 r5 (match isLst s5 s1.length with
            | some l => if l.length < sizeLine then lcGo w s1.length (lcF (M.C k) M.G elt tg ifs own ρ) (w.its.drop (i + 1)) (s5.set s1.length (.lst (l ++ [d]))) else .bad
            | none => .bad) Q →
          ∃ acc, H4 D = some (.lst acc) ∧ acc.length < sizeLine ∧ (w.its.length - (i + 1) = w.its.length - (i + 1) ∧ i + 1 ≤ w.its.length ∧ ∃ rc sc_, Keeps (upd H1 D (.lst [])) (upd H4 D (.lst (acc ++ [y]))) ∧ r1 ++ [D] <+: rc ∧ SRel X.K (upd H4 D (.lst (acc ++ [y]))) rc sc_ ∧
            PostR M X.mg X.K W σ (RepV X.K) (upd H4 D (.lst (acc ++ [y]))) rc (lcGo w s1.length (lcF (M.C k) M.G elt tg ifs own ρ) (w.its.drop (i + 1)) sc_) Q) := by
        intro H4 r5 s5 d y k4 p4 R5 ry q6
        split at q6
        · rename_i l hl
          split at q6
          · rename_i hz
            obtain ⟨b, vs, eb, hv, rl⟩ := R5.lst hl
            have eD := pre_get p4 hDn
            rw [eD] at eb
            cases eb
            obtain ⟨R6, k6⟩ := R5.setL hl eD (rl.append (RepL.one ry))
            exact ⟨vs, hv, by rw [RepL.length l vs rl]; exact hz, rfl, hlt, r5, _, k4.trans k6, p4, R6, q6.mono k6 (List.prefix_refl _)⟩
          · exact q6.elim
        · exact q6.elim
      refine ⟨rc, wipeE ρ own, sc_, w.its[i], e2, R2, rx, ?_⟩
      refine (PostR.quiet0q (W' := fun _ _ _ _ => False) (σ' := L2.wipe σ own) (repA := fun H' rb ρ' σ' => ERel X.K H' rb ρ' σ' ∧ SameOut (Tg.names tg) (L2.wipe σ own) σ') q2).imp fun σ3 H3 ⟨ρ1, s3, r3, k3, p3, R3, ⟨e3, so⟩, q5⟩ => ?_
      refine ⟨wipe_same so ht, ?_⟩
      have q5 := q5.mono k3 p3
      have kk := kc.trans (k2.trans k3)
      have pp := pc.trans p3
      cases ifs with
      | nil =>
        refine ⟨r3, ρ1, s3, e3, R3, ?_⟩
        refine (PostR.quiet0 (W' := Wf) (σ' := σ3) (repA := RepV X.K) q5).imp fun y H4 ⟨d, s4, r4, k4, p4, R4, ry, q6⟩ => ?_
        obtain ⟨r5, p5, R5, ry5⟩ := R3.trunc R4 p4 d y ry
        exact fin H4 r5 _ d y (kk.trans k4) (pp.trans p5) R5 ry5 (PostR.mono (r := _) q6 k4 p5)
      | cons c cs =>
        refine ⟨r3, ρ1, s3, e3, R3, ?_⟩
        refine (PostR.quiet0 (W' := Wf) (σ' := σ3) (repA := repB) q5).imp fun b H4 ⟨b', s4, r4, k4, p4, R4, eb, q6⟩ => ?_
        have eb' : b = b' := eb
        subst eb'
        obtain ⟨r5, p5, R5, _⟩ := R3.trunc R4 p4 .non .non rfl
        have q6 := q6.mono k4 p5
        cases b with
        | false => exact ⟨rfl, hlt, r5, _, kk.trans k4, pp.trans p5, R5, q6⟩
        | true =>
          refine ⟨r5, ρ1, _, e3.keep k4 p5, R5, ?_⟩
          refine (PostR.quiet0 (W' := Wf) (σ' := σ3) (repA := RepV X.K) q6).imp fun y H5 ⟨d, s6, r6, k6, p6, R6, ry, q7⟩ => ?_
          obtain ⟨r7, p7, R7, ry7⟩ := R5.trunc R6 p6 d y ry
          exact fin H5 r7 _ d y ((kk.trans k4).trans k6) ((pp.trans p5).trans p7) R7 ry7 (PostR.mono (r := _) q7 k6 p7)
    · exact q.elim
  · have hi' : i = w.its.length := by omega
    subst hi'
    rw [List.drop_length] at q
    unfold lcGo at q
    split at q
    · rename_i st
      exact .inl ⟨(W1 st).2 (rfl), q.fin Rc ⟨D, hDc, rfl⟩⟩
    · exact q.elim
end
end WL
set_option maxHeartbeats 4000000
namespace WL
open PySem PySem.Spec PyProof.Rows L2
variable [TBS]
section
variable {M : Cfg} {N : List Str}
theorem pw_bool {X : Cx} {op : BoolOp} {l : List Expr} {pos : Pos} {t : TT} (h : PT X (.BoolOp op l pos) t) : PW X (.BoolOp op l pos) t := ⟨fun wh pins s σ H Q I q => h.run pins s σ H Q I q⟩
theorem Good.blk {X : Cx} {W : WX} {k : Nat} {sc scope : Scope} {fn : Str → Bool} (g : Good M N X W k sc fn) (hmk : (!M.mks (relS scope sc)) = true) (hk : scope.kind = .function) (s : Shared) (H : Hp) (C : Addr) (cl : List (Str × Addr)) (fp : List Addr) :
    Good M N (X.blk s H scope (compEnvC scope cl C X.env) fp) Wf k (relS scope sc) (fun y => scope.names.lookup y == some .cell) where
  esc := by
    rw [← g.esc]
    rfl
  eN := g.eN
  nd := g.nd
  efn := rfl
  calm := g.calm
  knd := hk
  tk := takes0
  hr := g.hr
  st := g.st
  mkr := fun z => by rw [z] at hmk; cases hmk
  stl := g.stl
theorem GEs.pts {X : Cx} {k : Nat} {W : WX} : ∀ {ifs : List E} {cs : List Expr}, GEs M X Wf k ifs cs → ifs.length ≤ 1 → PTs X cs (tIfs M X k ifs)
  | [], [], _, _ => pts_nil
  | [c], [x], h, _ => pts_one h.1.2
  | _ :: _ :: _, _, _, hl => absurd hl (by simp)
  | [], _ :: _, h, _ => h.elim
  | [_], [], h, _ => h.elim
  | [_], _ :: _ :: _, h, _ => h.2.2.elim
mutual
theorem sndE : ∀ (e : E) {X : Cx} {W : WX} {k : Nat} {sc : Scope} {fn : Str → Bool} {x : Expr}, mE M N sc fn e x = true → Good M N X W k sc fn → GE M X W k e x
  | .var i, _, _, _, _, _, _, h, g => s_var i h g
  | .int i, _, _, _, _, _, _, h, g => s_int i h g
  | .str a, _, _, _, _, _, _, h, g => s_str a h g
  | .bl a, _, _, _, _, _, _, h, g => s_bl a h g
  | .non, _, _, _, _, _, _, h, g => s_non h g
  | .glob i, _, _, _, _, _, _, h, g => s_glob i h g
  | .tup es, _, _, _, _, _, x, h, g => by
    unfold mE at h
    split at h
    · exact s_tup (GEs.ga (sndEs es h g))
    · cases h
  | .lst es, _, _, _, _, _, x, h, g => by
    unfold mE at h
    split at h
    · exact s_lst (GEs.ga (sndEs es h g))
    · cases h
  | .bin op a b, _, _, _, _, _, x, h, g => by
    unfold mE at h
    split at h
    · simp only [Bool.and_eq_true, decide_eq_true_eq] at h
      obtain ⟨⟨⟨rfl, h1⟩, h2⟩, h3⟩ := h
      exact s_bin h1 (sndE a h2 g) (sndE b h3 g)
    · cases h
  | .neg a, _, _, _, _, _, x, h, g => by
    unfold mE at h
    split at h
    · exact s_neg (sndE a h g)
    · cases h
  | .not a, _, _, _, _, _, x, h, g => by
    unfold mE at h
    split at h
    · exact s_not (sndE a h g)
    · cases h
  | .and a b, X, W, k, _, _, x, h, g => by
    unfold mE at h
    split at h
    · rename_i y z r pos
      rw [Bool.and_eq_true] at h
      obtain ⟨h1, h2⟩ := h
      have hb : PE X (.BoolOp .And (z :: r) pos) (tE M X W (evE (M.C k) M.G b)) ∧ PW X (.BoolOp .And (z :: r) pos) (tT M X W (evT (M.C k) M.G b)) := by
        cases r with
        | nil =>
          have q := sndE b h2 g
          exact ⟨pe_one q.1, pw_and1 q.2⟩
        | cons u r =>
          have q := sndE b h2 g
          exact ⟨q.1, pw_bool q.2⟩
      have q := s_and (sndE a h1 g) hb.1 hb.2
      exact ⟨q.1, q.2.pt⟩
    · cases h
  | .or a b, X, W, k, _, _, x, h, g => by
    unfold mE at h
    split at h
    · rename_i y z r pos
      rw [Bool.and_eq_true] at h
      obtain ⟨h1, h2⟩ := h
      have hb : PE X (.BoolOp .Or (z :: r) pos) (tE M X W (evE (M.C k) M.G b)) ∧ PW X (.BoolOp .Or (z :: r) pos) (tT M X W (evT (M.C k) M.G b)) := by
        cases r with
        | nil =>
          have q := sndE b h2 g
          exact ⟨pe_one q.1, pw_or1 q.2⟩
        | cons u r =>
          have q := sndE b h2 g
          exact ⟨q.1, pw_bool q.2⟩
      have q := s_or (sndE a h1 g) hb.1 hb.2
      exact ⟨q.1, q.2.pt⟩
    · cases h
  | .cmp a op b, _, _, _, _, _, x, h, g => by
    unfold mE at h
    split at h
    · simp only [Bool.and_eq_true, decide_eq_true_eq] at h
      obtain ⟨⟨⟨rfl, h1⟩, h2⟩, h3⟩ := h
      exact s_cmp g h1 (sndE a h2 g) (sndE b h3 g)
    · cases h
  | .chain a op b op2 c, _, _, _, _, _, x, h, g => by
    unfold mE at h
    split at h
    · simp only [Bool.and_eq_true, decide_eq_true_eq] at h
      obtain ⟨⟨⟨⟨⟨rfl, rfl⟩, h1⟩, h2⟩, h3⟩, h4⟩ := h
      exact s_chain g h1 (sndE a h2 g) (sndE b h3 g) (sndE c h4 g)
    · cases h
  | .ife c a b, _, _, _, _, _, x, h, g => by
    unfold mE at h
    split at h
    · simp only [Bool.and_eq_true] at h
      obtain ⟨⟨h1, h2⟩, h3⟩ := h
      exact s_ife (sndE c h1 g) (sndE a h2 g) (sndE b h3 g)
    · cases h
  | .ix a b, _, _, _, _, _, x, h, g => by
    unfold mE at h
    split at h
    · simp only [Bool.and_eq_true] at h
      obtain ⟨⟨h1, h2⟩, h3⟩ := h
      exact s_ix g h1 (sndE a h2 g) (sndE b h3 g)
    · cases h
  | .slice a lo hi, X, W, k, _, _, x, h, g => by
    unfold mE at h
    split at h
    · rename_i y l hh p2 pos
      simp only [Bool.and_eq_true] at h
      obtain ⟨⟨h1, h2⟩, h3⟩ := h
      have q1 := sndEs lo h2 g
      have q2 := sndEs hi h3 g
      have part : ∀ {es : List E} {o : Option Expr}, GEs M X W k es o.toList → PO X o (tOf M X W k es) := by
        intro es o q
        cases o with
        | none =>
          cases es with
          | nil => exact po_none
          | cons e es => exact q.elim
        | some v =>
          cases es with
          | nil => exact q.elim
          | cons e es => exact po_some q.1.1
      exact s_slice (sndE a h1 g) (part q1) (part q2)
    · cases h
  | .rev a, X, W, k, _, _, x, h, g => by
    unfold mE at h
    split at h
    · exact s_rev (sndE a h g)
    · cases h
  | .call f es, _, _, _, _, _, x, h, g => by
    unfold mE at h
    split at h
    · simp only [Bool.and_eq_true, decide_eq_true_eq] at h
      obtain ⟨⟨⟨⟨rfl, h1⟩, h2⟩, h3⟩, h4⟩ := h
      exact s_call g h1.1 (by simpa using h1.2) h2 h3 h4 (GEs.ga (sndEs es h4 g))
    · cases h
  | .heard h f es, X, W, k, _, _, x, hm, g => by
    unfold mE at hm
    split at hm
    · simp only [Bool.and_eq_true, decide_eq_true_eq, Bool.not_eq_true'] at hm
      obtain ⟨⟨⟨⟨⟨⟨⟨⟨⟨⟨⟨⟨rfl, h1⟩, h2⟩, h3⟩, h4⟩, h5⟩, h6⟩, h7⟩, rfl⟩, h9⟩, h10⟩, h11⟩, h12⟩ := hm
      exact s_heard g h1 h2 h3 h4 h5 h6 h7 fun X2 W2 k2 g2 => (s_call g2 h9.1 h9.2 h10 h11 h12 (GEs.ga (sndEs es h12 g2))).1
    · cases hm
  | .bi b es, _, _, _, _, _, x, h, g => by
    unfold mE at h
    split at h
    · simp only [Bool.and_eq_true, decide_eq_true_eq] at h
      obtain ⟨⟨rfl, h1⟩, h2⟩ := h
      exact s_bi g h1 h2 (GEs.ga (sndEs es h2 g))
    · cases h
  | .isi a t, _, _, _, _, _, x, h, g => by
    unfold mE at h
    split at h
    · simp only [Bool.and_eq_true, decide_eq_true_eq] at h
      obtain ⟨⟨⟨⟨rfl, h1⟩, rfl⟩, h2⟩, h3⟩ := h
      exact s_isi g h1 h2 (mE_star h3) (sndE a h3 g)
    · cases h
  | .lrg es, _, _, _, _, _, x, h, g => by
    unfold mE at h
    split at h
    · simp only [Bool.and_eq_true, decide_eq_true_eq] at h
      obtain ⟨⟨⟨⟨⟨rfl, h1⟩, rfl⟩, h2⟩, h3⟩, h4⟩ := h
      exact s_lrg g h1 h2 h3 (sndEs es h4 g)
    · cases h
  | .trg es, _, _, _, _, _, x, h, g => by
    unfold mE at h
    split at h
    · simp only [Bool.and_eq_true, decide_eq_true_eq] at h
      obtain ⟨⟨⟨⟨⟨rfl, h1⟩, rfl⟩, h2⟩, h3⟩, h4⟩ := h
      exact s_trg g h1 h2 h3 (sndEs es h4 g)
    · cases h
  | .app o a, _, _, _, _, _, x, h, g => by
    unfold mE at h
    split at h
    · simp only [Bool.and_eq_true, decide_eq_true_eq] at h
      obtain ⟨⟨⟨⟨rfl, h1⟩, h2⟩, h3⟩, h4⟩ := h
      exact s_app h1 h2 (mE_star h4) (sndE o h3 g) (sndE a h4 g)
    · cases h
  | .pop o a, _, _, _, _, _, x, h, g => by
    unfold mE at h
    split at h
    · simp only [Bool.and_eq_true, decide_eq_true_eq] at h
      obtain ⟨⟨⟨⟨rfl, h1⟩, h2⟩, h3⟩, h4⟩ := h
      exact s_pop h1 h2 (mE_star h4) (sndE o h3 g) (sndE a h4 g)
    · cases h
  | .ext o a, _, _, _, _, _, x, h, g => by
    unfold mE at h
    split at h
    · simp only [Bool.and_eq_true, decide_eq_true_eq] at h
      obtain ⟨⟨⟨⟨rfl, h1⟩, h2⟩, h3⟩, h4⟩ := h
      exact s_ext h1 h2 (mE_star h4) (sndE o h3 g) (sndE a h4 g)
    · cases h
  | .lc elt tg it ifs own, X, W, k, sc, fn, x, h, g => by
    unfold mE at h
    split at h
    · rename_i y gs scope pos
      split at h
      · rename_i t i cs a
        simp only [Bool.and_eq_true, decide_eq_true_eq] at h
        obtain ⟨⟨⟨⟨⟨⟨⟨rfl, h1⟩, h2⟩, h3⟩, h4⟩, h5⟩, h6⟩, h7⟩ := h
        have ok : BlkOk X.N X.env.scope scope (own.map fun j => (N.getD j (default : Str), j)) := by
          rw [g.eN, g.esc]
          exact blkOk_by h2
        have sub : ∀ j ∈ Tg.names tg, j ∈ own := by
          intro j hj
          have q := List.all_eq_true.mp h3 j hj
          simpa using q
        refine plainT (PE.sub (pe_lc (g := tG M X (Tg.names tg) (asgT (M.C k) M.G tg)) (tt := tIfs M X k ifs) (te := tE M X Wf (evE (M.C k) M.G elt)) g.calm (by rw [g.eN]; exact g.nd) (sndIt it h4 g) ok (fun s H C cl fp => sndTg tg h5 (g.blk h1.2 ok.kind s H C cl fp)) (fun s H C cl fp => GEs.pts (W := Wf) (sndEs ifs h6 (g.blk h1.2 ok.kind s H C cl fp)) h1.1)
          (fun s H C cl fp => (sndE elt h7 (g.blk h1.2 ok.kind s H C cl fp)).1) (fun v => folded_ok h4 X.env v)) fun σ H Q q => ?_) (fun _ => rfl)
        rw [own_snd]
        exact s_lc (x := y) (t := t) (i := i) (cs := cs) (scope := scope) g sub q
      · cases h
    · cases h
  | .meth m o es, _, _, _, _, _, x, h, g => by
    unfold mE at h
    split at h
    · simp only [Bool.and_eq_true, decide_eq_true_eq] at h
      obtain ⟨⟨⟨⟨⟨rfl, h1⟩, h2⟩, h3⟩, h4⟩, h5⟩ := h
      exact s_meth g h1 h2 h3 h5 (sndE o h4 g) (GEs.ga (sndEs es h5 g))
    · cases h
  | .dnew, _, _, _, _, _, x, h, g => by
    unfold mE at h
    split at h
    · exact s_dnew
    · cases h
theorem sndEs : ∀ (es : List E) {X : Cx} {W : WX} {k : Nat} {sc : Scope} {fn : Str → Bool} {xs : List Expr}, mEs M N sc fn es xs = true → Good M N X W k sc fn → GEs M X W k es xs
  | [], _, _, _, _, _, xs, h, g => by
    cases xs with
    | nil => trivial
    | cons x r => simp [mEs] at h
  | e :: es, _, _, _, _, _, xs, h, g => by
    cases xs with
    | nil => simp [mEs] at h
    | cons x r =>
      simp only [mEs, Bool.and_eq_true] at h
      exact ⟨sndE e h.1 g, mE_star h.1, sndEs es h.2 g⟩
theorem sndIt : ∀ (it : It) {X : Cx} {W : WX} {k : Nat} {sc : Scope} {fn : Str → Bool} {t x : Expr}, mIt M N sc fn it t x = true → Good M N X W k sc fn → GI M X W k it t x
  | .val e, _, _, _, _, _, t, x, h, g => by
    simp only [mIt] at h
    exact i_val (sndE e h g)
  | .rng es, _, _, _, _, _, t, x, h, g => by
    unfold mIt at h
    split at h
    · simp only [Bool.and_eq_true, decide_eq_true_eq] at h
      obtain ⟨⟨⟨rfl, h1⟩, hl⟩, h2⟩ := h
      exact i_rng g h1 (sndEs es h2 g) hl
    · cases h
  | .enm e, _, _, _, _, _, t, x, h, g => by
    unfold mIt at h
    split at h
    · simp only [Bool.and_eq_true, decide_eq_true_eq] at h
      obtain ⟨⟨rfl, h1⟩, h2⟩ := h
      exact i_enm g h1 (mE_star h2) (sndE e h2 g)
    · cases h
  | .zip a b, _, _, _, _, _, t, x, h, g => by
    unfold mIt at h
    split at h
    · simp only [Bool.and_eq_true, decide_eq_true_eq] at h
      obtain ⟨⟨⟨rfl, h1⟩, h2⟩, h3⟩ := h
      exact i_zip g h1 (mE_star h2) (mE_star h3) (sndE a h2 g) (sndE b h3 g)
    · cases h
theorem sndTg : ∀ (t : Tg) {X : Cx} {W : WX} {k : Nat} {sc : Scope} {fn : Str → Bool} {x : Expr}, mTg M N sc fn t x = true → Good M N X W k sc fn → GG M X k t x
  | .nm i, _, _, _, _, _, x, h, g => by
    unfold mTg at h
    split at h
    · simp only [Bool.and_eq_true, decide_eq_true_eq] at h
      exact g_nm g h.1 h.2
    · cases h
  | .tup ts, _, _, _, _, _, x, h, g => by
    unfold mTg at h
    split at h
    · exact g_tup g h (sndTgs ts h g)
    · cases h
  | .sub o i, _, _, _, _, _, x, h, g => by
    unfold mTg at h
    split at h
    · simp only [Bool.and_eq_true] at h
      obtain ⟨⟨h1, h2⟩, h3⟩ := h
      exact g_sub (by have := g.hr.un; omega) h1 (sndE o h2 g) (sndE i h3 g)
    · cases h
theorem sndTgs : ∀ (ts : List Tg) {X : Cx} {W : WX} {k : Nat} {sc : Scope} {fn : Str → Bool} {xs : List Expr}, mTgs M N sc fn ts xs = true → Good M N X W k sc fn → GGs M X k ts xs
  | [], _, _, _, _, _, xs, h, g => by
    cases xs with
    | nil => exact g_nil
    | cons x r => simp [mTgs] at h
  | e :: es, _, _, _, _, _, xs, h, g => by
    cases xs with
    | nil => simp [mTgs] at h
    | cons x r =>
      simp only [mTgs, Bool.and_eq_true] at h
      exact g_cons (mTg_star h.1) (sndTg e h.1 g) (sndTgs es h.2 g)
end
end
end WL
set_option maxHeartbeats 4000000
namespace WL
open PySem PySem.Spec PyProof.Rows L2
variable [TBS]
structure Sx where
  i : Option Nat
  c : Nat
  w : D
  cls : Value
  dd : Option Addr
  a : Addr
structure ERelH (M : Cfg) (mg : Str → Option Value) (K : PySem.W.Frag) (Y : Sx) (H : Hp) (ra : List Addr) (ρ : Env) (σ : L2.St) : Prop where
  len : σ.length = ρ.length
  get : ∀ (j : Nat) (d : D), Y.i ≠ some j → ρ[j]? = some (some d) → ∃ v, σ[j]? = some (some v) ∧ RepV K H ra d v
  x : RepX M mg K H ra Y.c Y.w Y.cls Y.dd
  slot : ∀ (j : Nat) (d : D), Y.i = some j → ρ[j]? = some (some d) → d = .tup [.int Y.c, Y.w] ∧ σ[j]? = some (some (.ref Y.a))
theorem RepX.keep {M : Cfg} {mg : Str → Option Value} {K : PySem.W.Frag} {H H' : Hp} {ra rb : List Addr} {c : Nat} {w : D} {cls : Value} {dd : Option Addr} (h : RepX M mg K H ra c w cls dd) (k : Keeps H H') (p : ra <+: rb) : RepX M mg K H' rb c w cls dd := by
  obtain ⟨x, d, v, h1, h2, h3, h4, h5⟩ := h
  exact ⟨x, d, v, h1, h2, h3, k.1 _ _ h4 rfl, RepV.keep k p w v h5⟩
theorem ERelH.keep {M : Cfg} {mg : Str → Option Value} {K : PySem.W.Frag} {Y : Sx} {H H' : Hp} {ra rb : List Addr} {ρ : Env} {σ : L2.St} (h : ERelH M mg K Y H ra ρ σ) (k : Keeps H H') (p : ra <+: rb) : ERelH M mg K Y H' rb ρ σ :=
  ⟨h.len, fun j d hj e => let ⟨v, e1, r⟩ := h.get j d hj e; ⟨v, e1, RepV.keep k p d v r⟩, h.x.keep k p, h.slot⟩
section
variable (M : Cfg) (X : Cx) (Y : Sx)
def hE (f : Env → Store → R D) : TE := fun σ H Q => ∃ ra ρ s, ERelH M X.mg X.K Y H ra ρ σ ∧ SRel X.K H ra s ∧ PostR M X.mg X.K Wf σ (RepV X.K) H ra (f ρ s) Q
def hT (f : Env → Store → R Bool) : TT := fun σ H Q => ∃ ra ρ s, ERelH M X.mg X.K Y H ra ρ σ ∧ SRel X.K H ra s ∧ PostR M X.mg X.K Wf σ repB H ra (f ρ s) Q
def hA (f : Env → Store → R (List D)) : TA := fun σ H Q => ∃ ra ρ s, ERelH M X.mg X.K Y H ra ρ σ ∧ SRel X.K H ra s ∧ PostR M X.mg X.K Wf σ (RepL X.K) H ra (f ρ s) Q
abbrev GH (k : Nat) (e : E) (x : Expr) : Prop := PE X x (hE M X Y (evE (M.C k) M.G e)) ∧ PT X x (hT M X Y (evT (M.C k) M.G e))
abbrev GAH (k : Nat) (es : List E) (xs : List Expr) : Prop := PA X xs (hA M X Y (evEs (M.C k) M.G es))
def GHs (k : Nat) : List E → List Expr → Prop
  | [], [] => True
  | e :: es, x :: xs => GH M X Y k e x ∧ notStar x = true ∧ GHs k es xs
  | _, _ => False
end
section
variable {M : Cfg} {X : Cx} {Y : Sx} {k : Nat}
theorem hE_bind {γ δ : Type} {repB : Hp → List Addr → γ → δ → Prop} {f : Env → Store → R D} {g : D → Store → R γ} {σ : L2.St} {H : Hp} {ra : List Addr} {ρ : Env} {s : Store} {Q : δ → Hp → Prop} {Q' : V → Hp → Prop}
    (e : ERelH M X.mg X.K Y H ra ρ σ) (r : SRel X.K H ra s) (p : PostR M X.mg X.K Wf σ repB H ra ((f ρ s).bind g) Q)
    (h : ∀ x H1 a s1 r1, Keeps H H1 → ra <+: r1 → ERelH M X.mg X.K Y H1 r1 ρ σ → SRel X.K H1 r1 s1 → RepV X.K H1 r1 a x → PostR M X.mg X.K Wf σ repB H1 r1 (g a s1) Q → Q' x H1) : hE M X Y f σ H Q' :=
  ⟨ra, ρ, s, e, r, (PostR.bind (repA := RepV X.K) p).imp fun x H1 ⟨a, s1, r1, k, pf, sr, rp, q⟩ => h x H1 a s1 r1 k pf (e.keep k pf) sr rp q⟩
theorem hA_bind {γ δ : Type} {repB : Hp → List Addr → γ → δ → Prop} {f : Env → Store → R (List D)} {g : List D → Store → R γ} {σ : L2.St} {H : Hp} {ra : List Addr} {ρ : Env} {s : Store} {Q : δ → Hp → Prop} {Q' : List V → Hp → Prop}
    (e : ERelH M X.mg X.K Y H ra ρ σ) (r : SRel X.K H ra s) (p : PostR M X.mg X.K Wf σ repB H ra ((f ρ s).bind g) Q)
    (h : ∀ x H1 a s1 r1, Keeps H H1 → ra <+: r1 → ERelH M X.mg X.K Y H1 r1 ρ σ → SRel X.K H1 r1 s1 → RepL X.K H1 r1 a x → PostR M X.mg X.K Wf σ repB H1 r1 (g a s1) Q → Q' x H1) : hA M X Y f σ H Q' :=
  ⟨ra, ρ, s, e, r, (PostR.bind (repA := RepL X.K) p).imp fun x H1 ⟨a, s1, r1, k, pf, sr, rp, q⟩ => h x H1 a s1 r1 k pf (e.keep k pf) sr rp q⟩
theorem hT_bind {γ δ : Type} {repC : Hp → List Addr → γ → δ → Prop} {f : Env → Store → R Bool} {g : Bool → Store → R γ} {σ : L2.St} {H : Hp} {ra : List Addr} {ρ : Env} {s : Store} {Q : δ → Hp → Prop} {Q' : Bool → Hp → Prop}
    (e : ERelH M X.mg X.K Y H ra ρ σ) (r : SRel X.K H ra s) (p : PostR M X.mg X.K Wf σ repC H ra ((f ρ s).bind g) Q)
    (h : ∀ b H1 s1 r1, Keeps H H1 → ra <+: r1 → ERelH M X.mg X.K Y H1 r1 ρ σ → SRel X.K H1 r1 s1 → PostR M X.mg X.K Wf σ repC H1 r1 (g b s1) Q → Q' b H1) : hT M X Y f σ H Q' :=
  ⟨ra, ρ, s, e, r, (PostR.bind (repA := repB) p).imp fun x H1 ⟨a, s1, r1, k, pf, sr, rp, q⟩ => by
    have e' : x = a := rp
    subst e'
    exact h x H1 s1 r1 k pf (e.keep k pf) sr q⟩
theorem hE_of {f : Env → Store → R D} {σ : L2.St} {H : Hp} {ra : List Addr} {ρ : Env} {s : Store} {Q : VK} (e : ERelH M X.mg X.K Y H ra ρ σ) (r : SRel X.K H ra s) (p : PostR M X.mg X.K Wf σ (RepV X.K) H ra (f ρ s) Q) : hE M X Y f σ H Q := ⟨ra, ρ, s, e, r, p⟩
theorem hT_of {f : Env → Store → R Bool} {σ : L2.St} {H : Hp} {ra : List Addr} {ρ : Env} {s : Store} {Q : Bool → Hp → Prop} (e : ERelH M X.mg X.K Y H ra ρ σ) (r : SRel X.K H ra s) (p : PostR M X.mg X.K Wf σ repB H ra (f ρ s) Q) : hT M X Y f σ H Q := ⟨ra, ρ, s, e, r, p⟩
theorem pt_genH {x : Expr} {f : Env → Store → R D} (h : PE X x (hE M X Y f)) (he : ∀ whole, isTrue x X.env whole = (do let v ← whole; standAt x.pos; holding [v] (truthy v))) :
    PT X x (hT M X Y fun ρ s => (f ρ s).bind fun d s1 => match truth s1 d with
      | some b => .ok b s1
      | none => .bad) := by
  refine PT.sub (pt_truth h he) fun σ H Q ⟨ra, ρ, s, e, r, p⟩ => hE_bind e r p fun x H1 a s1 r1 _ _ e1 R1 rp q => ?_
  split at q
  · rename_i b hb
    exact ⟨b, truth_of R1 rp hb, q.fin R1 rfl⟩
  · exact q.elim
theorem plainH {e : E} {x : Expr} (h : PE X x (hE M X Y (evE (M.C k) M.G e))) (he : ∀ whole, isTrue x X.env whole = (do let v ← whole; standAt x.pos; holding [v] (truthy v))) : GH M X Y k e x := ⟨h, pt_genH h he⟩
theorem h_nil : GAH M X Y k [] [] := PA.sub pa_nil fun σ H Q ⟨ra, ρ, s, e, r, p⟩ => p.fin r rfl
theorem h_cons {e : E} {x : Expr} {es : List E} {xs : List Expr} (hs : notStar x = true) (h1 : GH M X Y k e x) (h2 : GAH M X Y k es xs) : GAH M X Y k (e :: es) (x :: xs) := by
  refine PA.sub (pa_cons h1.1 h2 (star_cons hs xs X.env)) fun σ H Q ⟨ra, ρ, s, e, r, p⟩ => ?_
  simp only [evEs] at p
  refine hE_bind e r p fun v H1 d s1 r1 k1 p1 e1 R1 rv q => ?_
  refine hA_bind e1 R1 q fun vs H2 ds s2 r2 k2 p2 e2 R2 rvs q2 => ?_
  exact q2.fin R2 ⟨v, vs, rfl, RepV.keep k2 p2 d v rv, rvs⟩
theorem GHs.ga : ∀ {es : List E} {xs : List Expr}, GHs M X Y k es xs → GAH M X Y k es xs
  | [], [], _ => h_nil
  | e :: es, x :: xs, h => h_cons h.2.1 h.1 (GHs.ga h.2.2)
  | [], _ :: _, h => h.elim
  | _ :: _, [], h => h.elim
theorem h_tup {es : List E} {xs : List Expr} {x1 : Nat} {pos : Pos} (h : GAH M X Y k es xs) : GH M X Y k (.tup es) (.Tuple xs x1 pos) := by
  refine plainH (PE.sub (pe_tup h) fun σ H Q ⟨ra, ρ, s, e, r, p⟩ => ?_) (fun _ => rfl)
  simp only [evE] at p
  refine hA_bind e r p fun vs H1 ds s1 r1 k1 p1 e1 R1 rv q => ?_
  split at q
  · rename_i hl
    exact ⟨by rw [RepL.length ds vs rv]; exact hl, PostR.finT q R1 rv⟩
  · exact q.elim
theorem h_lst {es : List E} {xs : List Expr} {pos : Pos} (h : GAH M X Y k es xs) : GH M X Y k (.lst es) (.List xs pos) := by
  refine plainH (PE.sub (pe_lst h) fun σ H Q ⟨ra, ρ, s, e, r, p⟩ => ?_) (fun _ => rfl)
  simp only [evE] at p
  refine hA_bind e r p fun vs H1 ds s1 r1 k1 p1 e1 R1 rv q => ?_
  obtain ⟨a, b⟩ := PostR.finL q R1 rv
  exact ⟨by rw [RepL.length ds vs rv]; exact a, b⟩
theorem h_not {a : E} {x : Expr} {pos : Pos} (ha : GH M X Y k a x) : GH M X Y k (.not a) (.UnaryOp .Not x pos) := by
  refine ⟨PE.sub (pe_notT ha.1) fun σ H Q ⟨ra, ρ, s, e, r, p⟩ => ?_, PT.sub (pt_not ha.2) fun σ H Q ⟨ra, ρ, s, e, r, p⟩ => ?_⟩
  · simp only [evE] at p
    refine hE_bind e r p fun v H1 d s1 r1 k1 p1 e1 R1 rv q => ?_
    cases ht : truth s1 d with
    | none => rw [ht] at q; exact q.elim
    | some b => rw [ht] at q; exact ⟨b, truth_of R1 rv ht, q.fin R1 rfl⟩
  · rw [evT_not] at p
    exact hT_bind e r p fun b H1 s1 r1 k1 p1 e1 R1 q => q.fin R1 rfl
theorem h_and {a b : E} {x y : Expr} {rest : List Expr} {pos : Pos} (ha : GH M X Y k a x) (hb : PE X (.BoolOp .And (y :: rest) pos) (hE M X Y (evE (M.C k) M.G b))) (hb2 : PW X (.BoolOp .And (y :: rest) pos) (hT M X Y (evT (M.C k) M.G b))) :
    PE X (.BoolOp .And (x :: y :: rest) pos) (hE M X Y (evE (M.C k) M.G (.and a b))) ∧ PW X (.BoolOp .And (x :: y :: rest) pos) (hT M X Y (evT (M.C k) M.G (.and a b))) := by
  refine ⟨PE.sub (pe_andT ha.1 hb) fun σ H Q ⟨ra, ρ, s, e, r, p⟩ => ?_, PW.sub (pw_and ha.2 hb2) fun σ H Q ⟨ra, ρ, s, e, r, p⟩ => ?_⟩
  · simp only [evE] at p
    refine hE_bind e r p fun v H1 d s1 r1 k1 p1 e1 R1 rv q => ?_
    cases ht : truth s1 d with
    | none => rw [ht] at q; exact q.elim
    | some c =>
      rw [ht] at q
      refine ⟨c, truth_of R1 rv ht, ?_⟩
      cases c with
      | true => exact hE_of e1 R1 q
      | false => exact q.fin R1 rv
  · rw [evT_and] at p
    refine hT_bind e r p fun c H1 s1 r1 k1 p1 e1 R1 q => ?_
    cases c with
    | true => exact hT_of e1 R1 q
    | false => exact q.fin R1 rfl
theorem h_cmp (hu : X.A.units + 100 < cLine) (hgd : GdOk X.K X.w) {op : CmpOp} {a b : E} {x y : Expr} {pos : Pos} (ho : cmpOk op y = true) (ha : GH M X Y k a x) (hb : GH M X Y k b y) : GH M X Y k (.cmp a op b) (.Compare x [op] [y] pos) := by
  obtain ⟨r, h1, h2⟩ := cmp_all (M := M) hu hgd op
  have hm : behindInMarks op y = false := by simpa [cmpOk] using ho
  refine ⟨PE.sub (pe_cmpR h1 ha.1 hb.1 hm) fun σ H Q ⟨ra, ρ, s, e, r, p⟩ => ?_, PT.sub (pt_cmpR h1 ha.1 hb.1 hm) fun σ H Q ⟨ra, ρ, s, e, r, p⟩ => ?_⟩
  · simp only [evE] at p
    refine hE_bind e r p fun v H1 d s1 r1 k1 p1 e1 R1 rv q => ?_
    refine hE_bind e1 R1 q fun u H2 d2 s2 r2 k2 p2 e2 R2 ru q2 => ?_
    cases hc : cmpD op s2 d d2 with
    | none => rw [hc] at q2; exact q2.elim
    | some c => rw [hc] at q2; exact h2 H2 r2 s2 d d2 v u c Q R2 (RepV.keep k2 p2 d v rv) ru hc (q2.fin R2 rfl)
  · rw [evT_cmp] at p
    refine hE_bind e r p fun v H1 d s1 r1 k1 p1 e1 R1 rv q => ?_
    refine hE_bind e1 R1 q fun u H2 d2 s2 r2 k2 p2 e2 R2 ru q2 => ?_
    cases hc : cmpD op s2 d d2 with
    | none => rw [hc] at q2; exact q2.elim
    | some c => rw [hc] at q2; exact h2 H2 r2 s2 d d2 v u c _ R2 (RepV.keep k2 p2 d v rv) ru hc ⟨c, rfl, q2.fin R2 rfl⟩
end
def nmOk (N : List Str) (sc : Scope) (nm : Option Nat) (j : Nat) (y : Str) : Bool := decide (nm = some j) && decide (N[j]? = some y) && visB sc y && okName y
section
variable (M : Cfg) (N : List Str) (sc : Scope) (nm : Option Nat)
def isC (a : E) (op : CmpOp) (b : E) (x : Expr) : Bool := match a, b, x with
  | .ix (.var j) (.int 0), .int (.ofNat c), .Call (.Name q _) [.Name y _, .Name z _] [] _ => decide (op = .Eq) && decide (q = ("isinstance" : Str)) && glB sc q && nmOk N sc nm j y && decide (M.cls[c]? = some z) && glB sc z && okName z
  | _, _, _ => false
def isB (a : E) (op : CmpOp) (b : E) (x : Expr) : Bool := match a, b, x with
  | .ix (.var j) (.int 0), .int 0, .Call (.Name q _) [.Name y _, .Name z _] [] _ => decide (op = .GtE) && decide (q = ("isinstance" : Str)) && glB sc q && nmOk N sc nm j y && (decide (z = M.base) || decide (z = ("ValueError" : Str))) && glB sc z && okName z
  | _, _, _ => false
def isW (a b : E) (x : Expr) : Bool := match a, b, x with
  | .var j, .int 1, .Attribute (.Name y _) n _ => decide (n = ("what" : Str)) && nmOk N sc nm j y
  | _, _, _ => false
mutual
def mH : E → Expr → Bool
  | .var i => fun x => !(nm == some i) && mE M N sc (fun _ => true) (.var i) x
  | .int i => fun x => mE M N sc (fun _ => true) (.int i) x
  | .str i => fun x => mE M N sc (fun _ => true) (.str i) x
  | .non => fun x => mE M N sc (fun _ => true) .non x
  | .bl b => fun x => mE M N sc (fun _ => true) (.bl b) x
  | .tup es => fun x => match x with
    | .Tuple xs _ _ => mHs es xs
    | _ => false
  | .lst es => fun x => match x with
    | .List xs _ => mHs es xs
    | _ => false
  | .not a => fun x => match x with
    | .UnaryOp .Not y _ => mH a y
    | _ => false
  | .and a b => fun x => match x with
    | .BoolOp .And (y :: z :: r) pos => mH a y && (match r with
      | [] => mH b z
      | _ :: _ => mH b (.BoolOp .And (z :: r) pos))
    | _ => false
  | .cmp a op b => fun x => isC M N sc nm a op b x || isB M N sc nm a op b x || (match x with
    | .Compare y [op'] [z] _ => decide (op = op') && cmpOk op z && mH a y && mH b z
    | _ => false)
  | .ix a b => fun x => isW N sc nm a b x
  | _ => fun _ => false
def mHs : List E → List Expr → Bool
  | [] => fun xs => xs.isEmpty
  | e :: es => fun xs => match xs with
    | x :: r => notStar x && mH e x && mHs es r
    | [] => false
end
def mSu : List HS → List Stmt → Bool
  | [], [] => true
  | .ret e :: _, .Return (some v) _ :: _ => mH M N sc nm e v
  | .ifret c e :: hs, .If x [.Return (some v) _] [] _ :: ss => mH M N sc nm c x && mH M N sc nm e v && mSu hs ss
  | _, _ => false
end
section
variable {M : Cfg} {N : List Str} {X : Cx} {W : WX} {k : Nat} {sc : Scope} {a : Addr} {oe : Obj} {pn : List (Addr × Obj)} {Y : Sx}
abbrev SU (X : Cx) (a : Addr) (oe : Obj) (pn : List (Addr × Obj)) : Cx := X.suite a ((a, oe) :: pn)
structure InSu (M : Cfg) (N : List Str) (X : Cx) (W : WX) (k : Nat) (sc : Scope) (a : Addr) (oe : Obj) (Y : Sx) : Prop where
  g : Good M N X W k sc (fun _ => true)
  hz : Zc Y.cls Y.dd oe
  hf : ∃ vs, oe.data = .fields vs
  ha : Y.a = a
theorem nm_ok {j : Nat} {y : Str} (h : nmOk N sc Y.i j y = true) (u : InSu M N X W k sc a oe Y) :
    Y.i = some j ∧ X.N[j]? = some y ∧ Vis X.env.scope y ∧ (y == ("__debug__" : Str)) = false ∧ (y == ("__classdict__" : Str)) = false := by
  unfold nmOk at h
  simp only [Bool.and_eq_true, decide_eq_true_eq] at h
  obtain ⟨⟨⟨h1, h2⟩, h3⟩, h4⟩ := h
  obtain ⟨h5, h6⟩ := okName_ok h4
  exact ⟨h1, by rw [u.g.eN]; exact h2, vis_ok h3 u.g, h5, h6⟩
theorem ERelH.cls {H : Hp} {ra : List Addr} {ρ : Env} {σ : L2.St} (e : ERelH M X.mg X.K Y H ra ρ σ) (u : InSu M N X W k sc a oe Y) :
    ∃ (x : Str) (C d : Addr) (v : V), M.cls[Y.c]? = some x ∧ X.mg x = some (.ref C) ∧ Y.cls = .ref C ∧ XF X.prog X.w X.K X.mg X.base C ∧ Y.dd = some d ∧ H d = some (.xd [(("what" : Str), v)]) ∧ RepV X.K H ra Y.w v := by
  obtain ⟨x, d, v, h1, h2, h3, h4, h5⟩ := e.x
  obtain ⟨C, h6, h7⟩ := u.g.st.exc _ _ h1
  rw [h6] at h2
  exact ⟨x, C, d, v, h1, h6, (Option.some.inj h2).symm, h7, h3, h4, h5⟩
theorem eq_ints {s : Store} {i j : Int} : eqD s (.int i) (.int j) = some (decide (i = j)) := by
  have e1 : SeqAt.shaped (.int i) = true := rfl
  have e2 : SeqAt.shaped (.int j) = true := rfl
  unfold eqD toPy
  simp only [e1, e2, Bool.and_self, if_true, PyData.eqv]
  by_cases h : i = j <;> simp [h]
theorem inst_of {pins : List (Addr × Obj)} {σ : L2.St} {H : Hp} {s : Shared} {C d : Addr} {v : V} (u : InSu M N X W k sc a oe Y) (I : Inv (SU X a oe pn) pins σ H s) (hc : Y.cls = .ref C) (hd : Y.dd = some d) (hH : H d = some (.xd [(("what" : Str), v)])) :
    ∃ od, PySem.W.InstAt s.heap a oe C (some od) ∧ ∃ w, PySem.W.lookIn "what" od = some (some w) ∧ RelV v w := by
  obtain ⟨ha, _⟩ := I.pin (a, oe) (List.mem_append_left _ List.mem_cons_self)
  obtain ⟨vs, hv⟩ := u.hf
  have hx : ObjOk X.prog X.w H s.heap d (.xd [(("what" : Str), v)]) := I.hok d _ hH
  obtain ⟨mA, hns, hr⟩ := hx
  obtain ⟨od, ho, hl⟩ := lookIn_ns hns
  have l : List.lookup ("what" : Str) [(("what" : Str), v)] = some v := by simp [List.lookup]
  obtain ⟨w, hw, rw'⟩ := RelO.some_of (v := v) (o := mA "what") (by rw [← l]; exact hr "what")
  obtain ⟨z1, z2⟩ := u.hz
  exact ⟨od, ⟨ha, by rw [z1, hc], by unfold PySem.W.notCls; rw [hv] <;> rfl, by rw [z2, hd]; exact ho⟩, w, by rw [hl, hw], rw'⟩
theorem h_what (u : InSu M N X W k sc a oe Y) {j : Nat} {y : Str} {p pos : Pos} (h : nmOk N sc Y.i j y = true) : GH M (SU X a oe pn) Y k (.ix (.var j) (.int 1)) (.Attribute (.Name y p) "what" pos) := by
  refine plainH ⟨fun pins s σ H Q I ⟨ra, ρ, s', e, r, q⟩ => ?_⟩ (fun _ => rfl)
  obtain ⟨h1, h2, h3, h4, h5⟩ := nm_ok h u
  cases hd : ρ[j]? with
  | none =>
    simp only [evE, hd, R.bind] at q
    exact (show False from q).elim
  | some o =>
    cases o with
    | none =>
      simp only [evE, hd, R.bind] at q
      exact (show False from q).elim
    | some d =>
      obtain ⟨rfl, hs⟩ := e.slot j d h1 hd
      obtain ⟨x, C, dd, v, c1, c2, c3, F, c5, c6, c7⟩ := ERelH.cls (X := X) e u
      simp only [evE, hd, R.bind] at q
      have q : PostR M X.mg X.K Wf σ (RepV X.K) H ra (.ok Y.w s') Q := q
      refine attr_of rfl (thn ((pv (X := SU X a oe pn) j h2 h3 h4 h5).run pins s σ H (fun x H1 => x = .ref Y.a ∧ H1 = H) I ⟨_, hs, rfl, rfl⟩) fun u1 s1 ⟨x1, H1, I1, rx, ex, eh⟩ => ?_)
      subst ex eh
      obtain rfl : u1 = Value.ref Y.a := rx
      obtain ⟨od, J, w, hl, rw'⟩ := inst_of u I1 c3 c5 c6
      rw [u.ha]
      exact HandSPX.exc_get I1.kIn J F.ga F.gg F.oex.exC (PySem.W.findObj_own F.hd F.no rfl hl) (handed_of rw') ⟨v, _, I1.tok _, rw', q.fin r c7⟩
def rIsX (K : PySem.W.Frag) (Y : Sx) (P : Addr → Prop) : List V → Hp → VK → Prop := fun xs H Q => ∃ (C d : Addr) (v c : V) (cv : Value) (b : Bool), xs = [.ref Y.a, c] ∧ P C ∧ Y.cls = .ref C ∧ Y.dd = some d ∧ H d = some (.xd [(("what" : Str), v)]) ∧ (∀ u, RelV c u → u = cv) ∧
  PySem.W.kitOne K (.ref C) cv = some b ∧ Q (.bl b) H
theorem call_isX (u : InSu M N X W k sc a oe Y) : CallR (SU X a oe pn) (.builtin "isinstance") (rIsX X.K Y (XF X.prog X.w X.K X.mg X.base)) := by
  intro pins s σ H xs us Q I r h
  obtain ⟨C, d, v, c, cv, b, rfl, F, hc, hd, hH, hcv, e, q⟩ := h
  cases r with
  | cons rx rr =>
    cases rr with
    | cons rt rr =>
      cases rr
      cases rx
      cases hcv _ rt
      obtain ⟨od, J, _⟩ := inst_of u I hc hd hH
      rw [u.ha]
      have hcl : (PySem.W.clsIn X.K C).isSome = true := by
        obtain ⟨cd, z, _⟩ := PySem.W.any_some F.hd
        rw [z]
        rfl
      exact PySem.W.kia_one (PySem.W.kitx_exc hcl F.ga F.gg F.oex.exC F.cc F.hn F.ht F.hm) I.kIn J e (fun z => nomatch z) fun tk => ⟨.bl b, H, I.kept (t' := tk) fun _ _ z => z, rfl, q⟩
theorem h_isAny (u : InSu M N X W k sc a oe Y) {j : Nat} {y z : Str} {p p2 p3 pos : Pos} {f : E} {c : V} {cv : Value} (b : Nat → Bool) (h : nmOk N sc Y.i j y = true) (hg : glB sc "isinstance" = true) (hz : PE (SU X a oe pn) (.Name z p3) (tC c)) (hcv : ∀ u, RelV c u → u = cv)
    (hk : ∀ C x, M.cls[Y.c]? = some x → X.mg x = some (.ref C) → PySem.W.kitOne X.K (.ref C) cv = some (b Y.c))
    (hf : ∀ (ρ : Env) (s : Store), (∃ d, ρ[j]? = some (some d) ∧ d = .tup [.int Y.c, Y.w]) ∨ evE (M.C k) M.G f ρ s = .bad → evE (M.C k) M.G f ρ s = .ok (.bl (b Y.c)) s ∨ evE (M.C k) M.G f ρ s = .bad)
    (hb : ∀ (ρ : Env) (s : Store), (∀ d, ρ[j]? = some (some d) → False) → evE (M.C k) M.G f ρ s = .bad) :
    GH M (SU X a oe pn) Y k f (.Call (.Name "isinstance" p) [.Name y p2, .Name z p3] [] pos) := by
  obtain ⟨h1, h2, h3, h4, h5⟩ := nm_ok h u
  have hm : X.mg "isinstance" = none := u.g.blt (by simp [bltNames])
  refine plainH (PE.sub (pe_callB (X := SU X a oe pn) (call_isX (pn := pn) u) (show Gl X "isinstance" from gl_ok hg u.g) hm PyProof.Rows.boot_isinstance (pa_cons (pv (X := SU X a oe pn) j h2 h3 h4 h5) (pa_cons hz pa_nil)) (by decide) (by decide)) fun σ H Q ⟨ra, ρ, s, e, r, q⟩ => ?_) (fun _ => rfl)
  cases hd : ρ[j]? with
  | none =>
    rw [hb ρ s fun d z => by rw [hd] at z; cases z] at q
    exact (show False from q).elim
  | some o =>
    cases o with
    | none =>
      rw [hb ρ s fun d z => by rw [hd] at z; cases z] at q
      exact (show False from q).elim
    | some d =>
      obtain ⟨e1, hs⟩ := e.slot j d h1 hd
      obtain ⟨x, C, dd, v, c1, c2, c3, F, c5, c6, c7⟩ := ERelH.cls (X := X) e u
      rcases hf ρ s (.inl ⟨d, hd, e1⟩) with z | z
      · rw [z] at q
        exact ⟨_, hs, C, dd, v, c, cv, b Y.c, rfl, F, c3, c5, c6, hcv, hk C x c1 c2, q.fin r rfl⟩
      · rw [z] at q
        exact (show False from q).elim
theorem h_isC (u : InSu M N X W k sc a oe Y) {j c : Nat} {y z : Str} {p p2 p3 pos : Pos} (h : nmOk N sc Y.i j y = true) (hg : glB sc "isinstance" = true) (hc : M.cls[c]? = some z) (hz : glB sc z = true) (ho : okName z = true) :
    GH M (SU X a oe pn) Y k (.cmp (.ix (.var j) (.int 0)) .Eq (.int (.ofNat c))) (.Call (.Name "isinstance" p) [.Name y p2, .Name z p3] [] pos) := by
  obtain ⟨C2, m2, F2⟩ := u.g.st.exc _ _ hc
  refine h_isAny (c := .ref C2) (cv := .ref C2) u (fun n => decide (n = c)) h hg (pe_glob (X := SU X a oe pn) (show Gl X z from gl_ok hz u.g) m2 rfl (okName_ok ho).1) (fun _ z => z) (fun C x c1 c2 => (u.g.st.rel _ _ _ _ C C2 c1 hc c2 m2).2) (fun ρ s q => ?_) fun ρ s q => ?_
  · rcases q with ⟨d, hd, rfl⟩ | q
    · refine .inl ?_
      simp only [evE, hd, R.bind]
      show R.ofBool (cmpD .Eq s (.int Y.c) (.int (.ofNat c))) s = _
      unfold cmpD
      rw [eq_ints]
      show R.ok _ s = _
      congr 2
      simp only [Int.ofNat_eq_natCast, Int.ofNat_inj]
    · exact .inr q
  · simp only [evE]
    cases hd : ρ[j]? with
    | none => rfl
    | some o => cases o with
      | none => rfl
      | some d => exact (q d hd).elim
theorem h_isB (u : InSu M N X W k sc a oe Y) {j : Nat} {y z : Str} {p p2 p3 pos : Pos} (h : nmOk N sc Y.i j y = true) (hg : glB sc "isinstance" = true) (hb : z = M.base ∨ z = "ValueError") (hz : glB sc z = true) (ho : okName z = true) :
    GH M (SU X a oe pn) Y k (.cmp (.ix (.var j) (.int 0)) .GtE (.int 0)) (.Call (.Name "isinstance" p) [.Name y p2, .Name z p3] [] pos) := by
  have ok : ∀ (ρ : Env) (s : Store), (∃ d, ρ[j]? = some (some d) ∧ d = .tup [.int Y.c, Y.w]) ∨ evE (M.C k) M.G (.cmp (.ix (.var j) (.int 0)) .GtE (.int 0)) ρ s = .bad →
      evE (M.C k) M.G (.cmp (.ix (.var j) (.int 0)) .GtE (.int 0)) ρ s = .ok (.bl true) s ∨ evE (M.C k) M.G (.cmp (.ix (.var j) (.int 0)) .GtE (.int 0)) ρ s = .bad := fun ρ s q => by
    rcases q with ⟨d, hd, rfl⟩ | q
    · refine .inl ?_
      simp only [evE, hd, R.bind]
      show R.ok (D.bl (decide ((0 : Int) ≤ (Y.c : Int)))) s = _
      rw [decide_eq_true (Int.natCast_nonneg Y.c)]
    · exact .inr q
  have bd : ∀ (ρ : Env) (s : Store), (∀ d, ρ[j]? = some (some d) → False) → evE (M.C k) M.G (.cmp (.ix (.var j) (.int 0)) .GtE (.int 0)) ρ s = .bad := fun ρ s q => by
    simp only [evE]
    cases hd : ρ[j]? with
    | none => rfl
    | some o => cases o with
      | none => rfl
      | some d => exact (q d hd).elim
  rcases hb with rfl | rfl
  · obtain ⟨B, m2, F2⟩ := u.g.st.bas
    exact h_isAny (c := .ref B) (cv := .ref B) u (fun _ => true) h hg (pe_glob (X := SU X a oe pn) (show Gl X _ from gl_ok hz u.g) m2 rfl (okName_ok ho).1) (fun _ z => z) (fun C x c1 c2 => (F2 _ _ C c1 c2).2) ok bd
  · have hm2 : X.mg "ValueError" = none := u.g.blt (by simp [bltNames])
    exact h_isAny (c := .ty "ValueError") (cv := .type "ValueError") u (fun _ => true) h hg (pe_bltn (X := SU X a oe pn) (show Gl X _ from gl_ok hz u.g) hm2 PyProof.Rows.Boot.«ValueError» rfl (by decide) (by decide)) (fun _ z => z)
      (fun C x c1 c2 => by
        obtain ⟨C2, m2, F2⟩ := u.g.st.exc _ _ c1
        rw [c2] at m2
        cases m2
        exact F2.ve) ok bd
theorem h_var (u : InSu M N X W k sc a oe Y) {i : Nat} {x : Expr} (hi : (Y.i == some i) = false) (h : mE M N sc (fun _ => true) (.var i) x = true) : GH M (SU X a oe pn) Y k (.var i) x := by
  unfold mE at h
  split at h
  · simp only [Bool.and_eq_true, decide_eq_true_eq] at h
    obtain ⟨⟨h1, h2⟩, h3⟩ := h
    obtain ⟨h4, h5⟩ := okName_ok h3
    refine plainH (PE.sub (pv (X := SU X a oe pn) i (by show X.N[i]? = _; rw [u.g.eN]; exact h1) (show Vis X.env.scope _ from vis_ok h2 u.g) h4 h5) fun σ H Q ⟨ra, ρ, s, e, r, p⟩ => ?_) (fun _ => rfl)
    simp only [evE] at p
    split at p
    · rename_i d hd
      obtain ⟨v, ev, rv⟩ := e.get i d (by simpa using hi) hd
      exact ⟨v, ev, p.fin r rv⟩
    · exact p.elim
  · cases h
theorem h_int {Z : Cx} {i : Int} {x : Expr} (h : mE M N sc (fun _ => true) (.int i) x = true) : GH M Z Y k (.int i) x := by
  unfold mE at h
  split at h
  · have e := of_decide_eq_true h
    subst e
    exact plainH (PE.sub pe_int fun σ H Q ⟨ra, ρ, s, e, r, p⟩ => p.fin r rfl) (fun _ => rfl)
  · cases h
theorem h_str {Z : Cx} {i : Str} {x : Expr} (h : mE M N sc (fun _ => true) (.str i) x = true) : GH M Z Y k (.str i) x := by
  unfold mE at h
  split at h
  · have e := of_decide_eq_true h
    subst e
    exact plainH (PE.sub pe_str fun σ H Q ⟨ra, ρ, s, e, r, p⟩ => p.fin r rfl) (fun _ => rfl)
  · cases h
theorem h_bl {Z : Cx} {i : Bool} {x : Expr} (h : mE M N sc (fun _ => true) (.bl i) x = true) : GH M Z Y k (.bl i) x := by
  unfold mE at h
  split at h
  · have e := of_decide_eq_true h
    subst e
    exact plainH (PE.sub pe_bl fun σ H Q ⟨ra, ρ, s, e, r, p⟩ => p.fin r rfl) (fun _ => rfl)
  · cases h
theorem h_non {Z : Cx} {x : Expr} (h : mE M N sc (fun _ => true) .non x = true) : GH M Z Y k .non x := by
  unfold mE at h
  split at h
  · exact plainH (PE.sub pe_non fun σ H Q ⟨ra, ρ, s, e, r, p⟩ => p.fin r rfl) (fun _ => rfl)
  · cases h
mutual
theorem sndH (u : InSu M N X W k sc a oe Y) (pn : List (Addr × Obj)) : ∀ (e : E) {x : Expr}, mH M N sc Y.i e x = true → GH M (SU X a oe pn) Y k e x
  | .var i, x, h => by
    simp only [mH, Bool.and_eq_true, Bool.not_eq_true'] at h
    exact h_var u h.1 h.2
  | .int i, x, h => by
    unfold mH at h
    exact h_int h
  | .str i, x, h => by
    unfold mH at h
    exact h_str h
  | .non, x, h => by
    unfold mH at h
    exact h_non h
  | .bl b, x, h => by
    unfold mH at h
    exact h_bl h
  | .tup es, x, h => by
    unfold mH at h
    split at h
    · exact h_tup (GHs.ga (sndHs u pn es h))
    · cases h
  | .lst es, x, h => by
    unfold mH at h
    split at h
    · exact h_lst (GHs.ga (sndHs u pn es h))
    · cases h
  | .not b, x, h => by
    unfold mH at h
    split at h
    · exact h_not (sndH u pn b h)
    · cases h
  | .and b c, x, h => by
    unfold mH at h
    split at h
    · rename_i y z r pos
      rw [Bool.and_eq_true] at h
      obtain ⟨h1, h2⟩ := h
      have hb : PE (SU X a oe pn) (.BoolOp .And (z :: r) pos) (hE M (SU X a oe pn) Y (evE (M.C k) M.G c)) ∧ PW (SU X a oe pn) (.BoolOp .And (z :: r) pos) (hT M (SU X a oe pn) Y (evT (M.C k) M.G c)) := by
        cases r with
        | nil =>
          have q := sndH u pn c h2
          exact ⟨pe_one q.1, pw_and1 q.2⟩
        | cons v r =>
          have q := sndH u pn c h2
          exact ⟨q.1, pw_bool q.2⟩
      have q := h_and (sndH u pn b h1) hb.1 hb.2
      exact ⟨q.1, q.2.pt⟩
    · cases h
  | .cmp b op c, x, h => by
    simp only [mH, Bool.or_eq_true] at h
    rcases h with (h | h) | h
    · unfold isC at h
      split at h
      · simp only [Bool.and_eq_true, decide_eq_true_eq] at h
        obtain ⟨⟨⟨⟨⟨⟨rfl, rfl⟩, h1⟩, h2⟩, h3⟩, h4⟩, h5⟩ := h
        exact h_isC u h2 h1 h3 h4 h5
      · cases h
    · unfold isB at h
      split at h
      · simp only [Bool.and_eq_true, Bool.or_eq_true, decide_eq_true_eq] at h
        obtain ⟨⟨⟨⟨⟨⟨rfl, rfl⟩, h1⟩, h2⟩, h3⟩, h4⟩, h5⟩ := h
        exact h_isB u h2 h1 h3 h4 h5
      · cases h
    · split at h
      · simp only [Bool.and_eq_true, decide_eq_true_eq] at h
        obtain ⟨⟨⟨rfl, h1⟩, h2⟩, h3⟩ := h
        exact h_cmp (X := SU X a oe pn) (show X.A.units + 100 < cLine by have := u.g.hr.un; omega) (show GdOk X.K X.w from u.g.st.gds) h1 (sndH u pn b h2) (sndH u pn c h3)
      · cases h
  | .ix b c, x, h => by
    simp only [mH] at h
    unfold isW at h
    split at h
    · simp only [Bool.and_eq_true, decide_eq_true_eq] at h
      obtain ⟨rfl, h1⟩ := h
      exact h_what u h1
    · cases h
  | .glob _, x, h => by simp [mH] at h
  | .bin _ _ _, x, h => by simp [mH] at h
  | .neg _, x, h => by simp [mH] at h
  | .or _ _, x, h => by simp [mH] at h
  | .chain _ _ _ _ _, x, h => by simp [mH] at h
  | .ife _ _ _, x, h => by simp [mH] at h
  | .slice _ _ _, x, h => by simp [mH] at h
  | .rev _, x, h => by simp [mH] at h
  | .call _ _, x, h => by simp [mH] at h
  | .heard _ _ _, x, h => by simp [mH] at h
  | .bi _ _, x, h => by simp [mH] at h
  | .isi _ _, x, h => by simp [mH] at h
  | .lrg _, x, h => by simp [mH] at h
  | .trg _, x, h => by simp [mH] at h
  | .app _ _, x, h => by simp [mH] at h
  | .pop _ _, x, h => by simp [mH] at h
  | .ext _ _, x, h => by simp [mH] at h
  | .lc _ _ _ _ _, x, h => by simp [mH] at h
theorem sndHs (u : InSu M N X W k sc a oe Y) (pn : List (Addr × Obj)) : ∀ (es : List E) {xs : List Expr}, mHs M N sc Y.i es xs = true → GHs M (SU X a oe pn) Y k es xs
  | [], xs, h => by
    cases xs with
    | nil => trivial
    | cons x r => simp [mHs] at h
  | e :: es, xs, h => by
    cases xs with
    | nil => simp [mHs] at h
    | cons x r =>
      simp only [mHs, Bool.and_eq_true] at h
      exact ⟨sndH u pn e h.1.2, h.1.1, sndHs u pn es h.2⟩
end
end
end WL
set_option maxHeartbeats 4000000
namespace WL
open PySem PySem.Spec PyProof.Rows L2
variable [TBS]
def notComp : Expr → Bool
  | .ListComp .. => false
  | .SetComp .. => false
  | .DictComp .. => false
  | _ => true
theorem sw_none {e : Expr} (h : notComp e = true) (t : Option Expr) (l : Nat) (env : PySem.Env) : swapsWith e t l env = pure false := by
  cases e <;> first | rfl | cases h
def swapRes (sc : Scope) (ts vs : List Expr) : Option (Option (List Str)) :=
  if !(ts.length == 2 || ts.length == 3) || vs.length != ts.length then some none
  else if vs.any (fun | .Starred .. => true | _ => false) then some none
  else
    let line := (ts.head?.map (·.pos.line)).getD 0
    let names := ts.filterMap fun
      | .Name id pos => if sc.names.lookup id == some .local && pos.line == line then some id else none
      | _ => none
    if names.length != ts.length || names.eraseDups.length != names.length then some none
    else if vs.all (foldedForSure 8) then some none
    else if vs.all (constantsAlone 8) then none
    else some (some names)
theorem swap_of {env : PySem.Env} {sc : Scope} {ts vs : List Expr} {k k2 : Nat} {p p2 : Pos} {r : Option (List Str)} (he : env.scope = sc) (hb : env.blockKind = .function) (h : swapRes sc ts vs = some r) :
    swappedStores [.Tuple ts k p] (.Tuple vs k2 p2) env = pure r := by
  subst he
  unfold swapRes at h
  unfold swappedStores
  have e2 : (env.blockKind != ScopeKind.function) = false := by rw [hb]; decide
  simp only [e2, Bool.or_false]
  split at h
  · rename_i c
    cases h
    simp only [c, if_true]
  · rename_i c
    simp only [if_neg c]
    split at h
    · rename_i c2
      cases h
      exact if_pos c2
    · rename_i c2
      refine (if_neg c2).trans ?_
      dsimp only at h
      split at h
      · rename_i c3
        cases h
        exact if_pos c3
      · rename_i c3
        refine (if_neg c3).trans ?_
        split at h
        · rename_i c4
          cases h
          exact if_pos c4
        · rename_i c4
          refine (if_neg c4).trans ?_
          split at h
          · cases h
          · rename_i c5
            cases h
            exact if_neg c5
def asgOk (sc : Scope) : Expr → Expr → Bool
  | .Tuple ts _ _, .Tuple vs _ _ => decide (swapRes sc ts vs = some none)
  | _, _ => true
section
variable (M : Cfg) (N : List Str)
def isLoc (sc : Scope) (i : Nat) (x : Str) : Bool := decide (N[i]? = some x) && decide (sc.names.lookup x = some .local)
def mPar (sc : Scope) : List Nat → List Expr → List E → List Expr → Bool
  | [i, j], [.Name x px, .Name y py], [e1, e2], [a, b] => isLoc N sc i x && isLoc N sc j y && decide (i ≠ j) && decide (swapRes sc [.Name x px, .Name y py] [a, b] = some (some [x, y])) &&
      mE M N sc (fun _ => true) e1 a && mE M N sc (fun _ => true) e2 b
  | [i, j, l], [.Name x px, .Name y py, .Name z pz], [e1, e2, e3], [a, b, c] => isLoc N sc i x && isLoc N sc j y && isLoc N sc l z && decide (swapRes sc [.Name x px, .Name y py, .Name z pz] [a, b, c] = some (some [x, y, z])) &&
      mE M N sc (fun _ => true) e1 a && mE M N sc (fun _ => true) e2 b && mE M N sc (fun _ => true) e3 c
  | _, _, _, _ => false
def mHd1 (sc : Scope) (h : Hd) (d : ExceptHandler) : Bool := match d with
  | .ExceptHandler (some (.Name y _)) n (b0 :: sts) _ => glB sc y && okName y &&
      (decide (y = M.base) && decide (h.cs = List.range M.cls.length) || (match h.cs with
        | [c] => decide (M.cls[c]? = some y)
        | _ => false)) &&
      (match n, h.nm with
        | none, none => true
        | some x, some j => decide (N[j]? = some x) && decide (sc.names.lookup x = some .local)
        | _, _ => false) && mSu M N sc h.nm h.b (b0 :: sts)
  | _ => false
def mHd (sc : Scope) : List Hd → List ExceptHandler → Bool
  | [], [] => true
  | h :: hs, d :: ds => mHd1 M N sc h d && mHd sc hs ds
  | _, _ => false
mutual
def mS (sc : Scope) : S → Stmt → Bool
  | .asg t e => fun st => match st with
    | .Assign [tg] v _ => mTg M N sc (fun _ => true) t tg && mE M N sc (fun _ => true) e v && asgOk sc tg v
    | _ => false
  | .par is es => fun st => match st with
    | .Assign [.Tuple ts _ _] (.Tuple vs _ _) _ => mPar M N sc is ts es vs
    | _ => false
  | .aug i op e => fun st => match st with
    | .AugAssign (.Name y _) op' v _ => decide (op = op') && decide (op = .Add ∨ op = .Sub) && decide (N[i]? = some y) && locB sc (fun _ => true) y && mE M N sc (fun _ => true) e v
    | _ => false
  | .augS o i op e => fun st => match st with
    | .AugAssign (.Subscript x y _) op' v _ => decide (op = op') && decide (op = .Add ∨ op = .Sub) && notSlice y && mE M N sc (fun _ => true) o x && mE M N sc (fun _ => true) i y && mE M N sc (fun _ => true) e v
    | _ => false
  | .expr e => fun st => match st with
    | .Expr v _ => notComp v && mE M N sc (fun _ => true) e v
    | _ => false
  | .ret e => fun st => match st with
    | .Return (some v) _ => mE M N sc (fun _ => true) e v
    | _ => false
  | .retN => fun st => match st with
    | .Return none _ => true
    | _ => false
  | .iff c a b => fun st => match st with
    | .If x p q _ => mE M N sc (fun _ => true) c x && mB sc a p && mB sc b q
    | _ => false
  | .for t it b => fun st => match st with
    | .For tg x p [] _ => mTg M N sc (fun _ => true) t tg && mIt M N sc (fun _ => true) it tg x && mB sc b p
    | _ => false
  | .whl c b => fun st => match st with
    | .While x p [] _ => mE M N sc (fun _ => true) c x && mB sc b p
    | _ => false
  | .brk => fun st => match st with
    | .Break _ => true
    | _ => false
  | .cnt => fun st => match st with
    | .Continue _ => true
    | _ => false
  | .pass => fun st => match st with
    | .Pass _ => true
    | _ => false
  | .nev => fun _ => true
  | .rais c e => fun st => match st with
    | .Raise (some (.Call (.Name y _) [v] [] _)) none _ => decide (M.cls[c]? = some y) && glB sc y && okName y && mE M N sc (fun _ => true) e v
    | _ => false
  | .tryx b hs => fun st => match st with
    | .Try body (h0 :: ds) [] [] _ => mB sc b body && mHd M N sc hs (h0 :: ds)
    | _ => false
  | .heard _ _ => fun _ => false
def mB (sc : Scope) : List S → List Stmt → Bool
  | [] => fun l => l.isEmpty
  | x :: xs => fun l => match l with
    | y :: ys => mS sc x y && mB sc xs ys
    | [] => false
end
end
section
variable (C : Calls) (G : Globs)
theorem setK_exc {n : Nat} {k v : D} {s s3 : Store} {c : Nat} {w : D} (h : setK n k v s = .exc c w s3) : False := by
  unfold setK at h
  split at h
  · split at h <;> cases h
  · cases h
theorem setD_exc {o i v : D} {s s3 : Store} {c : Nat} {w : D} (h : setD o i v s = .exc c w s3) : False := by
  cases o with
  | ref n =>
    cases i with
    | int k =>
      simp only [setD] at h
      cases hl : isLst s n with
      | none => rw [hl] at h; exact setK_exc h
      | some l =>
        rw [hl] at h
        simp only at h
        cases hm : ixOf l.length k with
        | none => rw [hm] at h; cases h
        | some m => rw [hm] at h; cases h
    | _ => exact setK_exc h
  | _ => cases i <;> cases h
mutual
theorem asgT_quiet : ∀ (t : Tg) (d : D) (ρ : Env) (s : Store), (asgT C G t d ρ s).quiet = asgT C G t d ρ s
  | .nm i, d, ρ, s => rfl
  | .tup ts, d, ρ, s => by
    unfold asgT
    split
    · split
      · exact asgTs_quiet ts _ ρ s
      · rfl
    · split
      · split
        · exact asgTs_quiet ts _ ρ s
        · rfl
      · rfl
    · rfl
  | .sub o i, d, ρ, s => by
    unfold asgT
    cases evE C G o ρ s with
    | exc c w s1 => rfl
    | bad => rfl
    | ok x s1 =>
      simp only [R.quiet, R.bind]
      cases evE C G i ρ s1 with
      | exc c w s2 => rfl
      | bad => rfl
      | ok y s2 =>
        simp only
        cases hs : setD x y d s2 with
        | ok u s3 => rfl
        | bad => rfl
        | exc c w s3 => exact (setD_exc hs).elim
theorem asgTs_quiet : ∀ (ts : List Tg) (ds : List D) (ρ : Env) (s : Store), (asgTs C G ts ds ρ s).quiet = asgTs C G ts ds ρ s
  | [], ds, ρ, s => by
    unfold asgTs
    cases ds <;> rfl
  | t :: ts, ds, ρ, s => by
    unfold asgTs
    cases ds with
    | nil => rfl
    | cons d ds =>
      simp only
      have h := asgT_quiet t d ρ s
      cases e : asgT C G t d ρ s with
      | exc c w s1 => rw [e] at h; cases h
      | bad => rfl
      | ok ρ1 s1 => exact asgTs_quiet ts ds ρ1 s1
end
end
section
variable {M : Cfg} {X : Cx} {W : WX} {En : L2.Ends} {H H' : Hp} {ra rb : List Addr} {α β : Type} {ρ : Env} {σ : L2.St}
theorem PostS.mono {r : RS} (h : PostS M X W En H ra r) (k : Keeps H H') (p : ra <+: rb) : PostS M X W En H' rb r := by
  cases r with
  | nx ρ s => exact fun σ' rc H2 k2 p2 => h σ' rc H2 (k.trans k2) (p.trans p2)
  | brk ρ s => exact fun σ' rc H2 k2 p2 => h σ' rc H2 (k.trans k2) (p.trans p2)
  | cnt ρ s => exact fun σ' rc H2 k2 p2 => h σ' rc H2 (k.trans k2) (p.trans p2)
  | ret d s => exact fun v rc H2 k2 p2 => h v rc H2 (k.trans k2) (p.trans p2)
  | exc c w ρ s => exact fun cls dd σ' rc H2 k2 p2 => h cls dd σ' rc H2 (k.trans k2) (p.trans p2)
  | bad => exact h
theorem PostS.bind {repA : Hp → List Addr → α → β → Prop} {r : R α} {f : α → Store → RS} (e : ERel X.K H ra ρ σ) (h : PostS M X W En H ra (r.stm ρ f)) :
    PostR M X.mg X.K W σ repA H ra r fun b H1 => ∃ a s1 r1, Keeps H H1 ∧ ra <+: r1 ∧ SRel X.K H1 r1 s1 ∧ ERel X.K H1 r1 ρ σ ∧ repA H1 r1 a b ∧ PostS M X W En H ra (f a s1) := by
  cases r with
  | ok a s => exact fun b rb H1 k p R rp => ⟨a, s, rb, k, p, R, e.keep k p, rp, h⟩
  | exc c w s => exact fun cls dd rb H1 k p R rx => h cls dd σ rb H1 k p R (e.keep k p) rx
  | bad => exact h
theorem stm_bind {γ : Type} (r : R α) (g : α → Store → R γ) (ρ : Env) (f : γ → Store → RS) : (r.bind g).stm ρ f = r.stm ρ fun a s => (g a s).stm ρ f := by
  cases r <;> rfl
theorem tst_eq (C : Calls) (G : Globs) (c : E) (ρ : Env) (s : Store) : tst C G c ρ s = (evT C G c ρ s).bind fun b s1 => .ok b (trunc s .non s1) := by
  unfold tst evT
  cases evE C G c ρ s with
  | ok x s1 =>
    simp only [R.bind]
    cases truth s1 x <;> rfl
  | exc c w s1 => rfl
  | bad => rfl
theorem let_go {s s1 : Store} {K : PySem.W.Frag} {H H1 : Hp} {ra r1 : List Addr} (R : SRel K H ra s) (k : Keeps H H1) (p : ra <+: r1) (R1 : SRel K H1 r1 s1) {d : D} {v : V} (rv : RepV K H1 r1 d v) :
    ∃ rc, ra <+: rc ∧ SRel K H1 rc (trunc s d s1) ∧ RepV K H1 rc d v := SRel.trunc R R1 p d v rv
end
structure GoodS (M : Cfg) (N : List Str) (X : Cx) (W : WX) (k : Nat) (sc : Scope) : Prop where
  g : Good M N X W k sc (fun _ => true)
  po : PassesOwn (model X.prog X.w) X.A X.env X.xe
  stk : X.stack = X.env :: X.outer
  frm : X.env.frame = some X.env.locals
section
variable {M : Cfg} {N : List Str} {X : Cx} {W : WX} {k : Nat} {sc : Scope}
abbrev GS (M : Cfg) (X : Cx) (W : WX) (k : Nat) (x : S) (st : Stmt) : Prop := PS X st (tS M X W (exS (M.C k) M.G M.F x))
abbrev GB (M : Cfg) (X : Cx) (W : WX) (k : Nat) (xs : List S) (sts : List Stmt) : Prop := PSs X sts (tS M X W (exB (M.C k) M.G M.F xs))
theorem GoodS.bk (g : GoodS M N X W k sc) : X.env.blockKind = .function := by
  unfold PySem.Env.blockKind
  rw [g.g.esc, g.g.knd]
  rfl
theorem b_nil : GB M X W k [] [] := PSs.sub pss_nil fun D σ H ⟨ra, ρ, s, e, r, p⟩ => by
  simp only [exB] at p
  exact p σ ra H (Keeps.refl H) (List.prefix_refl _) r e
theorem b_cons {x : S} {st : Stmt} {xs : List S} {sts : List Stmt} (h1 : GS M X W k x st) (h2 : GB M X W k xs sts) : GB M X W k (x :: xs) (st :: sts) := by
  refine PSs.sub (pss_cons h1 h2) fun D σ H ⟨ra, ρ, s, e, r, p⟩ => ?_
  refine ⟨ra, ρ, s, e, r, ?_⟩
  simp only [exB] at p
  cases hx : exS (M.C k) M.G M.F x ρ s with
  | nx ρ1 s1 =>
    rw [hx] at p
    exact fun σ' rb H1 k1 p1 R1 e1 => ⟨rb, ρ1, s1, e1, R1, p.mono k1 p1⟩
  | ret d s1 => rw [hx] at p; exact p
  | brk ρ1 s1 => rw [hx] at p; exact p
  | cnt ρ1 s1 => rw [hx] at p; exact p
  | exc c w ρ1 s1 => rw [hx] at p; exact p
  | bad => rw [hx] at p; exact p
theorem asg_wish {t : Tg} {e : E} {D : L2.Ends} {σ : L2.St} {H : Hp} (h : tS M X W (exS (M.C k) M.G M.F (.asg t e)) D σ H) :
    tE M X W (evE (M.C k) M.G e) σ H fun x H1 => tG M X (Tg.names t) (asgT (M.C k) M.G t) x σ H1 D.nx := by
  obtain ⟨ra, ρ, s, e1, r, p⟩ := h
  simp only [exS] at p
  rw [stm_bind] at p
  refine ⟨ra, ρ, s, e1, r, (PostS.bind (repA := RepV X.K) e1 p).imp fun v H1 ⟨d, s1, r1, k1, p1, R1, e2, rv, q⟩ => ?_⟩
  obtain ⟨rc, pc, Rc, rvc⟩ := let_go r k1 p1 R1 rv
  refine ⟨rc, ρ, _, d, e1.keep k1 pc, Rc, rvc, ?_⟩
  rw [asgT_quiet]
  have q' := q.mono k1 pc
  have hq := asgT_quiet (M.C k) M.G t d ρ (trunc s d s1)
  cases ha : asgT (M.C k) M.G t d ρ (trunc s d s1) with
  | ok ρ2 s2 =>
    rw [ha] at q'
    exact fun σ' rb H2 k2 p2 R2 ⟨e3, _⟩ => q' σ' rb H2 k2 p2 R2 e3
  | exc c w s2 => rw [ha] at hq; cases hq
  | bad => rw [ha] at q'; exact q'
theorem s_asg {t : Tg} {e : E} {tg v : Expr} {pos : Pos} (g : GoodS M N X W k sc) (hv : GE M X W k e v) (ht : GG M X k t tg) (hs : notStar tg = true) (hc : swapsWith v (some tg) pos.line X.env = pure false) (hw : swappedStores [tg] v X.env = pure none) :
    GS M X W k (.asg t e) (.Assign [tg] v pos) := by
  refine PS.sub (ps_asg hv.1 ht hc hw (by rw [asg_cons hs]; rfl)) fun D σ H h => ?_
  exact asg_wish h
theorem s_asgLc {i : Nat} {e : E} {y : Str} {py p2 pos : Pos} {elt : Expr} {gs : List Comprehension} {scope : Scope} (g : GoodS M N X W k sc) (hm : mE M N sc (fun _ => true) e (.ListComp elt gs scope p2) = true) (hn : N[i]? = some y)
    (hsw : swapsWith (.ListComp elt gs scope p2) (some (.Name y py)) pos.line X.env = pure true) (hy : sc.names.lookup y = some .local) : GS M X W k (.asg (.nm i) e) (.Assign [.Name y py] (.ListComp elt gs scope p2) pos) := by
  have gg := g.g
  cases e with
  | lc el tg it ifs own =>
    simp only [mE] at hm
    split at hm
    · rename_i t i2 cs a
      simp only [Bool.and_eq_true, decide_eq_true_eq] at hm
      obtain ⟨⟨⟨⟨⟨⟨⟨rfl, h1⟩, h2⟩, h3⟩, h4⟩, h5⟩, h6⟩, h7⟩ := hm
      have ok : BlkOk X.N X.env.scope scope (own.map fun j => (N.getD j (default : Str), j)) := by
        rw [gg.eN, gg.esc]
        exact blkOk_by h2
      have sub : ∀ j ∈ Tg.names tg, j ∈ own := by
        intro j hj
        have q := List.all_eq_true.mp h3 j hj
        simpa using q
      refine PS.sub (ps_setLc (i := i) (g := tG M X (Tg.names tg) (asgT (M.C k) M.G tg)) (tt := tIfs M X k ifs) (te := tE M X Wf (evE (M.C k) M.G el)) gg.calm (by rw [gg.eN]; exact gg.nd) (by rw [gg.eN]; exact hn) (by rw [gg.esc]; exact hy) hsw (sndIt it h4 gg) ok
        (fun s H C cl fp => sndTg tg h5 (gg.blk h1.2 ok.kind s H C cl fp)) (fun s H C cl fp => GEs.pts (W := Wf) (sndEs ifs h6 (gg.blk h1.2 ok.kind s H C cl fp)) h1.1)
        (fun s H C cl fp => (sndE el h7 (gg.blk h1.2 ok.kind s H C cl fp)).1) (fun v => folded_ok h4 X.env v)) fun D σ H h => ?_
      rw [own_snd]
      refine s_lc (x := elt) (t := t) (i := i2) (cs := cs) (scope := scope) gg sub ?_
      have q := asg_wish h
      obtain ⟨ra, ρ, s, e1, r, p⟩ := q
      refine ⟨ra, ρ, s, e1, r, p.imp fun x H1 ⟨rc, ρ1, s1, d, e2, R2, rv, q⟩ => ?_⟩
      simp only [asgT, R.quiet] at q
      exact q _ rc H1 (Keeps.refl H1) (List.prefix_refl _) R2 ⟨e2.set i rv, SameOut.set i _⟩
    · cases hm
  | _ => simp [mE] at hm
theorem sw_lc {elt : Expr} {gs : List Comprehension} {scope : Scope} {pos py : Pos} {y : Str} {l : Nat} {env : PySem.Env} : swapsWith (.ListComp elt gs scope pos) (some (.Name y py)) l env =
    pure (env.blockKind == .function && env.kindOf y == some .local && py.line == pos.line && !(scope.names.any fun (n, k) => n == y && (k == .local || k == .cell))) := rfl
theorem sw_tup {v : Expr} {ts : List Expr} {k : Nat} {p : Pos} {l : Nat} {env : PySem.Env} : swapsWith v (some (.Tuple ts k p)) l env = pure false := by
  cases v <;> rfl
theorem sw_sub {v x y : Expr} {p : Pos} {l : Nat} {env : PySem.Env} : swapsWith v (some (.Subscript x y p)) l env = pure false := by
  cases v <;> rfl
theorem st_not_tup {t : Expr} {v : Expr} {env : PySem.Env} (h : ∀ ts k p ws k2 p2, t = .Tuple ts k p → v = .Tuple ws k2 p2 → False) (h2 : ∀ ts p, t ≠ .List ts p) : swappedStores [t] v env = pure none := by
  cases t with
  | Tuple ts k p =>
    cases v with
    | Tuple ws k2 p2 => exact (h _ _ _ _ _ _ rfl rfl).elim
    | _ => rfl
  | List ts p => exact (h2 _ _ rfl).elim
  | _ => rfl
theorem s_asgAny {t : Tg} {e : E} {tg v : Expr} {pos : Pos} (g : GoodS M N X W k sc) (h1 : mTg M N sc (fun _ => true) t tg = true) (h2 : mE M N sc (fun _ => true) e v = true) (h3 : asgOk sc tg v = true) : GS M X W k (.asg t e) (.Assign [tg] v pos) := by
  have gt := sndTg t h1 g.g
  have gv := sndE e h2 g.g
  have ns := mTg_star h1
  have nl : ∀ ts p, tg ≠ .List ts p := fun ts p z => by
    subst z
    cases t <;> simp [mTg] at h1
  have hw : swappedStores [tg] v X.env = pure none := by
    by_cases q : ∃ ts k p ws k2 p2, tg = .Tuple ts k p ∧ v = .Tuple ws k2 p2
    · obtain ⟨ts, k1, p, ws, k2, p2, rfl, rfl⟩ := q
      exact swap_of g.g.esc g.bk (of_decide_eq_true h3)
    · exact st_not_tup (fun ts k1 p ws k2 p2 e1 e2 => q ⟨ts, k1, p, ws, k2, p2, e1, e2⟩) nl
  cases t with
  | nm i =>
    cases tg with
    | Name y py =>
      simp only [mTg, Bool.and_eq_true, decide_eq_true_eq] at h1
      by_cases hc : notComp v = true
      · exact s_asg g gv gt ns (sw_none hc _ _ _) hw
      · cases v with
        | ListComp elt gs scope p2 =>
          have sw := sw_lc (elt := elt) (gs := gs) (scope := scope) (pos := p2) (py := py) (y := y) (l := pos.line) (env := X.env)
          cases hb : (X.env.blockKind == .function && X.env.kindOf y == some .local && py.line == p2.line && !(scope.names.any fun (n, k) => n == y && (k == .local || k == .cell))) with
          | false =>
            rw [hb] at sw
            exact s_asg g gv gt ns sw hw
          | true =>
            rw [hb] at sw
            simp only [Bool.and_eq_true, beq_iff_eq] at hb
            have hy : sc.names.lookup y = some .local := by
              have z := hb.1.1.2
              unfold PySem.Env.kindOf at z
              rw [g.g.esc] at z
              exact z
            exact s_asgLc g h2 h1.1 sw hy
        | SetComp _ _ _ _ => cases e <;> simp [mE] at h2
        | DictComp _ _ _ _ _ => cases e <;> simp [mE] at h2
        | _ => exact absurd rfl hc
    | _ => simp [mTg] at h1
  | tup ts =>
    cases tg with
    | Tuple xs k1 p => exact s_asg g gv gt ns sw_tup hw
    | _ => simp [mTg] at h1
  | sub o i =>
    cases tg with
    | Subscript x y p => exact s_asg g gv gt ns sw_sub hw
    | _ => simp [mTg] at h1
theorem ps_par3 {i j l : Nat} {x y z : Str} {a b c : Expr} {ta : TA} {px py pz pt : Pos} {kt k2 : Nat} {pt2 pos : Pos} (hc : X.calm = true) (hN : X.N.Nodup) (hi : X.N[i]? = some x) (hj : X.N[j]? = some y) (hl : X.N[l]? = some z)
    (hx : X.env.scope.names.lookup x = some .local) (hy : X.env.scope.names.lookup y = some .local) (hz : X.env.scope.names.lookup z = some .local) (ha : PA X [a, b, c] ta)
    (hw : swappedStores [.Tuple [.Name x px, .Name y py, .Name z pz] kt pt] (.Tuple [a, b, c] k2 pt2) X.env = pure (some [x, y, z]))
    (hs : swapsWithSole [.Tuple [.Name x px, .Name y py, .Name z pz] kt pt] (.Tuple [a, b, c] k2 pt2) pos.line X.env = pure false := by rfl) :
    PS X (.Assign [.Tuple [.Name x px, .Name y py, .Name z pz] kt pt] (.Tuple [a, b, c] k2 pt2) pos) (fun D σ H => ta σ H fun vs H1 => ∃ v w u, vs = [v, w, u] ∧ D.nx (((σ.set l (some u)).set j (some w)).set i (some v)) H1) := by
  refine ⟨fun pins s σ H D I h => ?_⟩
  rw [exec_Assign_arm]
  refine wpAny_bind (wpAny_standAt ?_)
  rw [hs]
  refine wpAny_bind (wpAny_pure ?_)
  rw [if_neg (by decide)]
  refine wpAny_bind (Tuple_ (thn (ha.run _ pins s σ H _ I h) fun us s1 ⟨vs, H1, I1, r1, q1⟩ => ?_))
  obtain ⟨v, w, u, e1, q1⟩ := q1
  subst e1
  obtain ⟨u1, u2, u3, rfl, rv, rw', ru⟩ : ∃ u1 u2 u3, us = [u1, u2, u3] ∧ RelV v u1 ∧ RelV w u2 ∧ RelV u u3 := by
    cases r1 with
    | cons p q =>
      cases q with
      | cons p' q' =>
        cases q' with
        | cons p'' q'' =>
          cases q''
          exact ⟨_, _, _, rfl, p, p', p''⟩
  refine wpAny_newObj_type ?_ (by show 3 ≤ sizeLine; decide)
  have I2 : Inv X pins σ H1 { s1 with heap := s1.heap.push { cls := .type "tuple", data := .seq [u1, u2, u3].toArray } } := I1.kept (t' := s1.toks) fun b o e => Heap.get?_push_of_some _ e
  rw [hw]
  refine wpAny_bind (wpAny_pure ?_)
  show wpAny (model X.prog X.w) X.A (do rule "assign.swapped-stores"; let items ← unpackItems (.ref s1.heap.objs.size) 3 none; assignInOrder [fun v => bindName X.env z v, fun v => bindName X.env y v, fun v => bindName X.env x v] items.reverse; pure Flow.next) _ _ _
  refine wpAny_bind (wpAny_rule (wpAny_bind (unpackItems_tuple (items := #[u1, u2, u3]) (I.ok.hd hc) (IsTup.new s1.heap _) fun h' hx' => ?_)))
  have I3 := I2.kept (h' := h') (t' := s1.toks) fun b o e => hx' b o (Nat.ne_of_lt (Heap.lt_size e)) e
  show wpAny _ _ (assignInOrder [fun v => bindName X.env z v, fun v => bindName X.env y v, fun v => bindName X.env x v] [u3, u2, u1] >>= fun _ => pure Flow.next) _ _ _
  refine wpAny_bind (assignInOrder_cons (wpAny_bindName (store_ok I3 hN hl (.inl hz) ru (fun s2 I4 => ?_) (.inr hz))))
  refine assignInOrder_cons (wpAny_bindName (store_ok I4 hN hj (.inl hy) rw' (fun s3 I5 => ?_) (.inr hy)))
  refine assignInOrder_cons (wpAny_bindName (store_ok I5 hN hi (.inl hx) rv (fun s4 I6 => assignInOrder_nil (wpAny_pure ?_)) (.inr hx)))
  exact ⟨_, H1, I6, q1⟩
theorem isLoc_ok {i : Nat} {x : Str} (g : GoodS M N X W k sc) (h : isLoc N sc i x = true) : X.N[i]? = some x ∧ X.env.scope.names.lookup x = some .local := by
  unfold isLoc at h
  simp only [Bool.and_eq_true, decide_eq_true_eq] at h
  rw [g.g.eN, g.g.esc]
  exact h
theorem par_wish {is : List Nat} {es : List E} {D : L2.Ends} {σ : L2.St} {H : Hp} (h : tS M X W (exS (M.C k) M.G M.F (.par is es)) D σ H) :
    tA M X W (evEs (M.C k) M.G es) σ H fun vs H1 => ∃ ra ρ s l, ERel X.K H1 ra ρ σ ∧ SRel X.K H1 ra s ∧ RepL X.K H1 ra l vs ∧ l.length = is.length ∧
      ∀ σ', ERel X.K H1 ra (parSet is l ρ) σ' → D.nx σ' H1 := by
  obtain ⟨ra, ρ, s, e1, r, p⟩ := h
  simp only [exS] at p
  refine ⟨ra, ρ, s, e1, r, (PostS.bind (repA := RepL X.K) e1 p).imp fun vs H1 ⟨l, s1, r1, k1, p1, R1, e2, rv, q⟩ => ?_⟩
  split at q
  · rename_i hl
    have tt : RepV X.K (upd H1 0 (.lst [])) r1 .non .non := rfl
    obtain ⟨rc, pc, Rc, rvc⟩ : ∃ rc, ra <+: rc ∧ SRel X.K H1 rc (trunc s (.tup l) s1) ∧ RepL X.K H1 rc l vs := by
      unfold WL.trunc
      split
      · rename_i ht
        have e : WL.D.und s.length (.tup l) = true := (Bool.and_eq_true_iff.mp ht).1
        have e' : WL.D.unds s.length l = true := by simpa [WL.D.und] using e
        obtain ⟨rc, pc, Rc, _⟩ := SRel.trunc (d := .non) (v := .non) r R1 p1 (rfl : RepV X.K H1 r1 .non .non)
        have ep : ra = r1.take s.length := by
          obtain ⟨t, rfl⟩ := p1
          rw [← r.len]
          simp
        have rl : RepL X.K H1 ra l vs := by
          rw [ep]
          exact RepL.back s.length l vs e' rv
        refine ⟨rc, pc, ?_, RepL.keep (Keeps.refl H1) pc l vs rl⟩
        have hz : trunc s .non s1 = s1.take s.length := by
          unfold WL.trunc
          have hz' : (WL.D.und s.length WL.D.non && agree s.length s s1) = true := by
            rw [Bool.and_eq_true]
            exact ⟨rfl, (Bool.and_eq_true_iff.mp ht).2⟩
          rw [if_pos hz']
        rw [hz] at Rc
        exact Rc
      · exact ⟨r1, p1, R1, rv⟩
    refine ⟨rc, ρ, _, l, e1.keep k1 pc, Rc, rvc, hl, fun σ' es' => ?_⟩
    exact q σ' rc H1 k1 pc Rc es'
  · exact q.elim
theorem sole_tup {v : Expr} {ts : List Expr} {k : Nat} {p : Pos} {l : Nat} {env : PySem.Env} : swapsWithSole [.Tuple ts k p] v l env = pure false := by
  cases v <;> rfl
theorem s_par {is : List Nat} {es : List E} {ts vs : List Expr} {kt k2 : Nat} {pt pt2 pos : Pos} (g : GoodS M N X W k sc) (h : mPar M N sc is ts es vs = true) : GS M X W k (.par is es) (.Assign [.Tuple ts kt pt] (.Tuple vs k2 pt2) pos) := by
  unfold mPar at h
  split at h
  · rename_i i j x px y py e1 e2 a b
    simp only [Bool.and_eq_true, decide_eq_true_eq] at h
    obtain ⟨⟨⟨⟨⟨h1, h2⟩, h3⟩, h4⟩, h5⟩, h6⟩ := h
    obtain ⟨i1, l1⟩ := isLoc_ok g h1
    obtain ⟨i2, l2⟩ := isLoc_ok g h2
    have ga : GA M X W k [e1, e2] [a, b] := s_cons (mE_star h5) (sndE e1 h5 g.g) (s_cons (mE_star h6) (sndE e2 h6 g.g) s_nil)
    refine PS.sub (ps_par g.g.calm (by rw [g.g.eN]; exact g.g.nd) i1 i2 h3 l1 l2 ga (swap_of g.g.esc g.bk h4) sole_tup) fun D σ H h => ?_
    refine (par_wish h).imp fun ra z => ?_
    obtain ⟨ρ, s, q1, q2, p⟩ := z
    refine ⟨ρ, s, q1, q2, p.imp fun vs H1 ⟨rc, ρ1, s1, l, e1, R1, rv, hl, q⟩ => ?_⟩
    match l, hl with
    | [d1, d2], _ =>
      obtain ⟨v, u, rfl, rv1, rv2⟩ := two_of rv
      refine ⟨v, u, rfl, q _ ?_⟩
      rw [List.set_comm _ _ h3]
      exact (e1.set j rv2).set i rv1
  · rename_i i j l x px y py z pz e1 e2 e3 a b c
    simp only [Bool.and_eq_true, decide_eq_true_eq] at h
    obtain ⟨⟨⟨⟨⟨⟨h1, h2⟩, h3⟩, h4⟩, h5⟩, h6⟩, h7⟩ := h
    obtain ⟨i1, l1⟩ := isLoc_ok g h1
    obtain ⟨i2, l2⟩ := isLoc_ok g h2
    obtain ⟨i3, l3⟩ := isLoc_ok g h3
    have ga : GA M X W k [e1, e2, e3] [a, b, c] := s_cons (mE_star h5) (sndE e1 h5 g.g) (s_cons (mE_star h6) (sndE e2 h6 g.g) (s_cons (mE_star h7) (sndE e3 h7 g.g) s_nil))
    refine PS.sub (ps_par3 g.g.calm (by rw [g.g.eN]; exact g.g.nd) i1 i2 i3 l1 l2 l3 ga (swap_of g.g.esc g.bk h4) sole_tup) fun D σ H h => ?_
    refine (par_wish h).imp fun ra z => ?_
    obtain ⟨ρ, s, q1, q2, p⟩ := z
    refine ⟨ρ, s, q1, q2, p.imp fun vs H1 ⟨rc, ρ1, s1, l', e1, R1, rv, hl, q⟩ => ?_⟩
    match l', hl with
    | [d1, d2, d3], _ =>
      obtain ⟨v, r, rfl, rv1, rv'⟩ := rv
      obtain ⟨u, w, rfl, rv2, rv3⟩ := two_of rv'
      exact ⟨v, u, w, rfl, q _ (((e1.set l rv3).set j rv2).set i rv1)⟩
  · cases h
theorem ip_of {op : Operator} (h : op = .Add ∨ op = .Sub) : PIp X op (ipI (aop op)) := by
  rcases h with rfl | rfl
  · exact ip_add
  · exact ip_sub
theorem s_aug {i : Nat} {op : Operator} {e : E} {y : Str} {v : Expr} {p pos : Pos} (g : GoodS M N X W k sc) (ho : op = .Add ∨ op = .Sub) (hn : N[i]? = some y) (hl : locB sc (fun _ => true) y = true) (hv : GE M X W k e v) :
    GS M X W k (.aug i op e) (.AugAssign (.Name y p) op v pos) := by
  obtain ⟨l1, l2⟩ := loc_ok hl g.g
  refine PS.sub (ps_aug (by rw [g.g.eN]; exact g.g.nd) (by rw [g.g.eN]; exact hn) l1 hv.1 (ip_of ho) l2) fun D σ H ⟨ra, ρ, s, e1, r, p⟩ => ?_
  simp only [exS] at p
  split at p
  · rename_i x hx
    obtain ⟨v0, ev, rv0⟩ := e1.get i _ hx
    refine ⟨v0, ev, ra, ρ, s, e1, r, (PostS.bind (repA := RepV X.K) e1 p).imp fun v H1 ⟨d, s1, r1, k1, p1, R1, e2, rv, q⟩ => ?_⟩
    cases d with
    | int y =>
      obtain ⟨rc, pc, Rc, _⟩ := let_go r k1 p1 R1 (d := .non) (v := .non) rfl
      exact ⟨x, y, rv0, rv, q _ rc H1 k1 pc Rc ((e1.keep k1 pc).set i rfl)⟩
    | _ => exact q.elim
  · exact p.elim
theorem get_any : PGet X (rIxL X.K) := by
  intro pins s σ H x y v u Q I rx ry h
  obtain ⟨p, xs, i, z, rfl, rfl, hq, he, q⟩ := h
  cases rx
  obtain ⟨t, rfl⟩ := ry
  obtain ⟨its, r, pl, hz⟩ := I.list hq
  obtain ⟨j, h1, h2, h3, h4, h5⟩ := atI_get he
  obtain ⟨w, ew, rw'⟩ := r.get h2
  have hl := r.length
  have hn := line63
  have fin : EP X pins σ Q w s := ⟨z, H, I, rw', q⟩
  by_cases h0 : 0 ≤ i
  · have hj : i.toNat = j := by
      rw [seqIndex_of h0 h5] at h1
      exact Option.some.inj h1
    exact wpAny_getItem_list pl.isList h0 (by omega) (by rw [hj]; simpa using ew) fin
  · have hj : (i + (its.toArray.size : Int)).toNat = j := by
      rw [seqIndex_neg (by omega) h4] at h1
      rw [List.size_toArray, ← hl]
      exact Option.some.inj h1
    exact wpAny_getItem_list_neg pl.isList (by omega) (by rw [List.size_toArray] <;> omega) (by omega) (by rw [hj]; simpa using ew) fin
theorem augStore_ok {y : Expr} (h : notSlice y = true) (ov iv new : Value) : augStore y ov iv new = (do holding [new, ov, iv] (setItem ov iv new); release [new, ov, iv] []; pure .next) := by
  cases y <;> first | rfl | cases h
theorem s_augS {fn : Str → Bool} (g : Good M N X W k sc fn) {o i e : E} {op : Operator} {x y v : Expr} {p pos : Pos} (ho : op = .Add ∨ op = .Sub) (hn : notSlice y = true) (h1 : GE M X W k o x) (h2 : GE M X W k i y) (h3 : GE M X W k e v) :
    GS M X W k (.augS o i op e) (.AugAssign (.Subscript x y p) op v pos) := by
  refine PS.sub (ps_augS h1.1 h2.1 get_any h3.1 (ip_of ho) (PSet.or set_list (set_dict (show X.A.units + 1 < cLine by have := g.hr.un; omega))) (augStore_ok hn)) fun D σ H ⟨ra, ρ, s, e1, r, p⟩ => ?_
  simp only [exS] at p
  refine ⟨ra, ρ, s, e1, r, (PostS.bind (repA := RepV X.K) e1 p).imp fun ov H1 ⟨a, s1, r1, k1, p1, R1, e2, rv, q⟩ => ?_⟩
  have q := q.mono k1 p1
  refine ⟨r1, ρ, s1, e2, R1, (PostS.bind (repA := RepV X.K) e2 q).imp fun iv H2 ⟨b, s2, r2, k2, p2, R2, e3, rb, q2⟩ => ?_⟩
  have q2 := q2.mono k2 p2
  have rv2 := RepV.keep k2 p2 a ov rv
  split at q2
  · rename_i x0 hx
    cases a with
    | ref n =>
      cases b with
      | int j =>
        have hx' : ∃ l, isLst s2 n = some l ∧ atD l j = some (.int x0) := by
          split at hx
          · rename_i hL
            simp only [isL, Option.isSome_iff_exists] at hL
            obtain ⟨l, hl⟩ := hL
            simp only [ixD, items, hl] at hx
            exact ⟨l, hl, hx⟩
          · cases hx
        obtain ⟨l, hl, ej⟩ := hx'
        obtain ⟨a0, vs, rfl, ea, hv, rl⟩ := ref_lst R2 rv2 hl
        obtain ⟨v0, ev0, rv0⟩ := atD_rep rl ej
        refine ⟨a0, vs, j, v0, rfl, rb, SqL.of hv, ev0, ?_⟩
        refine ⟨r2, ρ, s2, e3, R2, (PostS.bind (repA := RepV X.K) e3 q2).imp fun yv H3 ⟨c, s3, r3, k3, p3, R3, e4, rc, q3⟩ => ?_⟩
        have q3 := q3.mono k3 p3
        cases c with
        | int z =>
          refine ⟨x0, z, rv0, rc, ?_⟩
          have rv3 := RepV.keep k3 p3 _ _ rv2
          simp only [setD] at q3
          cases hl3 : isLst s3 n with
          | none =>
            rw [hl3] at q3
            simp only [setK] at q3
            cases hd3 : isDct s3 n with
            | none => rw [hd3] at q3; exact q3.elim
            | some l3 =>
              rw [hd3] at q3
              simp only [keyD] at q3
              split at q3
              · rename_i hz
                obtain ⟨b3, kvs, eb3, ea3, hv3, rm⟩ := ref_dct R3 rv3 hd3
                obtain ⟨R4, k4⟩ := R3.setD hd3 ea3 (rm.put (.inl j) (d := .int (aop op x0 z)) (v := .int (aop op x0 z)) rfl)
                refine .inr ⟨b3, _, eb3, by rw [show iv = .int j from rb]; exact DPut.k (k := .inl j) hv3 (by rw [rm.length]; exact hz), ?_⟩
                exact q3 σ r3 _ k4 (List.prefix_refl _) R4 (e4.keep k4 (List.prefix_refl _))
              · exact q3.elim
          | some l3 =>
            rw [hl3] at q3
            simp only at q3
            cases hm : ixOf l3.length j with
            | none => rw [hm] at q3; exact q3.elim
            | some m =>
              rw [hm] at q3
              obtain ⟨b3, vs3, eb3, ea3, hv3, rl3⟩ := ref_lst R3 rv3 hl3
              obtain ⟨R4, k4⟩ := R3.setL hl3 ea3 (RepL.set l3 vs3 m (.int (aop op x0 z)) (.int (aop op x0 z)) rl3 rfl)
              refine .inl ⟨b3, vs3, j, m, eb3, rb, hv3, by rw [RepL.length l3 vs3 rl3]; exact hm, ?_⟩
              exact q3 σ r3 _ k4 (List.prefix_refl _) R4 (e4.keep k4 (List.prefix_refl _))
        | _ => exact q3.elim
      | _ =>
        split at hx
        · rename_i hL
          exfalso
          simp only [isL, Option.isSome_iff_exists] at hL
          obtain ⟨l, hl⟩ := hL
          have hn : isDct s2 n = none := by
            have := isLst_get hl
            unfold isDct
            rw [this]
          simp [ixD, lookD, hn] at hx
        · cases hx
    | _ => simp [isL] at hx
  · exact q2.elim
theorem s_expr {e : E} {v : Expr} {pos : Pos} (hn : notComp v = true) (h : GE M X W k e v) : GS M X W k (.expr e) (.Expr v pos) := by
  refine PS.sub (ps_expr h.1 (sw_none hn _ _ _)) fun D σ H ⟨ra, ρ, s, e1, r, p⟩ => ?_
  simp only [exS] at p
  refine ⟨ra, ρ, s, e1, r, (PostS.bind (repA := RepV X.K) e1 p).imp fun v H1 ⟨d, s1, r1, k1, p1, R1, e2, rv, q⟩ => ?_⟩
  obtain ⟨rc, pc, Rc, _⟩ := let_go r k1 p1 R1 (d := .non) (v := .non) rfl
  exact q σ rc H1 k1 pc Rc (e1.keep k1 pc)
theorem s_ret {e : E} {v : Expr} {pos : Pos} (h : GE M X W k e v) : GS M X W k (.ret e) (.Return (some v) pos) := by
  refine PS.sub (ps_ret h.1) fun D σ H ⟨ra, ρ, s, e1, r, p⟩ => ?_
  simp only [exS] at p
  refine ⟨ra, ρ, s, e1, r, (PostS.bind (repA := RepV X.K) e1 p).imp fun v H1 ⟨d, s1, r1, k1, p1, R1, e2, rv, q⟩ => ?_⟩
  obtain ⟨rc, pc, Rc, rvc⟩ := let_go r k1 p1 R1 rv
  exact q v rc H1 k1 pc Rc rvc
theorem s_retN {pos : Pos} : GS M X W k .retN (.Return none pos) := PS.sub ps_retN fun D σ H ⟨ra, ρ, s, e1, r, p⟩ => by
  simp only [exS] at p
  exact p .non ra H (Keeps.refl H) (List.prefix_refl _) r rfl
theorem s_brk {pos : Pos} : GS M X W k .brk (.Break pos) := PS.sub ps_break fun D σ H ⟨ra, ρ, s, e1, r, p⟩ => by
  simp only [exS] at p
  exact p σ ra H (Keeps.refl H) (List.prefix_refl _) r e1
theorem s_cnt {pos : Pos} : GS M X W k .cnt (.Continue pos) := PS.sub ps_continue fun D σ H ⟨ra, ρ, s, e1, r, p⟩ => by
  simp only [exS] at p
  exact p σ ra H (Keeps.refl H) (List.prefix_refl _) r e1
theorem s_pass {pos : Pos} : GS M X W k .pass (.Pass pos) := PS.sub ps_pass fun D σ H ⟨ra, ρ, s, e1, r, p⟩ => by
  simp only [exS] at p
  exact p σ ra H (Keeps.refl H) (List.prefix_refl _) r e1
theorem s_nev {st : Stmt} : GS M X W k .nev st := PS.sub ps_never fun D σ H ⟨ra, ρ, s, e1, r, p⟩ => by
  simp only [exS] at p
  exact p.elim
theorem tst_wish {c : E} {D : L2.Ends} {σ : L2.St} {H : Hp} {ra : List Addr} {ρ : Env} {s : Store} {f : Bool → Store → RS} {Q : Bool → Hp → Prop} (e : ERel X.K H ra ρ σ) (r : SRel X.K H ra s) (p : PostS M X W D H ra ((tst (M.C k) M.G c ρ s).stm ρ f))
    (h : ∀ b H1 r1 s1, Keeps H H1 → ra <+: r1 → ERel X.K H1 r1 ρ σ → SRel X.K H1 r1 s1 → PostS M X W D H1 r1 (f b s1) → Q b H1) : tT M X W (evT (M.C k) M.G c) σ H Q := by
  rw [tst_eq, stm_bind] at p
  refine ⟨ra, ρ, s, e, r, (PostS.bind (repA := repB) e p).imp fun b H1 ⟨b', s1, r1, k1, p1, R1, e2, rb, q⟩ => ?_⟩
  have : b = b' := rb
  subst this
  obtain ⟨rc, pc, Rc, _⟩ := let_go r k1 p1 R1 (d := .non) (v := .non) rfl
  exact h b H1 rc _ k1 pc (e.keep k1 pc) Rc (q.mono k1 pc)
theorem s_iff {c : E} {a b : List S} {x : Expr} {p q : List Stmt} {pos : Pos} (hc : GE M X W k c x) (ha : GB M X W k a p) (hb : GB M X W k b q) : GS M X W k (.iff c a b) (.If x p q pos) := by
  refine PS.sub (ps_if hc.2 ha hb) fun D σ H ⟨ra, ρ, s, e1, r, p⟩ => ?_
  simp only [exS] at p
  refine tst_wish e1 r p fun t H1 r1 s1 k1 p1 e2 R1 q => ?_
  cases t with
  | true => exact ⟨r1, ρ, s1, e2, R1, q⟩
  | false => exact ⟨r1, ρ, s1, e2, R1, q⟩
theorem s_whl {c : E} {b : List S} {x : Expr} {p : List Stmt} {pos : Pos} (g : GoodS M N X W k sc) (hc : GE M X W k c x) (hb : GB M X W k b p) : GS M X W k (.whl c b) (.While x p [] pos) := by
  refine PS.sub (ps_while g.po hc.2 hb) fun D σ H ⟨ra, ρ, s, e1, r, p⟩ => ?_
  simp only [exS] at p
  refine ⟨fun m σ H => ∃ ra ρ s, ERel X.K H ra ρ σ ∧ SRel X.K H ra s ∧ PostS M X W D H ra (whlGo (tst (M.C k) M.G c) (exB (M.C k) M.G M.F b) m ρ s), ⟨M.F, ra, ρ, s, e1, r, p⟩, ?_⟩
  rintro m σ H ⟨ra, ρ, s, e1, r, p⟩
  cases m with
  | zero => exact (show False from p).elim
  | succ n =>
    simp only [whlGo] at p
    refine tst_wish e1 r p fun t H1 r1 s1 k1 p1 e2 R1 q => ?_
    cases t with
    | false =>
      rw [if_neg Bool.false_ne_true]
      exact q σ r1 H1 (Keeps.refl H1) (List.prefix_refl _) R1 e2
    | true =>
      rw [if_pos rfl]
      refine ⟨fun σ' H' => ∃ ra ρ s, ERel X.K H' ra ρ σ' ∧ SRel X.K H' ra s ∧ PostS M X W D H' ra (whlGo (tst (M.C k) M.G c) (exB (M.C k) M.G M.F b) n ρ s), fun σ' H' h => ⟨n, Nat.lt_succ_self n, h⟩, r1, ρ, s1, e2, R1, ?_⟩
      simp only at q
      cases hx : exB (M.C k) M.G M.F b ρ s1 with
      | nx ρ2 s2 => rw [hx] at q; exact fun σ' rb H2 k2 p2 R2 e3 => ⟨rb, ρ2, s2, e3, R2, q.mono k2 p2⟩
      | cnt ρ2 s2 => rw [hx] at q; exact fun σ' rb H2 k2 p2 R2 e3 => ⟨rb, ρ2, s2, e3, R2, q.mono k2 p2⟩
      | brk ρ2 s2 => rw [hx] at q; exact q
      | ret d s2 => rw [hx] at q; exact q
      | exc c w ρ2 s2 => rw [hx] at q; exact q
      | bad => rw [hx] at q; exact q
theorem s_for {t : Tg} {it : It} {b : List S} {tg x : Expr} {p : List Stmt} {pos : Pos} (g : GoodS M N X W k sc) (hm : mIt M N sc (fun _ => true) it tg x = true) (ht : GG M X k t tg) (hi : GI M X W k it tg x) (hb : GB M X W k b p) :
    GS M X W k (.for t it b) (.For tg x p [] pos) := by
  refine PS.sub (ps_for g.po g.g.calm hi ht hb (fun v => folded_ok hm X.env v)) fun D σ H ⟨ra, ρ, s, e1, r, p⟩ => ?_
  simp only [exS] at p
  refine ⟨ra, ρ, s, e1, r, (PostS.bind (repA := Walks X.K) e1 p).imp fun J H1 ⟨w, s1, r1, k1, p1, R1, e2, hw, q⟩ => ?_⟩
  have q := q.mono k1 p1
  obtain ⟨F, hF⟩ : ∃ F, F = fun (x : WL.D) (ρ : Env) (s : Store) => (asgT (M.C k) M.G t x ρ s).stm ρ fun ρ s => exB (M.C k) M.G M.F b ρ s := ⟨_, rfl⟩
  rw [← hF] at q
  refine ⟨fun i m σ Hc => m = w.its.length - i ∧ i ≤ w.its.length ∧ ∃ rc ρ sc_, Keeps H1 Hc ∧ r1 <+: rc ∧ ERel X.K Hc rc ρ σ ∧ SRel X.K Hc rc sc_ ∧ PostS M X W D Hc rc (forGo w F (w.its.drop i) ρ sc_),
    ⟨_, rfl, Nat.zero_le _, r1, ρ, s1, Keeps.refl H1, List.prefix_refl _, e2, R1, q⟩, ?_⟩
  rintro i m σ Hc ⟨rfl, hi, rc, ρ, sc_, kc, pc, ec, Rc, q⟩
  have W1 := hw i Hc rc sc_ kc pc Rc
  by_cases hlt : i < w.its.length
  · have hd : w.its[i]? = some w.its[i] := List.getElem?_eq_getElem hlt
    rw [List.drop_eq_getElem_cons hlt] at q
    unfold forGo at q
    split at q
    · rename_i st
      obtain ⟨go, yld⟩ := (W1 st).1 _ hd
      refine .inr ⟨go, fun σ' H' => w.its.length - (i + 1) = w.its.length - (i + 1) ∧ i + 1 ≤ w.its.length ∧ ∃ rc ρ sc_, Keeps H1 H' ∧ r1 <+: rc ∧ ERel X.K H' rc ρ σ' ∧ SRel X.K H' rc sc_ ∧ PostS M X W D H' rc (forGo w F (w.its.drop (i + 1)) ρ sc_),
        fun σ' H' hN => ⟨_, by omega, hN⟩, fun x H2 hy => ?_⟩
      obtain ⟨k2, R2, rx⟩ := yld x H2 hy
      have e3 := ec.keep k2 (List.prefix_refl rc)
      have q2 := q.mono k2 (List.prefix_refl rc)
      refine ⟨rc, ρ, sc_, w.its[i], e3, R2, rx, ?_⟩
      rw [asgT_quiet]
      have hq := asgT_quiet (M.C k) M.G t w.its[i] ρ sc_
      have eF : F w.its[i] ρ sc_ = (asgT (M.C k) M.G t w.its[i] ρ sc_).stm ρ fun ρ s => exB (M.C k) M.G M.F b ρ s := by rw [hF]
      rw [eF] at q2
      cases ha : asgT (M.C k) M.G t w.its[i] ρ sc_ with
      | exc c w' s2 => rw [ha] at hq; cases hq
      | bad => rw [ha] at q2; exact q2
      | ok ρ2 s2 =>
        rw [ha] at q2
        rintro σ3 rb H3 k3 p3 R3 ⟨e4, _⟩
        refine ⟨rb, ρ2, s2, e4, R3, ?_⟩
        have q3 := q2.mono k3 p3
        simp only [R.stm] at q3
        cases hx : exB (M.C k) M.G M.F b ρ2 s2 with
        | nx ρ4 s4 => rw [hx] at q3; exact fun σ' rd H4 k4 p4 R4 e5 => ⟨rfl, hlt, rd, ρ4, s4, kc.trans (k2.trans (k3.trans k4)), pc.trans (p3.trans p4), e5, R4, q3.mono k4 p4⟩
        | cnt ρ4 s4 => rw [hx] at q3; exact fun σ' rd H4 k4 p4 R4 e5 => ⟨rfl, hlt, rd, ρ4, s4, kc.trans (k2.trans (k3.trans k4)), pc.trans (p3.trans p4), e5, R4, q3.mono k4 p4⟩
        | brk ρ4 s4 => rw [hx] at q3; exact q3
        | ret d s4 => rw [hx] at q3; exact q3
        | exc c w' ρ4 s4 => rw [hx] at q3; exact q3
        | bad => rw [hx] at q3; exact q3
    · exact q.elim
  · have hi' : i = w.its.length := by omega
    subst hi'
    rw [List.drop_length] at q
    unfold forGo at q
    split at q
    · rename_i st
      exact .inl ⟨(W1 st).2 (rfl), q σ rc Hc (Keeps.refl _) (List.prefix_refl _) Rc ec⟩
    · exact q.elim
end
end WL
set_option maxHeartbeats 4000000
namespace WL
open PySem PySem.Spec PyProof.Rows L2
variable [TBS]
section
variable {M : Cfg} {N : List Str} {X : Cx} {W : WX} {k : Nat} {sc : Scope} {a : Addr} {oe : Obj} {pn : List (Addr × Obj)} {Y : Sx}
section
variable (M : Cfg) (X : Cx) (Y : Sx)
def PostH (D : L2.Ends) (H : Hp) (ra : List Addr) (r : RS) : Prop := match r with
  | .nx ρ s => ∀ σ' rb H', Keeps H H' → ra <+: rb → SRel X.K H' rb s → ERelH M X.mg X.K Y H' rb ρ σ' → D.nx σ' H'
  | .ret d s => ∀ v rb H', Keeps H H' → ra <+: rb → SRel X.K H' rb s → RepV X.K H' rb d v → D.rt v H'
  | _ => False
def hS (f : Env → Store → RS) : TS := fun D σ H => ∃ ra ρ s, ERelH M X.mg X.K Y H ra ρ σ ∧ SRel X.K H ra s ∧ PostH M X Y D H ra (f ρ s)
end
variable {D : L2.Ends} {H H' : Hp} {ra rb : List Addr} {ρ : Env} {σ : L2.St} {s : Store} {α β : Type}
theorem PostH.mono {Z : Cx} {r : RS} (h : PostH M Z Y D H ra r) (c : Keeps H H') (p : ra <+: rb) : PostH M Z Y D H' rb r := by
  cases r with
  | nx ρ s => exact fun σ' rc H2 k2 p2 => h σ' rc H2 (c.trans k2) (p.trans p2)
  | ret d s => exact fun v rc H2 k2 p2 => h v rc H2 (c.trans k2) (p.trans p2)
  | _ => exact h
theorem PostH.bind {Z : Cx} {repA : Hp → List Addr → α → β → Prop} {r : R α} {f : α → Store → RS} (e : ERelH M Z.mg Z.K Y H ra ρ σ) (h : PostH M Z Y D H ra (r.stm ρ f)) :
    PostR M Z.mg Z.K Wf σ repA H ra r fun b H1 => ∃ a s1 r1, Keeps H H1 ∧ ra <+: r1 ∧ SRel Z.K H1 r1 s1 ∧ ERelH M Z.mg Z.K Y H1 r1 ρ σ ∧ repA H1 r1 a b ∧ PostH M Z Y D H ra (f a s1) := by
  cases r with
  | ok a s => exact fun b rb H1 k p R rp => ⟨a, s, rb, k, p, R, e.keep k p, rp, h⟩
  | exc c w s => exact (show False from h).elim
  | bad => exact (show False from h).elim
theorem h_ret {Z : Cx} {e : E} {v : Expr} {pos : Pos} (h : GH M Z Y k e v) : PS Z (.Return (some v) pos) (hS M Z Y fun ρ s => (evE (M.C k) M.G e ρ s).stm ρ fun d s1 => .ret d (trunc s d s1)) := by
  refine PS.sub (ps_ret h.1) fun D σ H ⟨ra, ρ, s, e1, r, p⟩ => ?_
  refine ⟨ra, ρ, s, e1, r, (PostH.bind (repA := RepV Z.K) e1 p).imp fun v H1 ⟨d, s1, r1, k1, p1, R1, e2, rv, q⟩ => ?_⟩
  obtain ⟨rc, pc, Rc, rvc⟩ := let_go r k1 p1 R1 rv
  exact q v rc H1 k1 pc Rc rvc
theorem tst_wishH {Z : Cx} {c : E} {f : Bool → Store → RS} {Q : Bool → Hp → Prop} (e : ERelH M Z.mg Z.K Y H ra ρ σ) (r : SRel Z.K H ra s) (p : PostH M Z Y D H ra ((tst (M.C k) M.G c ρ s).stm ρ f))
    (h : ∀ b H1 r1 s1, Keeps H H1 → ra <+: r1 → ERelH M Z.mg Z.K Y H1 r1 ρ σ → SRel Z.K H1 r1 s1 → PostH M Z Y D H1 r1 (f b s1) → Q b H1) : hT M Z Y (evT (M.C k) M.G c) σ H Q := by
  rw [tst_eq, stm_bind] at p
  refine ⟨ra, ρ, s, e, r, (PostH.bind (repA := repB) e p).imp fun b H1 ⟨b', s1, r1, k1, p1, R1, e2, rb, q⟩ => ?_⟩
  have : b = b' := rb
  subst this
  obtain ⟨rc, pc, Rc, _⟩ := let_go r k1 p1 R1 (d := .non) (v := .non) rfl
  exact h b H1 rc _ k1 pc (e.keep k1 pc) Rc (q.mono k1 pc)
theorem mSu_if {nm : Option Nat} {c e : E} {hs : List HS} {sts : List Stmt} (h : mSu M N sc nm (.ifret c e :: hs) sts = true) :
    ∃ x v p1 p2 ss, sts = .If x [.Return (some v) p1] [] p2 :: ss ∧ mH M N sc nm c x = true ∧ mH M N sc nm e v = true ∧ mSu M N sc nm hs ss = true := by
  unfold mSu at h
  split at h
  any_goals (first | (cases h; done) | (rename_i q _; cases q; done) | (rename_i q; cases q; done))
  all_goals
    rename_i q
    cases q
    simp only [Bool.and_eq_true] at h
    exact ⟨_, _, _, _, _, rfl, h.1.1, h.1.2, h.2⟩
theorem sndSu (u : InSu M N X W k sc a oe Y) (pn : List (Addr × Obj)) : ∀ (hs : List HS) {sts : List Stmt}, mSu M N sc Y.i hs sts = true → PSs (SU X a oe pn) sts (hS M (SU X a oe pn) Y (exSu (M.C k) M.G hs))
  | [], sts, h => by
    cases sts with
    | cons y ys => simp [mSu] at h
    | nil =>
      refine PSs.sub pss_nil fun D σ H ⟨ra, ρ, s, e, r, p⟩ => ?_
      simp only [exSu] at p
      exact p σ ra H (Keeps.refl H) (List.prefix_refl _) r e
  | .ret e :: hs, sts, h => by
    cases sts with
    | nil => simp [mSu] at h
    | cons y ys =>
      cases y with
      | Return o pos =>
        cases o with
        | none => simp [mSu] at h
        | some v =>
          simp only [mSu] at h
          refine PSs.sub (pss_cons (h_ret (sndH u pn e h)) pss_never) fun D σ H ⟨ra, ρ, s, e1, r, p⟩ => ?_
          simp only [exSu] at p
          refine ⟨ra, ρ, s, e1, r, ?_⟩
          revert p
          show PostH M (SU X a oe pn) Y D H ra ((evE (M.C k) M.G e ρ s).stm ρ fun d s1 => .ret d (trunc s d s1)) → PostH M (SU X a oe pn) Y _ H ra ((evE (M.C k) M.G e ρ s).stm ρ fun d s1 => .ret d (trunc s d s1))
          cases evE (M.C k) M.G e ρ s <;> exact fun p => p
      | _ => simp [mSu] at h
  | .ifret c e :: hs, sts, h => by
    obtain ⟨x, v, p1, p2, ss, rfl, h1, h2, h3⟩ := mSu_if h
    have ih := sndSu u pn hs h3
    refine PSs.sub (pss_cons (ps_if (sndH u pn c h1).2 (pss_one (h_ret (sndH u pn e h2))) pss_nil) ih) fun D σ H ⟨ra, ρ, s, e1, r, p⟩ => ?_
    simp only [exSu] at p
    refine tst_wishH (Z := SU X a oe pn) e1 r p fun t H1 r1 s1 k1 p1 e2 R1 q => ?_
    cases t with
    | true =>
      refine ⟨r1, ρ, s1, e2, R1, ?_⟩
      revert q
      show PostH M (SU X a oe pn) Y D H1 r1 ((evE (M.C k) M.G e ρ s1).stm ρ fun d s2 => .ret d (trunc s1 d s2)) → PostH M (SU X a oe pn) Y _ H1 r1 ((evE (M.C k) M.G e ρ s1).stm ρ fun d s2 => .ret d (trunc s1 d s2))
      cases evE (M.C k) M.G e ρ s1 <;> exact fun p => p
    | false => exact ⟨r1, ρ, s1, e2, R1, q⟩
end
section
variable {X : Cx} {Wout : WX} {D : L2.Ends}
abbrev Cl : Type := Value × Option Nat × (Addr → Value → Option Addr → TS)
def offS (i : Option Nat) (σ : L2.St) : L2.St := match i with
  | some i => σ.set i none
  | none => σ
def putS (i : Option Nat) (a : Addr) (σ : L2.St) : L2.St := match i with
  | some i => σ.set i (some (.ref a))
  | none => σ
def offD (i : Option Nat) (D : L2.Ends) : L2.Ends := { nx := fun σ H => D.nx (offS i σ) H, rt := D.rt, bk := fun σ H => D.bk (offS i σ) H, ct := fun σ H => D.ct (offS i σ) H }
def wTry (K : PySem.W.Frag) (Wout : WX) (D : L2.Ends) : List Cl → WX
  | [] => Wout
  | q :: r => fun cls d σ H => ∃ b, PySem.W.exmOne K cls q.1 = some b ∧ (b = true → ∀ a, H a = none → q.2.2 a cls d (offD q.2.1 D) (putS q.2.1 a σ) H) ∧ (b = false → wTry K Wout D r cls d σ H)
def NameAt (X : Cx) : Option Str → Option Nat → Prop
  | none, none => True
  | some n, some i => X.N[i]? = some n ∧ X.env.kindOf n = some .local
  | _, _ => False
inductive ClsOk (X : Cx) : List ExceptHandler → List Cl → Prop
  | nil : ClsOk X [] []
  | cons {x : Str} {n : Option Str} {c : Cl} {b0 : Stmt} {sts : List Stmt} {np p : Pos} {hds : List ExceptHandler} {l : List Cl} (hc : Names X x c.1) (hn : NameAt X n c.2.1)
      (hsu : ∀ (a : Addr) (oe : Obj) (cls : Value) (d : Option Addr) (pn : List (Addr × Obj)), Zc cls d oe → (∃ vs, oe.data = .fields vs) → PSs (SU X a oe pn) (b0 :: sts) (c.2.2 a cls d)) (r : ClsOk X hds l) :
      ClsOk X (.ExceptHandler (some (.Name x np)) n (b0 :: sts) p :: hds) (c :: l)
structure Down (X : Cx) (pins : List (Addr × Obj)) (σ : L2.St) (H : Hp) (sI s' : Shared) (B : Heap) (a : Addr) (cls : Value) (d : Option Addr) : Prop where
  J : Inv X pins σ H sI
  nb : ∀ b o, sI.heap.get? b = some o → b ∉ frs X.stack → B.get? b = some o
  na : H a = none
  os : s'.os = sI.os
  ag : AllBare s'.gens
  nL : a ≠ X.env.locals
  nF : a ∉ X.fs
variable {pins : List (Addr × Obj)} {σ : L2.St} {H : Hp} {sI s' : Shared} {B h : Heap} {a : Addr} {cls : Value} {d : Option Addr}
theorem Down.su (Z : Down X pins σ H sI s' B a cls d) (up : sI.heap.UpToSlots h) (fl : HandSPX.FlyingZ B (X.env :: X.outer) a (Zc cls d) h) :
    ∃ oe, Zc cls d oe ∧ (∃ vs, oe.data = .fields vs) ∧ h.get? a = some oe ∧ Inv (SU X a oe (X.pn ++ pins)) [] σ H { s' with heap := h } := by
  obtain ⟨oe, vs, e1, e2, e3⟩ := fl.there
  exact ⟨oe, e2, ⟨vs, e3⟩, e1, (Z.J.landed (s' := { s' with heap := h }) Z.nb fl.1 up Z.os Z.ag).suite e1 e3 Z.na Z.nL Z.nF⟩
theorem su_end0 {oe : Obj} {f : Flow} {s6 : Shared} (ok : X.Ok) (q : SP (SU X a oe (X.pn ++ pins)) [] (offD none D) f s6) : SP X pins D f s6 := by
  cases f with
  | ret u =>
    obtain ⟨v6, σ6, H6, I6, r6, q6⟩ := q
    exact ⟨_, _, _, I6.unsuite ok, r6, q6⟩
  | next =>
    obtain ⟨σ6, H6, I6, q6⟩ := q
    exact ⟨_, _, I6.unsuite ok, q6⟩
  | brk =>
    obtain ⟨σ6, H6, I6, q6⟩ := q
    exact ⟨_, _, I6.unsuite ok, q6⟩
  | cont =>
    obtain ⟨σ6, H6, I6, q6⟩ := q
    exact ⟨_, _, I6.unsuite ok, q6⟩
theorem su_end1 {oe : Obj} {i : Nat} {n : Str} {f : Flow} {s6 : Shared} {pos : Pos} (ok : X.Ok) (nd : X.N.Nodup) (hn : NameAt X (some n) (some i)) (q : SP (SU X a oe (X.pn ++ pins)) [] (offD (some i) D) f s6) :
    wpAny (model X.prog X.w) X.A (do bindName X.env n .none; unbindBehindTheSuite X.env n pos) (fun _ s7 => SP X pins D f s7) X.xe s6 := by
  cases f with
  | ret u =>
    obtain ⟨v6, σ6, H6, I6, r6, q6⟩ := q
    exact gone_ok (I6.unsuite ok) nd hn.1 hn.2 fun s7 J7 => ⟨_, _, _, J7, r6, q6⟩
  | next =>
    obtain ⟨σ6, H6, I6, q6⟩ := q
    exact gone_ok (I6.unsuite ok) nd hn.1 hn.2 fun s7 J7 => ⟨_, _, J7, q6⟩
  | brk =>
    obtain ⟨σ6, H6, I6, q6⟩ := q
    exact gone_ok (I6.unsuite ok) nd hn.1 hn.2 fun s7 J7 => ⟨_, _, J7, q6⟩
  | cont =>
    obtain ⟨σ6, H6, I6, q6⟩ := q
    exact gone_ok (I6.unsuite ok) nd hn.1 hn.2 fun s7 J7 => ⟨_, _, J7, q6⟩
theorem clauses (hs : X.stack = X.env :: X.outer) (hf : X.env.frame = some X.env.locals) (nd : X.N.Nodup) (tk : Takes X Wout) (Z : Down X pins σ H sI s' B a cls d) (up : sI.heap.UpToSlots h) (fl : HandSPX.FlyingZ B (X.env :: X.outer) a (Zc cls d) h) :
    ∀ {hds : List ExceptHandler} {l : List Cl}, ClsOk X hds l → wTry X.K Wout D l cls d σ H → wpAny (model X.prog X.w) X.A (handleBy (.ref a) X.env hds) (SP X pins D) X.xe { s' with heap := h } := by
  intro hds l c
  have ok := Z.J.ok
  obtain ⟨oe, hz, hd, he, S⟩ := Z.su up fl
  induction c with
  | nil =>
    intro w
    refine wpAny_handleBy_nil ?_
    obtain ⟨_, _, _, o, vs, T, _, _, g1, g2, g3, g4, _⟩ := id fl
    have last : wpAny (model X.prog X.w) X.A (setFlight (.ref a) X.env.frame) (fun _ s4 => wpAny (model X.prog X.w) X.A (throw (.ref a) : Sem Flow) (SP X pins D) X.xe s4) X.xe { s' with heap := h } := by
      rw [hf]
      exact HandSPX.setFlight_upZ fl fun h4 k4 u4 => wpAny_throw (tk _ _ ⟨a, B, sI, pins, σ, H, cls, d, rfl, Z.J, Z.nb, up.trans u4, .inr (.inr (by rw [hs]; exact k4)), Z.na, Z.os, Z.ag, w⟩)
    unfold PySem.passOn
    refine wpAny_bind (wpAny_field g1 g3 g4 ?_)
    rw [if_neg (by simp)]
    first
      | exact wpAny_bind (wpAny_pure (wpAny_bind last))
      | exact wpAny_bind last
  | @cons x n c b0 sts np p hds l hc hn hsu r ih =>
    intro w
    obtain ⟨b, e, yes, no⟩ := w
    refine wpAny_handleBy_cons (codeAny_handlers_test ?_) (fun q => nomatch q)
    have L0 : PySem.W.Looks (model X.prog X.w) h (typeOf (.ref a)) cls := fun A Q E s k q => wpAny_typeOf_ref (k _ _ he) (by rw [hz.1]; exact q)
    have L1 := PySem.W.exm_one (M := model X.prog X.w) S.kIn L0 e
    have test : ∀ {Q : Value → Shared → Prop} {E : Value → Shared → Prop}, Q c.1 { s' with heap := h } → wpAny (model X.prog X.w) (X.A.mark (some (.ref a))) (eval (.Name x np) X.env) Q E { s' with heap := h } := fun {Q E} q => by
      rcases hc with ⟨g1, g2, g3 | ⟨g3, g4, g5⟩⟩
      · exact ld_glob S g1 g3 q g2
      · exact ld_blt S g1 g3 g4 q g5 g2
    refine test (L1.here ?_)
    cases b with
    | false =>
      show wpAny _ X.A (handleBy (.ref a) X.env hds) _ _ _
      exact ih (no rfl)
    | true =>
      have yes := yes rfl a Z.na
      cases n with
      | none =>
        cases hi : c.2.1 with
        | some i =>
          rw [hi] at hn
          exact hn.elim
        | none =>
          rw [hi] at yes hn
          refine codeAny_handlers_suite (HandSPX.lands_againZ fl fun h4 fl4 up4 => ?_)
          obtain ⟨o4, z4, d4, e4, S4⟩ := Z.su (up.trans up4) fl4
          refine wpAny_mono ((hsu a o4 cls d (X.pn ++ pins) z4 d4).run [] _ _ H _ S4 yes) (fun f s6 q => ?_) (fun _ _ z => z.elim)
          exact su_end0 ok q
      | some n =>
        cases hi : c.2.1 with
        | none =>
          rw [hi] at hn
          exact hn.elim
        | some i =>
          rw [hi] at yes hn
          refine codeAny_handlers_suite_as (HandSPX.lands_againZ fl fun h4 fl4 up4 => ?_)
          obtain ⟨o4, z4, d4, e4, S4⟩ := Z.su (up.trans up4) fl4
          refine store_ok (X := SU X a o4 (X.pn ++ pins)) (v := .ref a) S4 nd hn.1 (.inl hn.2) rfl (fun s5 S5 => ?_) (.inr hn.2)
          refine wpAny_mono ((hsu a o4 cls d (X.pn ++ pins) z4 d4).run [] s5 _ H _ S5 yes) (fun f s6 q => ?_) (fun _ _ z => z.elim)
          exact su_end1 (pos := p) ok nd hn q
theorem ps_tryAny {body : List Stmt} {h0 : ExceptHandler} {hds : List ExceptHandler} {l : List Cl} {pos : Pos} {tb : WX → TS} (hs : X.stack = X.env :: X.outer) (hf : X.env.frame = some X.env.locals) (nd : X.N.Nodup) (tk : Takes X Wout)
    (hb : ∀ (W : WX) (pn : List (Addr × Obj)) (xe : Value → Shared → Prop), Takes (X.tr pn xe) W → PassesOwn (model X.prog X.w) X.A X.env xe → PSs (X.tr pn xe) body (tb W)) (hc : ClsOk X (h0 :: hds) l) :
    PS X (.Try body (h0 :: hds) [] [] pos) (fun D σ H => tb (wTry X.K Wout D l) D σ H) := by
  refine ⟨fun pins s σ H D I w => wpAny_Try_except ?_⟩
  have ok := I.ok
  have hfr : X.A.frames = some (X.env :: X.outer) := by rw [ok.frames, hs]
  obtain ⟨xe, hxe⟩ : ∃ xe : Value → Shared → Prop, xe = fun e s1 => wpAny (model X.prog X.w) X.A (noteFrame e X.env) (fun _ s2 => wpAny (model X.prog X.w) X.A (setFlight e none) (fun _ s3 =>
    wpAny (model X.prog X.w) X.A (handleBy e X.env (h0 :: hds)) (SP X pins D) X.xe s3) X.xe s2) X.xe s1 := ⟨_, rfl⟩
  have T : Takes (X.tr (X.pn ++ pins) xe) (wTry X.K Wout D l) := by
    rintro u s' ⟨a, B, sI, pins', σ', H', cls, d, rfl, J', nb, up, sky, na, os, ag, w'⟩
    have sky : Sky B (X.env :: X.outer) a (Zc cls d) X.env.locals s'.heap := by
      rw [← hs]
      exact sky
    rw [hxe]
    refine Sky.land Zc.steady hfr hf sky fun h3 fl up3 => ?_
    obtain ⟨oe, vs, e1, e2, e3⟩ := fl.there
    have off : a ∉ frs (X.env :: X.outer) := fun hm => by
      obtain ⟨_, o', z, z2⟩ := fl.2.2.1.mem hm
      rw [e1] at z
      cases z
      exact z2 _ e3
    have sub : ∀ b, b ∈ X.fs → b ∈ frs (X.env :: X.outer) := fun b hm => by
      obtain ⟨e, he, q⟩ := List.mem_filterMap.mp hm
      exact List.mem_filterMap.mpr ⟨e, List.mem_cons_of_mem _ he, q⟩
    exact clauses hs hf nd tk ⟨J'.ofTry ok, nb, na, os, ag, fun z => off (List.mem_filterMap.mpr ⟨X.env, List.mem_cons_self, by rw [hf, z]⟩), fun z => off (sub _ z)⟩ (up.trans up3) fl hc w'
  have po : PassesOwn (model X.prog X.w) X.A X.env xe := by
    rw [hxe]
    exact PassesOwn.looking
  refine wpAny_mono ((hb _ _ xe T po).run [] s σ H D (I.toTry xe) w) (fun f s1 q => ?_) (fun e s1 z => by rw [hxe] at z; exact z)
  cases f with
  | next =>
    obtain ⟨σ', H', J', q⟩ := q
    exact wpAny_execs_nil ⟨σ', H', J'.ofTry ok, q⟩
  | brk =>
    obtain ⟨σ', H', J', q⟩ := q
    exact ⟨σ', H', J'.ofTry ok, q⟩
  | cont =>
    obtain ⟨σ', H', J', q⟩ := q
    exact ⟨σ', H', J'.ofTry ok, q⟩
  | ret u =>
    obtain ⟨v, σ', H', J', r, q⟩ := q
    exact ⟨v, σ', H', J'.ofTry ok, r, q⟩
theorem ps_tryAny2 {body : List Stmt} {h0 : ExceptHandler} {hds : List ExceptHandler} {l : List Cl} {pos : Pos} {tb : WX → TS} (hs : X.stack = X.env :: X.outer) (hf : X.env.frame = some X.env.locals) (nd : X.N.Nodup) (tk : Takes X Wout)
    (hb : ∀ (W : WX) (pn : List (Addr × Obj)) (xe : Value → Shared → Prop), Takes (X.tr pn xe) W → PassesOwn (model X.prog X.w) X.A X.env xe → PSs (X.tr pn xe) body (tb W)) (hc : ClsOk X (h0 :: hds) l) :
    PS X (.Try body (h0 :: hds) [] [] pos) (fun D σ H => tb (fun cls d σ H => σ.length = X.N.length → wTry X.K Wout D l cls d σ H) D σ H) := by
  refine ⟨fun pins s σ H D I w => wpAny_Try_except ?_⟩
  have ok := I.ok
  have hfr : X.A.frames = some (X.env :: X.outer) := by rw [ok.frames, hs]
  obtain ⟨xe, hxe⟩ : ∃ xe : Value → Shared → Prop, xe = fun e s1 => wpAny (model X.prog X.w) X.A (noteFrame e X.env) (fun _ s2 => wpAny (model X.prog X.w) X.A (setFlight e none) (fun _ s3 =>
    wpAny (model X.prog X.w) X.A (handleBy e X.env (h0 :: hds)) (SP X pins D) X.xe s3) X.xe s2) X.xe s1 := ⟨_, rfl⟩
  have T : Takes (X.tr (X.pn ++ pins) xe) (fun cls d σ H => σ.length = X.N.length → wTry X.K Wout D l cls d σ H) := by
    rintro u s' ⟨a, B, sI, pins', σ', H', cls, d, rfl, J', nb, up, sky, na, os, ag, w'⟩
    have sky : Sky B (X.env :: X.outer) a (Zc cls d) X.env.locals s'.heap := by
      rw [← hs]
      exact sky
    rw [hxe]
    refine Sky.land Zc.steady hfr hf sky fun h3 fl up3 => ?_
    obtain ⟨oe, vs, e1, e2, e3⟩ := fl.there
    have off : a ∉ frs (X.env :: X.outer) := fun hm => by
      obtain ⟨_, o', z, z2⟩ := fl.2.2.1.mem hm
      rw [e1] at z
      cases z
      exact z2 _ e3
    have sub : ∀ b, b ∈ X.fs → b ∈ frs (X.env :: X.outer) := fun b hm => by
      obtain ⟨e, he, q⟩ := List.mem_filterMap.mp hm
      exact List.mem_filterMap.mpr ⟨e, List.mem_cons_of_mem _ he, q⟩
    exact clauses hs hf nd tk ⟨J'.ofTry ok, nb, na, os, ag, fun z => off (List.mem_filterMap.mpr ⟨X.env, List.mem_cons_self, by rw [hf, z]⟩), fun z => off (sub _ z)⟩ (up.trans up3) fl hc (w' J'.len)
  have po : PassesOwn (model X.prog X.w) X.A X.env xe := by
    rw [hxe]
    exact PassesOwn.looking
  refine wpAny_mono ((hb _ _ xe T po).run [] s σ H D (I.toTry xe) w) (fun f s1 q => ?_) (fun e s1 z => by rw [hxe] at z; exact z)
  cases f with
  | next =>
    obtain ⟨σ', H', J', q⟩ := q
    exact wpAny_execs_nil ⟨σ', H', J'.ofTry ok, q⟩
  | brk =>
    obtain ⟨σ', H', J', q⟩ := q
    exact ⟨σ', H', J'.ofTry ok, q⟩
  | cont =>
    obtain ⟨σ', H', J', q⟩ := q
    exact ⟨σ', H', J'.ofTry ok, q⟩
  | ret u =>
    obtain ⟨v, σ', H', J', r, q⟩ := q
    exact ⟨v, σ', H', J'.ofTry ok, r, q⟩
end
section
variable {M : Cfg} {N : List Str} {X : Cx} {W : WX} {k : Nat} {sc : Scope} {D : L2.Ends}
theorem RepV.into {K : PySem.W.Frag} {H : Hp} {ra : List Addr} {d : WL.D} {v : V} {q : Addr} {o : HO} (r : RepV K H ra d v) (h : H q = none) : RepV K (upd H q o) ra d v := RepV.keep (Keeps.new h) (List.prefix_refl _) d v r
theorem s_rais (g : GoodS M N X W k sc) {c : Nat} {e : E} {y : Str} {v : Expr} {p p2 p3 : Pos} (hc : M.cls[c]? = some y) (hg : glB sc y = true) (ho : okName y = true) (hs : notStar v = true) (he : GE M X W k e v) :
    GS M X W k (.rais c e) (.Raise (some (.Call (.Name y p) [v] [] p2)) none p3) := by
  obtain ⟨C, mC, F⟩ := g.g.st.exc c y hc
  obtain ⟨fI, fd, iC, tI, bI, FI⟩ := F.ini
  refine PS.sub (ps_raise g.g.calm g.g.tk (pmk_oex (dvs := []) (ds := []) F.oex iC tI FI (g.g.hr.mono (by omega)) bI .nil (passes_call g.g.tk fun _ _ _ _ z => z.elim) (gl_ok hg g.g) mC (pa_cons he.1 pa_nil (star_cons hs _ _)) (okName_ok ho).1 (star_cons hs _ _) rfl)) fun D σ H ⟨ra, ρ, s, e1, r, q⟩ => ?_
  simp only [exS] at q
  refine ⟨ra, ρ, s, e1, r, (PostS.bind (repA := RepV X.K) e1 q).imp fun v H1 ⟨d, s1, r1, k1, p1, R1, e2, rv, q⟩ => ?_⟩
  refine ⟨by simp, fun a ha => ⟨a, C, v, rfl, F.oex, F.no, upd_same, fun dd hd hne => ⟨rfl, dd, _, upd_same, (upd_ne hne).trans upd_same, ?_⟩⟩⟩
  have hd1 : H1 dd = none := by
    rw [upd_ne hne] at hd
    exact hd
  refine ⟨hd1, ?_⟩
  have eh : upd (L2.del (upd (upd (upd H1 a (exo a C none)) dd (exd dd [("what", v)])) a (exo a C (some dd))) a) dd (.xd [("what", v)]) = upd H1 dd (.xd [("what", v)]) := by
    funext b
    by_cases hb : b = dd
    · subst hb
      rw [upd_same, upd_same]
    · rw [upd_ne hb, upd_ne hb]
      by_cases hb2 : b = a
      · subst hb2
        rw [del_same, ha]
      · rw [del_ne hb2, upd_ne hb2, upd_ne hb, upd_ne hb2]
  rw [eh]
  obtain ⟨rc, pc, Rc, rvc⟩ := let_go r k1 p1 R1 rv
  exact q _ _ σ rc _ (k1.trans (Keeps.new hd1)) pc (Rc.aside hd1) ((e1.keep k1 pc).keep (Keeps.new hd1) (List.prefix_refl _)) ⟨y, dd, v, hc, mC, rfl, upd_same, rvc.into hd1⟩
def hdName : ExceptHandler → Str
  | .ExceptHandler (some (.Name y _)) _ _ _ => y
  | _ => default
def clOf (M : Cfg) (X : Cx) (k : Nat) (h : Hd) (d : ExceptHandler) : Cl := ((X.mg (hdName d)).getD .none, h.nm, fun a cls dd D σ H => ∃ c w, hS M X ⟨h.nm, c, w, cls, dd, a⟩ (exSu (M.C k) M.G h.b) D σ H)
def clsOf (M : Cfg) (X : Cx) (k : Nat) : List Hd → List ExceptHandler → List Cl
  | h :: hs, d :: ds => clOf M X k h d :: clsOf M X k hs ds
  | _, _ => []
theorem hd_of {h : Hd} {d : ExceptHandler} (g : GoodS M N X W k sc) (q : mHd1 M N sc h d = true) : ∃ (y : Str) (np p : Pos) (n : Option Str) (b0 : Stmt) (sts : List Stmt) (C2 : Addr), d = .ExceptHandler (some (.Name y np)) n (b0 :: sts) p ∧ Names X y (.ref C2) ∧ X.mg y = some (.ref C2) ∧ NameAt X n h.nm ∧
    mSu M N sc h.nm h.b (b0 :: sts) = true ∧ ∀ (c : Nat) (x : Str) (C : Addr), M.cls[c]? = some x → X.mg x = some (.ref C) → PySem.W.exmOne X.K (.ref C) (.ref C2) = some (h.cs.contains c) := by
  unfold mHd1 at q
  split at q
  · rename_i y np n b0 sts p
    simp only [Bool.and_eq_true] at q
    obtain ⟨⟨⟨⟨q1, q2⟩, q3⟩, q4⟩, q5⟩ := q
    have hn : NameAt X n h.nm := by
      split at q4
      · rename_i hx
        rw [hx]
        trivial
      · rename_i x j hx
        rw [hx]
        simp only [Bool.and_eq_true, decide_eq_true_eq] at q4
        refine ⟨by rw [g.g.eN]; exact q4.1, ?_⟩
        unfold PySem.Env.kindOf
        rw [g.g.esc]
        exact q4.2
      · cases q4
    have hd := (okName_ok q2).1
    simp only [Bool.or_eq_true, Bool.and_eq_true, decide_eq_true_eq] at q3
    rcases q3 with ⟨q3, q6⟩ | q3
    · subst q3
      obtain ⟨B, mB, F⟩ := g.g.st.bas
      refine ⟨_, np, p, n, b0, sts, B, rfl, ⟨gl_ok q1 g.g, hd, .inl mB⟩, mB, hn, q5, fun c x C c1 c2 => ?_⟩
      rw [(F c x C c1 c2).1, q6]
      have : c < M.cls.length := (List.getElem?_eq_some_iff.mp c1).1
      congr 1
      simpa using this
    · split at q3
      · rename_i c' hcs
        have q3 := of_decide_eq_true q3
        obtain ⟨C2, m2, F2⟩ := g.g.st.exc c' y q3
        refine ⟨y, np, p, n, b0, sts, C2, rfl, ⟨gl_ok q1 g.g, hd, .inl m2⟩, m2, hn, q5, fun c x C c1 c2 => ?_⟩
        rw [(g.g.st.rel c x c' y C C2 c1 q3 c2 m2).1, hcs]
        congr 1
        by_cases hh : c = c' <;> simp [hh]
      · cases q3
  · cases q
theorem cls_ok (g : GoodS M N X W k sc) : ∀ {hs : List Hd} {ds : List ExceptHandler}, mHd M N sc hs ds = true → ClsOk X ds (clsOf M X k hs ds)
  | [], [], _ => .nil
  | [], _ :: _, q => by simp [mHd] at q
  | _ :: _, [], q => by simp [mHd] at q
  | h :: hs, d :: ds, q => by
    simp only [mHd, Bool.and_eq_true] at q
    obtain ⟨y, np, p, n, b0, sts, C2, rfl, h1, h2, h3, h4, h5⟩ := hd_of g q.1
    have e : clOf M X k h (.ExceptHandler (some (.Name y np)) n (b0 :: sts) p) = (.ref C2, h.nm, fun a cls dd D σ H => ∃ c w, hS M X ⟨h.nm, c, w, cls, dd, a⟩ (exSu (M.C k) M.G h.b) D σ H) := by
      unfold clOf
      rw [show hdName (.ExceptHandler (some (.Name y np)) n (b0 :: sts) p) = y from rfl, h2]
      rfl
    unfold clsOf
    rw [e]
    refine .cons h1 h3 (fun a oe cls d pn hz hf => ⟨fun pins s σ H D I ⟨c, w, z⟩ => ?_⟩) (cls_ok g q.2)
    exact (sndSu (Y := ⟨h.nm, c, w, cls, d, a⟩) ⟨g.g, hz, hf, rfl⟩ pn h.b h4).run pins s σ H D I z
theorem ERelH.off {Y : Sx} {K : PySem.W.Frag} {mg : Str → Option Value} {H : Hp} {ra : List Addr} {ρ : Env} {σ : L2.St} (e : ERelH M mg K Y H ra ρ σ) : ERel K H ra (offX Y.i ρ) (offS Y.i σ) := by
  cases hi : Y.i with
  | none => exact ⟨e.len, fun j d h => e.get j d (by rw [hi]; exact fun z => nomatch z) h⟩
  | some i =>
    refine ⟨by unfold offX offS; simp [e.len], fun j d h => ?_⟩
    unfold offX at h
    unfold offS
    simp only at h ⊢
    by_cases hj : i = j
    · subst hj
      by_cases hl : i < ρ.length
      · rw [List.getElem?_set_self hl] at h
        cases h
      · rw [List.getElem?_eq_none (by simpa using hl)] at h
        cases h
    · rw [List.getElem?_set_ne hj] at h ⊢
      exact e.get j d (by rw [hi]; exact fun z => hj (Option.some.inj z)) h
theorem ERelH.on {K : PySem.W.Frag} {mg : Str → Option Value} {H : Hp} {ra : List Addr} {ρ : Env} {σ : L2.St} {i : Option Nat} {c : Nat} {w : WL.D} {cls : Value} {dd : Option Addr} {a : Addr} (e : ERel K H ra ρ σ) (x : RepX M mg K H ra c w cls dd) :
    ERelH M mg K ⟨i, c, w, cls, dd, a⟩ H ra (putX i c w ρ) (putS i a σ) := by
  cases i with
  | none => exact ⟨e.len, fun j d _ h => e.get j d h, x, fun j d h => nomatch h⟩
  | some i =>
    refine ⟨by unfold putX putS; simp [e.len], fun j d hj h => ?_, x, fun j d hj h => ?_⟩
    · have hj : i ≠ j := fun z => hj (by rw [z])
      unfold putX at h
      unfold putS
      simp only at h ⊢
      rw [List.getElem?_set_ne hj] at h ⊢
      exact e.get j d h
    · obtain rfl : i = j := Option.some.inj hj
      unfold putX at h
      unfold putS
      simp only at h ⊢
      by_cases hl : i < ρ.length
      · rw [List.getElem?_set_self hl] at h
        cases h
        exact ⟨rfl, by rw [List.getElem?_set_self (by rw [e.len]; exact hl)]⟩
      · rw [List.getElem?_eq_none (by simpa using hl)] at h
        cases h
theorem hd_wish (g : GoodS M N X W k sc) {H : Hp} {ra : List Addr} {ρ : Env} {σ : L2.St} {s : Store} {c : Nat} {w : WL.D} {cls : Value} {dd : Option Addr} (e : ERel X.K H ra ρ σ) (r : SRel X.K H ra s) (x : RepX M X.mg X.K H ra c w cls dd) :
    ∀ {hs : List Hd} {ds : List ExceptHandler}, mHd M N sc hs ds = true → PostS M X W D H ra (exHd (M.C k) M.G hs c w ρ s) → wTry X.K W D (clsOf M X k hs ds) cls dd σ H
  | [], [], _, p => by
    simp only [exHd] at p
    exact p cls dd σ ra H (Keeps.refl H) (List.prefix_refl _) r e x
  | [], _ :: _, q, _ => by simp [mHd] at q
  | _ :: _, [], q, _ => by simp [mHd] at q
  | h :: hs, d :: ds, q, p => by
    simp only [mHd, Bool.and_eq_true] at q
    obtain ⟨y, np, p0, n, b0, sts, C2, rfl, h1, h2, h3, h4, h5⟩ := hd_of g q.1
    obtain ⟨nm, d0, v, x1, x2, x3, x4, x5⟩ := id x
    obtain ⟨C, m1, F⟩ := g.g.st.exc c nm x1
    rw [m1] at x2
    obtain rfl := Option.some.inj x2
    refine ⟨h.cs.contains c, ?_, fun hb a ha => ?_, fun hb => ?_⟩
    · show PySem.W.exmOne X.K (.ref C) ((X.mg y).getD .none) = _
      rw [h2]
      exact h5 c nm C x1 m1
    · simp only [exHd, hb, if_true] at p
      refine ⟨c, w, ra, putX h.nm c w ρ, s, .on e x, r, ?_⟩
      cases hx : exSu (M.C k) M.G h.b (putX h.nm c w ρ) s with
      | nx ρ2 s2 =>
        rw [hx] at p
        exact fun σ' rb H' k2 p2 R2 e2 => p _ rb H' k2 p2 R2 e2.off
      | ret d2 s2 =>
        rw [hx] at p
        exact p
      | brk _ _ => rw [hx] at p; exact (show False from p).elim
      | cnt _ _ => rw [hx] at p; exact (show False from p).elim
      | exc _ _ _ _ => rw [hx] at p; exact (show False from p).elim
      | bad => rw [hx] at p; exact (show False from p).elim
    · simp only [exHd, hb, Bool.false_eq_true, if_false] at p
      exact hd_wish g e r x q.2 p
theorem s_tryx (g : GoodS M N X W k sc) {b : List S} {hs : List Hd} {body : List Stmt} {h0 : ExceptHandler} {ds : List ExceptHandler} {pos : Pos} (ih : ∀ {X2 : Cx} {W2 : WX}, GoodS M N X2 W2 k sc → GB M X2 W2 k b body) (hm : mHd M N sc hs (h0 :: ds) = true) :
    GS M X W k (.tryx b hs) (.Try body (h0 :: ds) [] [] pos) := by
  refine PS.sub (ps_tryAny (tb := fun W2 => tS M X W2 (exB (M.C k) M.G M.F b)) g.stk g.frm (by rw [g.g.eN]; exact g.g.nd) g.g.tk (fun W2 pn xe tk po => ?_) (cls_ok g hm)) fun D σ H ⟨ra, ρ, s, e1, r, p⟩ => ?_
  · exact ih (X2 := X.tr pn xe) (W2 := W2) ⟨⟨g.g.esc, g.g.eN, g.g.nd, g.g.efn, g.g.calm, g.g.knd, tk, g.g.hr, g.g.st, g.g.mkr, g.g.stl⟩, po, g.stk, g.frm⟩
  · simp only [exS] at p
    refine ⟨ra, ρ, s, e1, r, ?_⟩
    cases hx : exB (M.C k) M.G M.F b ρ s with
    | nx _ _ => rw [hx] at p; exact p
    | ret _ _ => rw [hx] at p; exact p
    | brk _ _ => rw [hx] at p; exact p
    | cnt _ _ => rw [hx] at p; exact p
    | bad => rw [hx] at p; exact p
    | exc c w ρ1 s1 =>
      rw [hx] at p
      exact fun cls dd σ' rb H' k2 p2 R2 e2 x2 => hd_wish g e2 R2 x2 hm (PostS.mono p k2 p2)
end
end WL
set_option maxHeartbeats 4000000
namespace WL
open PySem PySem.Spec PyProof.Rows L2
variable [TBS]
section
variable {M : Cfg} {N : List Str} {X : Cx} {W : WX} {k : Nat} {sc : Scope}
mutual
theorem sndS : ∀ {X : Cx} {W : WX} (g : GoodS M N X W k sc) (x : S) {st : Stmt}, mS M N sc x st = true → GS M X W k x st
  | _, _, g, .asg t e, st, h => by
    unfold mS at h
    split at h
    · simp only [Bool.and_eq_true] at h
      exact s_asgAny g h.1.1 h.1.2 h.2
    · cases h
  | _, _, g, .par is es, st, h => by
    unfold mS at h
    split at h
    · exact s_par g h
    · cases h
  | _, _, g, .aug i op e, st, h => by
    unfold mS at h
    split at h
    · simp only [Bool.and_eq_true, decide_eq_true_eq] at h
      obtain ⟨⟨⟨⟨rfl, h1⟩, h2⟩, h3⟩, h4⟩ := h
      exact s_aug g h1 h2 h3 (sndE e h4 g.g)
    · cases h
  | _, _, g, .augS o i op e, st, h => by
    unfold mS at h
    split at h
    · simp only [Bool.and_eq_true, decide_eq_true_eq] at h
      obtain ⟨⟨⟨⟨⟨rfl, h1⟩, h2⟩, h3⟩, h4⟩, h5⟩ := h
      exact s_augS g.g h1 h2 (sndE o h3 g.g) (sndE i h4 g.g) (sndE e h5 g.g)
    · cases h
  | _, _, g, .expr e, st, h => by
    unfold mS at h
    split at h
    · rw [Bool.and_eq_true] at h
      exact s_expr h.1 (sndE e h.2 g.g)
    · cases h
  | _, _, g, .ret e, st, h => by
    unfold mS at h
    split at h
    · exact s_ret (sndE e h g.g)
    · cases h
  | _, _, g, .retN, st, h => by
    unfold mS at h
    split at h
    · exact s_retN
    · cases h
  | _, _, g, .iff c a b, st, h => by
    unfold mS at h
    split at h
    · simp only [Bool.and_eq_true] at h
      exact s_iff (sndE c h.1.1 g.g) (sndB g a h.1.2) (sndB g b h.2)
    · cases h
  | _, _, g, .for t it b, st, h => by
    unfold mS at h
    split at h
    · simp only [Bool.and_eq_true] at h
      exact s_for g h.1.2 (sndTg t h.1.1 g.g) (sndIt it h.1.2 g.g) (sndB g b h.2)
    · cases h
  | _, _, g, .whl c b, st, h => by
    unfold mS at h
    split at h
    · simp only [Bool.and_eq_true] at h
      exact s_whl g (sndE c h.1 g.g) (sndB g b h.2)
    · cases h
  | _, _, g, .brk, st, h => by
    unfold mS at h
    split at h
    · exact s_brk
    · cases h
  | _, _, g, .cnt, st, h => by
    unfold mS at h
    split at h
    · exact s_cnt
    · cases h
  | _, _, g, .pass, st, h => by
    unfold mS at h
    split at h
    · exact s_pass
    · cases h
  | _, _, g, .nev, st, h => s_nev
  | _, _, g, .rais c e, st, h => by
    unfold mS at h
    split at h
    · simp only [Bool.and_eq_true, decide_eq_true_eq] at h
      obtain ⟨⟨⟨h1, h2⟩, h3⟩, h4⟩ := h
      exact s_rais g h1 h2 h3 (mE_star h4) (sndE e h4 g.g)
    · cases h
  | _, _, g, .tryx b hs, st, h => by
    unfold mS at h
    split at h
    · rw [Bool.and_eq_true] at h
      exact s_tryx g (fun g2 => sndB g2 b h.1) h.2
    · cases h
  | _, _, g, .heard z hs, st, h => by
    unfold mS at h
    cases h
theorem sndB : ∀ {X : Cx} {W : WX} (g : GoodS M N X W k sc) (xs : List S) {sts : List Stmt}, mB M N sc xs sts = true → GB M X W k xs sts
  | _, _, g, [], sts, h => by
    cases sts with
    | nil => exact b_nil
    | cons y ys => simp [mB] at h
  | _, _, g, x :: xs, sts, h => by
    cases sts with
    | nil => simp [mB] at h
    | cons y ys =>
      simp only [mB, Bool.and_eq_true] at h
      exact b_cons (sndS g x h.1) (sndB g xs h.2)
end
end
end WL
set_option maxHeartbeats 4000000
namespace WL
open PySem PySem.Spec PyProof.Rows L2
def plainPs (a : Arguments) (ps : List Str) : Bool := a.posonlyargs.isEmpty && decide (a.args.map (·.arg) = ps) && a.vararg.isNone && a.kwonlyargs.isEmpty && a.kw_defaults.isEmpty && a.kwarg.isNone && a.defaults.isEmpty
theorem look_zip : ∀ {ns : List Str} {us : List Value} {n : Str}, n ∈ ns → us.length = ns.length → ((ns.zip us).lookup n).isSome = true
  | [], _, n, h, _ => nomatch h
  | m :: ns, [], n, h, hl => by simp at hl
  | m :: ns, u :: us, n, h, hl => by
    rw [List.zip_cons_cons, List.lookup_cons]
    split
    · rfl
    · rename_i e
      have hne : n ≠ m := by simpa using e
      rcases List.mem_cons.mp h with z | z
      · exact absurd z hne
      · exact look_zip z (by simpa using hl)
theorem fm_congr {α β : Type} {f g : α → Option β} : ∀ {l : List α}, (∀ n ∈ l, f n = g n) → l.filterMap f = l.filterMap g
  | [], _ => rfl
  | a :: l, h => by
    rw [List.filterMap_cons, List.filterMap_cons, h a List.mem_cons_self, fm_congr fun n hn => h n (List.mem_cons_of_mem _ hn)]
theorem zip_back : ∀ {ns : List Str} {us : List Value}, ns.Nodup → us.length = ns.length → ns.filterMap (fun n => ((ns.zip us).lookup n).map (n, ·)) = ns.zip us
  | [], us, _, _ => by simp
  | m :: ns, [], _, hl => by simp at hl
  | m :: ns, u :: us, nd, hl => by
    obtain ⟨h1, h2⟩ := List.nodup_cons.mp nd
    rw [List.zip_cons_cons, List.filterMap_cons]
    have e : List.lookup m ((m, u) :: ns.zip us) = some u := by simp [List.lookup]
    rw [e]
    simp only [Option.map_some]
    have q : ns.filterMap (fun n => (List.lookup n ((m, u) :: ns.zip us)).map (n, ·)) = ns.filterMap (fun n => ((ns.zip us).lookup n).map (n, ·)) := fm_congr fun n hn => by
      have hne : (n == m) = false := by
        have : n ≠ m := fun z => h1 (z ▸ hn)
        simpa using this
      rw [List.lookup_cons, hne]
    rw [q, zip_back h2 (by simpa using hl)]
theorem bind_plain {name qual : Str} {a : Arguments} {ps : List Str} {body : List Stmt} {scope : Scope} {kV doc pm : Value} {an : Option Addr} {cdv ct : Value} {us : List Value} (h : plainPs a ps = true) (nd : ps.Nodup) (hl : us.length = ps.length) :
    bindArgs (PySem.W.fnOf name qual a body scope .none kV doc pm an cdv ct) ⟨us, []⟩ = pure (ps.zip us) := by
  obtain ⟨po, as, va, ko, kd, kw, df⟩ := a
  unfold plainPs at h
  simp only [Bool.and_eq_true, List.isEmpty_iff, Option.isNone_iff_eq_none, decide_eq_true_eq] at h
  obtain ⟨⟨⟨⟨⟨⟨rfl, h2⟩, rfl⟩, rfl⟩, rfl⟩, rfl⟩, rfl⟩ := h
  unfold bindArgs PySem.W.fnOf
  dsimp only
  rw [List.map_nil, List.nil_append, h2]
  have e1 : seqItems? Value.none = pure none := rfl
  have e2 : ¬ us.length > ps.length := by omega
  have e3 : (ps.filter fun n => ((ps.zip us).lookup n).isNone) = [] := by
    rw [List.filter_eq_nil_iff]
    intro n hn
    have := look_zip hn hl
    simp [Option.isNone_iff_eq_none, Option.isSome_iff_ne_none.mp this]
  have e4 := zip_back nd hl
  simp [e1, e2, e3, e4]
inductive GV where
  | int (i : Int) | str (z : Str) | dat (d : D) | gdt (ks : List Str) (vs : List D)
def GV.d : GV → D
  | .int i => .int i
  | .str z => .str z
  | .dat d => d
  | .gdt ks vs => .gd ks vs
def GV.fa (x : Str) : GV → He.Fa
  | .int i => .int x i
  | .str z => .str x z
  | .dat _ => .glo x
  | .gdt _ _ => .glo x
mutual
def konB (K : PySem.W.Frag) : D → Value → Bool
  | .non, v => (match v with
    | .none => true
    | _ => false)
  | .bl b, v => (match v with
    | .bool c => decide (b = c)
    | _ => false)
  | .int i, v => (match v with
    | .int j _ => decide (i = j)
    | _ => false)
  | .str x, v => (match v with
    | .str y _ => decide (x = y)
    | _ => false)
  | .tup l, v => (match v with
    | .ref a => (match K.lookup a with
      | some ⟨.type c, _, .seq its _, _⟩ => decide (c = "tuple") && (decide (its.size ≤ sizeLine) && konsB K l its.toList)
      | _ => false)
    | _ => false)
  | _, _ => false
def konsB (K : PySem.W.Frag) : List D → List Value → Bool
  | [], us => us.isEmpty
  | d :: ds, us => (match us with
    | u :: r => konB K d u && konsB K ds r
    | [] => false)
end
def keyS (e : DictEntry) : Option Str := match e.key with
  | .str x _ => some x
  | _ => none
def gdB (K : PySem.W.Frag) (a : Addr) (ks : List Str) (vs : List D) : Bool := match K.lookup a with
  | some ⟨_, _, .dict es _, _⟩ => decide (es.toList.map keyS = ks.map some) && konsB K vs (es.toList.map (·.val))
  | _ => false
def glsB (K : PySem.W.Frag) (gl : List (Str × GV)) : Bool := gl.all fun p => match p.2 with
  | .dat d => (match PySem.W.nsIn K mainGlobals p.1 with
    | some (some u) => konB K d u
    | _ => false)
  | .gdt ks vs => gdB K (He.ga K p.1) ks vs
  | _ => true
section
variable [TBS]
mutual
theorem konB_ok {K : PySem.W.Frag} : ∀ (d : D) (u : Value), konB K d u = true → ∃ v, RelV v u ∧ ∀ H ra, RepV K H ra d v
  | .non, u, h => by
    cases u <;> simp only [konB, Bool.false_eq_true] at h
    exact ⟨.non, rfl, fun H ra => rfl⟩
  | .bl b, u, h => by
    cases u <;> simp only [konB, Bool.false_eq_true, decide_eq_true_eq] at h
    subst h
    exact ⟨.bl b, rfl, fun H ra => rfl⟩
  | .int i, u, h => by
    cases u <;> simp only [konB, Bool.false_eq_true, decide_eq_true_eq] at h
    subst h
    exact ⟨.int i, ⟨_, rfl⟩, fun H ra => rfl⟩
  | .str i, u, h => by
    cases u <;> simp only [konB, Bool.false_eq_true, decide_eq_true_eq] at h
    subst h
    exact ⟨.str i, ⟨_, rfl⟩, fun H ra => rfl⟩
  | .tup l, u, h => by
    unfold konB at h
    split at h
    · rename_i a
      split at h
      · rename_i c od its n sl hk
        rw [Bool.and_eq_true, Bool.and_eq_true, decide_eq_true_eq, decide_eq_true_eq] at h
        obtain ⟨rfl, hz, h⟩ := h
        obtain ⟨vs, hv, hr⟩ := konsB_ok l its.toList h
        exact ⟨.ref a, rfl, fun H ra => ⟨a, vs, rfl, .inr ⟨_, its, n, hk, rfl, rfl, hz, hv⟩, hr H ra⟩⟩
      · cases h
    · cases h
  | .ref n, u, h => by simp [konB] at h
  | .frz l, u, h => by simp [konB] at h
  | .gd ks vs, u, h => by simp [konB] at h
theorem konsB_ok {K : PySem.W.Frag} : ∀ (l : List D) (us : List Value), konsB K l us = true → ∃ vs, Vals vs us ∧ ∀ H ra, RepL K H ra l vs
  | [], us, h => by
    simp only [konsB, List.isEmpty_iff] at h
    subst h
    exact ⟨[], .nil, fun H ra => rfl⟩
  | d :: ds, us, h => by
    cases us with
    | nil => simp [konsB] at h
    | cons u r =>
      simp only [konsB, Bool.and_eq_true] at h
      obtain ⟨v, h1, h2⟩ := konB_ok d u h.1
      obtain ⟨vs, h3, h4⟩ := konsB_ok ds r h.2
      exact ⟨v :: vs, .cons h1 h3, fun H ra => ⟨v, vs, rfl, h2 H ra, h4 H ra⟩⟩
end
theorem isStr_keyS {e : DictEntry} {x z : Str} (h : keyS e = some x) : e.key.isStr z = decide (x = z) := by
  unfold keyS at h
  split at h
  · rename_i y t q
    cases h
    rw [q, PySem.W.isStr_of]
    show (x == z) = decide (x = z)
    by_cases c : x = z
    · subst c
      rw [decide_eq_true rfl]
      exact beq_self_eq_true _
    · rw [decide_eq_false c]
      exact beq_eq_false_iff_ne.mpr c
  · cases h
theorem gd_find {K : PySem.W.Frag} (z : Str) : ∀ (es : List DictEntry) (ks : List Str) (vs : List D), es.map keyS = ks.map some → konsB K vs (es.map (·.val)) = true →
    (∀ d, valD (ks.zip vs) z = some d → ∃ e v, es.find? (·.key.isStr z) = some e ∧ RelV v e.val ∧ ∀ H ra, RepV K H ra d v) ∧ (valD (ks.zip vs) z = none → es.find? (·.key.isStr z) = none)
  | [], ks, vs, h1, h2 => by
    have e1 : ks = [] := by cases ks <;> simp at h1 ⊢
    subst e1
    exact ⟨fun d q => by simp [valD] at q, fun _ => rfl⟩
  | e :: es, ks, vs, h1, h2 => by
    cases ks with
    | nil => simp at h1
    | cons k ks =>
      simp only [List.map_cons, List.cons.injEq] at h1
      cases vs with
      | nil => simp [konsB] at h2
      | cons d vs =>
        simp only [List.map_cons, konsB, Bool.and_eq_true] at h2
        obtain ⟨i1, i2⟩ := gd_find z es ks vs h1.2 h2.2
        have hk := isStr_keyS (z := z) h1.1
        by_cases c : k = z
        · have e1 : valD ((k :: ks).zip (d :: vs)) z = some d := by simp [valD, c]
          have e2 : (e :: es).find? (·.key.isStr z) = some e := by rw [List.find?_cons, hk, decide_eq_true c]
          rw [e1, e2]
          obtain ⟨v, r1, r2⟩ := konB_ok d e.val h2.1
          exact ⟨fun d' q => by cases q; exact ⟨e, v, rfl, r1, r2⟩, fun q => by cases q⟩
        · have e1 : valD ((k :: ks).zip (d :: vs)) z = valD (ks.zip vs) z := by simp [valD, c]
          have e2 : (e :: es).find? (·.key.isStr z) = es.find? (·.key.isStr z) := by rw [List.find?_cons, hk, decide_eq_false c]
          rw [e1, e2]
          exact ⟨i1, i2⟩
theorem gdB_ok {K : PySem.W.Frag} {w : World} {a : Addr} {ks : List Str} {vs : List D} (h : gdB K a ks vs = true) (hk : ∃ es n, KDict K w a es n) (z : Str) : (∀ d, valD (ks.zip vs) z = some d → ∃ v u, PySem.W.nsIn K a z = some (some u) ∧ RelV v u ∧ ∀ H ra, RepV K H ra d v) ∧
    (valD (ks.zip vs) z = none → PySem.W.nsIn K a z = some none) := by
  obtain ⟨es, n, kd⟩ := hk
  unfold gdB at h
  rw [kd.at_] at h
  simp only [Bool.and_eq_true, decide_eq_true_eq] at h
  obtain ⟨h1, h2⟩ := gd_find z es.toList ks vs h.1 h.2
  constructor
  · intro d q
    obtain ⟨e, v, e1, r1, r2⟩ := h1 d q
    refine ⟨v, e.val, ?_, r1, r2⟩
    unfold PySem.W.nsIn
    rw [kd.at_]
    simp only [e1]
  · intro q
    have e1 := h2 q
    unfold PySem.W.nsIn
    rw [kd.at_]
    simp only [e1]
    rw [if_neg]
    intro c
    obtain ⟨e, he, hr⟩ := List.any_eq_true.mp c
    obtain ⟨x, t, ek, _⟩ := PySem.W.KeysLit.all kd.lit e he
    unfold DictEntry.refKey at hr
    rw [ek] at hr
    cases hr
end
structure FnE where
  nm : Str
  st : Stmt
  ps : List Str
  N : List Str
  fd : FD
def FnE.dd (e : FnE) : He.DefD := ⟨(e.nm, none), e.nm, e.nm, defArgs e.st, defBody e.st, defScope e.st, [], []⟩
structure ExT where
  xs : List Str
  base : Str
  ini : Stmt
  qual : Str
  
  lm : List Str := []
  
  gs : List (Str × GV) := []
def ExT.dts (T : ExT) : List He.Tab := T.gs.filterMap fun p => match p.2 with
  | .gdt ks _ => some ((fun K => He.ga K p.1), ks)
  | _ => none
def cfgOf (tab : List FnE) (gl : List (Str × GV)) (T : ExT) (F : Nat) : Cfg where
  fname := fun f => ((tab[f]?).map (·.nm)).getD (default : Str)
  gname := fun g => ((gl[g]?).map (·.1)).getD (default : Str)
  cls := T.xs
  base := T.base
  P := fun f => (tab[f]?).map (·.fd)
  G := fun g => (gl[g]?).map (·.2.d)
  F := F
  mks := fun sc => (tab.any fun e => T.lm.contains e.nm && decide (defScope e.st = sc)) && tab.all fun e => T.lm.contains e.nm || !decide (defScope e.st = sc)
  n := tab.length
def scopeB (N ps : List Str) (sc : Scope) : Bool := (sc.kind == .function) && !sc.isCoroutine && !sc.isGenerator && decide N.Nodup && decide (N.take ps.length = ps) &&
  ps.all (fun x => decide (sc.names.lookup x = some .local) || decide (sc.names.lookup x = some .cell)) && sc.names.all fun y => decide (y.2 ≠ .free)
theorem scopeB_ok {N ps : List Str} {sc : Scope} (h : scopeB N ps sc = true) : FnScope N ps sc := by
  unfold scopeB at h
  simp only [Bool.and_eq_true, Bool.not_eq_true', decide_eq_true_eq, List.all_eq_true, Bool.or_eq_true, beq_iff_eq] at h
  obtain ⟨⟨⟨⟨⟨⟨h1, h2⟩, h3⟩, h4⟩, h5⟩, h6⟩, h7⟩ := h
  exact ⟨h1, h2, h3, h4, h5, h6, h7⟩
def FnE.okN (M : Cfg) (e : FnE) : Bool := plainPs (defArgs e.st) e.ps && decide e.ps.Nodup && scopeB e.N e.ps (defScope e.st) && decide (e.fd.np = e.ps.length) && decide (e.fd.nv = e.N.length) && mB M e.N (defScope e.st) e.fd.body (defBody e.st)
def actB (z : Option Str) (a : Str) (x : Expr) : Bool := match z, x with
  | none, .Call (.Name b _) [] [] _ => decide (a = b)
  | some z, .Tuple [.Constant (.str y) _ _, .Call (.Name b _) [] [] _] _ _ => decide (z = y) && decide (a = b)
  | _, _ => false
def FnE.okH (M : Cfg) (e : FnE) (z : Option Str) (hs : List Hd) : Bool := match e.ps with
  | [a] => plainPs (defArgs e.st) [a] && scopeB e.N [a] (defScope e.st) && decide (e.fd.np = 2) && decide (e.fd.nv = e.N.length) && decide (2 ≤ e.N.length) && !M.mks (defScope e.st) && okName a && (a != ("__classdict__" : Str)) && (match defBody e.st with
    | [.Try [.Return (some x) _] (h0 :: ds) [] [] _] => actB z a x && mHd M e.N (defScope e.st) hs (h0 :: ds)
    | _ => false)
  | _ => false
def FnE.ok (M : Cfg) (e : FnE) : Bool := decide (M.n ≤ hB) && (match e.fd.body with
  | [.heard z hs] => e.okH M z hs
  | _ => e.okN M)
theorem pe_less {X : Cx} {e : Expr} {t : TE} (h : PE X e t) : PE X e (fun σ H Q => ∃ Q0 : VK, t σ H Q0 ∧ ∀ v H', Q0 v H' → Q v H') :=
  ⟨fun pins s σ H Q I ⟨Q0, q0, w⟩ => thn (h.run pins s σ H Q0 I q0) fun u s1 ⟨x, H1, I1, r1, q1⟩ => ⟨x, H1, I1, r1, w x H1 q1⟩⟩
theorem actB_none {a : Str} {x : Expr} (h : actB none a x = true) : ∃ p p2, x = .Call (.Name a p) [] [] p2 := by
  unfold actB at h
  split at h
  · rename_i q
    have := of_decide_eq_true h
    subst this
    exact ⟨_, _, rfl⟩
  · rename_i q
    cases q
  · cases h
theorem actB_some {y a : Str} {x : Expr} (h : actB (some y) a x = true) : ∃ p p2 j p3 x4 p5, x = .Tuple [.Constant (.str y) j p3, .Call (.Name a p) [] [] p2] x4 p5 := by
  unfold actB at h
  split at h
  · rename_i q
    cases q
  · rename_i q
    cases q
    simp only [Bool.and_eq_true, decide_eq_true_eq] at h
    obtain ⟨rfl, rfl⟩ := h
    exact ⟨_, _, _, _, _, _, rfl⟩
  · cases h
theorem FnE.ok_n {M : Cfg} {e : FnE} {f : Nat} (h1 : M.P f = some e.fd) (h : e.ok M = true) (hn : heardP M f = false) : e.okN M = true := by
  unfold FnE.ok at h
  rw [Bool.and_eq_true] at h
  replace h := h.2
  split at h
  · rename_i z hs q
    unfold heardP at hn
    rw [h1] at hn
    simp [q] at hn
  · exact h
theorem FnE.ok_h {M : Cfg} {e : FnE} {f : Nat} (h1 : M.P f = some e.fd) (h : e.ok M = true) (hn : heardP M f = true) : ∃ z hs, e.fd.body = [.heard z hs] ∧ e.okH M z hs = true := by
  unfold FnE.ok at h
  rw [Bool.and_eq_true] at h
  replace h := h.2
  split at h
  · rename_i z hs q
    exact ⟨z, hs, q, h⟩
  · rename_i q
    unfold heardP at hn
    rw [h1] at hn
    simp only at hn
    cases hn
theorem FnE.okH_np {M : Cfg} {e : FnE} {z : Option Str} {hs : List Hd} (h : e.okH M z hs = true) : e.fd.np = 2 := by
  unfold FnE.okH at h
  split at h
  · simp only [Bool.and_eq_true, decide_eq_true_eq] at h
    exact h.1.1.1.1.1.1.2
  · cases h
section
variable [TBS]
variable {M : Cfg} {prog : Program} {w : World} {K : PySem.W.Frag} {mg : Str → Option Value} {base : Heap}
structure Facts (M : Cfg) (tab : List FnE) (K : PySem.W.Frag) (mg : Str → Option Value) : Prop where
  blt : ∀ x ∈ bltNames, mg x = none
  glob : ∀ g d, M.G g = some d → ∃ v u, mg (M.gname g) = some u ∧ RelV v u ∧ ∀ H ra, RepV K H ra d v
  fns : ∀ (f : Nat) (e : FnE), tab[f]? = some e → M.P f = some e.fd ∧ M.fname f = e.nm ∧ e.ok M = true ∧ ∃ a fd, mg e.nm = some (.ref a) ∧ FunD K e.nm e.nm (defArgs e.st) (defBody e.st) (defScope e.st) [] [] a fd
  all : ∀ f fd, M.P f = some fd → ∃ e, tab[f]? = some e
  exc : ∀ (c : Nat) (x : Str), M.cls[c]? = some x → ∃ C, mg x = some (.ref C) ∧ ∀ (prog : Program) (w : World) (base : Heap), XF prog w K mg base C
  rel : ∀ (c : Nat) (x : Str) (c2 : Nat) (x2 : Str) (C C2 : Addr), M.cls[c]? = some x → M.cls[c2]? = some x2 → mg x = some (.ref C) → mg x2 = some (.ref C2) → PySem.W.exmOne K (.ref C) (.ref C2) = some (decide (c = c2)) ∧ PySem.W.kitOne K (.ref C) (.ref C2) = some (decide (c = c2))
  bas : ∃ B, mg M.base = some (.ref B) ∧ ∀ (c : Nat) (x : Str) (C : Addr), M.cls[c]? = some x → mg x = some (.ref C) → PySem.W.exmOne K (.ref C) (.ref B) = some true ∧ PySem.W.kitOne K (.ref C) (.ref B) = some true
theorem Facts.exc1 {tab : List FnE} (F : Facts M tab K mg) (c : Nat) (x : Str) (h : M.cls[c]? = some x) : ∃ C, mg x = some (.ref C) ∧ XF prog w K mg base C := let ⟨C, h1, h2⟩ := F.exc c x h; ⟨C, h1, h2 prog w base⟩
theorem start_get {N : List Str} {vs : List V} {i : Nat} {v : V} (h : vs[i]? = some v) : (L2.start N vs)[i]? = some (some v) := by
  have hi : i < vs.length := (List.getElem?_eq_some_iff.mp h).1
  unfold L2.start
  rw [List.getElem?_append_left (by simpa using hi), List.getElem?_map, h]
  rfl
theorem erel_start {H : Hp} {ra : List Addr} {N : List Str} {ds : List D} {vs : List V} {n : Nat} (r : RepL K H ra ds vs) (hn : ds.length ≤ N.length) (hl : n = N.length - ds.length) :
    ERel K H ra (ds.map some ++ List.replicate n none) (L2.start N vs) := by
  have hv := RepL.length ds vs r
  refine ⟨?_, fun i d e => ?_⟩
  · unfold L2.start
    simp only [List.length_append, List.length_map, List.length_replicate]
    omega
  · by_cases hi : i < ds.length
    · rw [List.getElem?_append_left (by simpa using hi), List.getElem?_map] at e
      cases q : ds[i]? with
      | none => rw [q] at e; cases e
      | some d' =>
        rw [q] at e
        cases e
        obtain ⟨v, hv, rv⟩ := RepL.get ds vs i d r q
        exact ⟨v, start_get hv, rv⟩
    · rw [List.getElem?_append_right (by simpa using hi), List.getElem?_replicate] at e
      split at e <;> cases e
theorem post_done {X : Cx} {E : XK} {H : Hp} {ra : List Addr} {s : Store} {r : RS} {Q : VK} (R : SRel X.K H ra s) (p : PostR M X.mg X.K (fun cls d _ H' => E cls d H') [] (RepV X.K) H ra (done s r) Q) :
    PostS M X (fun cls d _ H' => E cls d H') { nx := fun _ H' => Q .non H', rt := Q } H ra r := by
  cases r with
  | nx ρ s1 =>
    intro σ' rb H' k pf R' e'
    obtain ⟨rc, pc, Rc, rv⟩ := SRel.trunc (d := .non) (v := .non) R R' pf rfl
    exact p .non rc H' k pc Rc rv
  | ret d s1 =>
    intro v rb H' k pf R' rv
    obtain ⟨rc, pc, Rc, rv⟩ := SRel.trunc R R' pf d v rv
    exact p v rc H' k pc Rc rv
  | exc c w ρ s1 =>
    intro cls dd σ' rb H' k pf R' e' ⟨C, d, v, h1, h2, h3, h4, h5⟩
    obtain ⟨rc, pc, Rc, rv⟩ := SRel.trunc R R' pf w v h5
    exact p cls dd rc H' k pc Rc ⟨C, d, v, h1, h2, h3, h4, rv⟩
  | brk ρ s1 => exact (show False from p).elim
  | cnt ρ s1 => exact (show False from p).elim
  | bad => exact p
def MakerC (base : Heap) (mg : Str → Option Value) (q : Str) (cdv : Value) : Prop := ∃ c P, cdv = .ref c ∧ LamX.TabB base mg c P ∧ (P, (envOfC q (default : Scope) 0 0 cdv).qual ++ "<lambda>") ∈ TBS.T ∧ ∀ p ∈ TBS.T, p.1 = P → p.2 = (envOfC q (default : Scope) 0 0 cdv).qual ++ "<lambda>"
theorem fn_ok {tab : List FnE} (F : Facts M tab K mg) {k f : Nat} {e : FnE} {a : Addr} {dat : FuncData} (he : tab[f]? = some e) (hn : heardP M f = false) (FD : FunD K e.nm e.nm (defArgs e.st) (defBody e.st) (defScope e.st) [] [] a dat) (stl : ∀ j, j ≤ k → Stat M prog w K mg base j)
    (hmk : M.mks (defScope e.st) = true → ∀ (dV kV doc pm cdv ct : Value) (an : Option Addr), dat = PySem.W.fnOf e.nm e.nm (defArgs e.st) (defBody e.st) (defScope e.st) dV kV doc pm an cdv ct → MakerC base mg e.nm cdv) :
    FnOk prog w K mg base (L2.CX prog w) (k + 1 + 2) a dat e.ps (spF M mg K (k + 1) f) := by
  obtain ⟨h1, h2, h3, _⟩ := F.fns f e he
  have h3' := FnE.ok_n h1 h3 hn
  unfold FnE.okN at h3'
  simp only [Bool.and_eq_true, decide_eq_true_eq] at h3'
  obtain ⟨⟨⟨⟨⟨o1, o2⟩, o3⟩, o4⟩, o5⟩, o6⟩ := h3'
  have S := scopeB_ok o3
  have hN : e.ps.length ≤ e.N.length := by
    have := congrArg List.length S.pre
    rw [List.length_take] at this
    omega
  have open_ : ∀ {vs : List V} {H : Hp} {Q : VK} {E : XK}, spF M mg K (k + 1) f vs H Q E → vs.length = e.ps.length ∧ ∃ ra ds s, SRel K H ra s ∧ RepL K H ra ds vs ∧ ds.length = e.ps.length ∧
      PostR M mg K (fun cls d _ H' => E cls d H') [] (RepV K) H ra (WL.done s (exB (callF M.P M.G M.F k) M.G M.F e.fd.body (ds.map some ++ List.replicate (e.fd.nv - e.fd.np) none) s)) Q := by
    rintro vs H Q E ⟨ra, ds, s, R, r, p⟩
    simp only [callF, h1] at p
    split at p
    · rename_i hl
      rw [o4] at hl
      exact ⟨by rw [RepL.length ds vs r, hl], ra, ds, s, R, r, hl, p⟩
    · exact (show False from p).elim
  obtain ⟨oc, od, dV, kV, doc, pm, an, cdv, ct, osl, edat, lk, hcd, _, _⟩ := FD.ex
  have mkc := fun z => hmk z dV kV doc pm cdv ct an edat
  subst edat
  refine fn_of lk hcd S (fun vs H Q E q => (open_ q).1) fun A outer s H vs Q E hr q => ?_
  obtain ⟨_, ra, ds, s0, R, r, hl, p⟩ := open_ q
  have GX : GoodS M e.N (cxOf (L2.CX prog w) prog w K mg base e.N e.nm (defScope e.st) a cdv A outer s H E) (fun cls d _ H' => E cls d H') k (defScope e.st) :=
    ⟨⟨rfl, rfl, S.nd, rfl, rfl, S.kind, takes_of rfl rfl rfl rfl, hr, stl k (Nat.le_refl _), (fun z => by
      obtain ⟨c, P, m1, m2, m3, m4⟩ := mkc z
      exact ⟨c, P, m1, m2, m3, m4⟩), stl⟩, passes_of rfl, rfl, rfl⟩
  exact ⟨_, sndB GX e.fd.body o6, ra, _, s0, erel_start r (by omega) (by omega), R, post_done R p⟩
theorem exB_heardE {C : Calls} {G : Globs} {F : Nat} {z : Option Str} {hs : List Hd} {c : Nat} {w : D} {r : Env} {s : Store} : WL.done s (exB C G F [.heard z hs] ([some (D.int c), some w] ++ r) s) =
    match exHd C G hs c w (([some (D.int c), some w] ++ r).map fun _ => none) s with
    | .exc _ _ _ _ => .bad
    | q => WL.done s q := by
  have e : exS C G F (.heard z hs) ([some (D.int c), some w] ++ r) s = match exHd C G hs c w (([some (D.int c), some w] ++ r).map fun _ => none) s with
    | .exc _ _ _ _ => .bad
    | q => q := rfl
  rw [exB, e]
  cases exHd C G hs c w (([some (D.int c), some w] ++ r).map fun _ => none) s <;> rfl
theorem hrd_ok {tab : List FnE} (F : Facts M tab K mg) {k h : Nat} (hh : heardP M h = true) (stl : ∀ j, j ≤ k → Stat M prog w K mg base j) : HrdOk M prog w K mg base (k + 1) h := by
  obtain ⟨fd, hfd⟩ : ∃ fd, M.P h = some fd := by
    unfold heardP at hh
    cases q : M.P h with
    | none => rw [q] at hh; cases hh
    | some fd => exact ⟨fd, rfl⟩
  obtain ⟨e, he⟩ := F.all h fd hfd
  obtain ⟨h1, h2, h3, a, dat, h4, FD⟩ := F.fns h e he
  obtain ⟨z, hs, hbody, ok⟩ := FnE.ok_h h1 h3 hh
  unfold FnE.okH at ok
  split at ok
  · rename_i pa hps
    simp only [Bool.and_eq_true, decide_eq_true_eq, Bool.not_eq_true', bne_iff_ne, ne_eq] at ok
    obtain ⟨⟨⟨⟨⟨⟨⟨⟨o1, o2⟩, o3⟩, o4⟩, o5⟩, o6⟩, o7⟩, o8⟩, o9⟩ := ok
    have S := scopeB_ok o2
    have bnd := FD.bindsN (ps := [pa]) fun kV doc pm an cdv ct us hl => bind_plain o1 (by simp) hl
    obtain ⟨oc, od, dV, kV, doc, pm, an, cdv, ct, osl, edat, lk, hcd, _, _⟩ := FD.ex
    subst edat
    obtain ⟨n1, n2⟩ := okName_ok o7
    have vis : Vis (defScope e.st) pa := by
      rcases S.par pa (by simp) with q | q
      · exact .inl q
      · exact .inr (.inl q)
    have n0 : e.N[0]? = some pa := by
      have := S.pre
      cases q : e.N with
      | nil => rw [q] at o5; simp at o5
      | cons x r =>
        rw [q] at this
        simp at this
        rw [this]
        rfl
    unfold HrdOk
    rw [h2]
    refine ⟨a, _, _, _, dV, kV, doc, pm, cdv, ct, oc, an, od, osl, e.N, pa, h4, FD.kp, lk, hcd, bnd, S, n0, vis, n1, n2, ?_⟩
    rintro X rfl rfl rfl rfl rfl hr q f c' s H Q tl act hc htt
    split at o9
    · rename_i x p1 h0 ds p2 hdb
      rw [Bool.and_eq_true] at o9
      rw [hdb]
      have GZ : GoodS M e.N (cxOf C8.CX0 X.prog X.w X.K X.mg X.base e.N e.nm (defScope e.st) a cdv X.A X.stack s H C8.E0).nox (fun _ _ _ _ => False) k (defScope e.st) :=
        ⟨⟨rfl, rfl, S.nd, rfl, rfl, S.kind, LamX.takes0, hr.deeper _, stl k (Nat.le_refl _), (fun z => by rw [o6] at z; cases z), stl⟩, PassesOwn.never, rfl, rfl⟩
      have hP : M.P h = some e.fd := h1
      have ev : ∀ (d1 d2 : D) (s : Store), callF M.P M.G M.F (k + 1) h [d1, d2] s = WL.done s (exB (callF M.P M.G M.F k) M.G M.F [.heard z hs] ([some d1, some d2] ++ List.replicate (e.N.length - 2) none) s) := fun d1 d2 s => by
        rw [callF]
        simp only [hP, o3, hbody, o4]
        rfl
      refine ⟨_, pss_one (ps_tryAny2 (tb := fun W D σ H => (∀ cls d σ' H', (∃ c w ra s, SRel X.K H' ra s ∧ RepX M X.mg X.K H' ra c w cls d ∧ PostR M X.mg X.K (fun _ _ _ _ => False) [] (RepV X.K) H' ra (callF M.P M.G M.F (k + 1) h [.int (c : Nat), w] s) Q) → W cls d σ' H') ∧
          (∀ (v : V) (H' : Hp), (∃ d ra s, SRel X.K H' ra s ∧ RepV X.K H' ra d v ∧ PostR M X.mg X.K (fun _ _ _ _ => False) [] (RepV X.K) H' ra (callF M.P M.G M.F (k + 1) h [.bl true, d] s) Q) → (match z with
            | none => D.rt v H'
            | some y => ∀ p, H' p = none → D.rt (.ref p) (upd H' p (.tup [.str y, v])))) ∧
          σ[0]? = some (some (.ref f)) ∧ H c' = some (LamX.CodeO c' q) ∧ TTh M X.K X.mg (k + 1) h tl H Q) rfl rfl S.nd LamX.takes0 (fun W pn xe tk _ => ?_) (cls_ok GZ o9.2)), ?_⟩
      · refine pss_one ⟨fun pins s' σ H' D I ⟨hW, hV, e1, e2, e3⟩ => ?_⟩
        cases z with
        | none =>
          obtain ⟨p, p3, rfl⟩ := actB_none o9.1
          have hp := pe_less (act W pn xe _ p p3 tk hW)
          exact (ps_ret (pos := p1) hp).run pins s' σ H' D I ⟨_, ⟨e1, e2, e3⟩, hV⟩
        | some y =>
          obtain ⟨p, p3, j, p4, x4, p5, rfl⟩ := actB_some o9.1
          have hp := pe_less (act W pn xe _ p p3 tk hW)
          refine (ps_ret (pos := p1) (pe_tup (pa_cons pe_str (pa_cons hp pa_nil)))).run pins s' σ H' D I ⟨_, ⟨e1, e2, e3⟩, fun v H1 q => ⟨show 2 ≤ sizeLine by decide, hV v H1 q⟩⟩
      · refine ⟨fun cls d σ' H' ⟨c, w, ra, s2, R, rx, p⟩ hlen => ?_, fun v H' ⟨d, ra, s2, R, rv, p⟩ => ?_, start_get rfl, hc, htt⟩
        · rw [ev] at p
          have en : ERel X.K H' ra (([some (D.int c), some w] ++ List.replicate (e.N.length - 2) none).map fun _ => (none : Option D)) σ' := ⟨by rw [hlen]; show e.N.length = _; simp; omega, fun i d0 q => by
            rw [List.getElem?_map] at q
            cases q2 : ([some (D.int c), some w] ++ List.replicate (e.N.length - 2) none)[i]? with
            | none => rw [q2] at q; cases q
            | some u => rw [q2] at q; cases q⟩
          refine hd_wish GZ en R rx o9.2 (post_done (E := fun _ _ _ => False) R ?_)
          rw [exB_heardE] at p
          cases hx : exHd (callF M.P M.G M.F k) M.G hs c w (([some (D.int c), some w] ++ List.replicate (e.N.length - 2) none).map fun _ => (none : Option D)) s2 with
          | exc _ _ _ _ => rw [hx] at p; exact (show False from p).elim
          | nx _ _ => rw [hx] at p; exact p
          | ret _ _ => rw [hx] at p; exact p
          | brk _ _ => rw [hx] at p; exact (show False from p).elim
          | cnt _ _ => rw [hx] at p; exact (show False from p).elim
          | bad => rw [hx] at p; exact (show False from p).elim
        · rw [ev] at p
          simp only [exB, exS, List.getElem?_cons_zero, List.getElem?_cons_succ, List.cons_append, List.nil_append] at p
          cases z with
          | none =>
            obtain ⟨rc, pc, Rc, rv'⟩ := SRel.trunc R R (List.prefix_refl _) d v rv
            exact p v rc H' (Keeps.refl _) pc Rc rv'
          | some y =>
            intro p' hp'
            have hR : SRel X.K (upd H' p' (.tup [.str y, v])) ra s2 := R.aside hp'
            have hv : RepV X.K (upd H' p' (.tup [.str y, v])) ra (.tup [.str y, d]) (.ref p') := ⟨p', _, rfl, .inl (.inl upd_same), ⟨_, _, rfl, rfl, _, _, rfl, RepV.keep (Keeps.new hp') (List.prefix_refl _) d v rv, rfl⟩⟩
            obtain ⟨rc, pc, Rc, rv'⟩ := SRel.trunc hR hR (List.prefix_refl _) _ _ hv
            exact p _ rc _ (Keeps.new hp') pc Rc rv'
    · cases o9
  · cases ok
theorem stat_of {tab : List FnE} (F : Facts M tab K mg) (hG : GdOk K w) (hf : ∀ f, M.P (f + hB) = none)
    (hmk : ∀ (f : Nat) (e : FnE) (a : Addr) (dat : FuncData), tab[f]? = some e → M.mks (defScope e.st) = true → mg e.nm = some (.ref a) → FunD K e.nm e.nm (defArgs e.st) (defBody e.st) (defScope e.st) [] [] a dat → ∀ (dV kV doc pm cdv ct : Value) (an : Option Addr), dat = PySem.W.fnOf e.nm e.nm (defArgs e.st) (defBody e.st) (defScope e.st) dV kV doc pm an cdv ct → MakerC base mg e.nm cdv) :
    ∀ k, ∀ j, j ≤ k → Stat M prog w K mg base j
  | 0, j, hj => by
    obtain rfl : j = 0 := by omega
    exact ⟨F.blt, F.glob, fun f fd h hn => (by
      obtain ⟨e, he⟩ := F.all f fd h
      obtain ⟨h1, h2, h3, a, dat, h4, FD⟩ := F.fns f e he
      have h3 := FnE.ok_n h1 h3 hn
      unfold FnE.okN at h3
      simp only [Bool.and_eq_true, decide_eq_true_eq] at h3
      obtain ⟨⟨⟨⟨⟨o1, o2⟩, o3⟩, o4⟩, o5⟩, o6⟩ := h3
      refine ⟨a, dat, e.ps, by rw [h2]; exact h4, FD.kp, FD.bindsN fun kV doc pm an cdv ct us hl => bind_plain o1 o2 hl, ⟨fun vs H Q E q => ?_, fun A outer s H args us vs Q E hr he0 hb hv q => ?_⟩⟩
      · obtain ⟨_, _, _, _, _, q⟩ := q
        exact (show False from q).elim
      · obtain ⟨_, _, _, _, _, q⟩ := q
        exact (show False from q).elim), F.exc1, F.rel, F.bas, (fun h hh z => absurd z (Nat.lt_irrefl _)), hf, hG⟩
  | k + 1, j, hj => by
    have ih := stat_of F hG hf hmk k
    by_cases c : j ≤ k
    · exact ih j c
    · obtain rfl : j = k + 1 := by omega
      exact ⟨F.blt, F.glob, fun f fd h hn => (by
        obtain ⟨e, he⟩ := F.all f fd h
        obtain ⟨h1, h2, h3, a, dat, h4, FD⟩ := F.fns f e he
        have h3' := FnE.ok_n h1 h3 hn
        unfold FnE.okN at h3'
        simp only [Bool.and_eq_true, decide_eq_true_eq] at h3'
        obtain ⟨⟨⟨⟨⟨o1, o2⟩, o3⟩, o4⟩, o5⟩, o6⟩ := h3'
        exact ⟨a, dat, e.ps, by rw [h2]; exact h4, FD.kp, FD.bindsN fun kV doc pm an cdv ct us hl => bind_plain o1 o2 hl, fn_ok F he hn FD ih fun z => hmk f e a dat he z h4 FD⟩), F.exc1, F.rel, F.bas, (fun h hh _ => hrd_ok F hh ih), hf, hG⟩
end
def faOf (tab : List FnE) (gl : List (Str × GV)) (T : ExT) : List He.Fa := tab.map (fun e => .glo e.nm) ++ (bltNames.map .free ++ (gl.map (fun p => p.2.fa p.1) ++ (T.base :: T.xs).map .glo))
def ExT.dd (T : ExT) (x : Str) : He.DefD := ⟨(x, some "__init__"), "__init__", T.qual, defArgs T.ini, defBody T.ini, defScope T.ini, [], []⟩
def fnOf (tab : List FnE) (T : ExT) : List He.DefD := tab.map FnE.dd ++ T.xs.map T.dd
def clsB (K : PySem.W.Frag) (C : Addr) : Bool := match K.lookup C with
  | some ⟨.type t, _, .cls cd, sl⟩ => decide (t = "type") && (match cd.mro, sl.toList with
    | .ref C' :: bm, [_, _, _, _, some (.builtin n), _] => C' == C && decide (n = "ValueError.__new__") && !cd.hasDel && cd.hasDict && PySem.HandSPX.refsVE bm
    | _, _ => false)
  | _ => false
theorem clsB_ok {K : PySem.W.Frag} {C : Addr} (h : clsB K C = true) : ∃ nm q N bs bm sn sub ab col dd k0 k1 k2 k3 k5, K.lookup C = some (excClassObj nm q C N bs bm true sn sub ab col dd k0 k1 k2 k3 k5 "ValueError.__new__") ∧ PySem.HandSPX.refsVE bm = true := by
  unfold clsB at h
  split at h
  · rename_i t dd cd sl ho
    rw [Bool.and_eq_true] at h
    obtain ⟨ht, h⟩ := h
    obtain rfl := of_decide_eq_true ht
    split at h
    · rename_i C' bm k0 k1 k2 k3 n k5 hm hs
      simp only [Bool.and_eq_true, beq_iff_eq, Bool.not_eq_true', decide_eq_true_eq] at h
      obtain ⟨⟨⟨⟨rfl, rfl⟩, h1⟩, h2⟩, h3⟩ := h
      obtain ⟨nm, bs, mro, ns, qn, hd, sn, sub, ab, col, del⟩ := cd
      dsimp only at hm h1 h2
      subst hm h1 h2
      have e : sl = #[k0, k1, k2, k3, some (.builtin "ValueError.__new__"), k5] := by
        obtain ⟨l⟩ := sl
        simp only at hs
        rw [hs]
      subst e
      exact ⟨nm, qn, ns, bs, bm, sn, sub, ab, col, dd, k0, k1, k2, k3, k5, ho, h3⟩
    · cases h
  · cases h
def optB {α : Type} [DecidableEq α] (a b : Option α) : Bool := decide (a = b)
def xB (K : PySem.W.Frag) (x : Str) : Bool := clsB K (He.ga K x) && He.eqO (PySem.W.findIn K (.ref (He.ga K x)) "__setattr__") (some (some (.builtin "object.__setattr__"))) && decide (PySem.W.subIn K (.ref (He.ga K x)) (.type "BaseException") = some true) &&
  decide (PySem.W.typeIn K (.ref (He.ga K x)) = some (.type "type")) && PySem.W.keepIn K (.ref (He.ga K x)) && He.eqO (PySem.W.findIn K (.ref (He.ga K x)) "__init__") (some (some (.ref (He.ma K (He.ga K x) "__init__")))) &&
  decide (PySem.W.typeIn K (.ref (He.ma K (He.ga K x) "__init__")) = some (.type "function")) && He.eqO (PySem.W.findIn K (.ref (He.ga K x)) "what") (some none) &&
  He.eqO (PySem.W.findIn K (.ref (He.ga K x)) "__getattribute__") (some (some (.builtin "BaseException.__getattribute__"))) && He.eqO (PySem.W.findIn K (.ref (He.ga K x)) "__getattr__") (some none) && PySem.W.hasDictIn K (He.ga K x) &&
  He.eqO (PySem.W.findIn K (.ref (He.ga K x)) "__class__") (some (some (.builtin "object.__class__"))) && He.eqO (PySem.W.specialIn K (.builtin "object.__class__") "__get__") (some (some (.builtin "getset_descriptor.__get__"))) &&
  decide (PySem.W.takesIn K (.builtin "object.__class__") = some true) && decide (PySem.W.mroIn K (He.ga K x) (.type "object") = some true) && decide (PySem.W.kitOne K (.ref (He.ga K x)) (.type "ValueError") = some true)
def relB2 (K : PySem.W.Frag) (x y : Str) (b : Bool) : Bool := decide (PySem.W.exmOne K (.ref (He.ga K x)) (.ref (He.ga K y)) = some b) && decide (PySem.W.kitOne K (.ref (He.ga K x)) (.ref (He.ga K y)) = some b)
def ExT.tabs (T : ExT) (K : PySem.W.Frag) : Bool := decide ((T.lm.map fun x => (He.cT K (x, none)).2).Nodup)
def ExT.says (T : ExT) (K : PySem.W.Frag) : Bool := (T.xs.all fun x => xB K x && T.xs.all (fun y => relB2 K x y (decide (x = y))) && relB2 K x T.base true) && T.tabs K
def ExT.bare (T : ExT) (K : PySem.W.Frag) (h : Heap) : Prop := ∀ x ∈ T.lm, h.get? (He.cT K (x, none)).2 = some { cls := .none, data := .fields #[] } ∧ K.lookup (He.cT K (x, none)).2 = none ∧ PySem.W.codeHdIn K (He.cT K (x, none)).1 (He.cT K (x, none)).2 = true
def initB (st : Stmt) : Bool := plainPs (defArgs st) ["self", "what"] && scopeB ["self", "what"] ["self", "what"] (defScope st) && (match defBody st with
  | [.Assign [.Attribute (.Name a _) f _] (.Name b _) _] => decide (a = "self") && decide (f = "what") && decide (b = "what")
  | _ => false)
def ExT.ok (T : ExT) : Bool := (T.xs.isEmpty || initB T.ini) && decide T.xs.Nodup
theorem init_ok {prog : Program} {w : World} {K : PySem.W.Frag} {mg : Str → Option Value} {base : Heap} {st : Stmt} {q : Str} {f : Addr} {fd : FuncData} (h : initB st = true) (FD : FunD K "__init__" q (defArgs st) (defBody st) (defScope st) [] [] f fd) :
    Binds K fd ["self", "what"] [] ∧ FnOk prog w K mg base (L2.CX prog w) 1 f fd ["self", "what"] (spInit K) := by
  unfold initB at h
  simp only [Bool.and_eq_true] at h
  obtain ⟨⟨h1, h2⟩, h3⟩ := h
  have S := scopeB_ok h2
  refine ⟨FD.bindsN fun kV doc pm an cdv ct us hl => bind_plain h1 (by decide) hl, FD.ok S (fun vs H Q E z => ?_) fun cdv A outer s H vs Q E hr z => ?_⟩
  · obtain ⟨a, C, y, rfl, _⟩ := z
    rfl
  · obtain ⟨a, C, y, rfl, z1, z2, z3, z4⟩ := z
    split at h3
    · rename_i x p1 n p2 x2 p3 p4 hb
      simp only [Bool.and_eq_true, decide_eq_true_eq] at h3
      obtain ⟨⟨rfl, rfl⟩, rfl⟩ := h3
      rw [hb]
      have vis : ∀ x, x ∈ (["self", "what"] : List Str) → Vis (defScope st) x := fun x hx => by
        rcases S.par x hx with z | z
        · exact .inl z
        · exact .inr (.inl z)
      refine ⟨_, pss_one (ps_ost (pv 0 rfl (vis _ (by simp)) (by decide) (by decide)) (pv 1 rfl (vis _ (by simp)) (by decide) (by decide))), ?_⟩
      exact ⟨y, rfl, .ref a, rfl, a, C, rfl, z1, z2, .inl ⟨z3, z4⟩⟩
    · cases h3
def ExT.says2 (T : ExT) (K : PySem.W.Frag) : Bool := T.says K && glsB K T.gs
abbrev AlX : Type := He.AlT × Bool
def obsX (n : Nat) (fa : List He.Fa) (fn : List He.DefD) (T : ExT) (g : Addr → Option Obj) : AlX := (He.obsT fa fn T.dts (He.frT g (He.asD g n)), T.says2 (He.frT g (He.asD g n)) && He.tabsB g (T.lm.map (·, none)) (He.frT g (He.asD g n)))
theorem bare_of {n : Nat} {T : ExT} {h : Heap} (e : He.tabsB h.get? (T.lm.map (·, none)) (He.frT h.get? (He.asD h.get? n)) = true) : T.bare (He.frT h.get? (He.asD h.get? n)) h := fun x hx => by
  have q := List.all_eq_true.mp e (x, none) (List.mem_map.mpr ⟨x, hx, rfl⟩)
  rw [Bool.and_eq_true] at q
  obtain ⟨q1, q2⟩ := q
  split at q2
  · rename_i o z
    exact ⟨by rw [z, He.emptyTab_eq q2], He.frT_none z q2, q1⟩
  · cases q2
def hookX (n : Nat) (fa : List He.Fa) (fn : List He.DefD) (T : ExT) : PySem.W.Hook where
  α := AlX
  obs := fun s => obsX n fa fn T s.heap.get?
  val := fun w => (He.valT fn T.dts w, true)
  says := fun w h => ∃ K : PySem.W.Frag, K.In h ∧ He.SaysT fa fn T.dts w K ∧ T.says2 K = true ∧ T.bare K h
  of := fun _ _ e => ⟨_, He.frT_in, congrArg (fun z : AlX => z.1) e, (Bool.and_eq_true_iff.mp (congrArg (fun z : AlX => z.2) e)).1, bare_of (Bool.and_eq_true_iff.mp (congrArg (fun z : AlX => z.2) e)).2⟩
  keeps := fun _ _ _ ⟨K, hK, c, d, b⟩ k => ⟨K, PySem.W.Frag.In.keeps hK k, c, d, fun x hx => ⟨k _ _ (b x hx).1, (b x hx).2⟩⟩
theorem obsX_eq {n : Nat} {fa : List He.Fa} {fn : List He.DefD} {T : ExT} {g : Addr → Option Obj} {s : Shared} (h : ∀ a, g a = s.heap.get? a) : obsX n fa fn T g = (hookX n fa fn T).obs s := by
  have e : g = s.heap.get? := funext h
  rw [e] <;> rfl
theorem says_fact {fa : List He.Fa} {fn : List He.DefD} {K : PySem.W.Frag} (c : He.SaysD fa fn K) {f : He.Fa} (h : f ∈ fa) : f.ok K = true := by
  obtain ⟨i, hi⟩ := List.getElem?_of_mem h
  exact c.fact i hi
theorem xs_of {K : PySem.W.Frag} {T : ExT} (h : T.says K = true) {x : Str} (hx : x ∈ T.xs) : xB K x = true ∧ (∀ y ∈ T.xs, relB2 K x y (decide (x = y)) = true) ∧ relB2 K x T.base true = true := by
  have q := List.all_eq_true.mp (Bool.and_eq_true_iff.mp h).1 x hx
  simp only [Bool.and_eq_true, List.all_eq_true] at q
  exact ⟨q.1.1, q.1.2, q.2⟩
theorem facts_of [TBS] {tab : List FnE} {gl : List (Str × GV)} {T : ExT} {F : Nat} {K : PySem.W.Frag} {h : Heap} {mg : Str → Option Value} (KX : K.In h) (G : h.Ns mainGlobals mg) (c : He.SaysD (faOf tab gl T) (fnOf tab T) K) (cx : T.says K = true) (cg : glsB K gl = true) (hgd : ∀ x ks vs, (x, GV.gdt ks vs) ∈ gl → TBS.gd (He.ga K x) ks vs) (okT : T.ok = true)
    (ok : tab.all (fun e => e.ok (cfgOf tab gl T F)) = true) : Facts (cfgOf tab gl T F) tab K mg where
  blt := fun x hx => He.free_ok KX G (says_fact c (List.mem_append_right _ (List.mem_append_left _ (List.mem_map_of_mem hx))))
  glob := fun g d e => by
    simp only [cfgOf, Option.map_eq_some_iff] at e
    obtain ⟨p, hp, rfl⟩ := e
    have hm : p.2.fa p.1 ∈ faOf tab gl T := List.mem_append_right _ (List.mem_append_right _ (List.mem_append_left _ (List.mem_map.mpr ⟨p, List.mem_of_getElem? hp, rfl⟩)))
    have en : (cfgOf tab gl T F).gname g = p.1 := by
      simp only [cfgOf, hp]
      rfl
    rw [en]
    obtain ⟨x, v⟩ := p
    cases v with
    | int i =>
      obtain ⟨t, ht⟩ := He.int_ok KX G (says_fact c hm)
      exact ⟨.int i, _, ht, ⟨t, rfl⟩, fun H ra => rfl⟩
    | str z =>
      obtain ⟨t, ht⟩ := He.str_ok KX G (says_fact c hm)
      exact ⟨.str z, _, ht, ⟨t, rfl⟩, fun H ra => rfl⟩
    | dat d =>
      have ht := He.glo_ok KX G (says_fact c hm)
      have q := List.all_eq_true.mp cg _ (List.mem_of_getElem? hp)
      dsimp only at q
      split at q
      · rename_i u hu
        obtain ⟨v, r1, r2⟩ := konB_ok d u q
        exact ⟨v, u, PySem.W.mg_of KX G hu, r1, r2⟩
      · cases q
    | gdt ks vs =>
      have ht := He.glo_ok KX G (says_fact c hm)
      exact ⟨.ref (He.ga K x), _, ht, rfl, fun H ra => ⟨_, rfl, hgd x ks vs (List.mem_of_getElem? hp)⟩⟩
  fns := fun f e he => by
    have hd : (fnOf tab T)[f]? = some e.dd := by
      unfold fnOf
      rw [List.getElem?_append_left (by rw [List.length_map]; exact (List.getElem?_eq_some_iff.mp he).1), List.getElem?_map, he]
      rfl
    obtain ⟨fd, FD⟩ := c.def_ f hd
    refine ⟨by simp only [cfgOf, he]; rfl, by simp only [cfgOf, he]; rfl, List.all_eq_true.mp ok e (List.mem_of_getElem? he), _, fd, He.glo_ok KX G (says_fact c (List.mem_append_left _ (List.mem_map.mpr ⟨e, List.mem_of_getElem? he, rfl⟩))), FD⟩
  all := fun f fd h => by
    simp only [cfgOf, Option.map_eq_some_iff] at h
    obtain ⟨e, he, _⟩ := h
    exact ⟨e, he⟩
  exc := fun i x hx => by
    have hx : T.xs[i]? = some x := hx
    have hm := List.mem_of_getElem? hx
    obtain ⟨q, _, _⟩ := xs_of cx hm
    refine ⟨He.ga K x, He.glo_ok KX G (says_fact c (List.mem_append_right _ (List.mem_append_right _ (List.mem_append_right _ (List.mem_map.mpr ⟨x, List.mem_cons_of_mem _ hm, rfl⟩))))), fun prog w base => ?_⟩
    unfold xB at q
    simp only [Bool.and_eq_true, decide_eq_true_eq] at q
    obtain ⟨⟨⟨⟨⟨⟨⟨⟨⟨⟨⟨⟨⟨⟨⟨q1, q2⟩, q3⟩, q4⟩, q5⟩, q6⟩, q7⟩, q8⟩, q9⟩, q10⟩, q11⟩, q12⟩, q13⟩, q14⟩, q15⟩, q16⟩ := q
    have hd : (fnOf tab T)[tab.length + i]? = some (T.dd x) := by
      unfold fnOf
      rw [List.getElem?_append_right (by rw [List.length_map]; omega), List.length_map, Nat.add_sub_cancel_left, List.getElem?_map, hx]
      rfl
    obtain ⟨fd, FD⟩ := c.def_ _ hd
    have oi : initB T.ini = true := by
      unfold ExT.ok at okT
      simp only [Bool.and_eq_true, Bool.or_eq_true, List.isEmpty_iff] at okT
      rcases okT.1 with z | z
      · rw [z] at hm
        cases hm
      · exact z
    obtain ⟨b1, b2⟩ := init_ok (prog := prog) (w := w) (mg := mg) (base := base) oi FD
    exact { oex := ⟨clsB_ok q1, He.eqO_ok q2, q3, q4, q5⟩, ini := ⟨_, fd, He.eqO_ok q6, q7, b1, b2⟩, no := He.eqO_ok q8, ga := He.eqO_ok q9, gg := He.eqO_ok q10, hd := q11, cc := He.eqO_ok q12, hn := He.eqO_ok q13, ht := q14, hm := q15, ve := q16 }
  rel := fun i x i2 x2 C C2 hx hx2 mC mC2 => by
    have hx : T.xs[i]? = some x := hx
    have hx2 : T.xs[i2]? = some x2 := hx2
    have hm := List.mem_of_getElem? hx
    have hm2 := List.mem_of_getElem? hx2
    have e1 := He.glo_ok KX G (says_fact c (List.mem_append_right _ (List.mem_append_right _ (List.mem_append_right _ (List.mem_map.mpr ⟨x, List.mem_cons_of_mem _ hm, rfl⟩)))))
    have e2 := He.glo_ok KX G (says_fact c (List.mem_append_right _ (List.mem_append_right _ (List.mem_append_right _ (List.mem_map.mpr ⟨x2, List.mem_cons_of_mem _ hm2, rfl⟩)))))
    rw [e1] at mC
    rw [e2] at mC2
    cases mC
    cases mC2
    have q := (xs_of cx hm).2.1 x2 hm2
    unfold relB2 at q
    simp only [Bool.and_eq_true, decide_eq_true_eq] at q
    have nd : T.xs.Nodup := by
      unfold ExT.ok at okT
      simp only [Bool.and_eq_true, decide_eq_true_eq] at okT
      exact okT.2
    have e : decide (x = x2) = decide (i = i2) := by
      by_cases hi : i = i2
      · subst hi
        rw [hx] at hx2
        cases hx2
        simp
      · have : x ≠ x2 := fun z => hi (by
          subst z
          obtain ⟨l1, g1⟩ := List.getElem?_eq_some_iff.mp hx
          obtain ⟨l2, g2⟩ := List.getElem?_eq_some_iff.mp hx2
          exact (List.getElem_inj nd).mp (g1.trans g2.symm))
        simp [hi, this]
    rw [e] at q
    exact q
  bas := by
    refine ⟨He.ga K T.base, He.glo_ok KX G (says_fact c (List.mem_append_right _ (List.mem_append_right _ (List.mem_append_right _ (List.mem_map.mpr ⟨T.base, List.mem_cons_self, rfl⟩))))), fun i x C hx mC => ?_⟩
    have hx : T.xs[i]? = some x := hx
    have hm := List.mem_of_getElem? hx
    have e1 := He.glo_ok KX G (says_fact c (List.mem_append_right _ (List.mem_append_right _ (List.mem_append_right _ (List.mem_map.mpr ⟨x, List.mem_cons_of_mem _ hm, rfl⟩)))))
    rw [e1] at mC
    cases mC
    have q := (xs_of cx hm).2.2
    unfold relB2 at q
    simpa only [Bool.and_eq_true, decide_eq_true_eq] using q
section
variable {P : Program} {w : World} {K : PySem.W.Frag} {mg mb : Str → Option Value} {CX : CXT} {k : Nat} {fa a : Addr} {cs : List (Addr × Addr)} {fd : FuncData} {x : Str} {sp : Sp} {s₁ : Shared} {vs : List Value} {ns : List Int}
structure AtStart (K : PySem.W.Frag) (cs : List (Addr × Addr)) (a : Addr) (u : HO) (H : Hp) : Prop where
  tbl : ∀ p ∈ cs, H p.2 = some (.tbl #[])
  els : ∀ b z, H b = some z → (∃ p ∈ cs, b = p.2 ∧ z = .tbl #[]) ∨ (b = a ∧ z = u ∧ K.lookup a = none)
abbrev tabO : Obj := { cls := .none, data := .fields #[] }
theorem law_callT (KX : K.In s₁.heap) (hns : s₁.heap.Ns mainGlobals mg) (hb : s₁.heap.Ns builtinsNs mb) (hbb : ∀ x : Str, x ≠ "__name__" → mb x = bootBuiltins x) (hlim : s₁.heap.NoLimit) (hg : s₁.gens = #[])
    (hT : ∀ p ∈ cs, s₁.heap.get? p.2 = some tabO ∧ K.lookup p.2 = none ∧ PySem.W.codeHdIn K p.1 p.2 = true)
    (hbm : ∃ (bm : Addr) (ob : Obj), mg "__builtins__" = some (.ref bm) ∧ bm ≠ builtinsNs ∧ s₁.heap.get? bm = some ob ∧ ob.cls = .type "module" ∧ ob.dict = some builtinsNs ∧ ob.data = .plain)
    (ha : s₁.heap.get? a = some { cls := .type "list", data := .seq vs.toArray }) (hi : IntsAre vs ns) (hl : ns.length ≤ sizeLine) (hr : Room k callerA)
    (F : ∀ base : Heap, K.In base → base.Ns mainGlobals mg → (∀ p ∈ cs, LamX.TabB base mg p.1 p.2) → FnOk P w K mg base CX k fa fd [x] sp) (hbind : ∀ (s : Shared) (u : Value), BindsTo s fd ⟨[u], []⟩ [(x, u)])
    (hsp : ∀ H : Hp, AtStart K cs a (.frz { cls := .type "list", data := .seq vs.toArray } (.lst (ns.map V.int))) H → SqL K H a (ns.map V.int) → sp [.ref a] H (fun v _ => v = .bl true) fun _ _ _ => False)
    (hCX : ∀ H e s', CX [] H s₁ (fun _ _ _ => False) e s' → False) :
    codeAny (model P w) callerA (.call (.ref fa) ⟨[.ref a], []⟩) (fun r s' => r = .ok (.ret (.bool true)) ∧ OldK s₁.heap s'.heap ∧ s'.os = s₁.os ∧ AllBare s'.gens) s₁ := by
  have rv := vals_ints hi
  have noT : ∀ p ∈ cs, p.2 ≠ a := fun p hp z => by
    have q := (hT p hp).1
    rw [z, ha] at q
    cases q
  have from_ : ∀ H : Hp, AtStart K cs a (.frz { cls := .type "list", data := .seq vs.toArray } (.lst (ns.map V.int))) H → SqL K H a (ns.map V.int) →
      codeAny (model P w) callerA (.call (.ref fa) ⟨[.ref a], []⟩) (fun r s' => r = .ok (.ret (.bool true)) ∧ OldK s₁.heap s'.heap ∧ s'.os = s₁.os ∧ AllBare s'.gens) s₁ := fun H S hS => by
    have off : ∀ {b : Addr} {o : Obj}, s₁.heap.get? b = some o → o.data ≠ .seq vs.toArray → o.data ≠ .fields #[] → H b = none := fun {b o} e h1 h2 => by
      cases q : H b with
      | none => rfl
      | some z =>
        rcases S.els b z q with ⟨p, hp, rfl, _⟩ | ⟨rfl, _, _⟩
        · rw [(hT p hp).1] at e
          cases e
          exact (h2 rfl).elim
        · rw [ha] at e
          cases e
          exact (h1 rfl).elim
    have ns_ : ∀ {b : Addr} {m : Str → Option Value}, s₁.heap.Ns b m → (hidT s₁.heap H).Ns b m := fun {b m} ⟨o, es, ep, e, d, r⟩ => ⟨o, es, ep, hidT_get e (off e (by rw [d]; exact fun z => by cases z) (by rw [d]; exact fun z => by cases z)), d, r⟩
    have hK : K.In (hidT s₁.heap H) := fun b o e => hidT_get (KX b o e) (by
      cases q : H b with
      | none => rfl
      | some z =>
        rcases S.els b z q with ⟨p, hp, rfl, _⟩ | ⟨rfl, _, n⟩
        · rw [(hT p hp).2.1] at e
          cases e
        · rw [n] at e
          cases e)
    have TB : ∀ p ∈ cs, LamX.TabB (hidT s₁.heap H) mg p.1 p.2 := fun p hp => by
      obtain ⟨t1, t2, t3⟩ := hT p hp
      obtain ⟨bm, ob, b1, b2, b3, b4, b5, b6⟩ := hbm
      refine ⟨PySem.W.codeHd_of_K hK t3, ⟨bm, ob, b1, b2, fun q => ?_, fun q => ?_, hidT_get b3 (off b3 (by rw [b6]; exact fun z => by cases z) (by rw [b6]; exact fun z => by cases z)), b4, b5, b6⟩, fun z => ?_⟩
      · obtain ⟨o, es, ep, e, d, _⟩ := hns
        rw [q, e] at b3
        cases b3
        rw [d] at b6
        cases b6
      · rw [q, t1] at b3
        cases b3
        cases b6
      · obtain ⟨o, es, ep, e, d, _⟩ := hns
        rw [z, t1] at e
        cases e
        cases d
    have hok : HOk P w H s₁.heap := fun b z q => by
      rcases S.els b z q with ⟨p, hp, rfl, rfl⟩ | ⟨rfl, rfl, _⟩
      · exact (hT p hp).1
      · exact ⟨ha, by rw [List.length_map]; exact hl, vs, _, rv, ha⟩
    have e0 : Env0 P w K mg (hidT s₁.heap H) callerA [] s₁ H := ⟨rfl, ⟨hK, ns_ hns, ⟨mb, ns_ hb, hbb⟩, let ⟨mc, h1, h2⟩ := hlim; ⟨mc, ns_ h1, h2⟩⟩, fun b o e => of_hidT e, Nat.le_of_eq (hidT_size _ _), trivial, fun b hb => absurd (show b ∈ ([] : List Addr) from hb) (by simp), hok, .of_eq hg⟩
    refine codeAny_mono ((F _ hK (ns_ hns) TB).run callerA [] s₁ H ⟨[.ref a], []⟩ [.ref a] [.ref a] _ _ hr e0 (hbind s₁ (.ref a)) (.cons rfl .nil) (hsp H S hS)) fun r s' h => ?_
    cases r with
    | error e => exact (hCX H e s' h).elim
    | ok fl =>
      cases fl with
      | next => exact False.elim h
      | brk => exact False.elim h
      | cont => exact False.elim h
      | ret u =>
        obtain ⟨v, H', os, bare, un, hok', r', rfl⟩ := h
        obtain rfl : u = Value.bool true := r'
        have old : ∀ b o, s₁.heap.get? b = some o → (∃ p ∈ cs, b = p.2 ∧ ∃ more : Array Value, s'.heap.get? b = some { cls := .none, data := .fields more }) ∨ s'.heap.get? b = some o := fun b o e => by
          cases q : H b with
          | none => exact .inr (un.keep b o e q (by intro z; exact absurd (show b ∈ ([] : List Addr) from z) (by simp)) (by simp))
          | some z =>
            rcases S.els b z q with ⟨p, hp, rfl, rfl⟩ | ⟨rfl, rfl, _⟩
            · obtain ⟨more, g⟩ := un.tbls _ #[] q
              exact .inl ⟨p, hp, rfl, _, hok' _ _ g⟩
            · have z2 := un.frzs _ _ _ q
              obtain ⟨e1, _⟩ := hok _ _ q
              obtain ⟨e2, _⟩ := hok' _ _ z2
              rw [e] at e1
              cases e1
              exact .inr e2
        refine ⟨rfl, ⟨fun b o e => ?_, fun b o e => ?_⟩, os, bare⟩
        · rcases old b o e with ⟨p, hp, rfl, more, g⟩ | g
          · rw [(hT p hp).1] at e
            cases e
            exact .inr (.inl ⟨((PySem.W.codeHd_of_K KX (hT p hp).2.2).tab (hT p hp).1).isCodeTable, rfl, #[], more, rfl, by rw [Array.empty_append]; exact g⟩)
          · exact .inl g
        · rcases old b o e with ⟨p, hp, rfl, more, g⟩ | g
          · exact ⟨_, g⟩
          · exact ⟨o, g⟩
  have mem : ∀ b : Addr, b ∈ cs.map (·.2) ↔ ∃ p ∈ cs, b = p.2 := fun b => by
    rw [List.mem_map]
    exact ⟨fun ⟨p, h1, h2⟩ => ⟨p, h1, h2.symm⟩, fun ⟨p, h1, h2⟩ => ⟨p, h1, h2.symm⟩⟩
  have aT : a ∉ cs.map (·.2) := fun z => by
    obtain ⟨p, hp, e⟩ := (mem a).mp z
    exact noT p hp e.symm
  cases hk : K.lookup a with
  | some o =>
    have e := KX a o hk
    rw [ha] at e
    cases e
    refine from_ (fun b => if b ∈ cs.map (·.2) then some (.tbl #[]) else none) ⟨fun p hp => if_pos ((mem _).mpr ⟨p, hp, rfl⟩), fun b z q => ?_⟩ (.inr ⟨_, vs.toArray, _, hk, rfl, rfl, rfl, by rw [List.size_toArray, hi.length]; exact hl, by simpa using rv⟩)
    by_cases h : b ∈ cs.map (·.2)
    · obtain ⟨p, hp, e⟩ := (mem b).mp h
      exact .inl ⟨p, hp, e, (Option.some.inj ((if_pos h).symm.trans q)).symm⟩
    · cases (if_neg h).symm.trans q
  | none =>
    refine from_ (fun b => if b ∈ cs.map (·.2) then some (.tbl #[]) else if b = a then some (.frz { cls := .type "list", data := .seq vs.toArray } (.lst (ns.map V.int))) else none) ⟨fun p hp => if_pos ((mem _).mpr ⟨p, hp, rfl⟩), fun b z q => ?_⟩
      (.inl (.inr ⟨_, (if_neg aT).trans (if_pos rfl)⟩))
    by_cases h : b ∈ cs.map (·.2)
    · obtain ⟨p, hp, e⟩ := (mem b).mp h
      exact .inl ⟨p, hp, e, (Option.some.inj ((if_pos h).symm.trans q)).symm⟩
    · by_cases h2 : b = a
      · exact .inr ⟨h2, (Option.some.inj (((if_neg h).trans (if_pos h2)).symm.trans q)).symm, hk⟩
      · cases ((if_neg h).trans (if_neg h2)).symm.trans q
end
theorem walk_ofW {l : PySem.W.OpenLaw} {n k : Nat} {q : Program} {loose : List Str} {XP : (Str → Option Value) → Heap → Prop} {YP : World → Heap → Prop} {d : DefRec} {CX : World → CXT} {x : Str}
    (hn : l.most = some n) (hn2 : n ≤ sizeLine) (hdf : d.params.defaults = []) (hr : Room k callerA)
    (F : ∀ (w : World) (mg : Str → Option Value) (fa : Addr) (h : Heap), YP w h → h.Ns mainGlobals mg → mg d.name = some (.ref fa) →
      ∃ (K : PySem.W.Frag) (fd : FuncData) (sp : Sp), K.In h ∧ (∀ (s : Shared) (u : Value), BindsTo s fd ⟨[u], []⟩ [(x, u)]) ∧
        (∀ (H : Hp) (a : Addr) (ns : List Int), ns.length ≤ n → Only H → SqL K H a (ns.map V.int) → sp [.ref a] H (fun v _ => v = .bl true) fun _ _ _ => False) ∧
        ∀ base : Heap, K.In base → base.Ns mainGlobals mg → FnOk l.prog w K mg base (CX w) k fa fd [x] sp)
    (hCX : ∀ (w : World) (H : Hp) (s : Shared) (e : Value) (s' : Shared), CX w [] H s (fun _ _ _ => False) e s' → False) :
    PySem.W.WalkO q loose XP YP l.row.toRowW d [] (fun f vs => PySem.call f vs) := by
  refine Att.attach_call hn hdf fun w s₀ s₁ mg mb fa o pm cd doc a vs ns G Y ho hd hcd hmg hobj hints hlen hg => ?_
  obtain ⟨K, fd, sp, KX, hb, hsp, hF⟩ := F w mg fa _ Y G.T.g hmg
  exact law_call KX G.T.g G.T.b G.T.builtins G.T.nolimit hg hobj hints (Nat.le_trans hlen hn2) hr hF hb (fun H hO hS => hsp H a ns hlen hO hS) fun H e s' => hCX w H s₁ e s'
theorem far_of {tab : List FnE} {gl : List (Str × GV)} {T : ExT} {F : Nat} (ok : tab.all (fun e => e.ok (cfgOf tab gl T F)) = true) (f : Nat) : (cfgOf tab gl T F).P (f + hB) = none := by
  show ((tab[f + hB]?).map (·.fd)) = none
  cases tab with
  | nil => rfl
  | cons e r =>
    have h := List.all_eq_true.mp ok e List.mem_cons_self
    unfold FnE.ok at h
    rw [Bool.and_eq_true, decide_eq_true_eq] at h
    have h : (e :: r).length ≤ hB := h.1
    rw [List.getElem?_eq_none (by omega)]
    rfl
theorem inj_nodup {α β : Type} {f : α → β} : ∀ {l : List α} {x y : α}, (l.map f).Nodup → x ∈ l → y ∈ l → f x = f y → x = y
  | [], _, _, _, h, _, _ => nomatch h
  | z :: l, x, y, n, hx, hy, e => by
    rw [List.map_cons, List.nodup_cons] at n
    rcases List.mem_cons.mp hx with e1 | e1
    · rcases List.mem_cons.mp hy with e2 | e2
      · rw [e1, e2]
      · exact (n.1 (List.mem_map.mpr ⟨y, e2, by rw [← e, e1]⟩)).elim
    · rcases List.mem_cons.mp hy with e2 | e2
      · exact (n.1 (List.mem_map.mpr ⟨x, e1, by rw [e, e2]⟩)).elim
      · exact inj_nodup n.2 e1 e2 e
def ExT.cs (T : ExT) (K : PySem.W.Frag) : List (Addr × Addr) := T.lm.map fun x => He.cT K (x, none)
def lamName (x : Str) : Str := (envOfC x (default : Scope) 0 0 .none).qual ++ "<lambda>"
def ExT.ts (T : ExT) (K : PySem.W.Frag) : List (Addr × Str) := T.lm.map fun x => ((He.cT K (x, none)).2, lamName x)
theorem walk_law {l : PySem.W.OpenLaw} {q : Program} {loose : List Str} {XP : (Str → Option Value) → Heap → Prop} {d : DefRec} {tab : List FnE} {gl : List (Str × GV)} {T : ExT} {F k fi n : Nat} {e : FnE} {x : Str}
    (hn : l.most = some 63) (hdf : d.params.defaults = []) (hr : Room (k + 1 + 2) callerA) (hdn : d.name = e.nm) (hfi : tab[fi]? = some e) (hps : e.ps = [x])
    (okT : T.ok = true) (ok : tab.all (fun e => e.ok (cfgOf tab gl T F)) = true)
    (h : ∀ ns : List Int, ns.length ≤ 63 → ∃ s', callF (cfgOf tab gl T F).P (cfgOf tab gl T F).G F (k + 1) fi [.frz ns] [] = .ok (.bl true) s') (hgs : gl = T.gs := by rfl) :
    PySem.W.WalkO q loose XP (hookX n (faOf tab gl T) (fnOf tab T) T).says l.row.toRowW d [] (fun f vs => PySem.call f vs) := by
  refine Att.attach_callB hn hdf fun w s₀ s₁ mg mb fa o pm cd doc a vs ns G Y ho hd hcd hmg hobj hints hlen hbits hg => ?_
  obtain ⟨K, KX, c0, cx0, bare⟩ := Y
  have c := c0.d
  obtain ⟨cx, cg⟩ := Bool.and_eq_true_iff.mp cx0
  rw [← hgs] at cg
  letI : TBS := ⟨T.ts K, fun a ks vs => ∃ x, (x, GV.gdt ks vs) ∈ gl ∧ a = He.ga K x⟩
  have FX : Facts (cfgOf tab gl T F) tab K mg := facts_of KX G.T.g c cx cg (fun x ks vs hx => ⟨x, hx, rfl⟩) okT ok
  have hGd : GdOk K w := fun a ks vs ⟨x, hx, ha⟩ => by
    subst ha
    obtain ⟨i, hi⟩ := List.getElem?_of_mem (show ((fun K => He.ga K x : PySem.W.Frag → Addr), ks) ∈ T.dts from by
      unfold ExT.dts
      rw [← hgs]
      exact List.mem_filterMap.mpr ⟨_, hx, rfl⟩)
    have kd := c0.tab i hi
    have q := List.all_eq_true.mp cg _ hx
    exact ⟨kd, fun z => gdB_ok q kd z⟩
  obtain ⟨h1, h2, h3, a', dat, h4, FD⟩ := FX.fns fi e hfi
  have hnh : heardP (cfgOf tab gl T F) fi = false := by
    cases q : heardP (cfgOf tab gl T F) fi with
    | false => rfl
    | true =>
      obtain ⟨z, hs, _, q2⟩ := FnE.ok_h h1 h3 q
      have np := FnE.okH_np q2
      obtain ⟨s', hs'⟩ := h [] (by decide)
      rw [callF] at hs'
      simp only [h1, np] at hs'
      cases hs'
  have h3' := FnE.ok_n h1 h3 hnh
  unfold FnE.okN at h3'
  simp only [Bool.and_eq_true, decide_eq_true_eq] at h3'
  obtain ⟨⟨⟨⟨⟨o1, o2⟩, o3⟩, o4⟩, o5⟩, o6⟩ := h3'
  rw [hdn, h4] at hmg
  cases hmg
  refine law_callT (fd := dat) (cs := T.cs K) (x := x) (sp := spF (cfgOf tab gl T F) mg K (k + 1) fi) (CX := L2.CX l.prog w) KX G.T.g G.T.b G.T.builtins G.T.nolimit hg (fun p hp => ?_) G.T.bmain hobj hints (Nat.le_trans hlen (by decide)) hr (fun base hK hG hTB => ?_) (fun s v => ?_) (fun H S hS => ?_) (fun H e s' z => ?_)
  · obtain ⟨y, hy, rfl⟩ := List.mem_map.mp hp
    exact bare y hy
  · have maker : ∀ (f : Nat) (e : FnE) (a : Addr) (dat : FuncData), tab[f]? = some e → (cfgOf tab gl T F).mks (defScope e.st) = true → mg e.nm = some (.ref a) → FunD K e.nm e.nm (defArgs e.st) (defBody e.st) (defScope e.st) [] [] a dat → ∀ (dV kV doc pm cdv ct : Value) (an : Option Addr), dat = PySem.W.fnOf e.nm e.nm (defArgs e.st) (defBody e.st) (defScope e.st) dV kV doc pm an cdv ct → MakerC base mg e.nm cdv := by
      intro f e a dat he hm ma FD dV kV doc pm cdv ct an hdat
      have hm : ((tab.any fun e' => T.lm.contains e'.nm && decide (defScope e'.st = defScope e.st)) && tab.all fun e' => T.lm.contains e'.nm || !decide (defScope e'.st = defScope e.st)) = true := hm
      have mem : e.nm ∈ T.lm := by
        have q := List.all_eq_true.mp (Bool.and_eq_true_iff.mp hm).2 e (List.mem_of_getElem? he)
        simpa using q
      have mg2 := He.glo_ok KX G.T.g (says_fact c (List.mem_append_left _ (List.mem_map.mpr ⟨e, List.mem_of_getElem? he, rfl⟩)))
      rw [ma] at mg2
      cases mg2
      obtain ⟨oc, od, dV', kV', doc', pm', an', cdv', ct', osl, edat, lk, hcd, _, _⟩ := FD.ex
      have ec : cdv = cdv' := by
        rw [hdat] at edat
        exact congrArg FuncData.code edat
      subst ec
      obtain ⟨c', rfl⟩ := He.codeIn_ref hcd
      have e1 : He.codeOf K (e.nm, none) = c' := He.codeOf_eq (p := (e.nm, none)) lk (by rw [hdat])
      refine ⟨(He.cT K (e.nm, none)).1, (He.cT K (e.nm, none)).2, by rw [← e1]; rfl, hTB _ (List.mem_map.mpr ⟨e.nm, mem, rfl⟩), List.mem_map.mpr ⟨e.nm, mem, rfl⟩, fun p hp hP => ?_⟩
      obtain ⟨y, hy, rfl⟩ := List.mem_map.mp hp
      have nd : (T.lm.map fun x => (He.cT K (x, none)).2).Nodup := of_decide_eq_true (Bool.and_eq_true_iff.mp cx).2
      have : y = e.nm := inj_nodup nd hy mem hP
      rw [this]
      rfl
    have q := fn_ok (prog := l.prog) (w := w) (base := base) FX hfi hnh FD (stat_of FX hGd (far_of ok) maker k) (fun z => maker fi e _ dat hfi z h4 FD)
    rw [hps] at q
    exact q
  · have b := FD.bindsA (fun kV doc pm an cdv ct us hl => bind_plain o1 o2 hl) s [v] (by rw [hps]; rfl)
    rw [hps] at b
    exact b
  · obtain ⟨s', hs⟩ := h ns hlen
    refine ⟨[], [.frz ns], [], ⟨rfl, List.nodup_nil, fun i c a e => by simp at e, fun p hp => ?_⟩, RepL.one ⟨a, rfl, ?_⟩, ?_⟩
    · obtain ⟨y, hy, rfl⟩ := List.mem_map.mp hp
      exact LamX.TabS.nil (S.tbl _ (List.mem_map.mpr ⟨y, hy, rfl⟩))
    · rcases hS with (z | ⟨o, z⟩) | z
      · rcases S.els a _ z with ⟨_, _, _, y⟩ | ⟨_, y, _⟩
        · cases y
        · cases y
      · exact .inl ⟨o, z⟩
      · exact .inr fun H' => .inr z
    · have e0 : callF (cfgOf tab gl T F).P (cfgOf tab gl T F).G (cfgOf tab gl T F).F (k + 1) fi [.frz ns] [] = .ok (.bl true) s' := hs
      rw [e0]
      intro b rb H' _ _ _ rb'
      exact rb'
  · obtain ⟨_, _, _, _, _, _, _, _, _, _, _, _, z⟩ := z
    exact z.elim
end WL
set_option maxHeartbeats 4000000
namespace WL
open PySem
def WpR {α : Type} (r : R α) (Q : α → Store → Prop) : Prop := match r with
  | .ok a s => Q a s
  | _ => False
structure En where
  nx : Env → Store → Prop
  rt : D → Store → Prop
  bk : Env → Store → Prop
  ct : Env → Store → Prop
def WpS (r : RS) (E : En) : Prop := match r with
  | .nx ρ s => E.nx ρ s
  | .ret d s => E.rt d s
  | .brk ρ s => E.bk ρ s
  | .cnt ρ s => E.ct ρ s
  | _ => False
def Br (c : Prop) [Decidable c] (p q : Prop) : Prop := if c then p else q
def BrB (c : Bool) (p q : Prop) : Prop := match c with
  | true => p
  | false => q
def onP (o : Option Bool) (p q : Prop) : Prop := match o with
  | some true => p
  | some false => q
  | none => False
def onO {α : Type} (o : Option α) (k : α → Prop) : Prop := match o with
  | some a => k a
  | none => False
def onE (o : Option (Option D)) (k : D → Prop) : Prop := match o with
  | some (some d) => k d
  | _ => False
def onI (d : D) (k : Int → Prop) : Prop := match d with
  | .int i => k i
  | _ => False
theorem WpR_congr {α : Type} {r r' : R α} {Q : α → Store → Prop} (h : r = r') : WpR r Q = WpR r' Q := by rw [h]
theorem WpS_congr {r r' : RS} {E : En} (h : r = r') : WpS r E = WpS r' E := by rw [h]
theorem Br_congr {c c' : Prop} [Decidable c] [Decidable c'] {p q : Prop} (h : c = c') : Br c p q = Br c' p q := by subst h; unfold Br; congr
theorem BrB_congr {c c' : Bool} {p q : Prop} (h : c = c') : BrB c p q = BrB c' p q := by rw [h]
theorem onP_congr {o o' : Option Bool} {p q : Prop} (h : o = o') : onP o p q = onP o' p q := by rw [h]
theorem onO_congr {α : Type} {o o' : Option α} {k : α → Prop} (h : o = o') : onO o k = onO o' k := by rw [h]
theorem onE_congr {o o' : Option (Option D)} {k : D → Prop} (h : o = o') : onE o k = onE o' k := by rw [h]
theorem onI_congr {o o' : D} {k : Int → Prop} (h : o = o') : onI o k = onI o' k := by rw [h]
theorem Br_true {p q : Prop} : Br True p q = p := if_pos trivial
theorem Br_false {p q : Prop} : Br False p q = q := if_neg id
theorem BrB_true {p q : Prop} : BrB true p q = p := rfl
theorem BrB_false {p q : Prop} : BrB false p q = q := rfl
theorem BrB_dec {c : Prop} [Decidable c] {p q : Prop} : BrB (decide c) p q = Br c p q := by
  unfold BrB Br
  by_cases h : c <;> simp [h]
theorem BrB_not {c : Bool} {p q : Prop} : BrB (!c) p q = BrB c q p := by cases c <;> rfl
theorem onP_some {b : Bool} {p q : Prop} : onP (some b) p q = BrB b p q := by cases b <;> rfl
theorem onO_some {α : Type} {a : α} {k : α → Prop} : onO (some a) k = k a := rfl
theorem onE_some {d : D} {k : D → Prop} : onE (some (some d)) k = k d := rfl
theorem onI_int {i : Int} {k : Int → Prop} : onI (.int i) k = k i := rfl
theorem Br.of {c : Prop} [Decidable c] {p q : Prop} (h1 : c → p) (h2 : ¬c → q) : Br c p q := by
  unfold Br
  split
  · exact h1 ‹_›
  · exact h2 ‹_›
theorem Br.pos {c : Prop} [Decidable c] {p q : Prop} (h : c) (h1 : p) : Br c p q := by
  unfold Br
  rw [if_pos h]
  exact h1
theorem Br.neg {c : Prop} [Decidable c] {p q : Prop} (h : ¬c) (h1 : q) : Br c p q := by
  unfold Br
  rw [if_neg h]
  exact h1
theorem BrB.of {c : Bool} {p q : Prop} (h1 : c = true → p) (h2 : c = false → q) : BrB c p q := by
  cases c
  · exact h2 rfl
  · exact h1 rfl
section
variable {α β : Type} {C : Calls} {G : Globs} {ρ : Env} {s : Store}
theorem WpR_ok {a : α} {Q : α → Store → Prop} : WpR (.ok a s) Q = Q a s := rfl
theorem WpR_bind {r : R α} {f : α → Store → R β} {Q : β → Store → Prop} : WpR (r.bind f) Q = WpR r fun a s => WpR (f a s) Q := by cases r <;> rfl
theorem WpR_mono {r : R α} {Q Q' : α → Store → Prop} (h : WpR r Q) (i : ∀ a s, Q a s → Q' a s) : WpR r Q' := by
  cases r with
  | ok a s => exact i a s h
  | _ => exact h
theorem WpS_nx {E : En} : WpS (.nx ρ s) E = E.nx ρ s := rfl
theorem WpS_ret {E : En} {d : D} : WpS (.ret d s) E = E.rt d s := rfl
theorem WpS_brk {E : En} : WpS (.brk ρ s) E = E.bk ρ s := rfl
theorem WpS_cnt {E : En} : WpS (.cnt ρ s) E = E.ct ρ s := rfl
theorem WpS_stm {r : R α} {f : α → Store → RS} {E : En} : WpS (r.stm ρ f) E = WpR r fun a s => WpS (f a s) E := by cases r <;> rfl
theorem WpS_mono {r : RS} {E E' : En} (h : WpS r E) (h1 : ∀ ρ s, E.nx ρ s → E'.nx ρ s) (h2 : ∀ d s, E.rt d s → E'.rt d s) (h3 : ∀ ρ s, E.bk ρ s → E'.bk ρ s) (h4 : ∀ ρ s, E.ct ρ s → E'.ct ρ s) : WpS r E' := by
  cases r with
  | nx ρ s => exact h1 _ _ h
  | ret d s => exact h2 _ _ h
  | brk ρ s => exact h3 _ _ h
  | cnt ρ s => exact h4 _ _ h
  | _ => exact h
theorem wp_ofBool {o : Option Bool} {Q : D → Store → Prop} : WpR (R.ofBool o s) Q = onO o fun b => Q (.bl b) s := by cases o <;> rfl
theorem wp_ofD {o : Option D} {Q : D → Store → Prop} : WpR (R.ofD o s) Q = onO o fun d => Q d s := by cases o <;> rfl
theorem wp_ite {c : Prop} [Decidable c] {a b : R α} {Q : α → Store → Prop} : WpR (if c then a else b) Q = Br c (WpR a Q) (WpR b Q) := by
  unfold Br
  split <;> rfl
theorem wps_ite {c : Prop} [Decidable c] {a b : RS} {E : En} : WpS (if c then a else b) E = Br c (WpS a E) (WpS b E) := by
  unfold Br
  split <;> rfl
theorem WpR_bad {Q : α → Store → Prop} : WpR .bad Q = False := rfl
theorem WpS_bad {E : En} : WpS .bad E = False := rfl
variable {Q : D → Store → Prop} {a b c : E}
theorem wp_var {i : Nat} : WpR (evE C G (.var i) ρ s) Q = onE ρ[i]? fun d => Q d s := by
  simp only [evE]
  cases h : ρ[i]? with
  | none => rfl
  | some o => cases o <;> rfl
theorem wp_int {i : Int} : WpR (evE C G (.int i) ρ s) Q = Q (.int i) s := by simp only [evE]; rfl
theorem wp_str {i : Str} : WpR (evE C G (.str i) ρ s) Q = Q (.str i) s := by simp only [evE]; rfl
theorem wp_bl {i : Bool} : WpR (evE C G (.bl i) ρ s) Q = Q (.bl i) s := by simp only [evE]; rfl
theorem wp_non : WpR (evE C G .non ρ s) Q = Q .non s := by simp only [evE]; rfl
theorem wp_glob {g : Nat} : WpR (evE C G (.glob g) ρ s) Q = onO (G g) fun d => Q d s := by simp only [evE, wp_ofD]
theorem wp_tup {es : List E} : WpR (evE C G (.tup es) ρ s) Q = WpR (evEs C G es ρ s) fun l s => Br (l.length ≤ sizeLine) (Q (.tup l) s) False := by
  simp only [evE, WpR_bind, wp_ite, WpR_ok, WpR_bad]
theorem wp_new {l : List D} : WpR (newLst l s) Q = Br (l.length ≤ sizeLine) (Q (.ref s.length) (s ++ [.lst l])) False := by
  unfold newLst
  rw [wp_ite, WpR_ok, WpR_bad]
theorem wp_lst {es : List E} : WpR (evE C G (.lst es) ρ s) Q = WpR (evEs C G es ρ s) fun l s => Br (l.length ≤ sizeLine) (Q (.ref s.length) (s ++ [.lst l])) False := by
  simp only [evE, WpR_bind, wp_new]
theorem wp_bin {op : Operator} : WpR (evE C G (.bin op a b) ρ s) Q = WpR (evE C G a ρ s) fun x s => WpR (evE C G b ρ s) fun y s => WpR (binop op x y s) Q := by
  simp only [evE, WpR_bind]
theorem wp_neg : WpR (evE C G (.neg a) ρ s) Q = WpR (evE C G a ρ s) fun x s => onI x fun i => Q (.int (-i)) s := by
  simp only [evE, WpR_bind]
  congr 1
  funext x s
  cases x <;> rfl
theorem wp_not : WpR (evE C G (.not a) ρ s) Q = WpR (evE C G a ρ s) fun x s => onO (truth s x) fun b => Q (.bl (!b)) s := by
  simp only [evE, WpR_bind, wp_ofBool]
  congr 1
  funext x s
  cases truth s x <;> rfl
theorem wp_and : WpR (evE C G (.and a b) ρ s) Q = WpR (evE C G a ρ s) fun x s => onP (truth s x) (WpR (evE C G b ρ s) Q) (Q x s) := by
  simp only [evE, WpR_bind]
  congr 1
  funext x s
  cases truth s x with
  | none => rfl
  | some b => cases b <;> rfl
theorem wp_or : WpR (evE C G (.or a b) ρ s) Q = WpR (evE C G a ρ s) fun x s => onP (truth s x) (Q x s) (WpR (evE C G b ρ s) Q) := by
  simp only [evE, WpR_bind]
  congr 1
  funext x s
  cases truth s x with
  | none => rfl
  | some b => cases b <;> rfl
theorem wp_cmp {op : CmpOp} : WpR (evE C G (.cmp a op b) ρ s) Q = WpR (evE C G a ρ s) fun x s => WpR (evE C G b ρ s) fun y s => onO (cmpD op s x y) fun b => Q (.bl b) s := by
  simp only [evE, WpR_bind, wp_ofBool]
theorem wp_chain {op op' : CmpOp} : WpR (evE C G (.chain a op b op' c) ρ s) Q = WpR (evE C G a ρ s) fun x s => WpR (evE C G b ρ s) fun y s => onP (cmpD op s x y) (WpR (evE C G c ρ s) fun z s => onO (cmpD op' s y z) fun b => Q (.bl b) s) (Q (.bl false) s) := by
  simp only [evE, WpR_bind]
  congr 1
  funext x s
  congr 1
  funext y s
  cases cmpD op s x y with
  | none => rfl
  | some b =>
    cases b
    · rfl
    · simp only [onP, WpR_bind, wp_ofBool]
theorem wp_ife : WpR (evE C G (.ife c a b) ρ s) Q = WpR (evE C G c ρ s) fun x s => onP (truth s x) (WpR (evE C G a ρ s) Q) (WpR (evE C G b ρ s) Q) := by
  simp only [evE, WpR_bind]
  congr 1
  funext x s
  cases truth s x with
  | none => rfl
  | some b => cases b <;> rfl
theorem wp_ix : WpR (evE C G (.ix a b) ρ s) Q = WpR (evE C G a ρ s) fun x s => WpR (evE C G b ρ s) fun y s => onO (ixD s x y) fun d => Q d s := by
  simp only [evE, WpR_bind, wp_ofD]
theorem wp_rev : WpR (evE C G (.rev a) ρ s) Q = WpR (evE C G a ρ s) fun x s => WpR (revD s x) Q := by
  simp only [evE, WpR_bind]
theorem wp_slice {lo hi : List E} : WpR (evE C G (.slice a lo hi) ρ s) Q = WpR (evE C G a ρ s) fun x s => WpR (evEnd C G lo ρ s) fun l s => WpR (evEnd C G hi ρ s) fun h s => WpR (sliceD s x l h) Q := by
  simp only [evE, WpR_bind]
theorem wp_call {f : Nat} {es : List E} : WpR (evE C G (.call f es) ρ s) Q = WpR (evEs C G es ρ s) fun l s => WpR (C f l s) Q := by
  simp only [evE, WpR_bind]
theorem wp_bi {f : Bi} {es : List E} : WpR (evE C G (.bi f es) ρ s) Q = WpR (evEs C G es ρ s) fun l s => WpR (biD f l s) Q := by
  simp only [evE, WpR_bind]
theorem wp_isi {t : Ty} : WpR (evE C G (.isi a t) ρ s) Q = WpR (evE C G a ρ s) fun x s => onO (isiD s x t) fun b => Q (.bl b) s := by
  simp only [evE, WpR_bind, wp_ofBool]
theorem wp_lrg {es : List E} : WpR (evE C G (.lrg es) ρ s) Q = WpR (evEs C G es ρ s) fun l s => onO (rngD l) fun l => Br (l.length ≤ sizeLine) (Br (l.length ≤ sizeLine) (Q (.ref s.length) (s ++ [.lst l])) False) False := by
  simp only [evE, WpR_bind]
  congr 1
  funext l s
  cases h : rngD l with
  | none => simp [rngNew, onO, WpR]
  | some l => simp only [rngNew, onO, wp_ite, wp_new, WpR_bad]
theorem wp_trg {es : List E} : WpR (evE C G (.trg es) ρ s) Q = WpR (evEs C G es ρ s) fun l s => onO (rngD l) fun l => Br (l.length ≤ sizeLine) (Q (.tup l) s) False := by
  simp only [evE, WpR_bind]
  congr 1
  funext l s
  cases h : rngD l with
  | none => simp [rngNew, onO, WpR]
  | some l => simp only [rngNew, onO, wp_ite, WpR_ok, WpR_bad]
theorem wp_app : WpR (evE C G (.app a b) ρ s) Q = WpR (evE C G a ρ s) fun x s => BrB (isL s x) (WpR (evE C G b ρ s) fun y s => WpR (appD x y s) Q) False := by
  simp only [evE, WpR_bind]
  congr 1
  funext x s
  cases isL s x
  · rfl
  · simp only [if_true, BrB, WpR_bind]
theorem wp_pop : WpR (evE C G (.pop a b) ρ s) Q = WpR (evE C G a ρ s) fun x s => BrB (isL s x) (WpR (evE C G b ρ s) fun y s => WpR (popD x y s) Q) False := by
  simp only [evE, WpR_bind]
  congr 1
  funext x s
  cases isL s x
  · rfl
  · simp only [if_true, BrB, WpR_bind]
theorem wp_ext : WpR (evE C G (.ext a b) ρ s) Q = WpR (evE C G a ρ s) fun x s => BrB (isL s x) (WpR (evE C G b ρ s) fun y s => WpR (extD x y s) Q) False := by
  simp only [evE, WpR_bind]
  congr 1
  funext x s
  cases isL s x
  · rfl
  · simp only [if_true, BrB, WpR_bind]
def lcT (C : Calls) (G : Globs) (elt : E) (tg : Tg) (ifs : List E) (own : List Nat) (ρ : Env) (x : D) (s : Store) : R (Option D) :=
  (asgT C G tg x (wipeE ρ own) s).bind fun ρ1 s => match ifs with
    | [] => (evE C G elt ρ1 s).bind fun d s1 => .ok (some d) (trunc s d s1)
    | c :: _ => (evE C G c ρ1 s).bind fun b s1 => match truth s1 b with
      | some true => (evE C G elt ρ1 (trunc s .non s1)).bind fun d s2 => .ok (some d) (trunc (trunc s .non s1) d s2)
      | some false => .ok none (trunc s .non s1)
      | none => .bad
theorem wp_lc {elt : E} {tg : Tg} {it : It} {ifs : List E} {own : List Nat} : WpR (evE C G (.lc elt tg it ifs own) ρ s) Q = WpR (evIt C G it ρ s) fun w s => WpR (lcGo w s.length (lcT C G elt tg ifs own ρ) w.its (s ++ [.lst []])) Q := by
  simp only [evE, WpR_bind]
  rfl
theorem wp_lcT0 {elt : E} {tg : Tg} {own : List Nat} {x : D} {Q : Option D → Store → Prop} : WpR (lcT C G elt tg [] own ρ x s) Q = WpR (asgT C G tg x (wipeE ρ own) s) fun ρ1 s => WpR (evE C G elt ρ1 s) fun d s1 => Q (some d) (trunc s d s1) := by
  unfold lcT
  simp only [WpR_bind, WpR_ok]
theorem wp_lcT1 {elt : E} {tg : Tg} {own : List Nat} {x : D} {c : E} {Q : Option D → Store → Prop} : WpR (lcT C G elt tg [c] own ρ x s) Q = WpR (asgT C G tg x (wipeE ρ own) s) fun ρ1 s => WpR (evE C G c ρ1 s) fun b s1 =>
    onP (truth s1 b) (WpR (evE C G elt ρ1 (trunc s .non s1)) fun d s2 => Q (some d) (trunc (trunc s .non s1) d s2)) (Q none (trunc s .non s1)) := by
  unfold lcT
  simp only [WpR_bind]
  congr 1
  funext ρ1 s
  congr 1
  funext b s1
  cases truth s1 b with
  | none => rfl
  | some t =>
    cases t
    · rfl
    · simp only [onP, WpR_bind, WpR_ok]
theorem wp_meth {m : Me} {o : WL.E} {es : List WL.E} {Q : D → Store → Prop} : WpR (evE C G (.meth m o es) ρ s) Q = WpR (evE C G o ρ s) fun x s => BrB (meT m s x) (WpR (evEs C G es ρ s) fun ds s => WpR (meD m x ds s) Q) False := by
  simp only [evE, WpR_bind]
  congr 1
  funext x s1
  cases meT m s1 x with
  | true => exact WpR_bind
  | false => rfl
theorem wp_dnew {Q : D → Store → Prop} : WpR (evE C G .dnew ρ s) Q = Q (.ref s.length) (s ++ [.dct []]) := by simp only [evE]; rfl
theorem wp_nil {Q : List D → Store → Prop} : WpR (evEs C G [] ρ s) Q = Q [] s := by simp only [evEs]; rfl
theorem wp_cons {es : List E} {Q : List D → Store → Prop} : WpR (evEs C G (a :: es) ρ s) Q = WpR (evE C G a ρ s) fun d s => WpR (evEs C G es ρ s) fun ds s => Q (d :: ds) s := by
  simp only [evEs, WpR_bind, WpR_ok]
theorem wp_end0 {Q : Option Int → Store → Prop} : WpR (evEnd C G [] ρ s) Q = Q none s := by simp only [evEnd]; rfl
theorem wp_end1 {es : List E} {Q : Option Int → Store → Prop} : WpR (evEnd C G (a :: es) ρ s) Q = WpR (evE C G a ρ s) fun d s => onI d fun i => Q (some i) s := by
  simp only [evEnd, WpR_bind]
  congr 1
  funext d s
  cases d <;> rfl
variable {Qw : Walk → Store → Prop} {Qe : Env → Store → Prop}
theorem wp_ival : WpR (evIt C G (.val a) ρ s) Qw = WpR (evE C G a ρ s) fun d s => onO (walkS s d) fun w => Qw w s := by
  simp only [evIt, WpR_bind]
  congr 1
  funext d s
  cases walkS s d <;> rfl
theorem wp_irng {es : List E} : WpR (evIt C G (.rng es) ρ s) Qw = WpR (evEs C G es ρ s) fun l s => onO (rngD l) fun l => Qw ⟨[], l⟩ s := by
  simp only [evIt, WpR_bind]
  congr 1
  funext l s
  cases rngD l <;> rfl
theorem wp_ienm : WpR (evIt C G (.enm a) ρ s) Qw = WpR (evE C G a ρ s) fun d s => onO (walkS s d) fun w => Qw (enmOf w) s := by
  simp only [evIt, WpR_bind]
  congr 1
  funext d s
  cases walkS s d <;> rfl
theorem wp_izip : WpR (evIt C G (.zip a b) ρ s) Qw = WpR (evE C G a ρ s) fun x s => WpR (evE C G b ρ s) fun y s => BrB (zipKind x y) (onO (walkOf s x) fun w => onO (walkOf s y) fun u => Qw (zipOf w u) s) False := by
  simp only [evIt, WpR_bind]
  congr 1
  funext x s
  congr 1
  funext y s
  cases zipKind x y
  · rfl
  · simp only [if_true, BrB]
    cases walkOf s x with
    | none => rfl
    | some w => cases walkOf s y <;> rfl
theorem wp_nm {i : Nat} {d : D} : WpR (asgT C G (.nm i) d ρ s) Qe = Qe (ρ.set i (some d)) s := by simp only [asgT]; rfl
theorem wp_ttup {ts : List Tg} {l : List D} : WpR (asgT C G (.tup ts) (.tup l) ρ s) Qe = Br (l.length = ts.length) (WpR (asgTs C G ts l ρ s) Qe) False := by
  simp only [asgT, wp_ite, WpR_bad]
theorem wp_tref {ts : List Tg} {n : Nat} : WpR (asgT C G (.tup ts) (.ref n) ρ s) Qe = onO (isLst s n) fun l => Br (l.length = ts.length) (WpR (asgTs C G ts l ρ s) Qe) False := by
  simp only [asgT]
  cases isLst s n with
  | none => rfl
  | some l => simp only [onO, wp_ite, WpR_bad]
theorem wp_quiet {r : R α} {Q : α → Store → Prop} : WpR r.quiet Q = WpR r Q := by cases r <;> rfl
theorem wp_tsub {v : D} : WpR (asgT C G (.sub a b) v ρ s) Qe = WpR (evE C G a ρ s) fun x s => WpR (evE C G b ρ s) fun y s => WpR (setD x y v s) fun _ s => Qe ρ s := by
  simp only [asgT, WpR_bind, wp_quiet, WpR_ok]
theorem wp_tnil : WpR (asgTs C G [] [] ρ s) Qe = Qe ρ s := by simp only [asgTs]; rfl
theorem wp_tcons {t : Tg} {ts : List Tg} {d : D} {ds : List D} : WpR (asgTs C G (t :: ts) (d :: ds) ρ s) Qe = WpR (asgT C G t d ρ s) fun ρ s => WpR (asgTs C G ts ds ρ s) Qe := by
  simp only [asgTs, WpR_bind]
variable {F : Nat} {E : En}
theorem wps_nil : WpS (exB C G F [] ρ s) E = E.nx ρ s := by simp only [exB]; rfl
theorem wps_cons {x : S} {xs : List S} : WpS (exB C G F (x :: xs) ρ s) E = WpS (exS C G F x ρ s) { E with nx := fun ρ s => WpS (exB C G F xs ρ s) E } := by
  simp only [exB]
  cases exS C G F x ρ s <;> rfl
theorem wps_asg {t : Tg} {e : WL.E} : WpS (exS C G F (.asg t e) ρ s) E = WpR (evE C G e ρ s) fun d s1 => WpR (asgT C G t d ρ (trunc s d s1)) E.nx := by
  simp only [exS, WpS_stm, WpR_bind]
  rfl
theorem wps_par {is : List Nat} {es : List WL.E} : WpS (exS C G F (.par is es) ρ s) E = WpR (evEs C G es ρ s) fun l s1 => Br (l.length = is.length) (E.nx (parSet is l ρ) (trunc s (.tup l) s1)) False := by
  simp only [exS, WpS_stm, wps_ite, WpS_nx, WpS_bad]
theorem wps_aug {i : Nat} {op : Operator} {e : WL.E} : WpS (exS C G F (.aug i op e) ρ s) E = onE ρ[i]? fun x => onI x fun x => WpR (evE C G e ρ s) fun d s1 => onI d fun y => E.nx (ρ.set i (some (.int (aop op x y)))) (trunc s .non s1) := by
  simp only [exS]
  cases h : ρ[i]? with
  | none => rfl
  | some o =>
    cases o with
    | none => rfl
    | some d =>
      cases d with
      | int x =>
        simp only [onE, onI, WpS_stm]
        congr 1
        funext d s1
        cases d <;> rfl
      | _ => rfl
theorem wps_augS {o i : WL.E} {op : Operator} {e : WL.E} : WpS (exS C G F (.augS o i op e) ρ s) E = WpR (evE C G o ρ s) fun a s => WpR (evE C G i ρ s) fun k s => BrB (isL s a) (onO (ixD s a k) fun x => onI x fun x => WpR (evE C G e ρ s) fun y s => onI y fun z =>
    WpR (setD a k (.int (aop op x z)) s) fun _ s => E.nx ρ s) False := by
  simp only [exS, WpS_stm]
  congr 1
  funext a s
  congr 1
  funext k s
  cases isL s a
  · rfl
  · simp only [if_true, BrB]
    cases ixD s a k with
    | none => rfl
    | some d =>
      cases d with
      | int x =>
        simp only [onO, onI, WpS_stm]
        congr 1
        funext y s
        cases y with
        | int z => simp only [onI, WpS_stm, WpS_nx]
        | _ => rfl
      | _ => rfl
theorem wps_expr {e : WL.E} : WpS (exS C G F (.expr e) ρ s) E = WpR (evE C G e ρ s) fun _ s1 => E.nx ρ (trunc s .non s1) := by
  simp only [exS, WpS_stm, WpS_nx]
theorem wps_ret {e : WL.E} : WpS (exS C G F (.ret e) ρ s) E = WpR (evE C G e ρ s) fun d s1 => E.rt d (trunc s d s1) := by
  simp only [exS, WpS_stm, WpS_ret]
theorem wps_retN : WpS (exS C G F .retN ρ s) E = E.rt .non s := by simp only [exS]; rfl
theorem wp_tst {c : WL.E} {Q : Bool → Store → Prop} : WpR (tst C G c ρ s) Q = WpR (evE C G c ρ s) fun x s1 => onO (truth s1 x) fun b => Q b (trunc s .non s1) := by
  simp only [tst, WpR_bind]
  congr 1
  funext x s1
  cases truth s1 x <;> rfl
theorem wps_iff {c : WL.E} {a b : List S} : WpS (exS C G F (.iff c a b) ρ s) E = WpR (evE C G c ρ s) fun x s1 => onP (truth s1 x) (WpS (exB C G F a ρ (trunc s .non s1)) E) (WpS (exB C G F b ρ (trunc s .non s1)) E) := by
  simp only [exS, WpS_stm, wp_tst]
  congr 1
  funext x s1
  cases truth s1 x with
  | none => rfl
  | some t => cases t <;> rfl
theorem wps_brk : WpS (exS C G F .brk ρ s) E = E.bk ρ s := by simp only [exS]; rfl
theorem wps_cnt : WpS (exS C G F .cnt ρ s) E = E.ct ρ s := by simp only [exS]; rfl
theorem wps_pass : WpS (exS C G F .pass ρ s) E = E.nx ρ s := by simp only [exS]; rfl
theorem wps_for {t : Tg} {it : It} {b : List S} : WpS (exS C G F (.for t it b) ρ s) E = WpR (evIt C G it ρ s) fun w s => WpS (forGo w (fun x ρ s => (asgT C G t x ρ s).stm ρ fun ρ s => exB C G F b ρ s) w.its ρ s) E := by
  simp only [exS, WpS_stm]
theorem wps_whl {c : WL.E} {b : List S} : WpS (exS C G F (.whl c b) ρ s) E = WpS (whlGo (tst C G c) (exB C G F b) F ρ s) E := by simp only [exS]
theorem wps_forI {w : Walk} {f : D → Env → Store → RS} {E : En} (I : List D → Env → Store → Prop) (h0 : I w.its ρ s) (hs : ∀ l ρ s, I l ρ s → w.stays s = true)
    (ht : ∀ x l ρ s, I (x :: l) ρ s → WpS (f x ρ s) { nx := fun ρ s => I l ρ s, ct := fun ρ s => I l ρ s, bk := E.nx, rt := E.rt })
    (he : ∀ ρ s, I [] ρ s → E.nx ρ s) : WpS (forGo w f w.its ρ s) E := by
  revert h0
  generalize w.its = l
  intro h0
  induction l generalizing ρ s with
  | nil =>
    unfold forGo
    rw [if_pos (hs _ _ _ h0)]
    exact he _ _ h0
  | cons x l ih =>
    unfold forGo
    rw [if_pos (hs _ _ _ h0)]
    have h := ht x l ρ s h0
    cases hf : f x ρ s with
    | nx ρ2 s2 => rw [hf] at h; exact ih h
    | cnt ρ2 s2 => rw [hf] at h; exact ih h
    | brk ρ2 s2 => rw [hf] at h; exact h
    | ret d s2 => rw [hf] at h; exact h
    | exc c w ρ2 s2 => rw [hf] at h; exact h
    | bad => rw [hf] at h; exact h
theorem wps_whlI {c : Env → Store → R Bool} {f : Env → Store → RS} {E : En} (I : Nat → Env → Store → Prop) {n : Nat} (h0 : I n ρ s)
    (ht : ∀ n ρ s, I n ρ s → WpR (c ρ s) fun b s => BrB b (∃ m, n = m + 1 ∧ WpS (f ρ s) { nx := fun ρ s => I m ρ s, ct := fun ρ s => I m ρ s, bk := E.nx, rt := E.rt }) (E.nx ρ s)) (hn : n < F) : WpS (whlGo c f F ρ s) E := by
  induction F generalizing n ρ s with
  | zero => omega
  | succ F ih =>
    unfold whlGo
    rw [WpS_stm]
    refine WpR_mono (ht n ρ s h0) fun b s1 hb => ?_
    cases b with
    | false => exact hb
    | true =>
      obtain ⟨m, rfl, h⟩ := hb
      simp only
      cases hf : f ρ s1 with
      | nx ρ2 s2 => rw [hf] at h; exact ih h (by omega)
      | cnt ρ2 s2 => rw [hf] at h; exact ih h (by omega)
      | brk ρ2 s2 => rw [hf] at h; exact h
      | ret d s2 => rw [hf] at h; exact h
      | exc c w ρ2 s2 => rw [hf] at h; exact h
      | bad => rw [hf] at h; exact h
end
def callE (s : Store) (Q : D → Store → Prop) : En := ⟨fun _ s1 => Q .non (trunc s .non s1), fun d s1 => Q d (trunc s d s1), fun _ _ => False, fun _ _ => False⟩
theorem wp_callF {P : Prog} {G : Globs} {F k f : Nat} {fd : FD} {ds : List D} {s : Store} {Q : D → Store → Prop} (h : P f = some fd) (hl : ds.length = fd.np)
    (h2 : WpS (exB (callF P G F k) G F fd.body (ds.map some ++ List.replicate (fd.nv - fd.np) none) s) (callE s Q)) : WpR (callF P G F (k + 1) f ds s) Q := by
  simp only [callF, h]
  rw [if_pos hl]
  cases hx : exB (callF P G F k) G F fd.body (ds.map some ++ List.replicate (fd.nv - fd.np) none) s with
  | nx ρ s1 => rw [hx] at h2; exact h2
  | ret d s1 => rw [hx] at h2; exact h2
  | brk ρ s1 => rw [hx] at h2; exact h2
  | cnt ρ s1 => rw [hx] at h2; exact h2
  | exc c w ρ s1 => rw [hx] at h2; exact h2
  | bad => rw [hx] at h2; exact h2
theorem wp_of_eq {α : Type} {r : R α} {a : α} {s : Store} {Q : α → Store → Prop} (h : r = .ok a s) (q : Q a s) : WpR r Q := by rw [h]; exact q
theorem eq_of_wp {α : Type} {r : R α} {a : α} {s : Store} (h : WpR r fun b t => b = a ∧ t = s) : r = .ok a s := by
  cases r with
  | ok b t => obtain ⟨rfl, rfl⟩ := h; rfl
  | _ => exact h.elim
theorem ex_of_wp {α : Type} {r : R α} {a : α} (h : WpR r fun b t => b = a) : ∃ t, r = .ok a t := by
  cases r with
  | ok b t => subst h; exact ⟨t, rfl⟩
  | _ => exact h.elim
end WL
set_option maxHeartbeats 4000000
namespace WL
open PySem
section
variable {s t u : Store} {n i j : Nat} {c : Cell} {l : List D} {d : D}
theorem isLst_at : isLst s i = (match s[i]? with
  | some (.lst l) => some l
  | _ => none) := rfl
theorem isDct_at : isDct s i = (match s[i]? with
  | some (.dct l) => some l
  | _ => none) := rfl
theorem isDct_lt {l : List (L2.Key × D)} (h : isDct s i = some l) : i < s.length := by
  rw [isDct_at] at h
  cases e : s[i]? with
  | none => rw [e] at h; cases h
  | some c => exact (List.getElem?_eq_some_iff.mp e).1
theorem isDct_app (h : i < s.length) : isDct (s ++ t) i = isDct s i := by
  rw [isDct_at, isDct_at, List.getElem?_append_left h]
theorem isDct_old {l : List (L2.Key × D)} (h : isDct s i = some l) : isDct (s ++ t) i = some l := by rw [isDct_app (isDct_lt h)]; exact h
theorem isDct_new (h : s.length = n) : isDct (s ++ t) (n + j) = isDct t j := by
  subst h
  rw [isDct_at, isDct_at, List.getElem?_append_right (Nat.le_add_right _ _)]
  simp
theorem isDct_new0 (h : s.length = n) : isDct (s ++ t) n = isDct t 0 := isDct_new (j := 0) h
theorem isDct_zero {l : List (L2.Key × D)} : isDct (.dct l :: s) 0 = some l := rfl
theorem isDct_zeroL : isDct (.lst l :: s) 0 = none := rfl
theorem isLst_zeroD {l : List (L2.Key × D)} : isLst (.dct l :: s) 0 = none := rfl
theorem isDct_succ : isDct (c :: s) (i + 1) = isDct s i := by
  rw [isDct_at, isDct_at, List.getElem?_cons_succ]
theorem isDct_set_self {l : List (L2.Key × D)} (h : i < s.length) : isDct (s.set i (.dct l)) i = some l := by
  rw [isDct_at, List.getElem?_set_self h]
theorem isDct_set_ne (h : i ≠ j) : isDct (s.set i c) j = isDct s j := by
  rw [isDct_at, isDct_at, List.getElem?_set_ne h]
theorem isLst_dct {l : List (L2.Key × D)} (h : isDct s i = some l) : isLst s i = none := by
  rw [isDct_at] at h
  rw [isLst_at]
  split at h
  · rename_i e
    rw [e]
  · cases h
theorem isDct_lst (h : isLst s i = some l) : isDct s i = none := by
  rw [isLst_at] at h
  rw [isDct_at]
  split at h
  · rename_i e
    rw [e]
  · cases h
theorem isLst_lt {l : List D} (h : isLst s i = some l) : i < s.length := by
  rw [isLst_at] at h
  cases e : s[i]? with
  | none => rw [e] at h; cases h
  | some c => exact (List.getElem?_eq_some_iff.mp e).1
theorem isLst_app (h : i < s.length) : isLst (s ++ t) i = isLst s i := by
  rw [isLst_at, isLst_at, List.getElem?_append_left h]
theorem isLst_old {l : List D} (h : isLst s i = some l) : isLst (s ++ t) i = some l := by rw [isLst_app (isLst_lt h)]; exact h
theorem isLst_new (h : s.length = n) : isLst (s ++ t) (n + j) = isLst t j := by
  subst h
  rw [isLst_at, isLst_at, List.getElem?_append_right (Nat.le_add_right _ _)]
  simp
theorem isLst_new0 (h : s.length = n) : isLst (s ++ t) n = isLst t 0 := isLst_new (j := 0) h
theorem isLst_zero : isLst (.lst l :: s) 0 = some l := rfl
theorem isLst_succ : isLst (c :: s) (i + 1) = isLst s i := by
  rw [isLst_at, isLst_at, List.getElem?_cons_succ]
theorem set_app (h : i < s.length) : (s ++ t).set i c = s.set i c ++ t := by
  rw [List.set_append, if_pos h]
theorem set_new (h : s.length = n) : (s ++ t).set (n + j) c = s ++ t.set j c := by
  subst h
  rw [List.set_append, if_neg (by omega)]
  congr 2
  omega
theorem set_new0 (h : s.length = n) : (s ++ t).set n c = s ++ t.set 0 c := set_new (j := 0) h
theorem isLst_set_self (h : i < s.length) : isLst (s.set i (.lst l)) i = some l := by
  rw [isLst_at, List.getElem?_set_self h]
theorem isLst_set_ne (h : i ≠ j) : isLst (s.set i c) j = isLst s j := by
  rw [isLst_at, isLst_at, List.getElem?_set_ne h]
theorem agree_refl : ∀ {s : Store} {n : Nat}, agree n s s = true
  | [], _ => rfl
  | c :: s, n => by simp [agree, agree_refl]
theorem agree_app : ∀ {s : Store} {t : Store} {n : Nat}, agree n s (s ++ t) = true
  | [], _, _ => rfl
  | c :: s, t, n => by simp [agree, agree_app]
theorem agree_app2 : ∀ {s s' : Store} {t : Store} {n : Nat}, agree n s s' = true → agree n s (s' ++ t) = true
  | [], _, _, _, _ => rfl
  | c :: s, [], _, _, h => by simp [agree] at h
  | c :: s, c' :: s', t, n, h => by
    simp only [agree, Bool.and_eq_true, List.cons_append] at h ⊢
    exact ⟨h.1, agree_app2 h.2⟩
theorem agree_set : ∀ {s s' : Store} {n i : Nat} {c : Cell}, agree n s s' = true → c.und n = true → agree n s (s'.set i c) = true
  | [], _, _, _, _, _, _ => rfl
  | c :: s, [], _, _, _, h, _ => by simp [agree] at h
  | c :: s, c' :: s', n, 0, e, h, hu => by
    simp only [agree, Bool.and_eq_true, List.set_cons_zero] at h ⊢
    exact ⟨by rw [hu, Bool.or_true], h.2⟩
  | c :: s, c' :: s', n, i + 1, e, h, hu => by
    simp only [agree, Bool.and_eq_true, List.set_cons_succ] at h ⊢
    exact ⟨h.1, agree_set h.2 hu⟩
theorem trunc_self : trunc s d s = s := by
  unfold trunc
  split
  · exact List.take_length
  · rfl
theorem trunc_new (h : D.und s.length d = true) : trunc s d (s ++ t) = s := by
  unfold trunc
  rw [h, agree_app]
  simp
theorem trunc_keep (h : D.und s.length d = false) : trunc s d t = t := by
  unfold trunc
  rw [h]
  simp
theorem trunc_mut (h : D.und s.length d = true) (ha : agree s.length s u = true) (hl : u.length = s.length) : trunc s d (u ++ t) = u := by
  unfold trunc
  rw [h, agree_app2 ha]
  simp [← hl]
theorem trunc_mut0 (ha : agree s.length s u = true) (hl : u.length = s.length) : trunc s d u = u := by
  unfold trunc
  split
  · rw [← hl]
    exact List.take_length
  · rfl
theorem und_int {i : Int} : D.und n (.int i) = true := rfl
theorem und_non : D.und n .non = true := rfl
theorem und_bl {b : Bool} : D.und n (.bl b) = true := rfl
theorem und_str {x : Str} : D.und n (.str x) = true := rfl
theorem und_frz {l : List Int} : D.und n (.frz l) = true := rfl
theorem und_ref {m : Nat} : D.und n (.ref m) = decide (m < n) := rfl
theorem und_tup {l : List D} : D.und n (.tup l) = D.unds n l := rfl
theorem unds_nil : D.unds n [] = true := rfl
theorem unds_cons {l : List D} : D.unds n (d :: l) = (D.und n d && D.unds n l) := rfl
theorem unds_iff : ∀ {l : List D}, D.unds n l = true ↔ ∀ d ∈ l, D.und n d = true
  | [] => by simp [D.unds]
  | d :: l => by simp [D.unds, unds_iff (l := l)]
theorem stays_nil {l : List D} : (Walk.mk [] l).stays s = true := rfl
theorem stays_one {m : Nat} {l its : List D} : (Walk.mk [(m, l)] its).stays s = true ↔ isLst s m = some l := by simp [Walk.stays]
end
section
variable {s : Store} {i j : Int} {b : Bool} {x y : D} {l m : List D}
theorem truth_bl : truth s (.bl b) = some b := rfl
theorem truth_int : truth s (.int i) = some (!decide (i = 0)) := by
  show some (i != 0) = _
  congr 1
theorem cmp_lt' : cmpD .Lt s (.int i) (.int j) = some (decide (i < j)) := rfl
theorem cmp_le' : cmpD .LtE s (.int i) (.int j) = some (decide (i ≤ j)) := rfl
theorem cmp_gt' : cmpD .Gt s (.int i) (.int j) = some (decide (j < i)) := rfl
theorem cmp_ge' : cmpD .GtE s (.int i) (.int j) = some (decide (j ≤ i)) := rfl
theorem cmp_is' : cmpD .Is s x .non = some (decide (x = .non)) := rfl
theorem cmp_isnot' : cmpD .IsNot s x .non = some (!decide (x = .non)) := rfl
theorem cmp_isb' {a b : Bool} : cmpD .Is s (.bl a) (.bl b) = some (decide (a = b)) := rfl
theorem cmp_isnb' {a b : Bool} : cmpD .IsNot s (.bl a) (.bl b) = some (!decide (a = b)) := rfl
theorem cmp_eq' : cmpD .Eq s x y = eqD s x y := rfl
theorem cmp_ne' : cmpD .NotEq s x y = (eqD s x y).map (!·) := rfl
theorem cmp_in' : cmpD .In s x y = inD s x y := rfl
theorem cmp_notin' : cmpD .NotIn s x y = (inD s x y).map (!·) := rfl
def pur : Nat → D → Bool
  | _, .non => true
  | _, .int _ => true
  | n + 1, .tup l => l.all (pur n)
  | _, .str x => PyData.strOk x
  | _, _ => false
mutual
def pyOf : D → PyData
  | .non => .none
  | .bl b => .bool b
  | .int i => .int i
  | .str x => .str x
  | .tup l => .tuple (pyOfs l)
  | _ => .none
def pyOfs : List D → List PyData
  | [] => []
  | d :: l => pyOf d :: pyOfs l
end
theorem pyOfs_map : ∀ l : List D, pyOfs l = l.map pyOf
  | [] => rfl
  | d :: l => by simp only [pyOfs, List.map_cons, pyOfs_map l]
theorem mapM_all {f : D → Option PyData} {g : D → PyData} : ∀ {l : List D}, (∀ d ∈ l, f d = some (g d)) → l.mapM f = some (l.map g)
  | [], _ => rfl
  | d :: l, h => by
    rw [List.mapM_cons, h d List.mem_cons_self, mapM_all fun e he => h e (List.mem_cons_of_mem _ he)]
    rfl
theorem toPy_pur : ∀ (n k : Nat) (d : D), pur n d = true → toPy (n + k + 1) s d = some (pyOf d)
  | _, _, .non, _ => by simp only [toPy, pyOf]
  | _, _, .int i, _ => by simp only [toPy, pyOf]
  | _, _, .str i, _ => by simp only [toPy, pyOf]
  | n + 1, k, .tup l, h => by
    simp only [pur, List.all_eq_true] at h
    have e : n + 1 + k + 1 = (n + k + 1) + 1 := by omega
    rw [e]
    show (l.mapM (toPy (n + k + 1) s)).map PyData.tuple = _
    simp only [pyOf, pyOfs_map]
    rw [mapM_all fun d hd => toPy_pur n k d (h d hd)]
    rfl
  | 0, _, .tup _, h => by simp [pur] at h
  | n, _, .bl _, h => by cases n <;> simp [pur] at h
  | n, _, .ref _, h => by cases n <;> simp [pur] at h
  | n, _, .frz _, h => by cases n <;> simp [pur] at h
  | n, _, .gd _ _, h => by cases n <;> simp [pur] at h
theorem canLay_all : ∀ {l : List D}, (∀ d ∈ l, (pyOf d).canLay0 = true) → PyData.canLayAll0 (pyOfs l) = true
  | [], _ => rfl
  | d :: l, h => by
    simp only [pyOfs, PyData.canLayAll0, h d List.mem_cons_self, canLay_all fun e he => h e (List.mem_cons_of_mem _ he), Bool.and_self]
theorem canLay_pur : ∀ (n : Nat) (d : D), pur n d = true → (pyOf d).canLay0 = true
  | _, .non, _ => rfl
  | _, .int i, _ => rfl
  | n, .str x, h => by cases n <;> exact h
  | n + 1, .tup l, h => by
    simp only [pur, List.all_eq_true] at h
    simp only [pyOf, PyData.canLay0]
    exact canLay_all fun d hd => canLay_pur n d (h d hd)
  | 0, .tup _, h => by simp [pur] at h
  | n, .bl _, h => by cases n <;> simp [pur] at h
  | n, .ref _, h => by cases n <;> simp [pur] at h
  | n, .frz _, h => by cases n <;> simp [pur] at h
  | n, .gd _ _, h => by cases n <;> simp [pur] at h
theorem depth_all {n : Nat} : ∀ {l : List D}, (∀ d ∈ l, (pyOf d).depth ≤ n) → PyData.depthAll (pyOfs l) ≤ n
  | [], _ => Nat.zero_le _
  | d :: l, h => by
    simp only [pyOfs, PyData.depthAll]
    exact Nat.max_le.mpr ⟨h d List.mem_cons_self, depth_all fun e he => h e (List.mem_cons_of_mem _ he)⟩
theorem depth_pur : ∀ (n : Nat) (d : D), pur n d = true → (pyOf d).depth ≤ n
  | _, .non, _ => Nat.zero_le _
  | _, .int i, _ => Nat.zero_le _
  | _, .str i, _ => Nat.zero_le _
  | n + 1, .tup l, h => by
    simp only [pur, List.all_eq_true] at h
    simp only [pyOf, PyData.depth]
    exact Nat.succ_le_succ (depth_all fun d hd => depth_pur n d (h d hd))
  | 0, .tup _, h => by simp [pur] at h
  | n, .bl _, h => by cases n <;> simp [pur] at h
  | n, .ref _, h => by cases n <;> simp [pur] at h
  | n, .frz _, h => by cases n <;> simp [pur] at h
  | n, .gd _ _, h => by cases n <;> simp [pur] at h
theorem pur_cases {n : Nat} {d : D} (h : pur n d = true) : d = .non ∨ (∃ i, d = .int i) ∨ (∃ x, d = .str x) ∨ ∃ m l, n = m + 1 ∧ d = .tup l ∧ l.all (pur m) = true := by
  cases d with
  | non => exact .inl rfl
  | int i => exact .inr (.inl ⟨i, rfl⟩)
  | str x => exact .inr (.inr (.inl ⟨x, rfl⟩))
  | tup l =>
    cases n with
    | zero => simp [pur] at h
    | succ m => exact .inr (.inr (.inr ⟨m, l, rfl, rfl, by simpa [pur] using h⟩))
  | _ => cases n <;> simp [pur] at h
theorem eqvs_of {n m : Nat} (ih : ∀ d e : D, pur n d = true → pur m e = true → PyData.eqv (pyOf d) (pyOf e) = decide (d = e)) :
    ∀ (l r : List D), l.all (pur n) = true → r.all (pur m) = true → PyData.eqvAll (pyOfs l) (pyOfs r) = decide (l = r)
  | [], [], _, _ => by simp [pyOfs, PyData.eqvAll]
  | [], _ :: _, _, _ => by simp [pyOfs, PyData.eqvAll]
  | _ :: _, [], _, _ => by simp [pyOfs, PyData.eqvAll]
  | a :: l, b :: r, h, h' => by
    simp only [List.all_cons, Bool.and_eq_true] at h h'
    simp only [pyOfs, PyData.eqvAll, ih a b h.1 h'.1, eqvs_of ih l r h.2 h'.2, List.cons.injEq, Bool.decide_and]
theorem eqv_flat {n m : Nat} {d e : D} (h : pur n d = true) (h' : pur m e = true) (hd : ∀ l, d ≠ .tup l) : PyData.eqv (pyOf d) (pyOf e) = decide (d = e) := by
  rcases pur_cases h with rfl | ⟨i, rfl⟩ | ⟨x, rfl⟩ | ⟨_, l, _, rfl, _⟩
  · rcases pur_cases h' with rfl | ⟨j, rfl⟩ | ⟨y, rfl⟩ | ⟨_, _, _, rfl, _⟩ <;> simp [pyOf, PyData.eqv]
  · rcases pur_cases h' with rfl | ⟨j, rfl⟩ | ⟨y, rfl⟩ | ⟨_, _, _, rfl, _⟩
    · simp [pyOf, PyData.eqv]
    · simp only [pyOf, PyData.eqv, D.int.injEq]
      rfl
    · simp [pyOf, PyData.eqv]
    · simp [pyOf, PyData.eqv]
  · rcases pur_cases h' with rfl | ⟨j, rfl⟩ | ⟨y, rfl⟩ | ⟨_, _, _, rfl, _⟩
    · simp [pyOf, PyData.eqv]
    · simp [pyOf, PyData.eqv]
    · simp only [pyOf, PyData.eqv, D.str.injEq]
      by_cases c : x = y
      · subst c; simp
      · simp [c]
    · simp [pyOf, PyData.eqv]
  · exact absurd rfl (hd l)
theorem eqv_pur : ∀ (n m : Nat) (d e : D), pur n d = true → pur m e = true → PyData.eqv (pyOf d) (pyOf e) = decide (d = e) := by
  intro n
  induction n with
  | zero =>
    intro m d e h h'
    refine eqv_flat h h' fun l z => ?_
    subst z
    simp [pur] at h
  | succ n ih =>
    intro m d e h h'
    rcases pur_cases h with rfl | ⟨i, rfl⟩ | ⟨x, rfl⟩ | ⟨_, l, z, rfl, hl⟩
    · exact eqv_flat h h' (fun l z => nomatch z)
    · exact eqv_flat h h' (fun l z => nomatch z)
    · exact eqv_flat h h' (fun l z => nomatch z)
    · cases z
      rcases pur_cases h' with rfl | ⟨j, rfl⟩ | ⟨y, rfl⟩ | ⟨k, r, _, rfl, hr⟩
      · simp [pyOf, PyData.eqv]
      · simp [pyOf, PyData.eqv]
      · simp [pyOf, PyData.eqv]
      · simp only [pyOf, PyData.eqv, D.tup.injEq]
        exact eqvs_of (ih k) l r hl hr
theorem eqvs_pur (n m : Nat) (l r : List D) (h : l.all (pur n) = true) (h' : r.all (pur m) = true) : PyData.eqvAll (pyOfs l) (pyOfs r) = decide (l = r) := eqvs_of (eqv_pur n m) l r h h'
def pur50 (d : D) : Bool := pur 50 d
theorem toPy_pur50 {d : D} (h : pur50 d = true) : toPy 60 s d = some (pyOf d) := toPy_pur 50 9 d h
theorem shaped_pur {d : D} (h : pur50 d = true) : SeqAt.shaped (pyOf d) = true := by
  unfold SeqAt.shaped
  rw [canLay_pur 50 d h, Bool.true_and, decide_eq_true_eq]
  exact Nat.le_trans (depth_pur 50 d h) (by decide)
theorem eqD_pur (hx : pur50 x = true) (hy : pur50 y = true) : eqD s x y = some (decide (x = y)) := by
  unfold eqD
  rw [toPy_pur50 hx, toPy_pur50 hy]
  simp only [shaped_pur hx, shaped_pur hy, Bool.and_self, if_true]
  rw [eqv_pur 50 50 x y hx hy]
theorem eqD_int : eqD s (.int i) (.int j) = some (decide (i = j)) := by
  rw [eqD_pur rfl rfl]
  congr 1
  by_cases h : i = j <;> simp [h]
theorem eqD_tup (hx : l.all (pur 49) = true) (hy : m.all (pur 49) = true) : eqD s (.tup l) (.tup m) = some (decide (l = m)) := by
  rw [eqD_pur (x := .tup l) (y := .tup m) hx hy]
  congr 1
  by_cases h : l = m <;> simp [h]
theorem toPy_lst {a : Nat} (h : isLst s a = some l) (hl : l.all (pur 49) = true) : toPy 60 s (.ref a) = some (.list (pyOfs l)) := by
  show (match isLst s a with
    | some l => (l.mapM (toPy 59 s)).map PyData.list
    | none => none) = _
  rw [h]
  rw [List.all_eq_true] at hl
  show (l.mapM (toPy 59 s)).map PyData.list = _
  rw [mapM_all fun d hd => toPy_pur 49 9 d (hl d hd), pyOfs_map]
  rfl
theorem shaped_lst (hl : l.all (pur 49) = true) : SeqAt.shaped (.list (pyOfs l)) = true := by
  rw [List.all_eq_true] at hl
  have h1 : (PyData.list (pyOfs l)).canLay0 = true := by
    simp only [PyData.canLay0]
    exact canLay_all fun d hd => canLay_pur 49 d (hl d hd)
  have h2 : (PyData.list (pyOfs l)).depth ≤ 64 := by
    simp only [PyData.depth]
    exact Nat.le_trans (Nat.succ_le_succ (depth_all fun d hd => depth_pur 49 d (hl d hd))) (by decide)
  unfold SeqAt.shaped
  rw [h1, Bool.true_and, decide_eq_true_eq]
  exact h2
theorem eqD_lst {a b : Nat} (h : isLst s a = some l) (h' : isLst s b = some m) (hl : l.all (pur 49) = true) (hm : m.all (pur 49) = true) : eqD s (.ref a) (.ref b) = some (decide (l = m)) := by
  unfold eqD
  rw [toPy_lst h hl, toPy_lst h' hm]
  simp only [shaped_lst hl, shaped_lst hm, Bool.and_self, if_true, PyData.eqv]
  rw [eqvs_pur 49 49 l m hl hm]
theorem eqD_bl {a b : Bool} : eqD s (.bl a) (.bl b) = some (a == b) := by cases a <;> cases b <;> rfl
theorem pur_ints {n : Nat} {l : List Int} : (l.map D.int).all (pur n) = true := by
  rw [List.all_eq_true]
  intro d hd
  obtain ⟨i, _, rfl⟩ := List.mem_map.mp hd
  cases n <;> rfl
theorem any_ints {i : Int} {l : List Int} : ((l.map D.int).any fun z => eqF z (.int i)) = decide (i ∈ l) := by
  induction l with
  | nil => rfl
  | cons a l ih =>
    rw [List.map_cons, List.any_cons, ih]
    show (a == i || decide (i ∈ l)) = _
    by_cases h : a = i
    · subst h; simp
    · have h' : i ≠ a := fun z => h z.symm
      simp [h, h']
theorem flat_ints {l : List Int} : (l.map D.int).all flatD = true := by
  rw [List.all_eq_true]
  intro d hd
  obtain ⟨i, _, rfl⟩ := List.mem_map.mp hd
  rfl
theorem inD_ints {y : D} {l : List Int} (h : items s y = some (l.map .int)) : inD s (.int i) y = some (decide (i ∈ l)) := by
  unfold inD
  rw [h]
  simp only [flatD, flat_ints, Bool.and_self, if_true, any_ints]
theorem any_pur {n m : Nat} {d : D} (hd : pur n d = true) : ∀ l : List D, l.all (pur m) = true → ((pyOfs l).any fun z => PyData.eqv z (pyOf d)) = decide (d ∈ l)
  | [], _ => rfl
  | e :: l, h => by
    rw [List.all_cons, Bool.and_eq_true] at h
    rw [pyOfs, List.any_cons, eqv_pur m n e d h.1 hd, any_pur hd l h.2, ← Bool.decide_or]
    exact decide_eq_decide.mpr ⟨fun z => z.elim (fun z => by rw [z]; exact List.mem_cons_self) (List.mem_cons_of_mem _), fun z => (List.mem_cons.mp z).elim (fun z => .inl z.symm) .inr⟩
theorem inD_tup {r : Nat} {l m : List D} (h : isLst s r = some l) (hl : l.all (pur 49) = true) (hm : m.all (pur 49) = true) : inD s (.tup m) (.ref r) = some (decide (.tup m ∈ l)) := by
  unfold inD
  have hx : pur50 (.tup m) = true := hm
  have e : items s (.ref r) = some l := h
  rw [e]
  simp only [flatD, Bool.false_and, Bool.false_eq_true, if_false]
  rw [toPy_pur50 hx, toPy_lst h hl]
  simp only [shaped_pur hx, shaped_lst hl, Bool.and_self, if_true]
  rw [any_pur (n := 50) hx l hl]
theorem inD_tupT {l m : List D} (hl : l.all (pur 49) = true) (hm : m.all (pur 49) = true) : inD s (.tup m) (.tup l) = some (decide (.tup m ∈ l)) := by
  unfold inD
  have hx : pur50 (.tup m) = true := hm
  have hy : pur50 (.tup l) = true := hl
  have e : items s (.tup l) = some l := rfl
  rw [e]
  simp only [flatD, Bool.false_and, Bool.false_eq_true, if_false]
  rw [toPy_pur50 hx, toPy_pur50 hy]
  have e2 : pyOf (.tup l) = .tuple (pyOfs l) := rfl
  rw [e2]
  have hs : SeqAt.shaped (.tuple (pyOfs l)) = true := shaped_pur hy
  simp only [shaped_pur hx, hs, Bool.and_self, if_true]
  exact congrArg some (any_pur hx l hl)
theorem items_tup : items s (.tup l) = some l := rfl
theorem items_ref {n : Nat} : items s (.ref n) = isLst s n := rfl
theorem items_frz {l : List Int} : items s (.frz l) = some (l.map .int) := rfl
theorem ixOf_nat {n k : Nat} (h : k < n) : ixOf n (k : Int) = some k := by
  unfold ixOf
  rw [if_pos (by omega), if_pos (by omega)]
  simp
theorem atD_nat {α : Type} {l : List α} {k : Nat} : atD l (k : Int) = l[k]? := by
  unfold atD
  by_cases h : k < l.length
  · rw [ixOf_nat h]
    rfl
  · have e : ixOf l.length (k : Int) = none := by
      unfold ixOf
      rw [if_pos (by omega), if_neg (by omega)]
    rw [e]
    simp
    omega
theorem atD_int {α : Type} {l : List α} {i : Int} (h : 0 ≤ i) : atD l i = l[i.toNat]? := by
  obtain ⟨k, rfl⟩ := Int.eq_ofNat_of_zero_le h
  exact atD_nat
theorem atD_last {α : Type} {l : List α} : atD l (-1) = l.getLast? := by
  unfold atD ixOf
  rw [if_neg (by omega)]
  by_cases h : l = []
  · subst h
    rfl
  · have hl : 0 < l.length := List.length_pos_iff.mpr h
    rw [if_pos (by omega)]
    rw [List.getLast?_eq_getElem?]
    show l[(-1 + (l.length : Int)).toNat]? = _
    congr 1
    omega
end
end WL
set_option maxHeartbeats 4000000
namespace WL
open PySem
structure Mx where
  C : Calls
  G : Globs
  F : Nat
abbrev KQ := D → Store → Prop
abbrev KL := List D → Store → Prop
abbrev KN := Env → Store → Prop
abbrev KW := Walk → Store → Prop
abbrev Th := Store → Prop
@[irreducible] def ev (X : Mx) (e : E) (ρ : Env) (Q : KQ) (s : Store) : Prop := WpR (evE X.C X.G e ρ s) Q
@[irreducible] def evs (X : Mx) (es : List E) (ρ : Env) (Q : KL) (s : Store) : Prop := WpR (evEs X.C X.G es ρ s) Q
@[irreducible] def evN (X : Mx) (es : List E) (ρ : Env) (Q : Option Int → Store → Prop) (s : Store) : Prop := WpR (evEnd X.C X.G es ρ s) Q
@[irreducible] def evI (X : Mx) (it : It) (ρ : Env) (Q : KW) (s : Store) : Prop := WpR (evIt X.C X.G it ρ s) Q
@[irreducible] def asg (X : Mx) (t : Tg) (d : D) (ρ : Env) (N : KN) (s : Store) : Prop := WpR (asgT X.C X.G t d ρ s) N
@[irreducible] def asgs (X : Mx) (ts : List Tg) (ds : List D) (ρ : Env) (N : KN) (s : Store) : Prop := WpR (asgTs X.C X.G ts ds ρ s) N
@[irreducible] def st (X : Mx) (x : S) (ρ : Env) (E : En) (s : Store) : Prop := WpS (exS X.C X.G X.F x ρ s) E
@[irreducible] def blk (X : Mx) (xs : List S) (ρ : Env) (E : En) (s : Store) : Prop := WpS (exB X.C X.G X.F xs ρ s) E
@[irreducible] def cl (X : Mx) (f : Nat) (ds : List D) (Q : KQ) (s : Store) : Prop := WpR (X.C f ds s) Q
def tQ (x : D) (Q : KQ) : Th := fun s => Q x s
def tK (x : D) (s' : Store) (Q : KQ) : Th := fun _ => Q x s'
def tN (ρ : Env) (s' : Store) (N : KN) : Th := fun _ => N ρ s'
def tF : Th := fun _ => False
def tNew (l : List D) (Q : KQ) : Th := fun s => Q (.ref s.length) (s ++ [.lst l])
@[irreducible] def br (c : Prop) [Decidable c] (p q : Th) (s : Store) : Prop := if c then p s else q s
def brB (b : Bool) (p q : Th) (s : Store) : Prop := match b with
  | true => p s
  | false => q s
def brO (o : Option Bool) (p q : Th) (s : Store) : Prop := onP o (p s) (q s)
def vO (o : Option D) (Q : KQ) (s : Store) : Prop := onO o fun d => Q d s
def vE (o : Option (Option D)) (Q : KQ) (s : Store) : Prop := onE o fun d => Q d s
def bO (o : Option Bool) (Q : KQ) (s : Store) : Prop := onO o fun b => Q (.bl b) s
def nO (o : Option Bool) (Q : KQ) (s : Store) : Prop := onO o fun b => Q (.bl (!b)) s
def wO (o : Option Walk) (Q : KW) (s : Store) : Prop := onO o fun w => Q w s
section
variable {p q : Th} {s s' : Store} {c : Prop} [Decidable c] {b : Bool} {x : D} {Q : KQ} {N : KN} {ρ : Env} {l : List D}
theorem tQ_ap : tQ x Q s = Q x s := by with_unfolding_all exact rfl
theorem tK_ap : tK x s' Q s = Q x s' := by with_unfolding_all exact rfl
theorem tN_ap : tN ρ s' N s = N ρ s' := by with_unfolding_all exact rfl
theorem tF_ap : tF s = False := by with_unfolding_all exact rfl
theorem tNew_ap : tNew l Q s = Q (.ref s.length) (s ++ [.lst l]) := by with_unfolding_all exact rfl
theorem br_true : br True p q s = p s := by with_unfolding_all exact if_pos trivial
theorem br_false : br False p q s = q s := by with_unfolding_all exact if_neg id
theorem brB_true : brB true p q s = p s := by with_unfolding_all exact rfl
theorem brB_false : brB false p q s = q s := by with_unfolding_all exact rfl
theorem brB_dec : brB (decide c) p q s = br c p q s := by
  unfold brB br
  by_cases h : c <;> simp [h]
theorem brB_not : brB (!b) p q s = brB b q p s := by cases b <;> rfl
theorem brO_some : brO (some b) p q s = brB b p q s := by cases b <;> rfl
theorem vO_some : vO (some x) Q s = Q x s := by with_unfolding_all exact rfl
theorem vE_some : vE (some (some x)) Q s = Q x s := by with_unfolding_all exact rfl
theorem bO_some : bO (some b) Q s = Q (.bl b) s := by with_unfolding_all exact rfl
theorem bO_map {o : Option Bool} : bO (o.map (!·)) Q s = nO o Q s := by cases o <;> rfl
theorem nO_some : nO (some b) Q s = Q (.bl (!b)) s := by with_unfolding_all exact rfl
theorem wO_some {w : Walk} {K : KW} : wO (some w) K s = K w s := by with_unfolding_all exact rfl
theorem br.of (h1 : c → p s) (h2 : ¬c → q s) : br c p q s := by
  unfold br
  split
  · exact h1 ‹_›
  · exact h2 ‹_›
theorem br.pos (h : c) (h1 : p s) : br c p q s := by
  unfold br
  rw [if_pos h]
  exact h1
theorem br.neg (h : ¬c) (h1 : q s) : br c p q s := by
  unfold br
  rw [if_neg h]
  exact h1
theorem brB.of (h1 : b = true → p s) (h2 : b = false → q s) : brB b p q s := by
  cases b
  · exact h2 rfl
  · exact h1 rfl
end
def kArg (X : Mx) (es : List E) (ρ : Env) (K : KL) : KQ := fun d s => evs X es ρ (fun ds s => K (d :: ds) s) s
def kCons (d : D) (K : KL) : KL := fun ds s => K (d :: ds) s
def kTup (Q : KQ) : KL := fun l s => br (l.length ≤ sizeLine) (tQ (.tup l) Q) tF s
def kLst (Q : KQ) : KL := fun l s => br (l.length ≤ sizeLine) (tNew l Q) tF s
def opB (op : Operator) (x y : D) (Q : KQ) (s : Store) : Prop := WpR (binop op x y s) Q
def kBin2 (op : Operator) (x : D) (Q : KQ) : KQ := fun y s => opB op x y Q s
def kBin1 (X : Mx) (op : Operator) (b : E) (ρ : Env) (Q : KQ) : KQ := fun x s => ev X b ρ (kBin2 op x Q) s
def kNeg (Q : KQ) : KQ := fun x s => onI x fun i => Q (.int (-i)) s
def kNot (Q : KQ) : KQ := fun x s => nO (truth s x) Q s
def kAnd (X : Mx) (b : E) (ρ : Env) (Q : KQ) : KQ := fun x s => brO (truth s x) (ev X b ρ Q) (tQ x Q) s
def kOr (X : Mx) (b : E) (ρ : Env) (Q : KQ) : KQ := fun x s => brO (truth s x) (tQ x Q) (ev X b ρ Q) s
def kIfe (X : Mx) (a b : E) (ρ : Env) (Q : KQ) : KQ := fun x s => brO (truth s x) (ev X a ρ Q) (ev X b ρ Q) s
def kCmp2 (op : CmpOp) (x : D) (Q : KQ) : KQ := fun y s => bO (cmpD op s x y) Q s
def kCmp1 (X : Mx) (op : CmpOp) (b : E) (ρ : Env) (Q : KQ) : KQ := fun x s => ev X b ρ (kCmp2 op x Q) s
def kCh2 (X : Mx) (op : CmpOp) (x : D) (op' : CmpOp) (c : E) (ρ : Env) (Q : KQ) : KQ := fun y s => brO (cmpD op s x y) (ev X c ρ (kCmp2 op' y Q)) (tQ (.bl false) Q) s
def kCh1 (X : Mx) (op : CmpOp) (b : E) (op' : CmpOp) (c : E) (ρ : Env) (Q : KQ) : KQ := fun x s => ev X b ρ (kCh2 X op x op' c ρ Q) s
def kIx2 (x : D) (Q : KQ) : KQ := fun y s => vO (ixD s x y) Q s
def kIx1 (X : Mx) (b : E) (ρ : Env) (Q : KQ) : KQ := fun x s => ev X b ρ (kIx2 x Q) s
def slP (x : D) (lo hi : Option Int) (Q : KQ) (s : Store) : Prop := WpR (sliceD s x lo hi) Q
def rvP (x : D) (Q : KQ) (s : Store) : Prop := WpR (revD s x) Q
def kRev (Q : KQ) : KQ := fun x s => rvP x Q s
def kSl3 (x : D) (lo : Option Int) (Q : KQ) : Option Int → Store → Prop := fun hi s => slP x lo hi Q s
def kSl2 (X : Mx) (x : D) (hi : List E) (ρ : Env) (Q : KQ) : Option Int → Store → Prop := fun lo s => evN X hi ρ (kSl3 x lo Q) s
def kSl1 (X : Mx) (lo hi : List E) (ρ : Env) (Q : KQ) : KQ := fun x s => evN X lo ρ (kSl2 X x hi ρ Q) s
def kEnd (K : Option Int → Store → Prop) : KQ := fun x s => onI x fun i => K (some i) s
def kCall (X : Mx) (f : Nat) (Q : KQ) : KL := fun l s => cl X f l Q s
def biP (b : Bi) (l : List D) (Q : KQ) (s : Store) : Prop := WpR (biD b l s) Q
def kBi (b : Bi) (Q : KQ) : KL := fun l s => biP b l Q s
def kIsi (t : Ty) (Q : KQ) : KQ := fun x s => bO (isiD s x t) Q s
def lrP (o : Option (List D)) (Q : KQ) (s : Store) : Prop := match o with
  | some l => br (l.length ≤ sizeLine) (tNew l Q) tF s
  | none => False
def trP (o : Option (List D)) (Q : KQ) (s : Store) : Prop := match o with
  | some l => br (l.length ≤ sizeLine) (tQ (.tup l) Q) tF s
  | none => False
def kLrg (Q : KQ) : KL := fun l s => lrP (rngD l) Q s
def kTrg (Q : KQ) : KL := fun l s => trP (rngD l) Q s
def apP (x y : D) (Q : KQ) (s : Store) : Prop := WpR (appD x y s) Q
def poP (x y : D) (Q : KQ) (s : Store) : Prop := WpR (popD x y s) Q
def exP (x y : D) (Q : KQ) (s : Store) : Prop := WpR (extD x y s) Q
def kApp2 (x : D) (Q : KQ) : KQ := fun y s => apP x y Q s
def kPop2 (x : D) (Q : KQ) : KQ := fun y s => poP x y Q s
def kExt2 (x : D) (Q : KQ) : KQ := fun y s => exP x y Q s
def kApp1 (X : Mx) (a : E) (ρ : Env) (Q : KQ) : KQ := fun x s => brB (isL s x) (ev X a ρ (kApp2 x Q)) tF s
def kPop1 (X : Mx) (a : E) (ρ : Env) (Q : KQ) : KQ := fun x s => brB (isL s x) (ev X a ρ (kPop2 x Q)) tF s
def kExt1 (X : Mx) (a : E) (ρ : Env) (Q : KQ) : KQ := fun x s => brB (isL s x) (ev X a ρ (kExt2 x Q)) tF s
def meP (m : Me) (x : D) (ds : List D) (Q : KQ) (s : Store) : Prop := WpR (meD m x ds s) Q
def kMe2 (m : Me) (x : D) (Q : KQ) : KL := fun ds s => meP m x ds Q s
def kMe1 (X : Mx) (m : Me) (es : List E) (ρ : Env) (Q : KQ) : KQ := fun x s => brB (meT m s x) (evs X es ρ (kMe2 m x Q)) tF s
def gtP (o : Option (Option D)) (d : D) (Q : KQ) (s : Store) : Prop := onO o fun o => Q (o.getD d) s
@[irreducible] def lcP (X : Mx) (elt : E) (tg : Tg) (ifs : List E) (own : List Nat) (ρ : Env) (w : Walk) (Q : KQ) (s : Store) : Prop := WpR (lcGo w s.length (lcT X.C X.G elt tg ifs own ρ) w.its (s ++ [.lst []])) Q
def kLc (X : Mx) (elt : E) (tg : Tg) (ifs : List E) (own : List Nat) (ρ : Env) (Q : KQ) : KW := fun w s => lcP X elt tg ifs own ρ w Q s
def kVal (K : KW) : KQ := fun d s => wO (walkS s d) K s
def rgW (o : Option (List D)) (K : KW) (s : Store) : Prop := onO o fun l => K ⟨[], l⟩ s
def kRng (K : KW) : KL := fun l s => rgW (rngD l) K s
def enW (o : Option Walk) (K : KW) (s : Store) : Prop := onO o fun w => K (enmOf w) s
def kEnm (K : KW) : KQ := fun d s => enW (walkS s d) K s
def ziW (x y : D) (K : KW) (s : Store) : Prop := BrB (zipKind x y) (onO (walkOf s x) fun w => onO (walkOf s y) fun u => K (zipOf w u) s) False
def kZip2 (x : D) (K : KW) : KQ := fun y s => ziW x y K s
def kZip1 (X : Mx) (b : E) (ρ : Env) (K : KW) : KQ := fun x s => ev X b ρ (kZip2 x K) s
def stP (x y v : D) (ρ : Env) (N : KN) (s : Store) : Prop := WpR (setD x y v s) fun _ s => N ρ s
def kSub2 (x v : D) (ρ : Env) (N : KN) : KQ := fun y s => stP x y v ρ N s
def kSub1 (X : Mx) (b : E) (v : D) (ρ : Env) (N : KN) : KQ := fun x s => ev X b ρ (kSub2 x v ρ N) s
def kTs (X : Mx) (ts : List Tg) (ds : List D) (N : KN) : KN := fun ρ s => asgs X ts ds ρ N s
def kSeq (X : Mx) (xs : List S) (E : En) : En := { E with nx := fun ρ s => blk X xs ρ E s }
def kAsg (X : Mx) (t : Tg) (ρ : Env) (s0 : Store) (E : En) : KQ := fun d s => asg X t d ρ E.nx (trunc s0 d s)
def kPar (is : List Nat) (ρ : Env) (s0 : Store) (E : En) : KL := fun l s => br (l.length = is.length) (tN (parSet is l ρ) (trunc s0 (.tup l) s) E.nx) tF s
def kAug2 (i : Nat) (op : Operator) (x : D) (ρ : Env) (s0 : Store) (E : En) : KQ := fun d s => match x, d with
  | .int a, .int b => E.nx (ρ.set i (some (.int (aop op a b)))) (trunc s0 .non s)
  | _, _ => False
def kAug1 (X : Mx) (i : Nat) (op : Operator) (e : E) (ρ : Env) (E : En) : KQ := fun x s => match x with
  | .int a => ev X e ρ (kAug2 i op (.int a) ρ s E) s
  | _ => False
def kAs4 (op : Operator) (a k x : D) (ρ : Env) (E : En) : KQ := fun y s => match x, y with
  | .int i, .int j => stP a k (.int (aop op i j)) ρ E.nx s
  | _, _ => False
def kAs3 (X : Mx) (op : Operator) (a k : D) (e : E) (ρ : Env) (E : En) : KQ := fun x s => match x with
  | .int i => ev X e ρ (kAs4 op a k (.int i) ρ E) s
  | _ => False
def tIx (a k : D) (Q : KQ) : Th := fun s => vO (ixD s a k) Q s
def kAs2 (X : Mx) (op : Operator) (a : D) (e : E) (ρ : Env) (E : En) : KQ := fun k s => brB (isL s a) (tIx a k (kAs3 X op a k e ρ E)) tF s
def kAs1 (X : Mx) (op : Operator) (i : E) (e : E) (ρ : Env) (E : En) : KQ := fun a s => ev X i ρ (kAs2 X op a e ρ E) s
def kExpr (ρ : Env) (s0 : Store) (E : En) : KQ := fun _ s => E.nx ρ (trunc s0 .non s)
def kRet (s0 : Store) (E : En) : KQ := fun d s => E.rt d (trunc s0 d s)
def kIf (X : Mx) (a b : List S) (ρ : Env) (s0 : Store) (E : En) : KQ := fun x s => brO (truth s x) (blk X a ρ E) (blk X b ρ E) (trunc s0 .non s)
@[irreducible] def forP (X : Mx) (t : Tg) (b : List S) (w : Walk) (its : List D) (ρ : Env) (E : En) (s : Store) : Prop :=
  WpS (forGo w (fun x ρ s => (asgT X.C X.G t x ρ s).stm ρ fun ρ s => exB X.C X.G X.F b ρ s) its ρ s) E
def kFor (X : Mx) (t : Tg) (b : List S) (ρ : Env) (E : En) : KW := fun w s => forP X t b w w.its ρ E s
def kBody (X : Mx) (b : List S) (E : En) : KN := fun ρ s => blk X b ρ E s
@[irreducible] def whlP (X : Mx) (c : E) (b : List S) (n : Nat) (ρ : Env) (E : En) (s : Store) : Prop := WpS (whlGo (tst X.C X.G c) (exB X.C X.G X.F b) n ρ s) E
def tNx (ρ : Env) (E : En) : Th := fun s => E.nx ρ s
def kWh (X : Mx) (b : List S) (ρ : Env) (s0 : Store) (E1 E : En) : KQ := fun x s => brO (truth s x) (blk X b ρ E1) (tNx ρ E) (trunc s0 .non s)
section
variable {X : Mx} {e a b c : E} {es : List E} {ρ : Env} {Q : KQ} {K : KL} {s s0 : Store} {x y z v : D} {E : En} {N : KN} {Kw : KW} {i j : Int} {n m : Nat} {l ds : List D}
theorem ev_var : ev X (.var n) ρ Q s = vE ρ[n]? Q s := by with_unfolding_all exact wp_var
theorem ev_int : ev X (.int i) ρ Q s = Q (.int i) s := by with_unfolding_all exact wp_int
theorem ev_str {w : Str} : ev X (.str w) ρ Q s = Q (.str w) s := by with_unfolding_all exact wp_str
theorem ev_bl {t : Bool} : ev X (.bl t) ρ Q s = Q (.bl t) s := by with_unfolding_all exact wp_bl
theorem ev_non : ev X .non ρ Q s = Q .non s := by with_unfolding_all exact wp_non
theorem ev_glob : ev X (.glob n) ρ Q s = vO (X.G n) Q s := by with_unfolding_all exact wp_glob
theorem evs_nil : evs X [] ρ K s = K [] s := by with_unfolding_all exact wp_nil
theorem evs_cons : evs X (e :: es) ρ K s = ev X e ρ (kArg X es ρ K) s := by with_unfolding_all exact wp_cons
theorem kArg_ap : kArg X es ρ K x s = evs X es ρ (kCons x K) s := by with_unfolding_all exact rfl
theorem kCons_ap : kCons x K l s = K (x :: l) s := by with_unfolding_all exact rfl
theorem ev_tup : ev X (.tup es) ρ Q s = evs X es ρ (kTup Q) s := by with_unfolding_all exact wp_tup
theorem kTup_ap : kTup Q l s = br (l.length ≤ sizeLine) (tQ (.tup l) Q) tF s := by with_unfolding_all exact rfl
theorem ev_lst : ev X (.lst es) ρ Q s = evs X es ρ (kLst Q) s := by with_unfolding_all exact wp_lst
theorem kLst_ap : kLst Q l s = br (l.length ≤ sizeLine) (tNew l Q) tF s := by with_unfolding_all exact rfl
theorem ev_bin {op : Operator} : ev X (.bin op a b) ρ Q s = ev X a ρ (kBin1 X op b ρ Q) s := by with_unfolding_all exact wp_bin
theorem kBin1_ap {op : Operator} : kBin1 X op b ρ Q x s = ev X b ρ (kBin2 op x Q) s := by with_unfolding_all exact rfl
theorem kBin2_ap {op : Operator} : kBin2 op x Q y s = opB op x y Q s := by with_unfolding_all exact rfl
theorem opB_add : opB .Add (.int i) (.int j) Q s = Q (.int (i + j)) s := by with_unfolding_all exact rfl
theorem opB_sub : opB .Sub (.int i) (.int j) Q s = Q (.int (i - j)) s := by with_unfolding_all exact rfl
theorem opB_mul : opB .Mult (.int i) (.int j) Q s = br (mulOk i j = true) (tQ (.int (i * j)) Q) tF s := by with_unfolding_all exact wp_ite
theorem opB_mod : opB .Mod (.int i) (.int j) Q s = br (0 < j) (tQ (.int (i % j)) Q) tF s := by with_unfolding_all exact wp_ite
theorem opB_div : opB .FloorDiv (.int i) (.int j) Q s = br (0 < j ∧ j.natAbs.log2 < 9000) (tQ (.int (i / j)) Q) tF s := by with_unfolding_all exact wp_ite
theorem opB_pow : opB .Pow (.int i) (.int j) Q s = br (0 ≤ j ∧ j ≤ 1000000 ∧ i.natAbs < 2 ^ 64) (tQ (.int (i ^ j.toNat)) Q) tF s := by with_unfolding_all exact wp_ite
theorem opB_adds {u w : Str} : opB .Add (.str u) (.str w) Q s = br (u.length + w.length ≤ sizeLine) (tQ (.str (u ++ w)) Q) tF s := by with_unfolding_all exact wp_ite
theorem opB_addt {m : List D} : opB .Add (.tup l) (.tup m) Q s = br (l.length + m.length ≤ sizeLine) (tQ (.tup (l ++ m)) Q) tF s := by with_unfolding_all exact wp_ite
theorem opB_addl {p q : Nat} {m : List D} (h : isLst s p = some l) (h' : isLst s q = some m) (hz : l.length + m.length ≤ sizeLine) : opB .Add (.ref p) (.ref q) Q s = Q (.ref s.length) (s ++ [.lst (l ++ m)]) := by
  unfold opB binop newLst
  simp only [h, h']
  rw [if_pos hz, if_pos (by rw [List.length_append]; exact hz)]
  rfl
theorem opB_rept : opB .Mult (.tup l) (.int j) Q s = br (l ≠ [] ∧ 2 ≤ j ∧ j ≤ 1000 ∧ l.length ≤ 1000) (tQ (.tup (List.replicate j.toNat l).flatten) Q) tF s := by with_unfolding_all exact wp_ite
theorem opB_rep {p : Nat} (h : isLst s p = some l) (h1 : -(2 ^ 63) ≤ j ∧ j < 2 ^ 63 ∧ l.length * j.toNat ≤ sizeLine) : opB .Mult (.ref p) (.int j) Q s = Q (.ref s.length) (s ++ [.lst (List.replicate j.toNat l).flatten]) := by
  unfold opB binop newLst
  simp only [h]
  rw [if_pos h1, if_pos (by simp only [List.length_flatten, List.map_replicate, List.sum_replicate_nat, Nat.mul_comm]; rw [Nat.mul_comm]; exact h1.2.2)]
  rfl
theorem ev_neg : ev X (.neg a) ρ Q s = ev X a ρ (kNeg Q) s := by with_unfolding_all exact wp_neg
theorem kNeg_ap : kNeg Q (.int i) s = Q (.int (-i)) s := by with_unfolding_all exact rfl
theorem ev_not : ev X (.not a) ρ Q s = ev X a ρ (kNot Q) s := by with_unfolding_all exact wp_not
theorem kNot_ap : kNot Q x s = nO (truth s x) Q s := by with_unfolding_all exact rfl
theorem brO_eq {o : Option Bool} {p q : Th} : brO o p q s = onP o (p s) (q s) := by with_unfolding_all exact rfl
theorem ev_and : ev X (.and a b) ρ Q s = ev X a ρ (kAnd X b ρ Q) s := by with_unfolding_all exact wp_and
theorem kAnd_ap : kAnd X b ρ Q x s = brO (truth s x) (ev X b ρ Q) (tQ x Q) s := by with_unfolding_all exact rfl
theorem ev_or : ev X (.or a b) ρ Q s = ev X a ρ (kOr X b ρ Q) s := by with_unfolding_all exact wp_or
theorem kOr_ap : kOr X b ρ Q x s = brO (truth s x) (tQ x Q) (ev X b ρ Q) s := by with_unfolding_all exact rfl
theorem ev_ife : ev X (.ife c a b) ρ Q s = ev X c ρ (kIfe X a b ρ Q) s := by with_unfolding_all exact wp_ife
theorem kIfe_ap : kIfe X a b ρ Q x s = brO (truth s x) (ev X a ρ Q) (ev X b ρ Q) s := by with_unfolding_all exact rfl
theorem ev_cmp {op : CmpOp} : ev X (.cmp a op b) ρ Q s = ev X a ρ (kCmp1 X op b ρ Q) s := by with_unfolding_all exact wp_cmp
theorem kCmp1_ap {op : CmpOp} : kCmp1 X op b ρ Q x s = ev X b ρ (kCmp2 op x Q) s := by with_unfolding_all exact rfl
theorem kCmp2_ap {op : CmpOp} : kCmp2 op x Q y s = bO (cmpD op s x y) Q s := by with_unfolding_all exact rfl
theorem ev_chain {op op' : CmpOp} : ev X (.chain a op b op' c) ρ Q s = ev X a ρ (kCh1 X op b op' c ρ Q) s := by with_unfolding_all exact wp_chain
theorem kCh1_ap {op op' : CmpOp} : kCh1 X op b op' c ρ Q x s = ev X b ρ (kCh2 X op x op' c ρ Q) s := by with_unfolding_all exact rfl
theorem kCh2_ap {op op' : CmpOp} : kCh2 X op x op' c ρ Q y s = brO (cmpD op s x y) (ev X c ρ (kCmp2 op' y Q)) (tQ (.bl false) Q) s := by with_unfolding_all exact rfl
theorem ev_ix : ev X (.ix a b) ρ Q s = ev X a ρ (kIx1 X b ρ Q) s := by with_unfolding_all exact wp_ix
theorem kIx1_ap : kIx1 X b ρ Q x s = ev X b ρ (kIx2 x Q) s := by with_unfolding_all exact rfl
theorem kIx2_ap : kIx2 x Q y s = vO (ixD s x y) Q s := by with_unfolding_all exact rfl
theorem ev_rev : ev X (.rev a) ρ Q s = ev X a ρ (kRev Q) s := by with_unfolding_all exact wp_rev
theorem kRev_ap : kRev Q x s = rvP x Q s := by with_unfolding_all exact rfl
theorem ev_slice {lo hi : List WL.E} : ev X (.slice a lo hi) ρ Q s = ev X a ρ (kSl1 X lo hi ρ Q) s := by with_unfolding_all exact wp_slice
theorem kSl1_ap {lo hi : List WL.E} : kSl1 X lo hi ρ Q x s = evN X lo ρ (kSl2 X x hi ρ Q) s := by with_unfolding_all exact rfl
theorem kSl2_ap {lo : Option Int} {hi : List WL.E} : kSl2 X x hi ρ Q lo s = evN X hi ρ (kSl3 x lo Q) s := by with_unfolding_all exact rfl
theorem kSl3_ap {lo hi : Option Int} : kSl3 x lo Q hi s = slP x lo hi Q s := by with_unfolding_all exact rfl
theorem evN_nil {K : Option Int → Store → Prop} : evN X [] ρ K s = K none s := by with_unfolding_all exact wp_end0
theorem evN_one {K : Option Int → Store → Prop} : evN X (a :: es) ρ K s = ev X a ρ (kEnd K) s := by with_unfolding_all exact wp_end1
theorem kEnd_ap {K : Option Int → Store → Prop} : kEnd K (.int i) s = K (some i) s := by with_unfolding_all exact rfl
theorem slP_tup {lo hi : Option Int} : slP (.tup l) lo hi Q s = Q (.tup (cutD l lo hi)) s := by with_unfolding_all exact rfl
theorem slP_ref {lo hi : Option Int} (h : isLst s n = some l) (hz : (cutD l lo hi).length ≤ sizeLine) : slP (.ref n) lo hi Q s = Q (.ref s.length) (s ++ [.lst (cutD l lo hi)]) := by
  unfold slP sliceD
  simp only [h, newLst]
  rw [if_pos hz]
  rfl
theorem ev_call {f : Nat} : ev X (.call f es) ρ Q s = evs X es ρ (kCall X f Q) s := by with_unfolding_all exact wp_call
theorem kCall_ap {f : Nat} : kCall X f Q l s = cl X f l Q s := by with_unfolding_all exact rfl
theorem ev_bi {f : Bi} : ev X (.bi f es) ρ Q s = evs X es ρ (kBi f Q) s := by with_unfolding_all exact wp_bi
theorem kBi_ap {f : Bi} : kBi f Q l s = biP f l Q s := by with_unfolding_all exact rfl
theorem biP_lenT : biP .len [.tup l] Q s = Q (.int l.length) s := by with_unfolding_all exact rfl
theorem biP_lenR (h : isLst s n = some l) : biP .len [.ref n] Q s = Q (.int l.length) s := by
  unfold biP biD
  simp only [items, h]
  rfl
theorem biP_lenF {l : List Int} : biP .len [.frz l] Q s = Q (.int l.length) s := by
  unfold biP biD
  simp only [items, List.length_map]
  rfl
theorem biP_int : biP .int [.int i] Q s = Q (.int i) s := by with_unfolding_all exact rfl
theorem biP_tupR (h : isLst s n = some l) : biP .tuple [.ref n] Q s = Q (.tup l) s := by
  unfold biP biD
  simp only [items, h]
  rfl
theorem biP_tupT : biP .tuple [.tup l] Q s = Q (.tup l) s := by with_unfolding_all exact rfl
theorem biP_listR (h : isLst s n = some l) (hz : l.length ≤ sizeLine) : biP .list [.ref n] Q s = Q (.ref s.length) (s ++ [.lst l]) := by
  unfold biP biD
  simp only [items, h, newLst]
  rw [if_pos hz]
  rfl
theorem biP_listT (hz : l.length ≤ sizeLine) : biP .list [.tup l] Q s = Q (.ref s.length) (s ++ [.lst l]) := by
  unfold biP biD
  simp only [items, newLst]
  rw [if_pos hz]
  rfl
theorem biP_sum {ns : List Int} (h : isLst s n = some l) (h' : intsOf l = some ns) : biP .sum [.ref n] Q s = Q (.int ns.sum) s := by
  unfold biP biD
  simp only [h, h']
  rfl
theorem biP_min : biP .min [.int i, .int j] Q s = Q (.int (if j < i then j else i)) s := by with_unfolding_all exact rfl
theorem biP_max : biP .max [.int i, .int j] Q s = Q (.int (if j > i then j else i)) s := by with_unfolding_all exact rfl
theorem ev_isi {t : Ty} : ev X (.isi a t) ρ Q s = ev X a ρ (kIsi t Q) s := by with_unfolding_all exact wp_isi
theorem kIsi_ap {t : Ty} : kIsi t Q x s = bO (isiD s x t) Q s := by with_unfolding_all exact rfl
theorem isi_int {t : Ty} : isiD s (.int i) t = some (decide (t = .int)) := by with_unfolding_all exact rfl
theorem isi_bl {t : Ty} {w : Bool} : isiD s (.bl w) t = some (decide (t = .bool ∨ t = .int)) := by with_unfolding_all exact rfl
theorem isi_tup {t : Ty} : isiD s (.tup l) t = some (decide (t = .tuple)) := by with_unfolding_all exact rfl
theorem isi_non {t : Ty} : isiD s .non t = some false := by with_unfolding_all exact rfl
theorem isi_str {t : Ty} {w : Str} : isiD s (.str w) t = some (decide (t = .str)) := by with_unfolding_all exact rfl
theorem ev_lrg : ev X (.lrg es) ρ Q s = evs X es ρ (kLrg Q) s := by
  unfold ev evs
  rw [wp_lrg]
  congr 1
  funext l s
  show _ = lrP (rngD l) Q s
  cases rngD l with
  | none => rfl
  | some l =>
    show Br _ (Br _ _ _) _ = br _ _ _ _
    unfold Br br
    split <;> rfl
theorem kLrg_ap : kLrg Q l s = lrP (rngD l) Q s := by with_unfolding_all exact rfl
theorem ev_trg : ev X (.trg es) ρ Q s = evs X es ρ (kTrg Q) s := by
  unfold ev evs
  rw [wp_trg]
  congr 1
  funext l s
  show _ = trP (rngD l) Q s
  cases rngD l <;> with_unfolding_all rfl
theorem kTrg_ap : kTrg Q l s = trP (rngD l) Q s := by with_unfolding_all exact rfl
theorem ev_app : ev X (.app a b) ρ Q s = ev X a ρ (kApp1 X b ρ Q) s := by
  with_unfolding_all exact wp_app
theorem kApp1_ap : kApp1 X b ρ Q x s = brB (isL s x) (ev X b ρ (kApp2 x Q)) tF s := by with_unfolding_all exact rfl
theorem kApp2_ap : kApp2 x Q y s = apP x y Q s := by with_unfolding_all exact rfl
theorem apP_ref (h : isLst s n = some l) (hz : l.length < sizeLine) : apP (.ref n) y Q s = Q .non (s.set n (.lst (l ++ [y]))) := by
  unfold apP appD
  simp only [h]
  rw [if_pos hz]
  rfl
theorem ev_pop : ev X (.pop a b) ρ Q s = ev X a ρ (kPop1 X b ρ Q) s := by
  with_unfolding_all exact wp_pop
theorem kPop1_ap : kPop1 X b ρ Q x s = brB (isL s x) (ev X b ρ (kPop2 x Q)) tF s := by with_unfolding_all exact rfl
theorem kPop2_ap : kPop2 x Q y s = poP x y Q s := by with_unfolding_all exact rfl
theorem poP_ref {k : Nat} (h : isLst s n = some l) (hk : l[k]? = some x) (h2 : (k : Int) < 2 ^ 63) : poP (.ref n) (.int (k : Int)) Q s = Q x (s.set n (.lst (l.eraseIdx k))) := by
  unfold poP popD
  have hl := (List.getElem?_eq_some_iff.mp hk).1
  simp only [h, ixOf_nat hl, hk]
  rw [if_pos ⟨by omega, h2⟩]
  rfl
theorem ev_ext : ev X (.ext a b) ρ Q s = ev X a ρ (kExt1 X b ρ Q) s := by
  with_unfolding_all exact wp_ext
theorem kExt1_ap : kExt1 X b ρ Q x s = brB (isL s x) (ev X b ρ (kExt2 x Q)) tF s := by with_unfolding_all exact rfl
theorem kExt2_ap : kExt2 x Q y s = exP x y Q s := by with_unfolding_all exact rfl
theorem exP_ref {r : List D} (h : isLst s n = some l) (h' : isLst s m = some r) (hz : l.length + r.length ≤ sizeLine) : exP (.ref n) (.ref m) Q s = Q .non (s.set n (.lst (l ++ r))) := by
  unfold exP extD
  simp only [h, h']
  rw [if_pos hz]
  rfl
theorem isL_ref (h : isLst s n = some l) : isL s (.ref n) = true := by
  unfold isL
  simp only [h, Option.isSome_some]
theorem ev_meth {m : Me} {es : List WL.E} : ev X (.meth m a es) ρ Q s = ev X a ρ (kMe1 X m es ρ Q) s := by with_unfolding_all exact wp_meth
theorem kMe1_ap {m : Me} {es : List WL.E} : kMe1 X m es ρ Q x s = brB (meT m s x) (evs X es ρ (kMe2 m x Q)) tF s := by with_unfolding_all exact rfl
theorem kMe2_ap {m : Me} : kMe2 m x Q ds s = meP m x ds Q s := by with_unfolding_all exact rfl
theorem ev_dnew : ev X .dnew ρ Q s = Q (.ref s.length) (s ++ [.dct []]) := by with_unfolding_all exact wp_dnew
theorem meT_str {m : Me} {w : Str} : meT m s (.str w) = m.isT := by
  unfold meT
  cases m.isT <;> rfl
theorem meT_gd {m : Me} {ks : List Str} {vs : List D} : meT m s (.gd ks vs) = !m.isT := by
  unfold meT
  cases m.isT <;> rfl
theorem isT_join : Me.join.isT = true := rfl
theorem isT_split : Me.split.isT = true := rfl
theorem isT_zfill : Me.zfill.isT = true := rfl
theorem isT_part : Me.part.isT = true := rfl
theorem isT_upper : Me.upper.isT = true := rfl
theorem isT_find : Me.find.isT = true := rfl
theorem isT_count : Me.count.isT = true := rfl
theorem isT_get : Me.get.isT = false := rfl
theorem isT_dpop : Me.dpop.isT = false := rfl
theorem meT_ref {m : Me} : meT m s (.ref n) = (!m.isT && (isDct s n).isSome) := by
  unfold meT
  cases m.isT <;> rfl
theorem meP_get1 : meP .get x [y] Q s = gtP (lookD s x y) .non Q s := by
  unfold meP gtP
  simp only [meD]
  cases lookD s x y <;> rfl
theorem meP_get2 : meP .get x [y, z] Q s = gtP (lookD s x y) z Q s := by
  unfold meP gtP
  simp only [meD]
  cases lookD s x y <;> rfl
theorem gtP_some {o : Option D} : gtP (some o) z Q s = Q (o.getD z) s := by with_unfolding_all exact rfl
theorem lookD_gd {ks : List Str} {vs : List D} {w : Str} : lookD s (.gd ks vs) (.str w) = some (valD (ks.zip vs) w) := by with_unfolding_all exact rfl
theorem ev_lc {elt : WL.E} {tg : Tg} {it : It} {ifs : List WL.E} {own : List Nat} : ev X (.lc elt tg it ifs own) ρ Q s = evI X it ρ (kLc X elt tg ifs own ρ Q) s := by with_unfolding_all exact wp_lc
theorem kLc_ap {elt : WL.E} {tg : Tg} {ifs : List WL.E} {own : List Nat} {w : Walk} : kLc X elt tg ifs own ρ Q w s = lcP X elt tg ifs own ρ w Q s := by with_unfolding_all exact rfl
theorem evI_val : evI X (.val a) ρ Kw s = ev X a ρ (kVal Kw) s := by
  unfold ev evI
  rw [wp_ival]
  congr 1
theorem kVal_ap : kVal Kw x s = wO (walkS s x) Kw s := by with_unfolding_all exact rfl
theorem walk_tup : walkOf s (.tup l) = some ⟨[], l⟩ := by with_unfolding_all exact rfl
theorem walk_frz {l : List Int} : walkOf s (.frz l) = some ⟨[], l.map .int⟩ := by with_unfolding_all exact rfl
theorem walk_ref (h : isLst s n = some l) : walkOf s (.ref n) = some ⟨[(n, l)], l⟩ := by
  show (isLst s n).map _ = _
  rw [h]
  rfl
theorem walkS_tup : walkS s (.tup l) = some ⟨[], l⟩ := by with_unfolding_all exact rfl
theorem walkS_frz {l : List Int} : walkS s (.frz l) = some ⟨[], l.map .int⟩ := by with_unfolding_all exact rfl
theorem walkS_ref : walkS s (.ref n) = walkOf s (.ref n) := by with_unfolding_all exact rfl
theorem walkS_str {w : Str} : walkS s (.str w) = some ⟨[], w.cps.toList.map fun c => .str ⟨#[c]⟩⟩ := by with_unfolding_all exact rfl
theorem evI_rng : evI X (.rng es) ρ Kw s = evs X es ρ (kRng Kw) s := by with_unfolding_all exact wp_irng
theorem kRng_ap : kRng Kw l s = rgW (rngD l) Kw s := by with_unfolding_all exact rfl
theorem rgW_some : rgW (some l) Kw s = Kw ⟨[], l⟩ s := by with_unfolding_all exact rfl
theorem evI_enm : evI X (.enm a) ρ Kw s = ev X a ρ (kEnm Kw) s := by with_unfolding_all exact wp_ienm
theorem kEnm_ap : kEnm Kw x s = enW (walkS s x) Kw s := by with_unfolding_all exact rfl
theorem enW_some {w : Walk} : enW (some w) Kw s = Kw (enmOf w) s := by with_unfolding_all exact rfl
theorem evI_zip : evI X (.zip a b) ρ Kw s = ev X a ρ (kZip1 X b ρ Kw) s := by
  with_unfolding_all exact wp_izip
theorem kZip1_ap : kZip1 X b ρ Kw x s = ev X b ρ (kZip2 x Kw) s := by with_unfolding_all exact rfl
theorem kZip2_ap : kZip2 x Kw y s = ziW x y Kw s := by with_unfolding_all exact rfl
theorem ziW_tup {m : List D} : ziW (.tup l) (.tup m) Kw s = Kw (zipOf ⟨[], l⟩ ⟨[], m⟩) s := by with_unfolding_all exact rfl
theorem ziW_ref {r : List D} (h : isLst s n = some l) (h' : isLst s m = some r) : ziW (.ref n) (.ref m) Kw s = Kw (zipOf ⟨[(n, l)], l⟩ ⟨[(m, r)], r⟩) s := by
  unfold ziW
  rw [walk_ref h, walk_ref h']
  rfl
theorem ziW_mix {r : List D} (h : isLst s n = some l) : ziW (.ref n) (.tup r) Kw s = Kw (zipOf ⟨[(n, l)], l⟩ ⟨[], r⟩) s := by
  unfold ziW
  rw [walk_ref h, walk_tup]
  rfl
theorem rng1 (h : small i = true) : rngD [.int i] = some (rngL 0 i) := if_pos h
theorem rng2 (h : small i = true) (h' : small j = true) : rngD [.int i, .int j] = some (rngL i j) := if_pos (by rw [h, h']; rfl)
theorem small_of (h1 : -4611686018427387904 ≤ i) (h2 : i < 4611686018427387904) : small i = true := by
  unfold small
  rw [Bool.and_eq_true, decide_eq_true_eq, decide_eq_true_eq]
  exact ⟨by omega, by omega⟩
theorem asg_nm : asg X (.nm n) x ρ N s = N (ρ.set n (some x)) s := by with_unfolding_all exact wp_nm
theorem asg_tup {ts : List Tg} (h : l.length = ts.length) : asg X (.tup ts) (.tup l) ρ N s = asgs X ts l ρ N s := by
  unfold asg asgs
  rw [wp_ttup]
  exact if_pos h
theorem asg_ref {ts : List Tg} (h' : isLst s n = some l) (h : l.length = ts.length) : asg X (.tup ts) (.ref n) ρ N s = asgs X ts l ρ N s := by
  unfold asg asgs
  rw [wp_tref, h']
  exact if_pos h
theorem asgs_nil : asgs X [] [] ρ N s = N ρ s := by with_unfolding_all exact wp_tnil
theorem asgs_cons {t : Tg} {ts : List Tg} : asgs X (t :: ts) (x :: ds) ρ N s = asg X t x ρ (kTs X ts ds N) s := by with_unfolding_all exact wp_tcons
theorem kTs_ap {ts : List Tg} : kTs X ts ds N ρ s = asgs X ts ds ρ N s := by with_unfolding_all exact rfl
theorem asg_sub : asg X (.sub a b) v ρ N s = ev X a ρ (kSub1 X b v ρ N) s := by with_unfolding_all exact wp_tsub
theorem kSub1_ap : kSub1 X b v ρ N x s = ev X b ρ (kSub2 x v ρ N) s := by with_unfolding_all exact rfl
theorem kSub2_ap : kSub2 x v ρ N y s = stP x y v ρ N s := by with_unfolding_all exact rfl
theorem stP_ref {k : Nat} (h : isLst s n = some l) (hk : k < l.length) : stP (.ref n) (.int (k : Int)) v ρ N s = N ρ (s.set n (.lst (l.set k v))) := by
  unfold stP setD
  simp only [h, ixOf_nat hk]
  rfl
theorem blk_nil : blk X [] ρ E s = E.nx ρ s := by with_unfolding_all exact wps_nil
theorem blk_cons {w : S} {xs : List S} : blk X (w :: xs) ρ E s = st X w ρ (kSeq X xs E) s := by with_unfolding_all exact wps_cons
theorem kSeq_nx {xs : List S} : (kSeq X xs E).nx ρ s = blk X xs ρ E s := by with_unfolding_all exact rfl
theorem kSeq_rt {xs : List S} : (kSeq X xs E).rt = E.rt := by with_unfolding_all exact rfl
theorem kSeq_bk {xs : List S} : (kSeq X xs E).bk = E.bk := by with_unfolding_all exact rfl
theorem kSeq_ct {xs : List S} : (kSeq X xs E).ct = E.ct := by with_unfolding_all exact rfl
theorem st_asg {t : Tg} : st X (.asg t e) ρ E s = ev X e ρ (kAsg X t ρ s E) s := by with_unfolding_all exact wps_asg
theorem kAsg_ap {t : Tg} : kAsg X t ρ s0 E x s = asg X t x ρ E.nx (trunc s0 x s) := by with_unfolding_all exact rfl
theorem st_par {is : List Nat} : st X (.par is es) ρ E s = evs X es ρ (kPar is ρ s E) s := by with_unfolding_all exact wps_par
theorem kPar_ap {is : List Nat} : kPar is ρ s0 E l s = br (l.length = is.length) (tN (parSet is l ρ) (trunc s0 (.tup l) s) E.nx) tF s := by with_unfolding_all exact rfl
theorem st_aug {op : Operator} : st X (.aug n op e) ρ E s = vE ρ[n]? (kAug1 X n op e ρ E) s := by
  unfold st
  rw [wps_aug]
  cases ρ[n]? with
  | none => rfl
  | some o =>
    cases o with
    | none => rfl
    | some d =>
      cases d with
      | int x =>
        show _ = ev X e ρ _ s
        simp only [onE, onI]
        unfold ev
        congr 1
        funext d s1
        cases d <;> rfl
      | _ => rfl
theorem kAug1_ap {op : Operator} : kAug1 X n op e ρ E (.int i) s = ev X e ρ (kAug2 n op (.int i) ρ s E) s := by with_unfolding_all exact rfl
theorem kAug2_ap {op : Operator} : kAug2 n op (.int i) ρ s0 E (.int j) s = E.nx (ρ.set n (some (.int (aop op i j)))) (trunc s0 .non s) := by with_unfolding_all exact rfl
theorem st_augS {op : Operator} : st X (.augS a b op e) ρ E s = ev X a ρ (kAs1 X op b e ρ E) s := by
  unfold st
  rw [wps_augS]
  unfold ev
  congr 1
  funext a s
  show _ = ev X b ρ (kAs2 X op a e ρ E) s
  unfold ev
  congr 1
  funext k s
  show BrB (isL s a) _ _ = brB (isL s a) _ _ _
  cases isL s a
  · rfl
  · show onO (ixD s a k) _ = vO (ixD s a k) _ s
    cases ixD s a k with
    | none => rfl
    | some d =>
      cases d with
      | int i =>
        show _ = ev X e ρ (kAs4 op a k (.int i) ρ E) s
        unfold ev
        show WpR _ _ = WpR _ _
        congr 1
        funext y s
        cases y <;> rfl
      | _ => rfl
theorem kAs1_ap {op : Operator} : kAs1 X op b e ρ E x s = ev X b ρ (kAs2 X op x e ρ E) s := by with_unfolding_all exact rfl
theorem kAs2_ap {op : Operator} : kAs2 X op x e ρ E y s = brB (isL s x) (tIx x y (kAs3 X op x y e ρ E)) tF s := by with_unfolding_all exact rfl
theorem tIx_ap : tIx x y Q s = vO (ixD s x y) Q s := by with_unfolding_all exact rfl
theorem kAs3_ap {op : Operator} : kAs3 X op x y e ρ E (.int i) s = ev X e ρ (kAs4 op x y (.int i) ρ E) s := by with_unfolding_all exact rfl
theorem kAs4_ap {op : Operator} : kAs4 op x y (.int i) ρ E (.int j) s = stP x y (.int (aop op i j)) ρ E.nx s := by with_unfolding_all exact rfl
theorem st_expr : st X (.expr e) ρ E s = ev X e ρ (kExpr ρ s E) s := by with_unfolding_all exact wps_expr
theorem kExpr_ap : kExpr ρ s0 E x s = E.nx ρ (trunc s0 .non s) := by with_unfolding_all exact rfl
theorem st_ret : st X (.ret e) ρ E s = ev X e ρ (kRet s E) s := by with_unfolding_all exact wps_ret
theorem kRet_ap : kRet s0 E x s = E.rt x (trunc s0 x s) := by with_unfolding_all exact rfl
theorem st_retN : st X .retN ρ E s = E.rt .non s := by with_unfolding_all exact wps_retN
theorem st_iff {p q : List S} : st X (.iff c p q) ρ E s = ev X c ρ (kIf X p q ρ s E) s := by with_unfolding_all exact wps_iff
theorem kIf_ap {p q : List S} : kIf X p q ρ s0 E x s = brO (truth s x) (blk X p ρ E) (blk X q ρ E) (trunc s0 .non s) := by with_unfolding_all exact rfl
theorem st_brk : st X .brk ρ E s = E.bk ρ s := by with_unfolding_all exact wps_brk
theorem st_cnt : st X .cnt ρ E s = E.ct ρ s := by with_unfolding_all exact wps_cnt
theorem st_pass : st X .pass ρ E s = E.nx ρ s := by with_unfolding_all exact wps_pass
theorem st_for {t : Tg} {it : It} {p : List S} : st X (.for t it p) ρ E s = evI X it ρ (kFor X t p ρ E) s := by with_unfolding_all exact wps_for
theorem kFor_ap {t : Tg} {p : List S} {w : Walk} : kFor X t p ρ E w s = forP X t p w w.its ρ E s := by with_unfolding_all exact rfl
theorem st_whl {p : List S} : st X (.whl c p) ρ E s = whlP X c p X.F ρ E s := by with_unfolding_all exact wps_whl
theorem forP_nil {t : Tg} {p : List S} {w : Walk} (h : w.stays s = true) : forP X t p w [] ρ E s = E.nx ρ s := by
  unfold forP forGo
  rw [if_pos h]
  rfl
theorem for_inv {t : Tg} {p : List S} {w : Walk} {its : List D} (I : List D → Env → Store → Prop) (h0 : I its ρ s) (hs : ∀ l ρ s, I l ρ s → w.stays s = true)
    (ht : ∀ x l ρ s, I (x :: l) ρ s → asg X t x ρ (kBody X p { nx := fun ρ s => I l ρ s, ct := fun ρ s => I l ρ s, bk := E.nx, rt := E.rt }) s)
    (he : ∀ ρ s, I [] ρ s → E.nx ρ s) : forP X t p w its ρ E s := by
  have h := wps_forI (w := ⟨w.chk, its⟩) (f := fun x ρ s => (asgT X.C X.G t x ρ s).stm ρ fun ρ s => exB X.C X.G X.F p ρ s) (E := E) I h0 (fun l ρ s h => hs l ρ s h) (fun x l ρ s h => by rw [WpS_stm]; have q := ht x l ρ s h; unfold asg kBody blk at q; exact q) he
  unfold forP
  have e : ∀ (l : List D) (ρ : Env) (s : Store), forGo ⟨w.chk, its⟩ (fun x ρ s => (asgT X.C X.G t x ρ s).stm ρ fun ρ s => exB X.C X.G X.F p ρ s) l ρ s = forGo w (fun x ρ s => (asgT X.C X.G t x ρ s).stm ρ fun ρ s => exB X.C X.G X.F p ρ s) l ρ s := by
    intro l
    induction l with
    | nil => intro ρ s; rfl
    | cons x l ih =>
      intro ρ s
      unfold forGo
      have es : (Walk.mk w.chk its).stays s = w.stays s := rfl
      rw [es]
      split
      · split <;> first | exact ih _ _ | rfl
      · rfl
  rw [← e]
  exact h
theorem kBody_ap {p : List S} : kBody X p E ρ s = blk X p ρ E s := by with_unfolding_all exact rfl
theorem whl_inv {p : List S} {F : Nat} (I : Nat → Env → Store → Prop) {n : Nat} (h0 : I n ρ s) (hn : n < F)
    (ht : ∀ n ρ s, I n ρ s → ev X c ρ (kWh X p ρ s { nx := fun ρ s => ∃ m, m < n ∧ I m ρ s, ct := fun ρ s => ∃ m, m < n ∧ I m ρ s, bk := E.nx, rt := E.rt } E) s) : whlP X c p F ρ E s := by
  unfold whlP
  induction F generalizing n ρ s with
  | zero => omega
  | succ F ih =>
    unfold whlGo
    rw [WpS_stm, wp_tst]
    have h := ht n ρ s h0
    unfold ev at h
    refine WpR_mono h fun x s1 hx => ?_
    unfold kWh at hx
    cases ht : truth s1 x with
    | none => rw [ht] at hx; exact hx.elim
    | some b =>
      rw [ht] at hx
      cases b with
      | false => exact hx
      | true =>
        show WpS (match exB X.C X.G X.F p ρ (trunc s D.non s1) with
          | .nx ρ s => whlGo (tst X.C X.G c) (exB X.C X.G X.F p) F ρ s
          | .cnt ρ s => whlGo (tst X.C X.G c) (exB X.C X.G X.F p) F ρ s
          | .brk ρ s => .nx ρ s
          | r => r) E
        have h : WpS (exB X.C X.G X.F p ρ (trunc s D.non s1)) { nx := fun ρ s => ∃ m, m < n ∧ I m ρ s, ct := fun ρ s => ∃ m, m < n ∧ I m ρ s, bk := E.nx, rt := E.rt } := by
          have hx : blk X p ρ { nx := fun ρ s => ∃ m, m < n ∧ I m ρ s, ct := fun ρ s => ∃ m, m < n ∧ I m ρ s, bk := E.nx, rt := E.rt } (trunc s D.non s1) := hx
          unfold blk at hx
          exact hx
        cases hf : exB X.C X.G X.F p ρ (trunc s D.non s1) with
        | nx ρ2 s2 => rw [hf] at h; obtain ⟨m, hm, h⟩ := h; exact ih h (by omega)
        | cnt ρ2 s2 => rw [hf] at h; obtain ⟨m, hm, h⟩ := h; exact ih h (by omega)
        | brk ρ2 s2 => rw [hf] at h; exact h
        | ret d s2 => rw [hf] at h; exact h
        | exc c w ρ2 s2 => rw [hf] at h; exact h
        | bad => rw [hf] at h; exact h
theorem kWh_ap {p : List S} {E1 : En} : kWh X p ρ s0 E1 E x s = brO (truth s x) (blk X p ρ E1) (tNx ρ E) (trunc s0 .non s) := by with_unfolding_all exact rfl
theorem tNx_ap : tNx ρ E s = E.nx ρ s := by with_unfolding_all exact rfl
theorem lc_inv {elt : WL.E} {tg : Tg} {ifs : List WL.E} {own : List Nat} {w : Walk} (I : List D → List D → Store → Prop) (h0 : I w.its [] s)
    (hl : ∀ r acc s2, I r acc s2 → s2.length = s.length ∧ w.stays (s2 ++ [.lst acc]) = true ∧ acc.length + r.length < sizeLine)
    (ht : ∀ x r acc s2, I (x :: r) acc s2 → WpR (lcT X.C X.G elt tg ifs own ρ x (s2 ++ [.lst acc])) fun o s3 => ∃ s4, s3 = s4 ++ [.lst acc] ∧ I r (acc ++ o.toList) s4)
    (he : ∀ acc s2, I [] acc s2 → Q (.ref s.length) (s2 ++ [.lst acc])) : lcP X elt tg ifs own ρ w Q s := by
  unfold lcP
  have go : ∀ (r acc : List D) (s2 : Store), I r acc s2 → WpR (lcGo w s.length (lcT X.C X.G elt tg ifs own ρ) r (s2 ++ [.lst acc])) Q := by
    intro r
    induction r with
    | nil =>
      intro acc s2 h
      obtain ⟨h1, h2, _⟩ := hl _ _ _ h
      unfold lcGo
      rw [if_pos h2]
      exact he _ _ h
    | cons x r ih =>
      intro acc s2 h
      obtain ⟨h1, h2, h3⟩ := hl _ _ _ h
      unfold lcGo
      rw [if_pos h2, WpR_bind, wp_quiet]
      refine WpR_mono (ht _ _ _ _ h) fun o s3 ⟨s4, e, hI⟩ => ?_
      subst e
      obtain ⟨g1, _, _⟩ := hl _ _ _ hI
      cases o with
      | none =>
        simp only [Option.toList, List.append_nil] at hI
        exact ih _ _ hI
      | some d =>
        have e1 : isLst (s4 ++ [Cell.lst acc]) s.length = some acc := by rw [isLst_new0 g1]; rfl
        have hz : acc.length < sizeLine := by omega
        simp only [e1]
        rw [if_pos hz, set_new0 g1]
        exact ih _ _ hI
  exact go _ _ _ h0
end
abbrev mx (P : Prog) (G : Globs) (F k : Nat) : Mx := ⟨callF P G F k, G, F⟩
def kEnd' (s : Store) (Q : KQ) : En := ⟨fun _ s1 => Q .non (trunc s .non s1), fun d s1 => Q d (trunc s d s1), fun _ _ => False, fun _ _ => False⟩
theorem kEnd_nx {s s1 : Store} {Q : KQ} {ρ : Env} : (kEnd' s Q).nx ρ s1 = Q .non (trunc s .non s1) := by with_unfolding_all exact rfl
theorem kEnd_rt {s s1 : Store} {Q : KQ} {d : D} : (kEnd' s Q).rt d s1 = Q d (trunc s d s1) := by with_unfolding_all exact rfl
theorem cl_fd {P : Prog} {G : Globs} {F k f : Nat} {fd : FD} {ds : List D} {s : Store} {Q : KQ} (h : P f = some fd) (hl : ds.length = fd.np)
    (h2 : blk (mx P G F k) fd.body (ds.map some ++ List.replicate (fd.nv - fd.np) none) (kEnd' s Q) s) : cl (mx P G F (k + 1)) f ds Q s := by
  unfold blk at h2
  unfold cl
  exact wp_callF h hl h2
end WL
namespace WL
open PySem
theorem cN0 : ((0 : Nat) : Int) = 0 := rfl
theorem cN1 : ((1 : Nat) : Int) = 1 := rfl
theorem cN2 : ((2 : Nat) : Int) = 2 := rfl
theorem cN3 : ((3 : Nat) : Int) = 3 := rfl
theorem cN4 : ((4 : Nat) : Int) = 4 := rfl
theorem cN5 : ((5 : Nat) : Int) = 5 := rfl
theorem cN6 : ((6 : Nat) : Int) = 6 := rfl
theorem cN7 : ((7 : Nat) : Int) = 7 := rfl
theorem cN8 : ((8 : Nat) : Int) = 8 := rfl
theorem cN9 : ((9 : Nat) : Int) = 9 := rfl
theorem cN10 : ((10 : Nat) : Int) = 10 := rfl
theorem cN11 : ((11 : Nat) : Int) = 11 := rfl
theorem cN12 : ((12 : Nat) : Int) = 12 := rfl
theorem cN13 : ((13 : Nat) : Int) = 13 := rfl
theorem cN14 : ((14 : Nat) : Int) = 14 := rfl
theorem cN15 : ((15 : Nat) : Int) = 15 := rfl
theorem line_big : 1000000 < PySem.sizeLine := by decide
theorem line_ok {n : Nat} (h : n ≤ 1000000) : (n ≤ PySem.sizeLine) = True := eq_true (Nat.le_of_lt (Nat.lt_of_le_of_lt h line_big))
theorem line_lt {n : Nat} (h : n ≤ 1000000) : (n < PySem.sizeLine) = True := eq_true (Nat.lt_of_le_of_lt h line_big)
def apL (o : Option (List D)) (n : Nat) (y : D) (Q : KQ) (s : Store) : Prop := onO o fun l => br (l.length < sizeLine) (tK .non (s.set n (.lst (l ++ [y]))) Q) tF s
def stI (o : Option Nat) (l : List D) (n : Nat) (v : D) (ρ : Env) (N : KN) (s : Store) : Prop := onO o fun j => N ρ (s.set n (.lst (l.set j v)))
def stK (o : Option (List (L2.Key × D))) (k : Option L2.Key) (n : Nat) (v : D) (ρ : Env) (N : KN) (s : Store) : Prop := onO o fun l => onO k fun k => br (l.length < sizeLine) (tN ρ (s.set n (.dct (putD l k v))) N) tF s
def stL (o : Option (List D)) (n : Nat) (i : Int) (v : D) (ρ : Env) (N : KN) (s : Store) : Prop := match o with
  | some l => stI (ixOf l.length i) l n v ρ N s
  | none => stK (isDct s n) (some (.inl i)) n v ρ N s
def slL (o : Option (List D)) (lo hi : Option Int) (Q : KQ) (s : Store) : Prop := onO o fun l => br ((cutD l lo hi).length ≤ sizeLine) (tNew (cutD l lo hi) Q) tF s
def lnD (o : Option (List (L2.Key × D))) (Q : KQ) (s : Store) : Prop := onO o fun l => Q (.int l.length) s
def lnL (o : Option (List D)) (n : Nat) (Q : KQ) (s : Store) : Prop := match o with
  | some l => Q (.int l.length) s
  | none => lnD (isDct s n) Q s
def ixR (s : Store) (n : Nat) (i : Int) : Option (List D) → Option D
  | some l => atD l i
  | none => (lookD s (.ref n) (.int i)).bind id
def tpL (o : Option (List D)) (Q : KQ) (s : Store) : Prop := onO o fun l => Q (.tup l) s
def lsL (o : Option (List D)) (Q : KQ) (s : Store) : Prop := onO o fun l => br (l.length ≤ sizeLine) (tNew l Q) tF s
def adL (o p : Option (List D)) (Q : KQ) (s : Store) : Prop := onO o fun l => onO p fun m => br (l.length + m.length ≤ sizeLine) (tNew (l ++ m) Q) tF s
def atL (X : Mx) (o : Option (List D)) (ts : List Tg) (ρ : Env) (N : KN) (s : Store) : Prop := onO o fun l => Br (l.length = ts.length) (asgs X ts l ρ N s) False
def poX (o : Option D) (s' : Store) (Q : KQ) (s : Store) : Prop := onO o fun d => Q d s'
def poT (o : Option Nat) (l : List D) (n : Nat) (Q : KQ) (s : Store) : Prop := onO o fun k => poX l[k]? (s.set n (.lst (l.eraseIdx k))) Q s
def poC (l : List D) (n : Nat) (i : Int) (Q : KQ) : Th := fun s => poT (ixOf l.length i) l n Q s
def poL (o : Option (List D)) (n : Nat) (i : Int) (Q : KQ) (s : Store) : Prop := onO o fun l => br (-9223372036854775808 ≤ i ∧ i < 9223372036854775808) (poC l n i Q) tF s
def wkL (o : Option (List D)) (n : Nat) : Option Walk := o.map fun l => ⟨[(n, l)], l⟩
section
variable {X : Mx} {ρ : Env} {Q : KQ} {s : Store} {x y v : D} {N : KN} {i j : Int} {n m k : Nat} {l r : List D}
theorem apP_any : apP (.ref n) y Q s = apL (isLst s n) n y Q s := by
  unfold apP appD apL
  dsimp only
  cases isLst s n with
  | none => rfl
  | some l =>
    show WpR (if l.length < sizeLine then _ else _) Q = br _ _ _ s
    unfold br
    split <;> rfl
theorem apL_some : apL (some l) n y Q s = br (l.length < sizeLine) (tK .non (s.set n (.lst (l ++ [y]))) Q) tF s := by with_unfolding_all exact rfl
theorem stK_at {k y : D} : WpR (setK n k y s) (fun _ s => N ρ s) = stK (isDct s n) (keyD k) n y ρ N s := by
  unfold setK stK
  cases isDct s n with
  | none => rfl
  | some l =>
    cases keyD k with
    | none => rfl
    | some kk =>
      show WpR (if l.length < sizeLine then _ else _) _ = br _ _ _ s
      unfold br
      split <;> rfl
theorem stP_any : stP (.ref n) (.int i) v ρ N s = stL (isLst s n) n i v ρ N s := by
  unfold stP setD stL stI
  dsimp only
  cases isLst s n with
  | none => exact stK_at
  | some l =>
    dsimp only [onO]
    cases ixOf l.length i <;> rfl
theorem stP_key {w : Str} : stP (.ref n) (.str w) v ρ N s = stK (isDct s n) (some (.inr w)) n v ρ N s := by
  unfold stP
  exact stK_at
theorem stK_some {l : List (L2.Key × D)} {k : L2.Key} : stK (some l) (some k) n v ρ N s = br (l.length < sizeLine) (tN ρ (s.set n (.dct (putD l k v))) N) tF s := by with_unfolding_all exact rfl
theorem stL_none : stL none n i v ρ N s = stK (isDct s n) (some (.inl i)) n v ρ N s := by with_unfolding_all exact rfl
theorem stL_some : stL (some l) n i v ρ N s = stI (ixOf l.length i) l n v ρ N s := by with_unfolding_all exact rfl
theorem stI_some : stI (some k) l n v ρ N s = N ρ (s.set n (.lst (l.set k v))) := by with_unfolding_all exact rfl
theorem slP_any {lo hi : Option Int} : slP (.ref n) lo hi Q s = slL (isLst s n) lo hi Q s := by
  unfold slP sliceD slL
  dsimp only
  cases isLst s n with
  | none => rfl
  | some l =>
    show WpR (newLst _ _) Q = br _ _ _ s
    unfold newLst br
    split <;> rfl
theorem slL_some {lo hi : Option Int} : slL (some l) lo hi Q s = br ((cutD l lo hi).length ≤ sizeLine) (tNew (cutD l lo hi) Q) tF s := by with_unfolding_all exact rfl
def rvL (o : Option (List D)) (Q : KQ) (s : Store) : Prop := match o with
  | some l => br (l.length ≤ sizeLine) (tNew l.reverse Q) tF s
  | none => False
theorem rvP_tup : rvP (.tup l) Q s = Q (.tup l.reverse) s := by with_unfolding_all exact rfl
theorem rvP_any : rvP (.ref n) Q s = rvL (isLst s n) Q s := by
  unfold rvP revD rvL
  dsimp only
  cases isLst s n with
  | none => rfl
  | some l =>
    show WpR (newLst _ _) Q = br _ _ _ s
    unfold newLst br
    rw [List.length_reverse]
    split <;> rfl
theorem rvL_some {l : List D} : rvL (some l) Q s = br (l.length ≤ sizeLine) (tNew l.reverse Q) tF s := by with_unfolding_all exact rfl
theorem slP_frz {lo hi : Option Int} {z : List Int} : slP (.frz z) lo hi Q s = br ((cutD (z.map .int) lo hi).length ≤ sizeLine) (tNew (cutD (z.map .int) lo hi) Q) tF s := by
  show WpR (newLst _ _) Q = _
  unfold newLst br
  split <;> rfl
theorem biP_len : biP .len [.ref n] Q s = lnL (isLst s n) n Q s := by
  unfold biP biD lnL
  dsimp only [items]
  cases isLst s n with
  | some l => rfl
  | none =>
    unfold lnD
    dsimp only
    cases isDct s n <;> rfl
theorem lnL_none : lnL none n Q s = lnD (isDct s n) Q s := by with_unfolding_all exact rfl
theorem lnD_some {l : List (L2.Key × D)} : lnD (some l) Q s = Q (.int l.length) s := by with_unfolding_all exact rfl
theorem lnL_some : lnL (some l) n Q s = Q (.int l.length) s := by with_unfolding_all exact rfl
theorem biP_tup : biP .tuple [.ref n] Q s = tpL (isLst s n) Q s := by
  unfold biP biD tpL
  dsimp only [items]
  cases isLst s n <;> rfl
theorem tpL_some : tpL (some l) Q s = Q (.tup l) s := by with_unfolding_all exact rfl
theorem biP_lst : biP .list [.ref n] Q s = lsL (isLst s n) Q s := by
  unfold biP biD lsL
  dsimp only [items]
  cases isLst s n with
  | none => rfl
  | some l =>
    show WpR (newLst _ _) Q = br _ _ _ s
    unfold newLst br
    split <;> rfl
theorem lsL_some : lsL (some l) Q s = br (l.length ≤ sizeLine) (tNew l Q) tF s := by with_unfolding_all exact rfl
theorem biP_lstT : biP .list [.tup l] Q s = br (l.length ≤ sizeLine) (tNew l Q) tF s := by
  show WpR (newLst _ _) Q = _
  unfold newLst br
  split <;> rfl
theorem opB_addr : opB .Add (.ref n) (.ref m) Q s = adL (isLst s n) (isLst s m) Q s := by
  unfold opB binop adL
  dsimp only
  cases isLst s n with
  | none => rfl
  | some l =>
    cases isLst s m with
    | none => rfl
    | some r =>
      show WpR (if _ then newLst _ _ else _) Q = br _ _ _ s
      unfold newLst br
      split
      · rename_i h
        rw [if_pos (by rw [List.length_append]; exact h)]
        rfl
      · rfl
theorem adL_some : adL (some l) (some r) Q s = br (l.length + r.length ≤ sizeLine) (tNew (l ++ r) Q) tF s := by with_unfolding_all exact rfl
theorem poP_any : poP (.ref n) (.int i) Q s = poL (isLst s n) n i Q s := by
  unfold poP popD poL poC poT poX
  dsimp only
  cases isLst s n with
  | none => rfl
  | some l =>
    dsimp only [onO]
    have e : (-2 ^ 63 ≤ i ∧ i < 2 ^ 63) = (-9223372036854775808 ≤ i ∧ i < 9223372036854775808) := by
      simp
    unfold br
    by_cases h : -9223372036854775808 ≤ i ∧ i < 9223372036854775808
    · rw [if_pos h, if_pos (by rw [e]; exact h)]
      cases ixOf l.length i with
      | none => rfl
      | some k =>
        dsimp only
        cases l[k]? <;> rfl
    · rw [if_neg h, if_neg (by rw [e]; exact h)]
      rfl
theorem poL_some : poL (some l) n i Q s = br (-9223372036854775808 ≤ i ∧ i < 9223372036854775808) (poC l n i Q) tF s := by with_unfolding_all exact rfl
theorem poC_ap : poC l n i Q s = poT (ixOf l.length i) l n Q s := by with_unfolding_all exact rfl
theorem poT_some : poT (some k) l n Q s = poX l[k]? (s.set n (.lst (l.eraseIdx k))) Q s := by with_unfolding_all exact rfl
theorem poX_some {s' : Store} : poX (some x) s' Q s = Q x s' := by with_unfolding_all exact rfl
theorem opB_e18 : opB .Pow (.int 10) (.int 18) Q s = Q (.int 1000000000000000000) s := by with_unfolding_all exact rfl
theorem opB_e12 : opB .Pow (.int 10) (.int 12) Q s = Q (.int 1000000000000) s := by with_unfolding_all exact rfl
theorem lrP_some : lrP (some l) Q s = br (l.length ≤ sizeLine) (tNew l Q) tF s := by with_unfolding_all exact rfl
theorem trP_some : trP (some l) Q s = br (l.length ≤ sizeLine) (tQ (.tup l) Q) tF s := by with_unfolding_all exact rfl
theorem isL_any : isL s (.ref n) = (isLst s n).isSome := by with_unfolding_all exact rfl
theorem asg_any {ts : List Tg} : asg X (.tup ts) (.ref n) ρ N s = atL X (isLst s n) ts ρ N s := by with_unfolding_all exact wp_tref
theorem atL_some {ts : List Tg} : atL X (some l) ts ρ N s = Br (l.length = ts.length) (asgs X ts l ρ N s) False := by with_unfolding_all exact rfl
theorem walk_any : walkOf s (.ref n) = wkL (isLst s n) n := by with_unfolding_all exact rfl
theorem wkL_some : wkL (some l) n = some ⟨[(n, l)], l⟩ := by with_unfolding_all exact rfl
theorem ixD_ref : ixD s (.ref n) (.int i) = ixR s n i (isLst s n) := by
  unfold ixR
  show (match items s (.ref n) with
    | some l => atD l i
    | none => (lookD s (.ref n) (.int i)).bind id) = _
  rw [items_ref]
theorem ixR_some {l : List D} : ixR s n i (some l) = atD l i := rfl
theorem ixD_tup : ixD s (.tup l) (.int i) = atD l i := by with_unfolding_all exact rfl
theorem ixD_frz {z : List Int} : ixD s (.frz z) (.int i) = atD (z.map .int) i := by with_unfolding_all exact rfl
theorem atD_0 {α : Type} {l : List α} : atD l 0 = l[0]? := atD_nat (k := 0)
theorem atD_1 {α : Type} {l : List α} : atD l 1 = l[1]? := atD_nat (k := 1)
theorem atD_2 {α : Type} {l : List α} : atD l 2 = l[2]? := atD_nat (k := 2)
theorem atD_3 {α : Type} {l : List α} : atD l 3 = l[3]? := atD_nat (k := 3)
theorem ixOf_0 : ixOf (n + 1) 0 = some 0 := ixOf_nat (k := 0) (by omega)
theorem ixOf_1 : ixOf (n + 2) 1 = some 1 := ixOf_nat (k := 1) (by omega)
theorem ixOf_2 : ixOf (n + 3) 2 = some 2 := ixOf_nat (k := 2) (by omega)
theorem mulOk_r (h1 : -18446744073709551616 < j) (h2 : j < 18446744073709551616) : (mulOk i j = true) = True := by
  unfold mulOk
  simp only [Bool.or_eq_true, Bool.and_eq_true, decide_eq_true_eq, eq_iff_iff, iff_true]
  exact .inr ⟨by omega, by omega⟩
theorem mulOk_l (h1 : -18446744073709551616 < i) (h2 : i < 18446744073709551616) : (mulOk i j = true) = True := by
  unfold mulOk
  simp only [Bool.or_eq_true, Bool.and_eq_true, decide_eq_true_eq, eq_iff_iff, iff_true]
  exact .inl ⟨by omega, by omega⟩
theorem divOk (h1 : 0 < j) (h2 : j < 18446744073709551616) : (j.natAbs.log2 < 9000) = True := by
  simp only [eq_iff_iff, iff_true]
  have : j.natAbs < 2 ^ 64 := by omega
  have h3 : j.natAbs ≠ 0 := by omega
  have := (Nat.log2_lt h3).mpr this
  omega
theorem Br_t {p q : Prop} : Br True p q = p := by with_unfolding_all exact if_pos trivial
theorem Br_f {p q : Prop} : Br False p q = q := by with_unfolding_all exact if_neg id
@[irreducible] def lcTP (X : Mx) (elt : E) (tg : Tg) (ifs : List E) (own : List Nat) (ρ : Env) (x : D) (K : Option D → Store → Prop) (s : Store) : Prop := WpR (lcT X.C X.G elt tg ifs own ρ x s) K
def kLcB (s0 : Store) (K : Option D → Store → Prop) : KQ := fun d s => K (some d) (trunc s0 d s)
def kLcA (X : Mx) (elt : E) (K : Option D → Store → Prop) : KN := fun ρ s => ev X elt ρ (kLcB s K) s
def tOn (K : Option D → Store → Prop) : Th := fun s => K none s
def tEl (X : Mx) (elt : E) (ρ : Env) (K : Option D → Store → Prop) : Th := fun s => ev X elt ρ (kLcB s K) s
def kLcD (X : Mx) (elt : E) (ρ : Env) (s0 : Store) (K : Option D → Store → Prop) : KQ := fun b s => brO (truth s b) (tEl X elt ρ K) (tOn K) (trunc s0 .non s)
def kLcC (X : Mx) (c elt : E) (K : Option D → Store → Prop) : KN := fun ρ s => ev X c ρ (kLcD X elt ρ s K) s
variable {elt c : E} {tg : Tg} {own : List Nat} {K : Option D → Store → Prop} {s0 : Store} {d : D}
theorem lcTP_0 : lcTP X elt tg [] own ρ x K s = asg X tg x (wipeE ρ own) (kLcA X elt K) s := by with_unfolding_all exact wp_lcT0
theorem kLcA_ap : kLcA X elt K ρ s = ev X elt ρ (kLcB s K) s := by with_unfolding_all exact rfl
theorem kLcB_ap : kLcB s0 K d s = K (some d) (trunc s0 d s) := by with_unfolding_all exact rfl
theorem lcTP_1 : lcTP X elt tg [c] own ρ x K s = asg X tg x (wipeE ρ own) (kLcC X c elt K) s := by with_unfolding_all exact wp_lcT1
theorem kLcC_ap : kLcC X c elt K ρ s = ev X c ρ (kLcD X elt ρ s K) s := by with_unfolding_all exact rfl
theorem kLcD_ap : kLcD X elt ρ s0 K d s = brO (truth s d) (tEl X elt ρ K) (tOn K) (trunc s0 .non s) := by with_unfolding_all exact rfl
theorem tEl_ap : tEl X elt ρ K s = ev X elt ρ (kLcB s K) s := by with_unfolding_all exact rfl
theorem tOn_ap : tOn K s = K none s := by with_unfolding_all exact rfl
theorem lc_go {elt : E} {tg : Tg} {ifs : List E} {own : List Nat} {w : Walk} (I : List D → List D → Store → Prop) (h0 : I w.its [] s)
    (hl : ∀ r acc s2, I r acc s2 → s2.length = s.length ∧ w.stays (s2 ++ [.lst acc]) = true ∧ acc.length + r.length < sizeLine)
    (ht : ∀ x r acc s2, I (x :: r) acc s2 → lcTP X elt tg ifs own ρ x (fun o s3 => ∃ s4, s3 = s4 ++ [.lst acc] ∧ I r (acc ++ o.toList) s4) (s2 ++ [.lst acc]))
    (he : ∀ acc s2, I [] acc s2 → Q (.ref s.length) (s2 ++ [.lst acc])) : lcP X elt tg ifs own ρ w Q s := lc_inv I h0 hl (fun x r acc s2 h => by have q := ht x r acc s2 h; unfold lcTP at q; exact q) he
theorem lc_pure {elt : E} {tg : Tg} {ifs : List E} {own : List Nat} {w : Walk} (f : D → Option D) (hs : ∀ acc, w.stays (s ++ [.lst acc]) = true) (hz : w.its.length < sizeLine)
    (ht : ∀ x ∈ w.its, ∀ acc, lcTP X elt tg ifs own ρ x (fun o s3 => o = f x ∧ s3 = s ++ [.lst acc]) (s ++ [.lst acc]))
    (hq : Q (.ref s.length) (s ++ [.lst (w.its.filterMap f)])) : lcP X elt tg ifs own ρ w Q s := by
  refine lc_go (fun r acc s2 => s2 = s ∧ ∃ dn, dn ++ r = w.its ∧ acc = dn.filterMap f) ⟨rfl, [], rfl, rfl⟩ ?_ ?_ ?_
  · rintro r acc s2 ⟨rfl, dn, e, rfl⟩
    refine ⟨rfl, hs _, ?_⟩
    have h1 := List.length_filterMap_le f dn
    have h2 := congrArg List.length e
    rw [List.length_append] at h2
    omega
  · rintro x r acc s2 ⟨rfl, dn, e, rfl⟩
    have hx : x ∈ w.its := by rw [← e]; simp
    have q := ht x hx (dn.filterMap f)
    unfold lcTP at q ⊢
    refine WpR_mono q fun o s3 ⟨h1, h2⟩ => ⟨_, h2, rfl, dn ++ [x], by rw [← e]; simp, ?_⟩
    subst h1
    rw [List.filterMap_append]
    have e2 : List.filterMap f [x] = (f x).toList := by
      rw [List.filterMap_cons]
      cases f x <;> rfl
    rw [e2]
  · rintro acc s2 ⟨rfl, dn, e, rfl⟩
    rw [List.append_nil] at e
    rw [e]
    exact hq
theorem cut_from {i : Int} (h : 0 ≤ i) : cutD l (some i) none = l.drop i.toNat := by
  unfold cutD endOf
  simp only
  rw [if_neg (by omega)]
  have e : l.drop (min i.toNat l.length) = l.drop i.toNat := by
    by_cases hi : i.toNat ≤ l.length
    · rw [Nat.min_eq_left hi]
    · rw [Nat.min_eq_right (by omega), List.drop_length, List.drop_eq_nil_of_le (by omega)]
  rw [e]
  exact List.take_of_length_le (by rw [List.length_drop]; omega)
theorem cut_to {i : Int} (h : 0 ≤ i) : cutD l none (some i) = l.take i.toNat := by
  unfold cutD endOf
  simp only
  rw [if_neg (by omega), List.drop_zero, Nat.sub_zero]
  by_cases hi : i.toNat ≤ l.length
  · rw [Nat.min_eq_left hi]
  · rw [Nat.min_eq_right (by omega), List.take_length, List.take_of_length_le (by omega)]
theorem cut_all : cutD l none none = l := by
  unfold cutD endOf
  simp
end
end WL
set_option maxHeartbeats 4000000
namespace WL
open PySem
structure EnX where
  nx : Env → Store → Prop
  rt : D → Store → Prop
  ex : Nat → D → Env → Store → Prop
abbrev KX := Nat → D → Store → Prop
def WpX (r : RS) (E : EnX) : Prop := match r with
  | .nx ρ s => E.nx ρ s
  | .ret d s => E.rt d s
  | .exc c w ρ s => E.ex c w ρ s
  | _ => False
def WpE {α : Type} (r : R α) (K : KX) : Prop := match r with
  | .exc c w s => K c w s
  | _ => False
@[irreducible] def blkX (X : Mx) (xs : List S) (ρ : Env) (E : EnX) (s : Store) : Prop := WpX (exB X.C X.G X.F xs ρ s) E
@[irreducible] def clX (X : Mx) (f : Nat) (ds : List D) (K : KX) (s : Store) : Prop := WpE (X.C f ds s) K
@[irreducible] def hdP (X : Mx) (hs : List Hd) (c : Nat) (w : D) (ρ : Env) (E : En) (s : Store) : Prop := WpS (exHd X.C X.G hs c w ρ s) E
@[irreducible] def suP (X : Mx) (b : List HS) (i : Option Nat) (ρ : Env) (E : En) (s : Store) : Prop := WpS ((exSu X.C X.G b ρ s).unset i) E
def kStep (X : Mx) (xs : List S) (E : EnX) : En := ⟨fun ρ s => blkX X xs ρ E s, E.rt, fun _ _ => False, fun _ _ => False⟩
def kSuR (s0 : Store) (E : En) : KQ := fun d s => E.rt d (trunc s0 d s)
def tSuE (X : Mx) (e : E) (ρ : Env) (E : En) : Th := fun s => ev X e ρ (kSuR s E) s
def tSuN (X : Mx) (r : List HS) (i : Option Nat) (ρ : Env) (E : En) : Th := fun s => suP X r i ρ E s
def kSuC (X : Mx) (e : E) (r : List HS) (i : Option Nat) (ρ : Env) (s0 : Store) (E : En) : KQ := fun x s => brO (truth s x) (tSuE X e ρ E) (tSuN X r i ρ E) (trunc s0 .non s)
def exX (E : En) (X : Mx) (hs : List Hd) : EnX := ⟨E.nx, E.rt, fun c w ρ s => hdP X hs c w ρ E s⟩
section
variable {X : Mx} {e c a : E} {es : List E} {ρ : Env} {s s0 s1 : Store} {E : En} {E' : EnX} {d w x : D} {n f : Nat} {K : KX} {xs : List S}
theorem kStep_nx : (kStep X xs E').nx ρ s = blkX X xs ρ E' s := by with_unfolding_all exact rfl
theorem kStep_rt : (kStep X xs E').rt = E'.rt := by with_unfolding_all exact rfl
theorem exX_nx {hs : List Hd} : (exX E X hs).nx = E.nx := by with_unfolding_all exact rfl
theorem exX_rt {hs : List Hd} : (exX E X hs).rt = E.rt := by with_unfolding_all exact rfl
theorem exX_ex {hs : List Hd} : (exX E X hs).ex n w ρ s = hdP X hs n w ρ E s := by with_unfolding_all exact rfl
theorem kSuR_ap : kSuR s0 E d s = E.rt d (trunc s0 d s) := by with_unfolding_all exact rfl
theorem tSuE_ap : tSuE X e ρ E s = ev X e ρ (kSuR s E) s := by with_unfolding_all exact rfl
theorem tSuN_ap {r : List HS} {i : Option Nat} : tSuN X r i ρ E s = suP X r i ρ E s := by with_unfolding_all exact rfl
theorem kSuC_ap {r : List HS} {i : Option Nat} : kSuC X e r i ρ s0 E x s = brO (truth s x) (tSuE X e ρ E) (tSuN X r i ρ E) (trunc s0 .non s) := by with_unfolding_all exact rfl
theorem blkX_nil (h : E'.nx ρ s) : blkX X [] ρ E' s := by
  unfold blkX
  simp only [exB]
  exact h
theorem blkX_step {y : S} (h : st X y ρ (kStep X xs E') s) : blkX X (y :: xs) ρ E' s := by
  unfold st at h
  unfold blkX
  simp only [exB]
  cases q : exS X.C X.G X.F y ρ s with
  | nx ρ1 s1 =>
    rw [q] at h
    have h : blkX X xs ρ1 E' s1 := h
    unfold blkX at h
    exact h
  | ret d s1 => rw [q] at h; exact h
  | brk ρ1 s1 => rw [q] at h; exact h.elim
  | cnt ρ1 s1 => rw [q] at h; exact h.elim
  | exc c w ρ1 s1 => rw [q] at h; exact h.elim
  | bad => rw [q] at h; exact h.elim
def kRais (n : Nat) (ρ : Env) (s0 : Store) (E' : EnX) : KQ := fun d s => E'.ex n d ρ (trunc s0 d s)
theorem kRais_ap : kRais n ρ s0 E' d s = E'.ex n d ρ (trunc s0 d s) := by with_unfolding_all exact rfl
theorem blkX_rais (h : ev X e ρ (kRais n ρ s E') s) : blkX X (.rais n e :: xs) ρ E' s := by
  unfold ev at h
  unfold blkX
  simp only [exB, exS]
  cases q : evE X.C X.G e ρ s with
  | ok d s1 => rw [q] at h; exact h
  | exc c w s1 => rw [q] at h; exact h.elim
  | bad => rw [q] at h; exact h.elim
def kClX (X : Mx) (f : Nat) (ρ : Env) (E' : EnX) : KL := fun ds s => clX X f ds (fun c w s => E'.ex c w ρ s) s
theorem kClX_ap {ds : List D} : kClX X f ρ E' ds s = clX X f ds (fun c w s => E'.ex c w ρ s) s := by with_unfolding_all exact rfl
theorem call_exc (h : evs X es ρ (kClX X f ρ E') s) : ∃ c w s1, evE X.C X.G (.call f es) ρ s = .exc c w s1 ∧ E'.ex c w ρ s1 := by
  unfold evs at h
  cases q : evEs X.C X.G es ρ s with
  | ok ds s1 =>
    rw [q] at h
    have h : clX X f ds (fun c w s => E'.ex c w ρ s) s1 := h
    unfold clX at h
    cases q2 : X.C f ds s1 with
    | exc c w s2 =>
      rw [q2] at h
      refine ⟨c, w, s2, ?_, h⟩
      simp only [evE, q, R.bind, q2]
    | ok d s2 => rw [q2] at h; exact h.elim
    | bad => rw [q2] at h; exact h.elim
  | exc c w s1 => rw [q] at h; exact h.elim
  | bad => rw [q] at h; exact h.elim
theorem blkX_asg {t : Tg} (h : evs X es ρ (kClX X f ρ E') s) : blkX X (.asg t (.call f es) :: xs) ρ E' s := by
  obtain ⟨c, w, s1, e, q⟩ := call_exc h
  unfold blkX
  simp only [exB, exS, e, R.bind, R.stm]
  exact q
theorem blkX_expr (h : evs X es ρ (kClX X f ρ E') s) : blkX X (.expr (.call f es) :: xs) ρ E' s := by
  obtain ⟨c, w, s1, e, q⟩ := call_exc h
  unfold blkX
  simp only [exB, exS, e, R.bind, R.stm]
  exact q
theorem blkX_ret (h : evs X es ρ (kClX X f ρ E') s) : blkX X (.ret (.call f es) :: xs) ρ E' s := by
  obtain ⟨c, w, s1, e, q⟩ := call_exc h
  unfold blkX
  simp only [exB, exS, e, R.bind, R.stm]
  exact q
def kSeqX (X : Mx) (xs : List S) (E' : EnX) : EnX := { E' with nx := fun ρ s => blkX X xs ρ E' s }
theorem kSeqX_nx : (kSeqX X xs E').nx ρ s = blkX X xs ρ E' s := by with_unfolding_all exact rfl
theorem kSeqX_rt : (kSeqX X xs E').rt = E'.rt := by with_unfolding_all exact rfl
theorem kSeqX_ex : (kSeqX X xs E').ex = E'.ex := by with_unfolding_all exact rfl
def tBX (X : Mx) (a : List S) (ρ : Env) (E' : EnX) : Th := fun s => blkX X a ρ E' s
theorem tBX_ap {a : List S} : tBX X a ρ E' s = blkX X a ρ E' s := by with_unfolding_all exact rfl
def kIfX (X : Mx) (a b : List S) (ρ : Env) (s0 : Store) (E' : EnX) : KQ := fun x s => brO (truth s x) (tBX X a ρ E') (tBX X b ρ E') (trunc s0 .non s)
theorem kIfX_ap {a b : List S} : kIfX X a b ρ s0 E' x s = brO (truth s x) (tBX X a ρ E') (tBX X b ρ E') (trunc s0 .non s) := by with_unfolding_all exact rfl
theorem blkX_iff {p q : List S} (h : ev X c ρ (kIfX X p q ρ s (kSeqX X xs E')) s) : blkX X (.iff c p q :: xs) ρ E' s := by
  unfold ev at h
  unfold blkX
  simp only [exB, exS, tst]
  have go : ∀ (r : List S) (s1 : Store), blkX X r ρ (kSeqX X xs E') s1 → WpX (match exB X.C X.G X.F r ρ s1 with
      | .nx ρ s => exB X.C X.G X.F xs ρ s
      | r => r) E' := by
    intro r s1 h
    unfold blkX at h
    cases q : exB X.C X.G X.F r ρ s1 with
    | nx ρ1 s1 =>
      rw [q] at h
      have h : blkX X xs ρ1 E' s1 := h
      unfold blkX at h
      exact h
    | ret d s1 => rw [q] at h; exact h
    | brk ρ1 s1 => rw [q] at h; exact h.elim
    | cnt ρ1 s1 => rw [q] at h; exact h.elim
    | exc c w ρ1 s1 => rw [q] at h; exact h
    | bad => rw [q] at h; exact h.elim
  cases q1 : evE X.C X.G c ρ s with
  | ok d s1 =>
    rw [q1] at h
    have h : brO (truth s1 d) (tBX X p ρ (kSeqX X xs E')) (tBX X q ρ (kSeqX X xs E')) (trunc s .non s1) := h
    simp only [R.bind]
    cases q2 : truth s1 d with
    | none => rw [q2] at h; exact h.elim
    | some b =>
      rw [q2] at h
      cases b
      · exact go _ _ h
      · exact go _ _ h
  | exc c w s1 => rw [q1] at h; exact h.elim
  | bad => rw [q1] at h; exact h.elim
theorem cl_fdX {P : Prog} {G : Globs} {F k f : Nat} {fd : FD} {ds : List D} {s : Store} {K : KX} (h : P f = some fd) (hl : ds.length = fd.np)
    (h2 : blkX (mx P G F k) fd.body (ds.map some ++ List.replicate (fd.nv - fd.np) none) ⟨fun _ _ => False, fun _ _ => False, fun c w _ s1 => K c w (trunc s w s1)⟩ s) : clX (mx P G F (k + 1)) f ds K s := by
  unfold blkX at h2
  unfold clX
  show WpE (callF P G F (k + 1) f ds s) K
  unfold callF
  simp only [h]
  rw [if_pos hl]
  simp only [mx] at h2
  cases q : exB (callF P G F k) G F fd.body (ds.map some ++ List.replicate (fd.nv - fd.np) none) s with
  | nx ρ1 s1 => rw [q] at h2; exact h2.elim
  | ret d s1 => rw [q] at h2; exact h2.elim
  | brk ρ1 s1 => rw [q] at h2; exact h2.elim
  | cnt ρ1 s1 => rw [q] at h2; exact h2.elim
  | exc c w ρ1 s1 => rw [q] at h2; exact h2
  | bad => rw [q] at h2; exact h2.elim
theorem st_tryx {b : List S} {hs : List Hd} (h : blkX X b ρ (exX E X hs) s) : st X (.tryx b hs) ρ E s := by
  unfold blkX at h
  unfold st
  simp only [exS]
  cases q : exB X.C X.G X.F b ρ s with
  | nx ρ1 s1 => rw [q] at h; exact h
  | ret d s1 => rw [q] at h; exact h
  | brk ρ1 s1 => rw [q] at h; exact h.elim
  | cnt ρ1 s1 => rw [q] at h; exact h.elim
  | exc c w ρ1 s1 =>
    rw [q] at h
    have h : hdP X hs c w ρ1 E s1 := h
    unfold hdP at h
    exact h
  | bad => rw [q] at h; exact h.elim
theorem hd_cons {h : Hd} {hs : List Hd} : hdP X (h :: hs) n w ρ E s = brB (h.cs.contains n) (fun s => suP X h.b h.nm (putX h.nm n w ρ) E s) (fun s => hdP X hs n w ρ E s) s := by
  unfold hdP suP
  simp only [exHd]
  cases h.cs.contains n
  · simp only [Bool.false_eq_true, if_false]; rfl
  · simp only [if_true]; rfl
theorem su_nil {i : Option Nat} : suP X [] i ρ E s = E.nx (offX i ρ) s := by
  unfold suP
  simp only [exSu]
  with_unfolding_all rfl
theorem su_ret {r : List HS} {i : Option Nat} : suP X (.ret e :: r) i ρ E s = ev X e ρ (kSuR s E) s := by
  unfold suP ev
  simp only [exSu]
  cases evE X.C X.G e ρ s <;> with_unfolding_all rfl
theorem su_ifret {r : List HS} {i : Option Nat} : suP X (.ifret c e :: r) i ρ E s = ev X c ρ (kSuC X e r i ρ s E) s := by
  unfold suP
  simp only [exSu, tst]
  unfold ev
  cases evE X.C X.G c ρ s with
  | ok d s1 =>
    simp only [R.bind, WpR]
    show _ = brO (truth s1 d) (tSuE X e ρ E) (tSuN X r i ρ E) (trunc s .non s1)
    cases truth s1 d with
    | none => with_unfolding_all rfl
    | some b =>
      cases b
      · show _ = suP X r i ρ E _
        unfold suP
        with_unfolding_all rfl
      · show _ = ev X e ρ (kSuR _ E) _
        unfold ev
        simp only [R.stm]
        cases evE X.C X.G e ρ (trunc s .non s1) <;> with_unfolding_all rfl
  | exc c w s1 => with_unfolding_all rfl
  | bad => with_unfolding_all rfl
end
end WL
set_option maxHeartbeats 4000000
namespace WL
open PySem
@[irreducible] def evX (X : Mx) (e : E) (ρ : Env) (K : KX) (s : Store) : Prop := WpE (evE X.C X.G e ρ s) K
@[irreducible] def evsX (X : Mx) (es : List E) (ρ : Env) (K : KX) (s : Store) : Prop := WpE (evEs X.C X.G es ρ s) K
@[irreducible] def forPX (X : Mx) (t : Tg) (b : List S) (w : Walk) (its : List D) (ρ : Env) (E : EnX) (s : Store) : Prop :=
  WpX (forGo w (fun x ρ s => (asgT X.C X.G t x ρ s).stm ρ fun ρ s => exB X.C X.G X.F b ρ s) its ρ s) E
section
variable {X : Mx} {e c a b : E} {es : List E} {ρ : Env} {s : Store} {E' : EnX} {f : Nat} {K : KX} {xs : List S}
def kClE (X : Mx) (f : Nat) (K : KX) : KL := fun ds s => clX X f ds K s
theorem kClE_ap {ds : List D} : kClE X f K ds s = clX X f ds K s := by with_unfolding_all exact rfl
theorem evX_call (h : evs X es ρ (kClE X f K) s) : evX X (.call f es) ρ K s := by
  unfold evs at h
  unfold evX
  simp only [evE]
  cases q : evEs X.C X.G es ρ s with
  | ok ds s1 =>
    rw [q] at h
    have h : clX X f ds K s1 := h
    unfold clX at h
    simp only [R.bind]
    exact h
  | exc c w s1 => rw [q] at h; exact h.elim
  | bad => rw [q] at h; exact h.elim
theorem evX_args (h : evsX X es ρ K s) : evX X (.call f es) ρ K s := by
  unfold evsX at h
  unfold evX
  simp only [evE]
  cases q : evEs X.C X.G es ρ s with
  | ok ds s1 => rw [q] at h; exact h.elim
  | exc c w s1 => rw [q] at h; exact h
  | bad => rw [q] at h; exact h.elim
theorem evsX_here (h : evX X e ρ K s) : evsX X (e :: es) ρ K s := by
  unfold evX at h
  unfold evsX
  simp only [evEs]
  cases q : evE X.C X.G e ρ s with
  | ok ds s1 => rw [q] at h; exact h.elim
  | exc c w s1 => rw [q] at h; exact h
  | bad => rw [q] at h; exact h.elim
def kNextX (X : Mx) (es : List E) (ρ : Env) (K : KX) : KQ := fun _ s => evsX X es ρ K s
theorem kNextX_ap {d : D} : kNextX X es ρ K d s = evsX X es ρ K s := by with_unfolding_all exact rfl
theorem evsX_next (h : ev X e ρ (kNextX X es ρ K) s) : evsX X (e :: es) ρ K s := by
  unfold ev at h
  unfold evsX
  simp only [evEs]
  cases q : evE X.C X.G e ρ s with
  | ok d s1 =>
    rw [q] at h
    have h : evsX X es ρ K s1 := h
    unfold evsX at h
    simp only [R.bind]
    cases q2 : evEs X.C X.G es ρ s1 with
    | ok ds s2 => rw [q2] at h; exact h.elim
    | exc c w s2 => rw [q2] at h; exact h
    | bad => rw [q2] at h; exact h.elim
  | exc c w s1 => rw [q] at h; exact h.elim
  | bad => rw [q] at h; exact h.elim
def tEX (X : Mx) (e : E) (ρ : Env) (K : KX) : Th := fun s => evX X e ρ K s
theorem tEX_ap : tEX X e ρ K s = evX X e ρ K s := by with_unfolding_all exact rfl
def kIfeX (X : Mx) (a b : E) (ρ : Env) (K : KX) : KQ := fun x s => brO (truth s x) (tEX X a ρ K) (tEX X b ρ K) s
theorem kIfeX_ap {x : D} : kIfeX X a b ρ K x s = brO (truth s x) (tEX X a ρ K) (tEX X b ρ K) s := by with_unfolding_all exact rfl
theorem evX_ife (h : ev X c ρ (kIfeX X a b ρ K) s) : evX X (.ife c a b) ρ K s := by
  unfold ev at h
  unfold evX
  simp only [evE]
  cases q : evE X.C X.G c ρ s with
  | ok d s1 =>
    rw [q] at h
    have h : brO (truth s1 d) (tEX X a ρ K) (tEX X b ρ K) s1 := h
    simp only [R.bind]
    cases q2 : truth s1 d with
    | none => rw [q2] at h; exact h.elim
    | some t =>
      rw [q2] at h
      cases t
      · have h : evX X b ρ K s1 := h
        unfold evX at h
        exact h
      · have h : evX X a ρ K s1 := h
        unfold evX at h
        exact h
  | exc c w s1 => rw [q] at h; exact h.elim
  | bad => rw [q] at h; exact h.elim
theorem blkX_retX (h : evX X e ρ (fun c w s => E'.ex c w ρ s) s) : blkX X (.ret e :: xs) ρ E' s := by
  unfold evX at h
  unfold blkX
  simp only [exB, exS]
  cases q : evE X.C X.G e ρ s with
  | ok d s1 => rw [q] at h; exact h.elim
  | exc c w s1 => rw [q] at h; exact h
  | bad => rw [q] at h; exact h.elim
def kForX (X : Mx) (t : Tg) (p : List S) (ρ : Env) (E' : EnX) : KW := fun w s => forPX X t p w w.its ρ E' s
theorem kForX_ap {t : Tg} {p : List S} {w : Walk} : kForX X t p ρ E' w s = forPX X t p w w.its ρ E' s := by with_unfolding_all exact rfl
theorem blkX_for {t : Tg} {it : It} {p : List S} (h : evI X it ρ (kForX X t p ρ (kSeqX X xs E')) s) : blkX X (.for t it p :: xs) ρ E' s := by
  unfold evI at h
  unfold blkX
  simp only [exB, exS]
  cases q : evIt X.C X.G it ρ s with
  | ok w s1 =>
    rw [q] at h
    have h : forPX X t p w w.its ρ (kSeqX X xs E') s1 := h
    unfold forPX at h
    show WpX (match forGo w (fun x ρ s => (asgT X.C X.G t x ρ s).stm ρ fun ρ s => exB X.C X.G X.F p ρ s) w.its ρ s1 with
      | .nx ρ s => exB X.C X.G X.F xs ρ s
      | r => r) E'
    cases q2 : forGo w (fun x ρ s => (asgT X.C X.G t x ρ s).stm ρ fun ρ s => exB X.C X.G X.F p ρ s) w.its ρ s1 with
    | nx ρ1 s2 =>
      rw [q2] at h
      have h : blkX X xs ρ1 E' s2 := h
      unfold blkX at h
      exact h
    | ret d s2 => rw [q2] at h; exact h
    | brk ρ1 s2 => rw [q2] at h; exact h.elim
    | cnt ρ1 s2 => rw [q2] at h; exact h.elim
    | exc c w ρ1 s2 => rw [q2] at h; exact h
    | bad => rw [q2] at h; exact h.elim
  | exc c w s1 => rw [q] at h; exact h.elim
  | bad => rw [q] at h; exact h.elim
def kBodyX (X : Mx) (p : List S) (E' : EnX) : KN := fun ρ s => blkX X p ρ E' s
theorem kBodyX_ap {p : List S} : kBodyX X p E' ρ s = blkX X p ρ E' s := by with_unfolding_all exact rfl
theorem forX_inv {t : Tg} {p : List S} {w : Walk} {its : List D} (I : List D → Env → Store → Prop) (h0 : I its ρ s) (hs : ∀ l ρ s, I l ρ s → w.stays s = true)
    (ht : ∀ x l ρ s, I (x :: l) ρ s → asg X t x ρ (kBodyX X p ⟨fun ρ s => I l ρ s, E'.rt, E'.ex⟩) s)
    (he : ∀ ρ s, I [] ρ s → E'.nx ρ s) : forPX X t p w its ρ E' s := by
  unfold forPX
  induction its generalizing ρ s with
  | nil =>
    unfold forGo
    rw [if_pos (hs _ _ _ h0)]
    exact he _ _ h0
  | cons x l ih =>
    unfold forGo
    rw [if_pos (hs _ _ _ h0)]
    have h := ht x l ρ s h0
    unfold asg at h
    cases q : asgT X.C X.G t x ρ s with
    | ok ρ1 s1 =>
      rw [q] at h
      have h : blkX X p ρ1 ⟨fun ρ s => I l ρ s, E'.rt, E'.ex⟩ s1 := h
      unfold blkX at h
      simp only [R.stm]
      cases q2 : exB X.C X.G X.F p ρ1 s1 with
      | nx ρ2 s2 => rw [q2] at h; exact ih h
      | ret d s2 => rw [q2] at h; exact h
      | brk ρ2 s2 => rw [q2] at h; exact h.elim
      | cnt ρ2 s2 => rw [q2] at h; exact h.elim
      | exc c w ρ2 s2 => rw [q2] at h; exact h
      | bad => rw [q2] at h; exact h.elim
    | exc c w s1 => rw [q] at h; exact h.elim
    | bad => rw [q] at h; exact h.elim
end
end WL
set_option maxHeartbeats 4000000
namespace WL
open PySem
def lowX (X : Mx) : Mx := ⟨low X.C, X.G, X.F⟩
@[irreducible] def hrP (X : Mx) (h f : Nat) (ds : List D) (Q : KQ) (s : Store) : Prop := WpR (hrdR (X.C h) (low X.C f ds s)) Q
def kHrd (X : Mx) (h f : Nat) (Q : KQ) : KL := fun ds s => hrP X h f ds Q s
section
variable {X : Mx} {es : List E} {ρ : Env} {s : Store} {Q : KQ} {h f : Nat} {ds : List D}
theorem kHrd_ap : kHrd X h f Q ds s = hrP X h f ds Q s := by with_unfolding_all exact rfl
theorem ev_heard : ev X (.heard h f es) ρ Q s = evs (lowX X) es ρ (kHrd X h f Q) s := by
  unfold ev evs kHrd hrP lowX
  simp only [evE]
  cases evEs (low X.C) X.G es ρ s with
  | ok l s1 => rfl
  | exc c w s1 => rfl
  | bad => rfl
theorem WpR_quiet {α : Type} {r : R α} {Q : α → Store → Prop} (h : WpR r Q) : WpR r.quiet Q := by
  cases r with
  | ok a s => exact h
  | exc c w s => exact h
  | bad => exact h
end
section
variable {P : Prog} {G : Globs} {F k h f : Nat} {ds : List D} {s : Store} {Q : KQ}
theorem low_call (hf : P (f + hB) = none) : low (callF P G F (k + 2)) f ds s = callF P G F k f ds s := by
  unfold low
  rw [callF]
  simp only [hf, Nat.add_sub_cancel]
theorem hr_ok (hf : P (f + hB) = none) (c : cl (mx P G F k) f ds (fun d s => cl (mx P G F (k + 2)) h [.bl true, d] Q s) s) : hrP (mx P G F (k + 2)) h f ds Q s := by
  unfold hrP
  show WpR (hrdR (callF P G F (k + 2) h) (low (callF P G F (k + 2)) f ds s)) Q
  rw [low_call hf]
  unfold cl at c
  simp only [mx] at c
  cases q : callF P G F k f ds s with
  | ok d s1 =>
    rw [q] at c
    exact WpR_quiet c
  | exc n w s1 => rw [q] at c; exact c.elim
  | bad => rw [q] at c; exact c.elim
theorem hr_exc (hf : P (f + hB) = none) (c : clX (mx P G F k) f ds (fun n w s => cl (mx P G F (k + 2)) h [.int (n : Nat), w] Q s) s) : hrP (mx P G F (k + 2)) h f ds Q s := by
  unfold hrP
  show WpR (hrdR (callF P G F (k + 2) h) (low (callF P G F (k + 2)) f ds s)) Q
  rw [low_call hf]
  unfold clX at c
  simp only [mx] at c
  cases q : callF P G F k f ds s with
  | ok d s1 => rw [q] at c; exact c.elim
  | exc n w s1 =>
    rw [q] at c
    unfold cl at c
    exact WpR_quiet c
  | bad => rw [q] at c; exact c.elim
theorem cl_true {fd : FD} {x : Str} {hs : List Hd} {d : D} (hp : P h = some fd) (hb : fd.body = [.heard (some x) hs]) (hn : fd.np = 2)
    (q : Q (.tup [.str x, d]) s) : cl (mx P G F (k + 1)) h [.bl true, d] Q s := by
  unfold cl
  show WpR (callF P G F (k + 1) h [.bl true, d] s) Q
  rw [callF]
  simp only [hp, hb, hn]
  rw [if_pos (show ([D.bl true, d] : List D).length = 2 from rfl)]
  show Q _ (trunc s _ s)
  rw [trunc_self]
  exact q
theorem cl_true0 {fd : FD} {hs : List Hd} {d : D} (hp : P h = some fd) (hb : fd.body = [.heard none hs]) (hn : fd.np = 2)
    (q : Q d s) : cl (mx P G F (k + 1)) h [.bl true, d] Q s := by
  unfold cl
  show WpR (callF P G F (k + 1) h [.bl true, d] s) Q
  rw [callF]
  simp only [hp, hb, hn]
  rw [if_pos (show ([D.bl true, d] : List D).length = 2 from rfl)]
  show Q _ (trunc s _ s)
  rw [trunc_self]
  exact q
theorem cl_raised {fd : FD} {z : Option Str} {hs : List Hd} {w : D} {n : Nat} (hp : P h = some fd) (hb : fd.body = [.heard z hs]) (hn : fd.np = 2)
    (q : hdP (mx P G F k) hs n w (([some (D.int n), some w] ++ List.replicate (fd.nv - 2) none).map fun _ => none) (kEnd' s Q) s) : cl (mx P G F (k + 1)) h [.int (n : Nat), w] Q s := by
  unfold cl
  show WpR (callF P G F (k + 1) h [.int (n : Nat), w] s) Q
  rw [callF]
  simp only [hp, hb, hn]
  rw [if_pos (show ([D.int (n : Nat), w] : List D).length = 2 from rfl)]
  unfold hdP at q
  simp only [mx] at q
  have e : exB (callF P G F k) G F [.heard z hs] ([some (D.int n), some w] ++ List.replicate (fd.nv - 2) none) s = match exHd (callF P G F k) G hs n w (([some (D.int n), some w] ++ List.replicate (fd.nv - 2) none).map fun _ => none) s with
    | .exc _ _ _ _ => .bad
    | q => q := by
    have e2 : exS (callF P G F k) G F (.heard z hs) ([some (D.int n), some w] ++ List.replicate (fd.nv - 2) none) s = match exHd (callF P G F k) G hs n w (([some (D.int n), some w] ++ List.replicate (fd.nv - 2) none).map fun _ => none) s with
      | .exc _ _ _ _ => .bad
      | q => q := rfl
    rw [exB, e2]
    cases exHd (callF P G F k) G hs n w (([some (D.int n), some w] ++ List.replicate (fd.nv - 2) none).map fun _ => none) s <;> rfl
  show WpR (WL.done s (exB (callF P G F k) G F [.heard z hs] ([some (D.int n), some w] ++ List.replicate (fd.nv - 2) none) s)) Q
  rw [e]
  cases q2 : exHd (callF P G F k) G hs n w (([some (D.int n), some w] ++ List.replicate (fd.nv - 2) none).map fun _ => none) s with
  | nx ρ1 s1 => rw [q2] at q; exact q
  | ret d s1 => rw [q2] at q; exact q
  | brk ρ1 s1 => rw [q2] at q; exact q.elim
  | cnt ρ1 s1 => rw [q2] at q; exact q.elim
  | exc c w ρ1 s1 => rw [q2] at q; exact q.elim
  | bad => rw [q2] at q; exact q.elim
end
end WL
set_option maxHeartbeats 8000000
namespace WL
open PySem
def topS (i : Nat) : Stmt := PySem.Challenge.pw_wendleaf_k40_shelf_texts.main.body.getD i (.Pass ⟨0, 0, 0, 0⟩)
def x_BadText : Nat := 0
def g_MOST_ROWS : Nat := 0
def g_MOST_SIGNS : Nat := 1
def g_MOST_NUMBERS : Nat := 2
def g_LIMIT : Nat := 3
def g_KEY_SIGNS : Nat := 4
def g_MOST_PAGES : Nat := 5
def g_MOST_FIGURES : Nat := 6
def g_PRIME : Nat := 7
def g_FIGURES : Nat := 8
def f_is_whole : Nat := 0
def f_is_number : Nat := 1
def f_is_key : Nat := 2
def f_is_value : Nat := 3
def f_is_row : Nat := 4
def f_sum_of : Nat := 5
def f_is_figures : Nat := 6
def f_read_count : Nat := 7
def f_read_number : Nat := 8
def f_value_text : Nat := 9
def f_read_value : Nat := 10
def f_row_line : Nat := 11
def f_read_row : Nat := 12
def f_head_line : Nat := 13
def f_read_head : Nat := 14
def f_is_sum_line : Nat := 15
def f_frame_text : Nat := 16
def f_next_row : Nat := 17
def f_read_frame : Nat := 18
def f_shelf_text : Nat := 19
def f_frame_or_none : Nat := 20
def f_read_shelf : Nat := 21
def f_L_pool : Nat := 22
def f_L_draw : Nat := 23
def f_L_sum : Nat := 24
def f_L_frame : Nat := 25
def f_L_rows : Nat := 26
def f_L_frames : Nat := 27
def f_L_shelf : Nat := 28
def f_law : Nat := 29
def fd_is_whole : FD := ⟨1, 1, [.ret (.and (.isi (.var 0) .int) (.not (.isi (.var 0) .bool)))]⟩
def en_is_whole : FnE := ⟨"is_whole", topS 9, ["thing"], ["thing"], fd_is_whole⟩
def fd_is_number : FD := ⟨1, 1, [.ret (.and (.call f_is_whole [(.var 0)]) (.chain (.neg (.glob g_LIMIT)) .LtE (.var 0) .LtE (.glob g_LIMIT)))]⟩
def en_is_number : FnE := ⟨"is_number", topS 10, ["thing"], ["thing"], fd_is_number⟩
def fd_is_key : FD := ⟨1, 2, [.iff (.or (.not (.isi (.var 0) .str)) (.not (.chain (.int 1) .LtE (.bi .len [(.var 0)]) .LtE (.glob g_MOST_SIGNS)))) [.ret (.bl false)] [],
    .for (.nm 1) (.val (.var 0)) [.iff (.cmp (.var 1) .NotIn (.glob g_KEY_SIGNS)) [.ret (.bl false)] []],
    .ret (.bl true)]⟩
def en_is_key : FnE := ⟨"is_key", topS 11, ["thing"], ["thing", "sign"], fd_is_key⟩
def fd_is_value : FD := ⟨1, 2, [.iff (.or (.not (.isi (.var 0) .tuple)) (.not (.chain (.int 1) .LtE (.bi .len [(.var 0)]) .LtE (.glob g_MOST_NUMBERS)))) [.ret (.bl false)] [],
    .for (.nm 1) (.val (.var 0)) [.iff (.not (.call f_is_number [(.var 1)])) [.ret (.bl false)] []],
    .ret (.bl true)]⟩
def en_is_value : FnE := ⟨"is_value", topS 12, ["thing"], ["thing", "number"], fd_is_value⟩
def fd_is_row : FD := ⟨1, 1, [.ret (.and (.isi (.var 0) .tuple) (.and (.cmp (.bi .len [(.var 0)]) .Eq (.int 2)) (.and (.call f_is_key [(.ix (.var 0) (.int 0))]) (.call f_is_value [(.ix (.var 0) (.int 1))]))))]⟩
def en_is_row : FnE := ⟨"is_row", topS 13, ["thing"], ["thing"], fd_is_row⟩
def fd_sum_of : FD := ⟨1, 3, [.asg (.nm 1) (.int 0),
    .for (.nm 2) (.rng [(.bi .len [(.var 0)])]) [.asg (.nm 1) (.bin .Mod (.bin .Add (.var 1) (.bin .Mult (.bi .ord [(.ix (.var 0) (.var 2))]) (.bin .Add (.var 2) (.int 1)))) (.glob g_PRIME))],
    .ret (.meth .zfill (.bi .str [(.var 1)]) [(.int 6)])]⟩
def en_sum_of : FnE := ⟨"sum_of", topS 19, ["text"], ["text", "total", "place"], fd_sum_of⟩
def fd_is_figures : FD := ⟨1, 2, [.for (.nm 1) (.val (.var 0)) [.iff (.cmp (.var 1) .NotIn (.glob g_FIGURES)) [.ret (.bl false)] []],
    .ret (.cmp (.var 0) .NotEq (.str ""))]⟩
def en_is_figures : FnE := ⟨"is_figures", topS 20, ["text"], ["text", "sign"], fd_is_figures⟩
def fd_read_count : FD := ⟨2, 3, [.iff (.or (.not (.call f_is_figures [(.var 0)])) (.cmp (.bi .len [(.var 0)]) .Gt (.glob g_MOST_FIGURES))) [.ret .non] [],
    .iff (.and (.cmp (.bi .len [(.var 0)]) .Gt (.int 1)) (.cmp (.ix (.var 0) (.int 0)) .Eq (.str "0"))) [.ret .non] [],
    .asg (.nm 2) (.bi .int [(.var 0)]),
    .ret (.ife (.cmp (.var 2) .LtE (.var 1)) (.var 2) .non)]⟩
def en_read_count : FnE := ⟨"read_count", topS 21, ["text", "most"], ["text", "most", "count"], fd_read_count⟩
def fd_read_number : FD := ⟨1, 2, [.iff (.cmp (.slice (.var 0) [] [(.int 1)]) .NotEq (.str "-")) [.ret (.call f_read_count [(.var 0), (.glob g_LIMIT)])] [],
    .asg (.nm 1) (.call f_read_count [(.slice (.var 0) [(.int 1)] []), (.glob g_LIMIT)]),
    .ret (.ife (.or (.cmp (.var 1) .Is .non) (.cmp (.var 1) .Eq (.int 0))) .non (.neg (.var 1)))]⟩
def en_read_number : FnE := ⟨"read_number", topS 22, ["text"], ["text", "count"], fd_read_number⟩
def fd_value_text : FD := ⟨1, 2, [.ret (.meth .join (.str ",") [(.lc (.bi .str [(.var 1)]) (.nm 1) (.val (.var 0)) [] [1])])]⟩
def en_value_text : FnE := ⟨"value_text", topS 23, ["value"], ["value", "number"], fd_value_text⟩
def fd_read_value : FD := ⟨1, 3, [.asg (.nm 1) (.lc (.call f_read_number [(.var 2)]) (.nm 2) (.val (.meth .split (.var 0) [(.str ",")])) [] [2]),
    .iff (.or (.cmp .non .In (.var 1)) (.cmp (.bi .len [(.var 1)]) .Gt (.int 4))) [.ret .non] [],
    .ret (.bi .tuple [(.var 1)])]⟩
def en_read_value : FnE := ⟨"read_value", topS 24, ["text"], ["text", "numbers", "word"], fd_read_value⟩
def fd_row_line : FD := ⟨1, 1, [.ret (.bin .Add (.bin .Add (.ix (.var 0) (.int 0)) (.str " ")) (.call f_value_text [(.ix (.var 0) (.int 1))]))]⟩
def en_row_line : FnE := ⟨"row_line", topS 25, ["row"], ["row"], fd_row_line⟩
def fd_read_row : FD := ⟨1, 3, [.asg (.nm 1) (.meth .split (.var 0) [(.str " ")]),
    .iff (.or (.cmp (.bi .len [(.var 1)]) .NotEq (.int 2)) (.not (.call f_is_key [(.ix (.var 1) (.int 0))]))) [.ret .non] [],
    .asg (.nm 2) (.tup [(.ix (.var 1) (.int 0)), (.call f_read_value [(.ix (.var 1) (.int 1))])]),
    .ret (.ife (.call f_is_row [(.var 2)]) (.var 2) .non)]⟩
def en_read_row : FnE := ⟨"read_row", topS 26, ["line"], ["line", "words", "row"], fd_read_row⟩
def fd_head_line : FD := ⟨2, 2, [.ret (.bin .Add (.bin .Add (.bin .Add (.str "page ") (.bi .str [(.var 0)])) (.str " ")) (.bi .str [(.var 1)]))]⟩
def en_head_line : FnE := ⟨"head_line", topS 27, ["page", "number"], ["page", "number"], fd_head_line⟩
def fd_read_head : FD := ⟨1, 4, [.asg (.nm 1) (.meth .split (.var 0) [(.str " ")]),
    .iff (.or (.cmp (.bi .len [(.var 1)]) .NotEq (.int 3)) (.cmp (.ix (.var 1) (.int 0)) .NotEq (.str "page"))) [.ret .non] [],
    .asg (.nm 2) (.call f_read_count [(.ix (.var 1) (.int 1)), (.bin .Sub (.glob g_MOST_PAGES) (.int 1))]),
    .asg (.nm 3) (.call f_read_count [(.ix (.var 1) (.int 2)), (.glob g_LIMIT)]),
    .ret (.ife (.or (.cmp (.var 2) .Is .non) (.cmp (.var 3) .Is .non)) .non (.tup [(.var 2), (.var 3)]))]⟩
def en_read_head : FnE := ⟨"read_head", topS 28, ["line"], ["line", "words", "page", "number"], fd_read_head⟩
def fd_is_sum_line : FD := ⟨1, 1, [.ret (.and (.cmp (.slice (.var 0) [] [(.int 5)]) .Eq (.str "sum 0")) (.and (.cmp (.bi .len [(.var 0)]) .Eq (.int 10)) (.call f_is_figures [(.slice (.var 0) [(.int 4)] [])])))]⟩
def en_is_sum_line : FnE := ⟨"is_sum_line", topS 29, ["line"], ["line"], fd_is_sum_line⟩
def fd_frame_text : FD := ⟨3, 5, [.asg (.nm 3) (.bin .Add (.call f_head_line [(.var 0), (.var 1)]) (.str "\n")),
    .for (.nm 4) (.val (.var 2)) [.asg (.nm 3) (.bin .Add (.bin .Add (.var 3) (.call f_row_line [(.var 4)])) (.str "\n"))],
    .ret (.bin .Add (.bin .Add (.bin .Add (.var 3) (.str "sum ")) (.call f_sum_of [(.var 3)])) (.str "\n"))]⟩
def en_frame_text : FnE := ⟨"frame_text", topS 30, ["page", "number", "rows"], ["page", "number", "rows", "text", "row"], fd_frame_text⟩
def fd_next_row : FD := ⟨2, 3, [.asg (.nm 2) (.call f_read_row [(.var 1)]),
    .iff (.or (.cmp (.var 2) .Is .non) (.cmp (.bi .len [(.var 0)]) .Eq (.glob g_MOST_ROWS))) [.ret .non] [],
    .ret (.ife (.and (.cmp (.var 0) .NotEq (.lst [])) (.cmp (.ix (.var 2) (.int 0)) .LtE (.ix (.ix (.var 0) (.neg (.int 1))) (.int 0)))) .non (.var 2))]⟩
def en_next_row : FnE := ⟨"next_row", topS 31, ["rows", "line"], ["rows", "line", "row"], fd_next_row⟩
def fd_read_frame : FD := ⟨1, 8, [.asg (.nm 1) (.slice (.meth .split (.var 0) [(.str "\n")]) [] [(.neg (.int 1))]),
    .asg (.nm 2) (.ife (.cmp (.var 1) .NotEq (.lst [])) (.call f_read_head [(.ix (.var 1) (.int 0))]) .non),
    .iff (.cmp (.var 2) .Is .non) [.rais x_BadText (.int 0)] [],
    .par [3, 4] [(.lst []), (.bin .Add (.bi .len [(.ix (.var 1) (.int 0))]) (.int 1))],
    .for (.nm 5) (.rng [(.int 1), (.bi .len [(.var 1)])]) [.asg (.nm 6) (.ix (.var 1) (.var 5)),
    .iff (.call f_is_sum_line [(.var 6)]) [.iff (.cmp (.slice (.var 6) [(.int 4)] []) .NotEq (.call f_sum_of [(.slice (.var 0) [] [(.var 4)])])) [.rais x_BadText (.var 5)] [],
    .iff (.cmp (.bin .Add (.bin .Add (.var 4) (.bi .len [(.var 6)])) (.int 1)) .NotEq (.bi .len [(.var 0)])) [.rais x_BadText (.bin .Add (.var 5) (.int 1))] [],
    .ret (.tup [(.ix (.var 2) (.int 0)), (.ix (.var 2) (.int 1)), (.bi .tuple [(.var 3)])])] [],
    .asg (.nm 7) (.call f_next_row [(.var 3), (.var 6)]),
    .iff (.cmp (.var 7) .Is .non) [.rais x_BadText (.var 5)] [],
    .expr (.app (.var 3) (.var 7)),
    .asg (.nm 4) (.bin .Add (.bin .Add (.var 4) (.bi .len [(.var 6)])) (.int 1))],
    .rais x_BadText (.bi .len [(.var 1)])]⟩
def en_read_frame : FnE := ⟨"read_frame", topS 32, ["text"], ["text", "lines", "head", "rows", "seen", "index", "line", "row"], fd_read_frame⟩
def fd_shelf_text : FD := ⟨1, 5, [.iff (.cmp (.var 0) .Eq (.tup [])) [.ret (.str "")] [],
    .asg (.nm 1) (.bin .Add (.bin .Add (.str "shelf ") (.bi .str [(.bi .len [(.var 0)])])) (.str "\n")),
    .for (.tup [(.nm 2), (.nm 3), (.nm 4)]) (.val (.var 0)) [.asg (.nm 1) (.bin .Add (.var 1) (.call f_frame_text [(.var 2), (.var 3), (.var 4)]))],
    .ret (.bin .Add (.bin .Add (.bin .Add (.var 1) (.str "sum ")) (.call f_sum_of [(.var 1)])) (.str "\n"))]⟩
def en_shelf_text : FnE := ⟨"shelf_text", topS 34, ["frames"], ["frames", "text", "page", "number", "rows"], fd_shelf_text⟩
def fd_frame_or_none : FD := ⟨1, 1, [.tryx [.ret (.call f_read_frame [(.var 0)])] [⟨[0], none, [.ret .non]⟩]]⟩
def en_frame_or_none : FnE := ⟨"frame_or_none", topS 35, ["text"], ["text"], fd_frame_or_none⟩
def fd_read_shelf : FD := ⟨1, 7, [.iff (.cmp (.var 0) .Eq (.str "")) [.ret (.tup [])] [],
    .par [1, 2, 3] [(.lst []), (.str ""), (.neg (.int 1))],
    .for (.nm 4) (.val (.slice (.meth .split (.var 0) [(.str "\n")]) [(.int 1)] [(.neg (.int 2))])) [.asg (.nm 2) (.bin .Add (.bin .Add (.var 2) (.var 4)) (.str "\n")),
    .iff (.call f_is_sum_line [(.var 4)]) [.asg (.nm 5) (.call f_frame_or_none [(.var 2)]),
    .iff (.or (.cmp (.var 5) .Is .non) (.cmp (.ix (.var 5) (.int 0)) .LtE (.var 3))) [.ret .non] [],
    .expr (.app (.var 1) (.var 5)),
    .par [2, 3] [(.str ""), (.ix (.var 5) (.int 0))]] []],
    .asg (.nm 6) (.bi .tuple [(.var 1)]),
    .ret (.ife (.cmp (.call f_shelf_text [(.var 6)]) .Eq (.var 0)) (.var 6) .non)]⟩
def en_read_shelf : FnE := ⟨"read_shelf", topS 36, ["text"], ["text", "frames", "piece", "ahead", "line", "frame", "found"], fd_read_shelf⟩
def fd_L_pool : FD := ⟨1, 3, [.asg (.nm 1) (.ife (.cmp (.bi .len [(.var 0)]) .Gt (.int 0)) (.bi .int [(.ix (.var 0) (.int 0))]) (.int 0)),
    .asg (.nm 2) (.ife (.cmp (.var 1) .GtE (.int 0)) (.bin .Mult (.int 2) (.var 1)) (.bin .Sub (.neg (.int 1)) (.bin .Mult (.int 2) (.var 1)))),
    .ret (.lst [(.ife (.cmp (.var 2) .GtE (.bin .Pow (.int 10) (.int 18))) (.var 2) (.int 0)), (.bin .Add (.bin .Mod (.bi .int [(.bin .Add (.bin .Mult (.var 2) (.int 48271)) (.int 1009))]) (.int 2147483629)) (.int 3)), (.bi .list [(.slice (.var 0) [(.int 1)] [])])])]⟩
def en_L_pool : FnE := ⟨"_law_pool", topS 38, ["_law_script"], ["_law_script", "_law_first", "_law_size"], fd_L_pool⟩
def fd_L_draw : FD := ⟨2, 5, [.iff (.and (.cmp (.ix (.var 0) (.int 0)) .Eq (.int 0)) (.cmp (.ix (.var 0) (.int 2)) .NotEq (.lst []))) [.asg (.nm 2) (.bi .int [(.pop (.ix (.var 0) (.int 2)) (.int 0))]),
    .asg (.nm 3) (.ife (.cmp (.var 2) .GtE (.int 0)) (.bin .Mult (.int 2) (.var 2)) (.bin .Sub (.neg (.int 1)) (.bin .Mult (.int 2) (.var 2)))),
    .asg (.sub (.var 0) (.int 0)) (.ife (.cmp (.var 3) .GtE (.bin .Pow (.int 10) (.int 18))) (.var 3) (.int 0)),
    .asg (.sub (.var 0) (.int 1)) (.bin .Add (.bin .Mod (.bi .int [(.bin .Add (.ix (.var 0) (.int 1)) (.bin .Mult (.var 3) (.int 69621)))]) (.int 2147483629)) (.int 3))] [],
    .iff (.cmp (.ix (.var 0) (.int 0)) .Gt (.int 0)) [.asg (.nm 4) (.bin .Mod (.bi .int [(.ix (.var 0) (.int 0))]) (.var 1)),
    .asg (.sub (.var 0) (.int 0)) (.bin .FloorDiv (.ix (.var 0) (.int 0)) (.var 1)),
    .ret (.var 4)] [],
    .asg (.sub (.var 0) (.int 1)) (.bin .Mod (.bi .int [(.bin .Add (.bin .Mult (.ix (.var 0) (.int 1)) (.int 48271)) (.int 11))]) (.int 2147483647)),
    .ret (.bin .Mod (.bin .FloorDiv (.bin .Mod (.bi .int [(.bin .Mult (.ix (.var 0) (.int 1)) (.ix (.var 0) (.int 1)))]) (.int 2147483629)) (.int 32)) (.var 1))]⟩
def en_L_draw : FnE := ⟨"_law_draw", topS 39, ["_law_pool_here", "_law_many"], ["_law_pool_here", "_law_many", "_law_cell", "_law_size", "_law_found"], fd_L_draw⟩
def fd_L_sum : FD := ⟨1, 4, [.asg (.nm 1) (.int 0),
    .for (.tup [(.nm 2), (.nm 3)]) (.enm (.var 0)) [.asg (.nm 1) (.bin .Add (.var 1) (.bin .Mult (.bin .Add (.var 2) (.int 1)) (.bi .ord [(.var 3)])))],
    .ret (.slice (.bin .Add (.str "00000") (.bi .str [(.bin .Mod (.bi .int [(.var 1)]) (.int 65521))])) [(.neg (.int 6))] [])]⟩
def en_L_sum : FnE := ⟨"_law_sum", topS 40, ["_law_text"], ["_law_text", "_law_found", "_law_place", "_law_sign"], fd_L_sum⟩
def fd_L_frame : FD := ⟨3, 7, [.asg (.nm 3) (.bin .Add (.bin .Add (.bin .Add (.bin .Add (.str "page ") (.bi .str [(.var 0)])) (.str " ")) (.bi .str [(.var 1)])) (.str "\n")),
    .for (.tup [(.nm 4), (.nm 5)]) (.val (.var 2)) [.asg (.nm 3) (.bin .Add (.bin .Add (.bin .Add (.bin .Add (.var 3) (.var 4)) (.str " ")) (.meth .join (.str ",") [(.lc (.bi .str [(.var 6)]) (.nm 6) (.val (.var 5)) [] [6])])) (.str "\n"))],
    .ret (.bin .Add (.bin .Add (.bin .Add (.var 3) (.str "sum ")) (.call f_L_sum [(.var 3)])) (.str "\n"))]⟩
def en_L_frame : FnE := ⟨"_law_frame", topS 41, ["_law_page", "_law_number", "_law_rows_here"], ["_law_page", "_law_number", "_law_rows_here", "_law_text", "_law_key", "_law_value", "_law_part"], fd_L_frame⟩
def fd_L_rows : FD := ⟨1, 6, [.asg (.nm 1) (.lst [(.str "."), (.str "0.z"), (.str "a"), (.str "page"), (.str "shelf"), (.str "sum"), (.str "zzzzzzzzzzzz")]),
    .asg (.nm 2) (.slice (.lc (.var 3) (.nm 3) (.val (.var 1)) [(.cmp (.call f_L_draw [(.var 0), (.int 3)]) .Eq (.int 0))] [3]) [] [(.int 3)]),
    .asg (.nm 4) (.lst [(.int 0), (.int 1), (.neg (.int 7)), (.int 1000000000000), (.neg (.int 1000000000000)), (.int 65521)]),
    .ret (.bi .tuple [(.lc (.tup [(.var 3), (.bi .tuple [(.lc (.ix (.var 4) (.call f_L_draw [(.var 0), (.int 6)])) (.nm 5) (.rng [(.bin .Add (.int 1) (.call f_L_draw [(.var 0), (.int 3)]))]) [] [5])])]) (.nm 3) (.val (.var 2)) [] [3])])]⟩
def en_L_rows : FnE := ⟨"_law_rows", topS 42, ["_law_pool_here"], ["_law_pool_here", "_law_menu", "_law_keys", "_law_key", "_law_numbers", "_law_turn"], fd_L_rows⟩
def fd_L_frames : FD := ⟨1, 5, [.par [1, 2] [(.ix (.lst [(.lst [(.int 0), (.int 31)]), (.lst [(.int 0), (.int 1), (.int 2), (.int 31)]), (.lst [(.int 5)]), (.lst [(.call f_L_draw [(.var 0), (.int 16)]), (.bin .Add (.int 16) (.call f_L_draw [(.var 0), (.int 16)]))])]) (.call f_L_draw [(.var 0), (.int 4)])), (.lst [])],
    .for (.nm 3) (.val (.var 1)) [.asg (.nm 4) (.ix (.lst [(.int 0), (.int 1), (.int 17), (.int 1000000000000)]) (.call f_L_draw [(.var 0), (.int 4)])),
    .expr (.app (.var 2) (.tup [(.var 3), (.var 4), (.call f_L_rows [(.var 0)])]))],
    .ret (.bi .tuple [(.var 2)])]⟩
def en_L_frames : FnE := ⟨"_law_frames", topS 43, ["_law_pool_here"], ["_law_pool_here", "_law_pages", "_law_found", "_law_page", "_law_number"], fd_L_frames⟩
def fd_L_shelf : FD := ⟨2, 6, [.asg (.nm 2) (.bin .Add (.bin .Add (.str "shelf ") (.var 1)) (.str "\n")),
    .for (.tup [(.nm 3), (.nm 4), (.nm 5)]) (.val (.var 0)) [.asg (.nm 2) (.bin .Add (.var 2) (.call f_L_frame [(.var 3), (.var 4), (.var 5)]))],
    .ret (.bin .Add (.bin .Add (.bin .Add (.var 2) (.str "sum ")) (.call f_L_sum [(.var 2)])) (.str "\n"))]⟩
def en_L_shelf : FnE := ⟨"_law_shelf", topS 44, ["_law_frames_here", "_law_many"], ["_law_frames_here", "_law_many", "_law_text", "_law_page", "_law_number", "_law_rows_here"], fd_L_shelf⟩
def fd_law : FD := ⟨1, 11, [.asg (.nm 1) (.call f_L_pool [(.var 0)]),
    .asg (.nm 2) (.call f_L_frames [(.var 1)]),
    .asg (.nm 3) (.call f_L_shelf [(.var 2), (.bi .str [(.bi .len [(.var 2)])])]),
    .iff (.or (.cmp (.call f_shelf_text [(.tup [])]) .NotEq (.str "")) (.or (.cmp (.call f_read_shelf [(.str "")]) .NotEq (.tup [])) (.or (.cmp (.call f_shelf_text [(.var 2)]) .NotEq (.var 3)) (.cmp (.call f_read_shelf [(.var 3)]) .NotEq (.var 2))))) [.ret (.bl false)] [],
    .asg (.nm 4) (.call f_L_draw [(.var 1), (.bi .len [(.var 3)])]),
    .asg (.nm 5) (.lc (.var 6) (.nm 6) (.val (.str "09 \nza,-~")) [(.cmp (.var 6) .NotEq (.ix (.var 3) (.var 4)))] [6]),
    .asg (.nm 7) (.bin .Add (.bin .Add (.slice (.var 3) [] [(.var 4)]) (.ix (.var 5) (.call f_L_draw [(.var 1), (.bi .len [(.var 5)])]))) (.slice (.var 3) [(.bin .Add (.var 4) (.int 1))] [])),
    .asg (.nm 8) (.bi .len [(.str "sum 000000\n")]),
    .asg (.nm 9) (.lst [(.var 7), (.bin .Add (.var 3) (.str "\n")), (.slice (.var 3) [] [(.neg (.int 1))]), (.slice (.var 3) [] [(.neg (.var 8))]), (.bin .Add (.var 3) (.var 3)), (.call f_L_shelf [(.var 2), (.bi .str [(.bin .Add (.bi .len [(.var 2)]) (.int 1))])])]),
    .asg (.nm 9) (.bin .Add (.var 9) (.lst [(.call f_L_shelf [(.var 2), (.bin .Add (.str "0") (.bi .str [(.bi .len [(.var 2)])]))]), (.call f_L_shelf [(.tup []), (.str "0")]), (.call f_L_shelf [(.tup [(.ix (.var 2) (.int 0)), (.ix (.var 2) (.int 0))]), (.str "2")])])),
    .iff (.cmp (.bi .len [(.var 2)]) .Gt (.int 1)) [.expr (.app (.var 9) (.call f_L_shelf [(.rev (.var 2)), (.bi .str [(.bi .len [(.var 2)])])]))] [],
    .ret (.cmp (.lc (.var 10) (.nm 10) (.val (.var 9)) [(.cmp (.call f_read_shelf [(.var 10)]) .IsNot .non)] [10]) .Eq (.lst []))]⟩
def en_law : FnE := ⟨"law", topS 45, ["_law_script"], ["_law_script", "_law_pool_here", "_law_frames_here", "_law_text", "_law_place", "_law_signs", "_law_sign", "_law_bent", "_law_last", "_law_wrong", "_law_other"], fd_law⟩
def tab : List FnE := [en_is_whole, en_is_number, en_is_key, en_is_value, en_is_row, en_sum_of, en_is_figures, en_read_count, en_read_number, en_value_text, en_read_value, en_row_line, en_read_row, en_head_line, en_read_head, en_is_sum_line, en_frame_text, en_next_row, en_read_frame, en_shelf_text, en_frame_or_none, en_read_shelf, en_L_pool, en_L_draw, en_L_sum, en_L_frame, en_L_rows, en_L_frames, en_L_shelf, en_law]
def gls : List (Str × GV) := [("MOST_ROWS", .int 12), ("MOST_SIGNS", .int 12), ("MOST_NUMBERS", .int 4), ("LIMIT", .int 1000000000000), ("KEY_SIGNS", .str "abcdefghijklmnopqrstuvwxyz0123456789."), ("MOST_PAGES", .int 32), ("MOST_FIGURES", .int 13), ("PRIME", .int 65521), ("FIGURES", .str "0123456789")]
def clsS (i : Nat) : Stmt := match topS i with
  | .ClassDef _ _ _ b _ _ _ _ _ _ _ => b.getD 0 (.Pass ⟨0, 0, 0, 0⟩)
  | s => s
def exT : ExT := ⟨["BadText"], "Refused", clsS 1, "Refused.__init__", [], gls⟩
def exN : Nat := 5
theorem exT_ok : exT.ok = true := by decide +kernel
@[irreducible] def fuel : Nat := 100000
def cfg : Cfg := cfgOf tab gls exT fuel
def P : Prog := cfg.P
def G : Globs := cfg.G
theorem P_is_whole : P f_is_whole = some fd_is_whole := rfl
theorem P_is_number : P f_is_number = some fd_is_number := rfl
theorem P_is_key : P f_is_key = some fd_is_key := rfl
theorem P_is_value : P f_is_value = some fd_is_value := rfl
theorem P_is_row : P f_is_row = some fd_is_row := rfl
theorem P_sum_of : P f_sum_of = some fd_sum_of := rfl
theorem P_is_figures : P f_is_figures = some fd_is_figures := rfl
theorem P_read_count : P f_read_count = some fd_read_count := rfl
theorem P_read_number : P f_read_number = some fd_read_number := rfl
theorem P_value_text : P f_value_text = some fd_value_text := rfl
theorem P_read_value : P f_read_value = some fd_read_value := rfl
theorem P_row_line : P f_row_line = some fd_row_line := rfl
theorem P_read_row : P f_read_row = some fd_read_row := rfl
theorem P_head_line : P f_head_line = some fd_head_line := rfl
theorem P_read_head : P f_read_head = some fd_read_head := rfl
theorem P_is_sum_line : P f_is_sum_line = some fd_is_sum_line := rfl
theorem P_frame_text : P f_frame_text = some fd_frame_text := rfl
theorem P_next_row : P f_next_row = some fd_next_row := rfl
theorem P_read_frame : P f_read_frame = some fd_read_frame := rfl
theorem P_shelf_text : P f_shelf_text = some fd_shelf_text := rfl
theorem P_frame_or_none : P f_frame_or_none = some fd_frame_or_none := rfl
theorem P_read_shelf : P f_read_shelf = some fd_read_shelf := rfl
theorem P_L_pool : P f_L_pool = some fd_L_pool := rfl
theorem P_L_draw : P f_L_draw = some fd_L_draw := rfl
theorem P_L_sum : P f_L_sum = some fd_L_sum := rfl
theorem P_L_frame : P f_L_frame = some fd_L_frame := rfl
theorem P_L_rows : P f_L_rows = some fd_L_rows := rfl
theorem P_L_frames : P f_L_frames = some fd_L_frames := rfl
theorem P_L_shelf : P f_L_shelf = some fd_L_shelf := rfl
theorem P_law : P f_law = some fd_law := rfl
theorem G_MOST_ROWS : G g_MOST_ROWS = some (.int (12)) := rfl
theorem G_MOST_SIGNS : G g_MOST_SIGNS = some (.int (12)) := rfl
theorem G_MOST_NUMBERS : G g_MOST_NUMBERS = some (.int (4)) := rfl
theorem G_LIMIT : G g_LIMIT = some (.int (1000000000000)) := rfl
theorem G_KEY_SIGNS : G g_KEY_SIGNS = some (.str "abcdefghijklmnopqrstuvwxyz0123456789.") := rfl
theorem G_MOST_PAGES : G g_MOST_PAGES = some (.int (32)) := rfl
theorem G_MOST_FIGURES : G g_MOST_FIGURES = some (.int (13)) := rfl
theorem G_PRIME : G g_PRIME = some (.int (65521)) := rfl
theorem G_FIGURES : G g_FIGURES = some (.str "0123456789") := rfl
theorem tab_ok : tab.all (fun e => e.ok cfg) = true := by decide +kernel
end WL
namespace WL
open PySem
local macro_rules
  | `(tactic| simp! only [$xs,*] $[$loc:location]?) => `(tactic| simp -implicitDefEqProofs only [tQ_ap, tK_ap, tN_ap, tF_ap, tNew_ap, br_true, br_false, brB_true, brB_false, brB_dec, brB_not, brO_some, vO_some, vE_some, bO_some, bO_map, nO_some, wO_some, ev_var, ev_int, ev_str, ev_bl, ev_non, ev_glob, evs_nil, evs_cons, kArg_ap, kCons_ap, ev_tup, kTup_ap, ev_lst, kLst_ap, ev_bin, kBin1_ap, kBin2_ap, opB_add, opB_sub, opB_mul, opB_mod, opB_adds, opB_addt, opB_rept, ev_neg, kNeg_ap, ev_not, kNot_ap, ev_and, kAnd_ap, ev_or, kOr_ap, ev_ife, kIfe_ap, ev_cmp, kCmp1_ap, kCmp2_ap, ev_chain, kCh1_ap, kCh2_ap, ev_ix, kIx1_ap, kIx2_ap, ev_rev, kRev_ap, ev_slice, kSl1_ap, kSl2_ap, kSl3_ap, evN_nil, evN_one, kEnd_ap, slP_tup, ev_call, kCall_ap, ev_bi, kBi_ap, biP_lenT, biP_lenF, biP_int, biP_tupT, biP_min, biP_max, ev_isi, kIsi_ap, isi_int, isi_bl, isi_tup, isi_non, isi_str, ev_lrg, kLrg_ap, ev_trg, kTrg_ap, ev_app, kApp1_ap, kApp2_ap, ev_pop, kPop1_ap, kPop2_ap, ev_ext, kExt1_ap, kExt2_ap, ev_meth, kMe1_ap, kMe2_ap, ev_dnew, meT_str, meT_gd, isT_join, isT_split, isT_zfill, isT_part, isT_upper, isT_find, isT_count, isT_get, isT_dpop, meP_get1, meP_get2, gtP_some, lookD_gd, ev_lc, kLc_ap, evI_val, kVal_ap, walk_tup, walk_frz, walkS_tup, walkS_frz, walkS_ref, walkS_str, evI_rng, kRng_ap, rgW_some, evI_enm, kEnm_ap, enW_some, evI_zip, kZip1_ap, kZip2_ap, ziW_tup, asg_nm, asgs_nil, asgs_cons, kTs_ap, asg_sub, kSub1_ap, kSub2_ap, blk_nil, blk_cons, kSeq_nx, kSeq_rt, kSeq_bk, kSeq_ct, st_asg, kAsg_ap, st_par, kPar_ap, st_aug, kAug1_ap, kAug2_ap, st_augS, kAs1_ap, kAs2_ap, tIx_ap, kAs3_ap, kAs4_ap, st_expr, kExpr_ap, st_ret, kRet_ap, st_retN, st_iff, kIf_ap, st_brk, st_cnt, st_pass, st_for, kFor_ap, st_whl, kBody_ap, kWh_ap, tNx_ap, kEnd_nx, kEnd_rt, cN0, cN1, cN2, cN3, cN4, cN5, cN6, cN7, cN8, cN9, cN10, cN11, cN12, cN13, cN14, cN15, line_big, line_ok, line_lt, apP_any, apL_some, stP_any, stP_key, stK_some, stL_some, stI_some, slP_any, slL_some, rvP_tup, rvP_any, rvL_some, slP_frz, biP_len, lnD_some, lnL_some, biP_tup, tpL_some, biP_lst, lsL_some, biP_lstT, opB_addr, adL_some, poP_any, poL_some, poC_ap, poT_some, poX_some, opB_e18, opB_e12, lrP_some, trP_some, isL_any, asg_any, atL_some, walk_any, wkL_some, ixD_ref, ixR_some, ixD_tup, ixD_frz, atD_0, atD_1, atD_2, atD_3, ixOf_0, ixOf_1, ixOf_2, mulOk_r, mulOk_l, divOk, Br_t, Br_f, lcTP_0, kLcA_ap, kLcB_ap, lcTP_1, kLcC_ap, kLcD_ap, tEl_ap, tOn_ap, cut_all, kStep_nx, kStep_rt, exX_nx, exX_rt, exX_ex, kSuR_ap, tSuE_ap, tSuN_ap, kSuC_ap, kRais_ap, kClX_ap, kSeqX_nx, kSeqX_rt, kSeqX_ex, tBX_ap, kIfX_ap, hd_cons, su_nil, su_ret, su_ifret, putX, offX, kClE_ap, kNextX_ap, tEX_ap, kIfeX_ap, kForX_ap, kBodyX_ap, opB_div, asg_tup, List.length_cons, truth_bl, truth_int, cmp_lt', cmp_le', cmp_gt', cmp_ge', cmp_is', cmp_isnot', cmp_isb', cmp_isnb', cmp_eq', cmp_ne', cmp_in', cmp_notin', eqD_int, eqD_bl, trunc_self, isi_int, isi_tup, isi_non, isi_bl, isi_str, List.getElem?_cons_zero, List.getElem?_cons_succ, List.set_cons_zero, List.set_cons_succ, List.map_cons, List.map_nil, List.replicate_succ, List.replicate_zero, List.cons_append, List.nil_append, List.length_nil, Option.map_some, Option.map_none, isLst_zero, isLst_succ, items_tup, items_ref, items_frz, wipeE, parSet, aop, Nat.sub_self, Nat.add_sub_cancel, Nat.reduceSub, Nat.reduceAdd, Nat.reduceLT, Nat.reduceLeDiff, Nat.reduceMul, Nat.reducePow, Int.reduceNeg, Int.reduceLT, Int.reduceLE, Int.reduceEq, Int.reduceAdd, Int.reduceSub, Int.reduceMul, Int.reducePow, Int.reduceToNat, Int.reduceMod, Int.reduceDiv, trunc_new, und_int, und_non, und_bl, und_str, und_frz, und_ref, eq_self, and_self, true_and, and_true, Nat.reduceEqDiff, decide_true, decide_false, Bool.not_true, Bool.not_false, Bool.true_and, Bool.false_and, Bool.and_true, Bool.and_false, if_true, if_false, reduceCtorEq, Bool.false_eq_true, Nat.zero_add, Option.bind_some, Option.isSome_some, Option.isSome_none, Nat.zero_le, line_ok, line_lt, $xs,*] $[$loc]?)
set_option maxHeartbeats 4000000
structure Po where
  g : List Int
  a : Int
  b : Int
  l : List Int
def Po.ok (p : Po) : Prop := 0 ≤ p.a ∧ 0 ≤ p.b ∧ p.b < 2147483648
def PB (p : Po) (t : Store) : Store := [.lst (p.g.map .int), .lst (p.l.map .int), .lst [.int p.a, .int p.b, .ref 1]] ++ t
section
variable {p p' : Po} {t u : Store} {x y : Int} {l : List Int} {d : D}
theorem PB_app : PB p t ++ u = PB p (t ++ u) := by simp [PB]
theorem PB_len : (PB p t).length = t.length + 3 := by simp [PB]
theorem PB_at2 : isLst (PB p t) 2 = some [.int p.a, .int p.b, .ref 1] := rfl
theorem PB_at1 : isLst (PB p t) 1 = some (p.l.map .int) := rfl
theorem PB_set2 : (PB p t).set 2 (.lst [.int x, .int y, .ref 1]) = PB { p with a := x, b := y } t := rfl
theorem PB_set1 : (PB p t).set 1 (.lst (l.map .int)) = PB { p with l := l } t := rfl
theorem PB_agree {n : Nat} (h : 3 ≤ n) : agree n (PB p t) (PB p' t) = true := by
  have h1 : ∀ z : List Int, D.unds n (z.map .int) = true := fun z => by
    rw [unds_iff]
    intro d hd
    obtain ⟨i, _, rfl⟩ := List.mem_map.mp hd
    rfl
  simp [PB, agree, Cell.und, D.unds, D.und, h1, agree_refl]
  omega
theorem PB_trunc : trunc (PB p t) d (PB p' t) = PB p' t := trunc_mut0 (PB_agree (by rw [PB_len]; omega)) (by rw [PB_len, PB_len])
theorem PB_drop (h : D.und (PB p t).length d = true) : trunc (PB p t) d (PB p' t ++ u) = PB p' t := trunc_mut h (PB_agree (by rw [PB_len]; omega)) (by rw [PB_len, PB_len])
theorem PB_truncU : trunc (PB p t ++ u) d (PB p' t ++ u) = PB p' t ++ u := by
  rw [PB_app, PB_app]
  exact PB_trunc
theorem agree_cat : ∀ {s s' : Store} {v v' : Store} {n : Nat}, agree n s s' = true → s.length = s'.length → agree n v v' = true → agree n (s ++ v) (s' ++ v') = true
  | [], [], v, v', n, _, _, h => h
  | [], _ :: _, _, _, _, _, h, _ => by simp at h
  | _ :: _, [], _, _, _, _, h, _ => by simp at h
  | c :: s, c' :: s', v, v', n, h, hl, h2 => by
    simp only [agree, Bool.and_eq_true, List.cons_append] at h ⊢
    exact ⟨h.1, agree_cat h.2 (by simpa using hl) h2⟩
theorem PB_same {u' : Store} (h : agree (PB p t ++ u).length u u' = true) (hl : u'.length = u.length) : trunc (PB p t ++ u) d (PB p' t ++ u') = PB p' t ++ u' :=
  trunc_mut0 (agree_cat (PB_agree (by rw [List.length_append, PB_len]; omega)) (by rw [PB_len, PB_len]) h) (by rw [List.length_append, List.length_append, PB_len, PB_len, hl])
theorem PB_rest {u' v : Store} (h : agree (PB p t ++ u).length u u' = true) (hl : u'.length = u.length) (hd : D.und (PB p t ++ u).length d = true) : trunc (PB p t ++ u) d (PB p' t ++ u' ++ v) = PB p' t ++ u' :=
  trunc_mut hd (agree_cat (PB_agree (by rw [List.length_append, PB_len]; omega)) (by rw [PB_len, PB_len]) h) (by rw [List.length_append, List.length_append, PB_len, PB_len, hl])
end
theorem ok_mod {g l : List Int} {x y : Int} (h : 0 ≤ x) : Po.ok ⟨g, x, y % 2147483629 + 3, l⟩ :=
  ⟨h, by have := Int.emod_nonneg y (b := 2147483629) (by omega); show (0 : Int) ≤ _ + 3; omega, by have := Int.emod_lt_of_pos y (b := 2147483629) (by omega); show _ + 3 < (2147483648 : Int); omega⟩
def drest : List S := fd_L_draw.body.drop 1
theorem draw_rest {k : Nat} {p q : Po} {t : Store} {many : Int} {Q : KQ} {c2 c3 c4 : Option D} (hv : p.ok) (hm : 0 < many) (hm2 : many < 18446744073709551616)
    (h : ∀ v p', 0 ≤ v → v < many → Po.ok p' → Q (.int v) (PB p' t)) : blk (mx P G fuel k) drest [some (.ref 2), some (.int many), c2, c3, c4] (kEnd' (PB q t) Q) (PB p t) := by
  obtain ⟨h1, h2, h3⟩ := hv
  unfold drest fd_L_draw
  simp only [List.drop_succ_cons, List.drop_zero]
  simp! only [PB_at2, PB_at1, PB_set2, PB_set1, PB_trunc]
  refine br.of (fun ha => ?_) (fun ha => ?_)
  · simp! only [PB_at2, PB_at1, PB_set2, PB_set1, PB_trunc, hm, hm2, divOk]
    refine h _ _ ?_ ?_ ?_
    · exact Int.emod_nonneg _ (by omega)
    · exact Int.emod_lt_of_pos _ hm
    · exact ⟨Int.ediv_nonneg h1 (by omega), h2, h3⟩
  · have hb : 0 ≤ (p.b * 48271 + 11) % 2147483647 := Int.emod_nonneg _ (by omega)
    have hb2 : (p.b * 48271 + 11) % 2147483647 < 2147483647 := Int.emod_lt_of_pos _ (by omega)
    have e : mulOk ((p.b * 48271 + 11) % 2147483647) ((p.b * 48271 + 11) % 2147483647) = true := by
      rw [mulOk_r (by omega) (by omega)]
      trivial
    simp! only [PB_at2, PB_at1, PB_set2, PB_set1, PB_trunc, hm, mulOk_r, e, divOk]
    refine h _ _ ?_ ?_ ?_
    · exact Int.emod_nonneg _ (by omega)
    · exact Int.emod_lt_of_pos _ hm
    · exact ⟨h1, hb, by show (p.b * 48271 + 11) % 2147483647 < _; omega⟩
theorem draw_spec {k : Nat} {p : Po} {t : Store} {many : Int} {Q : KQ} (hv : p.ok) (hm : 0 < many) (hm2 : many < 18446744073709551616)
    (h : ∀ v p', 0 ≤ v → v < many → Po.ok p' → Q (.int v) (PB p' t)) : cl (mx P G fuel (k + 1)) f_L_draw [.ref 2, .int many] Q (PB p t) := by
  refine cl_fd P_L_draw rfl ?_
  have e : fd_L_draw.body = fd_L_draw.body.getD 0 .pass :: drest := rfl
  rw [e, blk_cons]
  unfold fd_L_draw
  simp only [List.getD_cons_zero]
  simp! only [PB_at2, PB_at1, PB_set2, PB_set1, PB_trunc, hm]
  refine br.of (fun ha => ?_) (fun ha => ?_)
  · obtain ⟨pg, pa, pb, pl⟩ := p
    simp only at ha
    subst ha
    have e : eqD (PB ⟨pg, 0, pb, pl⟩ t ++ [Cell.lst []]) (.ref 1) (.ref (t.length + 3)) = some (decide (pl.map D.int = [])) :=
      eqD_lst (l := pl.map .int) (m := []) (isLst_old PB_at1) (by rw [isLst_new0 PB_len]; rfl) pur_ints rfl
    have hd : D.und (PB ⟨pg, 0, pb, pl⟩ t).length .non = true := rfl
    simp! only [PB_at2, PB_at1, PB_set2, PB_set1, PB_trunc, PB_len, e, trunc_new]
    refine br.of (fun hl => ?_) (fun hl => ?_)
    · simp! only [PB_at2]
      exact draw_rest hv hm hm2 h
    · cases pl with
      | nil => exact absurd rfl hl
      | cons c cs =>
        simp! only [PB_at2, PB_at1, List.eraseIdx_cons_zero, PB_set1, PB_set2, PB_trunc]
        refine br.of (fun hc => ?_) (fun hc => ?_)
        · simp! only [PB_at2, PB_at1, PB_set1, PB_set2, PB_trunc, mulOk_l, mulOk_r]
          refine br.of (fun hs => ?_) (fun hs => ?_)
          · simp! only [PB_at2, PB_at1, PB_set1, PB_set2, PB_trunc, mulOk_l, mulOk_r]
            exact draw_rest (ok_mod (by omega)) hm hm2 h
          · simp! only [PB_at2, PB_at1, PB_set1, PB_set2, PB_trunc, mulOk_l, mulOk_r]
            exact draw_rest (ok_mod (by omega)) hm hm2 h
        · simp! only [PB_at2, PB_at1, PB_set1, PB_set2, PB_trunc, mulOk_l, mulOk_r]
          refine br.of (fun hs => ?_) (fun hs => ?_)
          · simp! only [PB_at2, PB_at1, PB_set1, PB_set2, PB_trunc, mulOk_l, mulOk_r]
            exact draw_rest (ok_mod (by omega)) hm hm2 h
          · simp! only [PB_at2, PB_at1, PB_set1, PB_set2, PB_trunc, mulOk_l, mulOk_r]
            exact draw_rest (ok_mod (by omega)) hm hm2 h
  · simp! only [PB_at2, ha]
    exact draw_rest hv hm hm2 h
set_option maxHeartbeats 4000000
def tx (l : List Nat) : D := .str ⟨l.toArray⟩
def asc (l : List Nat) : Prop := ∀ c ∈ l, c < 128
theorem tx_inj {a b : List Nat} (h : tx a = tx b) : a = b := by
  unfold tx at h
  injection h with h
  exact congrArg (fun x : Str => x.cps.toList) h
theorem tx_eq {a b : List Nat} : (tx a = tx b) = (a = b) := propext ⟨tx_inj, fun h => by rw [h]⟩
theorem asc_app {a b : List Nat} (ha : asc a) (hb : asc b) : asc (a ++ b) := fun c hc => (List.mem_append.mp hc).elim (ha c) (hb c)
theorem asc_drop {a : List Nat} {n : Nat} (ha : asc a) : asc (a.drop n) := fun c hc => ha c (List.mem_of_mem_drop hc)
theorem asc_take {a : List Nat} {n : Nat} (ha : asc a) : asc (a.take n) := fun c hc => ha c (List.mem_of_mem_take hc)
theorem tx_strOk {a : List Nat} (h : asc a) : PyData.strOk ⟨a.toArray⟩ = true := by
  unfold PyData.strOk
  rw [List.all_toArray, List.all_eq_true]
  intro c hc
  exact decide_eq_true (Nat.lt_trans (h c hc) (by decide))
theorem pur_tx {a : List Nat} {n : Nat} (h : asc a) : pur (n + 1) (tx a) = true := by
  show PyData.strOk _ = true
  exact tx_strOk h
theorem tx_len {a : List Nat} : (⟨a.toArray⟩ : Str).length = a.length := SX.S_len a
section
variable {s : Store} {Q : KQ} {a b : List Nat}
theorem und_tx {n : Nat} : D.und n (tx a) = true := rfl
theorem opB_tx : opB .Add (tx a) (tx b) Q s = br (a.length + b.length ≤ sizeLine) (tQ (tx (a ++ b)) Q) tF s := by
  unfold tx
  rw [opB_adds, tx_len, tx_len, SX.S_cat]
theorem opB_txx (h : a.length + b.length ≤ 1000000) : opB .Add (tx a) (tx b) Q s = Q (tx (a ++ b)) s := by
  rw [opB_tx]
  unfold br tQ
  rw [if_pos (Nat.le_of_lt (Nat.lt_of_le_of_lt h line_big))]
theorem eqD_tx (ha : asc a) (hb : asc b) : eqD s (tx a) (tx b) = some (decide (a = b)) := by
  rw [eqD_pur (pur_tx ha) (pur_tx hb)]
  exact congrArg some (decide_eq_decide.mpr (by rw [tx_eq]))
theorem meT_tx {m : Me} : meT m s (tx a) = m.isT := meT_str
theorem isi_tx {t : Ty} : isiD s (tx a) t = some (decide (t = .str)) := isi_str
theorem biP_lenTx : biP .len [tx a] Q s = br (a.length ≤ sizeLine) (tQ (.int a.length) Q) tF s := by
  unfold biP br tQ tF
  show WpR (if (⟨a.toArray⟩ : Str).length ≤ sizeLine then .ok (.int (⟨a.toArray⟩ : Str).length) s else .bad) Q = _
  rw [tx_len]
  split <;> rfl
theorem biP_ordTx {c : Nat} : biP .ord [tx [c]] Q s = Q (.int c) s := rfl
theorem walkS_tx : walkS s (tx a) = some ⟨[], a.map fun c => tx [c]⟩ := by
  unfold tx
  rw [walkS_str]
theorem ixD_tx {i c : Nat} (hz : a.length ≤ sizeLine) (h : a[i]? = some c) : ixD s (tx a) (.int (i : Nat)) = some (tx [c]) := by
  show (if (⟨a.toArray⟩ : Str).length ≤ sizeLine then (atD a (i : Nat)).map (fun c => D.str ⟨#[c]⟩) else none) = _
  rw [tx_len, if_pos hz, atD_nat, h]
  rfl
theorem inD_tx {c : Nat} : inD s (tx [c]) (tx a) = some (decide (c ∈ a)) := rfl
theorem slP_tx {lo hi : Option Int} (hz : a.length ≤ sizeLine) : slP (tx a) lo hi Q s = Q (tx ((a.drop (endOf a.length 0 lo)).take (endOf a.length a.length hi - endOf a.length 0 lo))) s := by
  unfold slP
  show WpR (if (⟨a.toArray⟩ : Str).length ≤ sizeLine then _ else _) Q = _
  rw [tx_len, if_pos hz]
  show Q (.str (L2.cutS ⟨a.toArray⟩ lo hi)) s = _
  have e : ∀ (n d : Nat) (o : Option Int), HT.sIx n d o = endOf n d o := fun n d o => by cases o <;> rfl
  unfold L2.cutS tx
  rw [e, e, tx_len]
theorem meP_splitTx (hb : b ≠ []) (hk : b.all (· < 256) = true) (hz : a.length + 2 ≤ sizeLine) (hl : (TL.spl b 0 [] a).length ≤ sizeLine) : meP .split (tx a) [tx b] Q s = Q (.ref s.length) (s ++ [.lst ((TL.spl b 0 [] a).map tx)]) := by
  unfold meP
  show WpR (if (⟨b.toArray⟩ : Str).length ≠ 0 ∧ (⟨a.toArray⟩ : Str).length + 2 ≤ sizeLine then newLst ((Txt.split ⟨a.toArray⟩ ⟨b.toArray⟩).map .str) s else .bad) Q = _
  rw [tx_len, tx_len, if_pos ⟨by cases b; exact absurd rfl hb; simp, hz⟩, show Txt.split ⟨a.toArray⟩ ⟨b.toArray⟩ = _ from SX.split_S hb hk, List.map_map]
  unfold newLst
  rw [if_pos (by rw [List.length_map]; exact hl)]
  rfl
theorem strsOf_tx : ∀ l : List (List Nat), strsOf (l.map tx) = some (l.map fun a => (⟨a.toArray⟩ : Str))
  | [] => rfl
  | a :: l => by
    show (strsOf (l.map tx)).map _ = _
    rw [strsOf_tx l]
    rfl
theorem meP_joinTx {d : D} {l : List (List Nat)} (h : items s d = some (l.map tx)) (hz : (l.map (·.length)).sum + l.length * a.length ≤ 16777216) : meP .join (tx a) [d] Q s = Q (tx (TL.joinL a l)) s := by
  unfold meP
  have e : meD .join (tx a) [d] s = .ok (tx (TL.joinL a l)) s := by
    show (match items s d with
      | some l => (match strsOf l with
        | some ys => if (ys.map (·.length)).sum + ys.length * (⟨a.toArray⟩ : Str).length ≤ 16777216 then .ok (.str (Txt.join ⟨a.toArray⟩ ys)) s else .bad
        | none => .bad)
      | none => .bad : R D) = _
    rw [h]
    dsimp only
    rw [strsOf_tx]
    dsimp only
    have e2 : (l.map fun a => (⟨a.toArray⟩ : Str)).map (·.length) = l.map (·.length) := SX.lens l
    rw [e2, List.length_map, tx_len, if_pos hz]
    have e3 : Txt.join ⟨a.toArray⟩ (l.map fun a => (⟨a.toArray⟩ : Str)) = ⟨(TL.joinL a l).toArray⟩ := SX.join_S a l
    rw [e3]
    rfl
  rw [e]
  rfl
theorem cmpD_leTx : cmpD .LtE s (tx a) (tx b) = some (!decide (b < a)) := rfl
end
def numI (i : Int) : List Nat := if 0 ≤ i then TL.numL i.toNat else 45 :: TL.numL i.natAbs
theorem numI_nat {n : Nat} : numI (n : Nat) = TL.numL n := by
  unfold numI
  rw [if_pos (Int.natCast_nonneg _), Int.toNat_natCast]
theorem str_int {i : Int} : (Str.ofString (toString i)) = ⟨(numI i).toArray⟩ := by
  cases i with
  | ofNat n =>
    have e : numI (Int.ofNat n) = TL.numL n := numI_nat
    rw [e]
    exact SX.num_S n
  | negSucc m =>
    have e : numI (Int.negSucc m) = 45 :: TL.numL (m + 1) := rfl
    rw [e]
    refine TL.ext_tl ?_
    have h := TL.tl_num (m + 1)
    rw [TL.tl_ofString] at h ⊢
    show (("-" ++ toString (m + 1) : String).toList.map Char.toNat) = 45 :: TL.numL (m + 1)
    rw [← h, String.toList_append, List.map_append]
    rfl
theorem biP_strInt {i : Int} {s : Store} {Q : KQ} (h : i.natAbs < 2 ^ 64) : biP .str [.int i] Q s = Q (tx (numI i)) s := by
  have hl : i.natAbs.log2 < 1920 := by
    by_cases c : i.natAbs = 0
    · rw [c]; decide
    · exact Nat.lt_trans ((Nat.log2_lt c).mpr h) (by decide)
  unfold biP
  show WpR (if i.natAbs.log2 < 1920 then .ok (.str (Str.ofString (toString i))) s else .bad) Q = _
  rw [if_pos hl, str_int]
  rfl
theorem biP_intTx {a : List Nat} {s : Store} {Q : KQ} (h : a.all (fun c => decide (48 ≤ c) && decide (c ≤ 57)) = true) (hne : a ≠ []) (hl : a.length ≤ 640) : biP .int [tx a] Q s = Q (.int (NumText.digitsVal a : Nat)) s := by
  unfold biP
  show WpR (match intText? ⟨a.toArray⟩ with
    | some n => if (⟨a.toArray⟩ : Str).length ≤ 640 then .ok (.int n) s else .bad
    | none => .bad) Q = _
  rw [show intText? ⟨a.toArray⟩ = _ from SX.int_S h hne (by omega)]
  show WpR (if (⟨a.toArray⟩ : Str).length ≤ 640 then .ok (.int _) s else .bad) Q = _
  rw [tx_len, if_pos hl]
  rfl
def zpad (n : Nat) (a : List Nat) : List Nat := List.replicate (n - a.length) 48 ++ a
theorem meP_zfillTx {a : List Nat} {s : Store} {Q : KQ} (h : ∀ c ∈ a, 48 ≤ c) : meP .zfill (tx a) [.int 6] Q s = Q (tx (zpad 6 a)) s := by
  have e : Txt.zfill ⟨a.toArray⟩ 6 = ⟨(zpad 6 a).toArray⟩ := by
    unfold Txt.zfill zpad
    rw [tx_len]
    by_cases c : (6 : Int) ≤ a.length
    · rw [if_pos c, show 6 - a.length = 0 from by omega]
      rfl
    · rw [if_neg c]
      have ez : (6 : Int).toNat - a.length = 6 - a.length := rfl
      rw [ez]
      unfold zfilled
      have go : PySem.Builtin.Str.padded (⟨a.toArray⟩ : Str) (6 - a.length) 0 48 = ⟨(List.replicate (6 - a.length) 48 ++ a).toArray⟩ := by
        refine TL.ext_tl ?_
        show ((Array.replicate (6 - a.length) 48 ++ a.toArray ++ Array.replicate 0 48) : Array Nat).toList = _
        rw [Array.toList_append, Array.toList_append, Array.toList_replicate, Array.toList_replicate]
        simp
      cases a with
      | nil => exact go
      | cons x l =>
        have hx := h x List.mem_cons_self
        show (match (some x : Option Nat) with
          | some 43 | some 45 => _
          | _ => _ : Str) = _
        split
        · rename_i q; injection q with q; omega
        · rename_i q; injection q with q; omega
        · exact go
  unfold meP
  show WpR (if PadOk 6 then .ok (.str (Txt.zfill ⟨a.toArray⟩ 6)) s else .bad) Q = _
  rw [if_pos (by decide), e]
  rfl
set_option maxHeartbeats 4000000
theorem map_drop1 {ns : List Int} : (ns.map D.int).drop 1 = (ns.drop 1).map D.int := by rw [List.map_drop]
theorem pool_spec {k : Nat} {ns : List Int} {Q : KQ} (hn : ns.length ≤ 63) (h : ∀ p, Po.ok p → Q (.ref 2) (PB p [])) : cl (mx P G fuel (k + 1)) f_L_pool [.frz ns] Q [] := by
  refine cl_fd P_L_pool rfl ?_
  unfold fd_L_pool
  simp! only [biP_lenF]
  have fin : ∀ (z : Int) (c : D), 0 ≤ z → blk (mx P G fuel k) [.ret (.lst [(.ife (.cmp (.var 2) .GtE (.bin .Pow (.int 10) (.int 18))) (.var 2) (.int 0)), (.bin .Add (.bin .Mod (.bi .int [(.bin .Add (.bin .Mult (.var 2) (.int 48271)) (.int 1009))]) (.int 2147483629)) (.int 3)), (.bi .list [(.slice (.var 0) [(.int 1)] [])])])]
      [some (.frz ns), some c, some (.int z)] (kEnd' [] Q) [] := by
    intro z c hz
    have hl : (cutD (ns.map D.int) (some 1) none).length ≤ 1000000 := by
      rw [cut_from (by omega), List.length_drop, List.length_map]
      omega
    have go : ∀ y : Int, 0 ≤ y → evs (mx P G fuel k) [(.bin .Add (.bin .Mod (.bi .int [(.bin .Add (.bin .Mult (.var 2) (.int 48271)) (.int 1009))]) (.int 2147483629)) (.int 3)), (.bi .list [(.slice (.var 0) [(.int 1)] [])])]
        [some (.frz ns), some c, some (.int z)] (kCons (.int y) (kLst (kRet [] (kSeq (mx P G fuel k) [] (kEnd' [] Q))))) [] := by
      intro y hy
      have e3 : cutD (ns.map D.int) (some 1) none = (ns.drop 1).map D.int := by rw [cut_from (by omega), ← map_drop1]; rfl
      simp! only [mulOk_r, slP_frz, hl, List.length_append]
      have q := h ⟨ns.drop 1, y, (z * 48271 + 1009) % 2147483629 + 3, ns.drop 1⟩ (ok_mod hy)
      unfold PB at q
      simp only [List.append_nil] at q
      rw [trunc_keep (by simp [D.und]), e3]
      exact q
    simp! only []
    refine br.of (fun hs => ?_) (fun hs => ?_)
    · simp! only []
      have q := go z hz
      simp! only [] at q ⊢
      exact q
    · simp! only []
      have q := go 0 (by omega)
      simp! only [] at q ⊢
      exact q
  refine br.of (fun hs => ?_) (fun hs => ?_)
  · cases ns with
    | nil => simp at hs
    | cons x r =>
      simp! only []
      refine br.of (fun hx => ?_) (fun hx => ?_)
      · have q := fin (2 * x) (.int x) (by omega)
        simp! only [] at q
        simp! only [mulOk_l]
        exact q
      · have q := fin (-1 - 2 * x) (.int x) (by omega)
        simp! only [] at q
        simp! only [mulOk_l]
        exact q
  · have q := fin 0 (.int 0) (by omega)
    simp! only [] at q
    simp! only [mulOk_l]
    exact q
set_option maxHeartbeats 4000000
def nD (n : Nat) : D := .int n
def nL (l : List Nat) : List D := l.map nD
theorem nL_len {l : List Nat} : (nL l).length = l.length := by simp [nL]
theorem nL_get {l : List Nat} {i : Nat} : (nL l)[i]? = l[i]?.map nD := by simp [nL]
theorem nL_erase {l : List Nat} {i : Nat} : (nL l).eraseIdx i = nL (l.eraseIdx i) := by
  induction l generalizing i with
  | nil => rfl
  | cons a l ih =>
    cases i with
    | zero => rfl
    | succ i => exact congrArg (nD a :: ·) ih
theorem nL_app {l : List Nat} {x : Nat} : nL l ++ [nD x] = nL (l ++ [x]) := by simp [nL]
theorem rng_nat {m : Nat} : rngL 0 (m : Int) = nL (List.range m) := by
  unfold rngL nL
  have e : ((m : Int) - 0).toNat = m := by omega
  rw [e]
  apply List.map_congr_left
  intro i _
  show D.int (0 + (i : Int)) = D.int i
  rw [Int.zero_add]
theorem und_nL {n : Nat} {l : List Nat} : D.unds n (nL l) = true := by
  rw [unds_iff]
  intro d hd
  obtain ⟨i, _, rfl⟩ := List.mem_map.mp hd
  rfl
theorem rng_of {m : Nat} (h : m ≤ 1000) : rngD [.int (m : Int)] = some (nL (List.range m)) := by rw [rng1 (small_of (by omega) (by omega)), rng_nat]
theorem draw_at {k : Nat} {p : Po} {t u : Store} {many : Int} {Q : KQ} (hv : p.ok) (hm : 0 < many) (hm2 : many < 18446744073709551616)
    (h : ∀ v p', 0 ≤ v → v < many → Po.ok p' → Q (.int v) (PB p' t ++ u)) : cl (mx P G fuel (k + 1)) f_L_draw [.ref 2, .int many] Q (PB p t ++ u) := by
  rw [PB_app]
  refine draw_spec hv hm hm2 fun v p' h1 h2 h3 => ?_
  rw [← PB_app]
  exact h v p' h1 h2 h3
theorem perm_pick : ∀ {l : List Nat} {v : Nat} (h : v < l.length), (l[v] :: l.eraseIdx v).Perm l
  | [], _, h => by simp at h
  | a :: l, 0, _ => List.Perm.refl _
  | a :: l, v + 1, h => by
    have ih := perm_pick (l := l) (v := v) (by simpa using h)
    simp only [List.getElem_cons_succ, List.eraseIdx_cons_succ]
    exact (List.Perm.swap _ _ _).trans (ih.cons a)
theorem le_big {n : Nat} (h : n ≤ 1000) : n ≤ 1000000 := by omega
set_option maxHeartbeats 4000000
abbrev Deed := Nat × List Nat
def dD (d : Deed) : D := .tup [nD d.1, .tup (nL d.2)]
def logD (m : Nat) (ds : List Deed) : D := .tup [nD m, .tup (ds.map dD)]
def DeedOk (m : Nat) (d : Deed) : Prop := d.1 < m ∧ (∀ r ∈ d.2, r < m ∧ r ≠ d.1) ∧ d.2.Pairwise (· < ·)
def LogOk (m : Nat) (ds : List Deed) : Prop := ∀ d ∈ ds, DeedOk m d
def Rung (rk : Nat → Nat) (ds : List Deed) : Prop := ∀ d ∈ ds, ∀ r ∈ d.2, rk r < rk d.1
theorem fm_nL {f : D → Option D} {g : Nat → Bool} : ∀ {l : List Nat}, (∀ o ∈ l, f (nD o) = if g o = true then some (nD o) else none) → (nL l).filterMap f = nL (l.filter g)
  | [], _ => rfl
  | a :: l, h => by
    have ih := fm_nL (f := f) (g := g) (l := l) fun o ho => h o (List.mem_cons_of_mem _ ho)
    have h1 := h a List.mem_cons_self
    show (nD a :: nL l).filterMap f = _
    rw [List.filterMap_cons, h1, List.filter_cons]
    cases g a with
    | true =>
      simp only [if_true]
      rw [ih]
      rfl
    | false =>
      simp only [Bool.false_eq_true, if_false]
      exact ih
theorem und_dD {n : Nat} {d : Deed} : D.und n (dD d) = true := by simp [dD, D.und, D.unds, nD, und_nL]
theorem und_logD {n m : Nat} {ds : List Deed} : D.und n (logD m ds) = true := by
  simp only [logD, D.und, D.unds, nD, Bool.true_and, Bool.and_true]
  rw [unds_iff]
  intro d hd
  obtain ⟨x, _, rfl⟩ := List.mem_map.mp hd
  exact und_dD
theorem und_dDs {n : Nat} {ds : List Deed} : D.unds n (ds.map dD) = true := by
  rw [unds_iff]
  intro d hd
  obtain ⟨x, _, rfl⟩ := List.mem_map.mp hd
  exact und_dD
theorem lc_drawn {k : Nat} {p : Po} {t u : Store} {ρ : Env} {th : Int} {free : List Nat} {n : Nat} {Q : KQ} (hv : p.ok) (hn : (PB p t ++ u).length = n) (h0 : (wipeE ρ [10])[0]? = some (some (.ref 2))) (h6 : (wipeE ρ [10])[6]? = some (some (.int th))) (h10 : (wipeE ρ [10]).length = 11) (hth : 0 < th + 1) (hth2 : th + 1 < 1000)
    (hf : isLst (PB p t ++ u) (n - 1) = some (nL free)) (hn1 : 0 < n) (hu : 0 < u.length) (hz : free.length ≤ 1000) (h : ∀ p' l, Po.ok p' → l.Sublist free → Q (.ref n) (PB p' t ++ u ++ [.lst (nL l)])) :
    lcP (mx P G fuel (k + 1)) (.var 10) (.nm 10) [(.cmp (.call f_L_draw [(.var 0), (.bin .Add (.var 6) (.int 1))]) .Eq (.int 0))] [10] ρ ⟨[(n - 1, nL free)], nL free⟩ Q (PB p t ++ u) := by
  have hlen : ∀ p' : Po, (PB p' t ++ u).length = n := fun p' => by rw [← hn, List.length_append, List.length_append, PB_len, PB_len]
  have hst : ∀ (p' : Po) (acc : List D), isLst (PB p' t ++ u ++ [.lst acc]) (n - 1) = some (nL free) := fun p' acc => by
    rw [isLst_app (by rw [hlen]; omega)]
    have e : ∀ q : Po, isLst (PB q t ++ u) (n - 1) = isLst u (n - 1 - (t.length + 3)) := fun q => by
      have : n - 1 = (t.length + 3) + (n - 1 - (t.length + 3)) := by
        have := hlen p
        rw [List.length_append, PB_len] at this
        omega
      rw [this, isLst_new PB_len]
      congr 1
      omega
    rw [e]
    rw [e] at hf
    exact hf
  refine lc_go (fun r acc s2 => ∃ (p' : Po) (l dn left : List Nat), p'.ok ∧ s2 = PB p' t ++ u ∧ acc = nL l ∧ r = nL left ∧ free = dn ++ left ∧ l.Sublist dn) ⟨p, [], [], free, hv, rfl, rfl, rfl, rfl, List.Sublist.refl _⟩ ?_ ?_ ?_
  · rintro r acc s2 ⟨p', l, dn, left, hv, rfl, rfl, rfl, e, hs⟩
    refine ⟨by rw [hlen, hn], by rw [stays_one]; exact hst _ _, ?_⟩
    have h1 := hs.length_le
    have h2 := congrArg List.length e
    rw [List.length_append] at h2
    rw [nL_len, nL_len]
    exact Nat.lt_of_le_of_lt (show l.length + left.length ≤ 1000000 by omega) line_big
  · rintro x r acc s2 ⟨p', l, dn, left, hv, rfl, rfl, e1, e, hs⟩
    cases left with
    | nil => cases e1
    | cons a left =>
      cases e1
      obtain ⟨ρ', hρ⟩ : ∃ ρ', ρ' = wipeE ρ [10] := ⟨_, rfl⟩
      rw [← hρ] at h0 h6 h10
      rw [lcTP_1, ← hρ]
      have g0 : (ρ'.set 10 (some (nD a)))[0]? = some (some (.ref 2)) := by rw [List.getElem?_set_ne (by decide)]; exact h0
      have g6 : (ρ'.set 10 (some (nD a)))[6]? = some (some (.int th)) := by rw [List.getElem?_set_ne (by decide)]; exact h6
      have g10 : (ρ'.set 10 (some (nD a)))[10]? = some (some (nD a)) := by rw [List.getElem?_set_self (by rw [h10]; decide)]
      simp! only [g0, g6, g10]
      rw [List.append_assoc]
      refine draw_at hv hth (by omega) fun v p2 h1 h2 h3 => ?_
      have et : ∀ d : D, trunc (PB p' t ++ (u ++ [Cell.lst (nL l)])) d (PB p2 t ++ (u ++ [Cell.lst (nL l)])) = PB p2 t ++ u ++ [Cell.lst (nL l)] := fun d => by
        rw [List.append_assoc]
        exact PB_truncU
      have et2 : ∀ d : D, trunc (PB p2 t ++ u ++ [Cell.lst (nL l)]) d (PB p2 t ++ u ++ [Cell.lst (nL l)]) = PB p2 t ++ u ++ [Cell.lst (nL l)] := fun d => trunc_self
      simp! only [et]
      refine br.of (fun hv0 => ?_) (fun hv0 => ?_)
      · simp! only [g10, et]
        exact ⟨_, rfl, p2, l ++ [a], dn ++ [a], left, h3, rfl, nL_app, rfl, by rw [e]; simp, hs.append (List.Sublist.refl _)⟩
      · simp! only []
        exact ⟨_, rfl, p2, l, dn ++ [a], left, h3, rfl, by simp, rfl, by rw [e]; simp, by simpa using hs.append (List.nil_sublist [a])⟩
  · rintro acc s2 ⟨p', l, dn, left, hv, rfl, rfl, e1, e, hs⟩
    have hl0 : left = [] := by
      cases left with
      | nil => rfl
      | cons a b => cases e1
    subst hl0
    rw [List.append_nil] at e
    subst e
    rw [hn]
    exact h p' l hv hs
set_option maxHeartbeats 4000000
theorem nD_int {n : Nat} : nD n = .int (n : Int) := rfl
theorem is_whole_int {k : Nat} {i : Int} {s : Store} {Q : KQ} (h : Q (.bl true) s) : cl (mx P G fuel (k + 1)) f_is_whole [.int i] Q s := by
  refine cl_fd P_is_whole rfl ?_
  unfold fd_is_whole
  simp! only []
  exact h
theorem enm_tup {l : List D} : (enmOf ⟨[], l⟩).its = l.zipIdx.map fun p => .tup [.int p.2, p.1] := rfl
set_option maxHeartbeats 4000000
structure LL (n : Nat) (s : Store) (A : Nat) (refs : List Nat) (rows : List (List D)) : Prop where
  out : isLst s A = some (refs.map .ref)
  len : refs.length = rows.length
  nd : refs.Nodup
  notA : A ∉ refs
  low : n ≤ A
  lows : ∀ r ∈ refs, n ≤ r
  row : ∀ (i r : Nat), refs[i]? = some r → isLst s r = rows[i]?
section
variable {n A a i : Nat} {s t : Store} {refs : List Nat} {rows : List (List D)} {r : List D} {c : Cell}
theorem LL.get (L : LL n s A refs rows) (h : rows[i]? = some r) : ∃ a, refs[i]? = some a ∧ isLst s a = some r ∧ n ≤ a ∧ a ≠ A := by
  have hi : i < refs.length := by
    rw [L.len]
    exact (List.getElem?_eq_some_iff.mp h).1
  have e := List.getElem?_eq_getElem hi
  have hm : refs[i] ∈ refs := List.getElem_mem hi
  exact ⟨refs[i], e, by rw [L.row i _ e]; exact h, L.lows _ hm, fun z => L.notA (z ▸ hm)⟩
theorem LL.at_ (L : LL n s A refs rows) (h : refs[i]? = some a) : atD (refs.map D.ref) (i : Int) = some (.ref a) := by
  rw [atD_nat, List.getElem?_map, h]
  rfl
theorem LL.ltA (L : LL n s A refs rows) : A < s.length := isLst_lt L.out
theorem LL.lt (L : LL n s A refs rows) (h : a ∈ refs) : a < s.length := by
  obtain ⟨i, hi⟩ := List.getElem?_of_mem h
  have hl : i < rows.length := by
    rw [← L.len]
    exact (List.getElem?_eq_some_iff.mp hi).1
  have := L.row i a hi
  rw [List.getElem?_eq_getElem hl] at this
  exact isLst_lt this
theorem LL.ext (L : LL n s A refs rows) : LL n (s ++ t) A refs rows where
  out := isLst_old L.out
  len := L.len
  nd := L.nd
  notA := L.notA
  low := L.low
  lows := L.lows
  row := fun i r h => by
    rw [isLst_app (L.lt (List.mem_of_getElem? h))]
    exact L.row i r h
theorem LL.other (L : LL n s A refs rows) (h1 : a ≠ A) (h2 : a ∉ refs) : LL n (s.set a c) A refs rows where
  out := by rw [isLst_set_ne h1]; exact L.out
  len := L.len
  nd := L.nd
  notA := L.notA
  low := L.low
  lows := L.lows
  row := fun i r h => by
    rw [isLst_set_ne (fun z => h2 (by rw [z]; exact List.mem_of_getElem? h))]
    exact L.row i r h
theorem LL.setIn (L : LL n s A refs rows) (h : refs[i]? = some a) : LL n (s.set a (.lst r)) A refs (rows.set i r) := by
  have ha := List.mem_of_getElem? h
  have hi : i < refs.length := (List.getElem?_eq_some_iff.mp h).1
  refine ⟨?_, by rw [List.length_set]; exact L.len, L.nd, L.notA, L.low, L.lows, fun j b hb => ?_⟩
  · rw [isLst_set_ne (fun z => L.notA (by rw [← z]; exact ha))]
    exact L.out
  · by_cases hj : i = j
    · subst hj
      rw [h] at hb
      cases hb
      rw [isLst_set_self (L.lt ha), List.getElem?_set_self (by rw [← L.len]; exact hi)]
    · have hne : a ≠ b := fun z => by
        subst z
        have h1 := List.getElem?_eq_some_iff.mp h
        have h2 := List.getElem?_eq_some_iff.mp hb
        exact hj ((List.getElem_inj L.nd).mp (h1.2.trans h2.2.symm))
      rw [isLst_set_ne hne, List.getElem?_set_ne hj]
      exact L.row j b hb
theorem LL.setNew (L : LL n s A refs rows) (hi : i < rows.length) (hb : isLst s a = some r) (h1 : a ≠ A) (h2 : a ∉ refs) (h3 : n ≤ a) : LL n (s.set A (.lst ((refs.map D.ref).set i (.ref a)))) A (refs.set i a) (rows.set i r) := by
  refine ⟨?_, by rw [List.length_set, List.length_set]; exact L.len, ?_, ?_, L.low, ?_, ?_⟩
  · rw [isLst_set_self L.ltA, List.map_set]
  · unfold List.Nodup
    rw [List.pairwise_iff_getElem]
    intro x y hx hy hxy
    have nd := List.pairwise_iff_getElem.mp (show List.Pairwise (· ≠ ·) refs from L.nd)
    rw [List.length_set] at hx hy
    rw [List.getElem_set, List.getElem_set]
    split
    · split
      · omega
      · exact fun z => h2 (by rw [z]; exact List.getElem_mem _)
    · split
      · exact fun z => h2 (by rw [← z]; exact List.getElem_mem _)
      · exact nd x y hx hy hxy
  · intro hm
    rcases List.mem_or_eq_of_mem_set hm with z | z
    · exact L.notA z
    · exact h1 z.symm
  · intro b hb'
    rcases List.mem_or_eq_of_mem_set hb' with z | z
    · exact L.lows b z
    · rw [z]; exact h3
  · intro j b hj
    by_cases hij : i = j
    · subst hij
      rw [List.getElem?_set_self (by rw [L.len]; exact hi)] at hj
      cases hj
      rw [isLst_set_ne (fun z => h1 z.symm), List.getElem?_set_self hi]
      exact hb
    · rw [List.getElem?_set_ne hij] at hj
      rw [isLst_set_ne (fun z => L.notA (by rw [z]; exact List.mem_of_getElem? hj)), List.getElem?_set_ne hij]
      exact L.row j b hj
theorem set_high {b v : Store} (hb : b.length = n) (h : n ≤ a) : (b ++ v).set a c = b ++ v.set (a - n) c := by
  have e : a = n + (a - n) := by omega
  rw [e, set_new hb]
  congr 2
  omega
end
section
variable {X : Mx} {ρ : Env} {s : Store} {Q : KQ}
theorem lc_goV {elt : E} {tg : Tg} {ifs : List E} {own : List Nat} {w : Walk} (I : List D → List D → Store → Store → Prop) (h0 : I w.its [] s [])
    (hl : ∀ r acc s2 v, I r acc s2 v → s2.length = s.length ∧ w.stays (s2 ++ .lst acc :: v) = true ∧ acc.length + r.length < sizeLine)
    (ht : ∀ x r acc s2 v, I (x :: r) acc s2 v → lcTP X elt tg ifs own ρ x (fun o s3 => ∃ s4 v', s3 = s4 ++ .lst acc :: v' ∧ I r (acc ++ o.toList) s4 v') (s2 ++ .lst acc :: v))
    (he : ∀ acc s2 v, I [] acc s2 v → Q (.ref s.length) (s2 ++ .lst acc :: v)) : lcP X elt tg ifs own ρ w Q s := by
  unfold lcP
  have go : ∀ (r acc : List D) (s2 v : Store), I r acc s2 v → WpR (lcGo w s.length (lcT X.C X.G elt tg ifs own ρ) r (s2 ++ .lst acc :: v)) Q := by
    intro r
    induction r with
    | nil =>
      intro acc s2 v h
      obtain ⟨h1, h2, _⟩ := hl _ _ _ _ h
      unfold lcGo
      rw [if_pos h2]
      exact he _ _ _ h
    | cons x r ih =>
      intro acc s2 v h
      obtain ⟨h1, h2, h3⟩ := hl _ _ _ _ h
      unfold lcGo
      rw [if_pos h2, WpR_bind, wp_quiet]
      have q := ht _ _ _ _ _ h
      unfold lcTP at q
      refine WpR_mono q fun o s3 ⟨s4, v', e, hI⟩ => ?_
      subst e
      obtain ⟨g1, _, _⟩ := hl _ _ _ _ hI
      cases o with
      | none =>
        simp only [Option.toList, List.append_nil] at hI
        exact ih _ _ _ hI
      | some d =>
        have e1 : isLst (s4 ++ Cell.lst acc :: v') s.length = some acc := by rw [isLst_new0 g1]; rfl
        have hz : acc.length < sizeLine := by omega
        simp only [e1]
        rw [if_pos hz, set_new0 g1]
        exact ih _ _ _ hI
  exact go _ _ _ _ h0
end
set_option maxHeartbeats 4000000
def Edge (ds : List Deed) (a b : Nat) : Prop := ∃ d ∈ ds, d.1 = a ∧ b ∈ d.2
inductive Rch (ds : List Deed) : Nat → Nat → Prop where
  | refl (a : Nat) : Rch ds a a
  | step {a b c : Nat} : Edge ds a b → Rch ds b c → Rch ds a c
theorem Rch.one {ds : List Deed} {a b : Nat} (h : Edge ds a b) : Rch ds a b := .step h (.refl b)
theorem Rch.trans {ds : List Deed} {a b c : Nat} (h : Rch ds a b) (h' : Rch ds b c) : Rch ds a c := by
  induction h with
  | refl a => exact h'
  | step e _ ih => exact .step e (ih h')
theorem Rch.lt {ds : List Deed} {m a b : Nat} (lo : LogOk m ds) (h : Rch ds a b) (ha : a < m) : b < m := by
  induction h with
  | refl a => exact ha
  | step e _ ih =>
    obtain ⟨d, hd, _, hb⟩ := e
    exact ih ((lo d hd).2.1 _ hb).1
def via (f : Nat → Nat → Bool) : Nat → Nat → Nat → Bool
  | 0, a, b => f a b
  | k + 1, a, b => via f k a b || (via f k a k && via f k k b)
theorem via_row {f : Nat → Nat → Bool} {k b : Nat} : via f (k + 1) k b = via f k k b := by
  simp only [via]
  cases via f k k b <;> simp
theorem via_sound {f : Nat → Nat → Bool} {ds : List Deed} (h : ∀ a b, f a b = true → Rch ds a b) : ∀ k a b, via f k a b = true → Rch ds a b
  | 0, a, b, e => h a b e
  | k + 1, a, b, e => by
    simp only [via, Bool.or_eq_true, Bool.and_eq_true] at e
    rcases e with e | ⟨e1, e2⟩
    · exact via_sound h k a b e
    · exact (via_sound h k a k e1).trans (via_sound h k k b e2)
theorem via_mono {f : Nat → Nat → Bool} : ∀ k a b, f a b = true → via f k a b = true
  | 0, a, b, e => e
  | k + 1, a, b, e => by
    simp only [via, Bool.or_eq_true]
    exact .inl (via_mono k a b e)
theorem via_trans {f : Nat → Nat → Bool} : ∀ k i a b, i < k → via f k a i = true → via f k i b = true → via f k a b = true
  | 0, i, a, b, h, _, _ => by omega
  | k + 1, i, a, b, h, h1, h2 => by
    simp only [via, Bool.or_eq_true, Bool.and_eq_true] at h1 h2 ⊢
    by_cases hi : i = k
    · subst hi
      have e1 : via f i a i = true := by
        rcases h1 with h1 | h1
        · exact h1
        · exact h1.1
      have e2 : via f i i b = true := by
        rcases h2 with h2 | h2
        · exact h2
        · exact h2.2
      exact .inr ⟨e1, e2⟩
    · have hi : i < k := by omega
      rcases h1 with h1 | ⟨h1, h1'⟩
      · rcases h2 with h2 | ⟨h2, h2'⟩
        · exact .inl (via_trans k i a b hi h1 h2)
        · exact .inr ⟨via_trans k i a k hi h1 h2, h2'⟩
      · rcases h2 with h2 | ⟨h2, h2'⟩
        · exact .inr ⟨h1, via_trans k i k b hi h1' h2⟩
        · exact .inr ⟨h1, h2'⟩
theorem via_full {f : Nat → Nat → Bool} {ds : List Deed} {m : Nat} (lo : LogOk m ds) (h0 : ∀ a, a < m → f a a = true) (h : ∀ a b, Edge ds a b → f a b = true) {a b : Nat} (r : Rch ds a b) (ha : a < m) : via f m a b = true := by
  induction r with
  | refl a => exact via_mono m a a (h0 a ha)
  | step e _ ih =>
    have hb := (Rch.one e).lt lo ha
    exact via_trans m _ _ _ hb (via_mono m _ _ (h _ _ e)) (ih hb)
def matD (m : Nat) (f : Nat → Nat → Bool) : List (List D) := (List.range m).map fun a => (List.range m).map fun b => .bl (f a b)
theorem mat_row {m a : Nat} {f : Nat → Nat → Bool} (h : a < m) : (matD m f)[a]? = some ((List.range m).map fun b => .bl (f a b)) := by
  unfold matD
  rw [List.getElem?_map, List.getElem?_range h]
  rfl
theorem row_get {m b : Nat} {g : Nat → D} (h : b < m) : ((List.range m).map g)[b]? = some (g b) := by
  rw [List.getElem?_map, List.getElem?_range h]
  rfl
theorem map_range_set {α : Type} {m i : Nat} {g h : Nat → α} {x : α} (hi : i < m) (e1 : h i = x) (e2 : ∀ j, j < m → j ≠ i → h j = g j) : ((List.range m).map g).set i x = (List.range m).map h := by
  apply List.ext_getElem?
  intro j
  by_cases hj : j < m
  · rw [List.getElem?_map, List.getElem?_range hj]
    by_cases hij : i = j
    · subst hij
      rw [List.getElem?_set_self (by simpa using hi), ← e1]
      rfl
    · rw [List.getElem?_set_ne hij, List.getElem?_map, List.getElem?_range hj]
      show some (g j) = some (h j)
      rw [e2 j hj (fun z => hij z.symm)]
  · rw [List.getElem?_eq_none (by simp; omega), List.getElem?_eq_none (by simp; omega)]
theorem mat_set {m a b : Nat} {f g : Nat → Nat → Bool} {x : Bool} (ha : a < m) (hb : b < m) (e1 : g a b = x) (e2 : ∀ i j, ¬ (i = a ∧ j = b) → g i j = f i j) :
    (matD m f).set a (((List.range m).map fun b => D.bl (f a b)).set b (.bl x)) = matD m g := by
  unfold matD
  refine map_range_set ha ?_ ?_
  · rw [map_range_set (h := fun b => D.bl (g a b)) hb (by rw [e1]) (fun j _ hj => by rw [e2 a j fun z => hj z.2])]
  · intro j _ hj
    apply List.map_congr_left
    intro b' _
    rw [e2 j b' fun z => hj z.1]
theorem LL.mat {n A a m : Nat} {s : Store} {refs : List Nat} {f : Nat → Nat → Bool} (L : LL n s A refs (matD m f)) (h : a < m) : ∃ ad, refs[a]? = some ad ∧ isLst s ad = some ((List.range m).map fun b => .bl (f a b)) ∧ n ≤ ad ∧ ad ≠ A := L.get (mat_row h)
set_option maxHeartbeats 4000000
section
variable {X : Mx} {ρ : Env} {s : Store} {E : En}
theorem for_map {α : Type} {t : Tg} {p : List S} {w : Walk} {xs : List α} (g : α → D) (I : List α → List α → Env → Store → Prop) (hs : ∀ dn l ρ s, I dn l ρ s → w.stays s = true) (h0 : I [] xs ρ s)
    (ht : ∀ dn x l ρ s, dn ++ x :: l = xs → I dn (x :: l) ρ s → asg X t (g x) ρ (kBody X p { nx := fun ρ s => I (dn ++ [x]) l ρ s, ct := fun ρ s => I (dn ++ [x]) l ρ s, bk := E.nx, rt := E.rt }) s)
    (he : ∀ ρ s, I xs [] ρ s → E.nx ρ s) : forP X t p w (xs.map g) ρ E s := by
  refine for_inv (fun its ρ s => ∃ dn l, dn ++ l = xs ∧ its = l.map g ∧ I dn l ρ s) ⟨[], xs, rfl, rfl, h0⟩ (fun l ρ s ⟨dn, l', _, _, h⟩ => hs _ _ _ _ h) ?_ ?_
  · rintro x l ρ s ⟨dn, l', e1, e2, h⟩
    cases l' with
    | nil => cases e2
    | cons y l' =>
      rw [List.map_cons, List.cons.injEq] at e2
      obtain ⟨rfl, rfl⟩ := e2
      have q := ht dn y l' ρ s e1 h
      have e : ∀ (ρ : Env) (s : Store), I (dn ++ [y]) l' ρ s → ∃ dn' l'', dn' ++ l'' = xs ∧ l'.map g = l''.map g ∧ I dn' l'' ρ s := fun ρ s h => ⟨dn ++ [y], l', by rw [← e1]; simp, rfl, h⟩
      have q2 : WpR (asgT X.C X.G t (g y) ρ s) fun ρ s => WpS (exB X.C X.G X.F p ρ s) { nx := fun ρ s => I (dn ++ [y]) l' ρ s, ct := fun ρ s => I (dn ++ [y]) l' ρ s, bk := E.nx, rt := E.rt } := by
        unfold asg kBody blk at q
        exact q
      unfold asg kBody blk
      exact WpR_mono q2 fun ρ s h => WpS_mono h e (fun _ _ h => h) (fun _ _ h => h) e
  · rintro ρ s ⟨dn, l', e1, e2, h⟩
    cases l' with
    | nil =>
      rw [List.append_nil] at e1
      subst e1
      exact he _ _ h
    | cons y l' => cases e2
theorem range_at {m : Nat} {dn l : List Nat} {x : Nat} (h : dn ++ x :: l = List.range m) : x = dn.length ∧ x < m := by
  have h1 : (List.range m)[dn.length]? = some x := by
    rw [← h, List.getElem?_append_right (Nat.le_refl _)]
    simp
  have h2 := List.getElem?_eq_some_iff.mp h1
  obtain ⟨h3, h4⟩ := h2
  rw [List.getElem_range] at h4
  rw [List.length_range] at h3
  exact ⟨h4.symm, by omega⟩
theorem for_rng {m : Nat} {t : Tg} {p : List S} {w : Walk} (I : Nat → Env → Store → Prop) (hw : w.chk = []) (h0 : I 0 ρ s)
    (ht : ∀ o ρ s, o < m → I o ρ s → asg X t (.int (o : Nat)) ρ (kBody X p { nx := fun ρ s => I (o + 1) ρ s, ct := fun ρ s => I (o + 1) ρ s, bk := E.nx, rt := E.rt }) s)
    (he : ∀ ρ s, I m ρ s → E.nx ρ s) : forP X t p w (nL (List.range m)) ρ E s := by
  refine for_map nD (fun dn l ρ s => I dn.length ρ s) (fun _ _ _ _ _ => by unfold Walk.stays; rw [hw]; rfl) h0 ?_ ?_
  · intro dn x l ρ s e h
    obtain ⟨h1, h2⟩ := range_at e
    rw [List.length_append, List.length_cons, List.length_nil]
    subst h1
    exact ht _ ρ s h2 h
  · intro ρ s h
    rw [List.length_range] at h
    exact he ρ s h
end
section
variable {X : Mx} {ρ : Env} {s : Store} {Q : KQ}
theorem range_append {m : Nat} {dn l : List Nat} (h : dn ++ l = List.range m) : dn = List.range dn.length := by
  have e := congrArg (List.take dn.length) h
  rw [List.take_append_of_le_length (Nat.le_refl _), List.take_length] at e
  rw [e]
  have : dn.length ≤ m := by
    have := congrArg List.length h
    rw [List.length_append, List.length_range] at this
    omega
  rw [List.take_range, Nat.min_eq_left this, List.length_range]
theorem lc_rows {m : Nat} {elt : E} {tg : Tg} {own : List Nat} {w : Walk} (row : Nat → List D) (hm : m ≤ 1000) (hw : w = ⟨[], nL (List.range m)⟩)
    (h1 : ∀ o v, o < m → lcTP X elt tg [] own ρ (.int (o : Nat)) (fun r s3 => r = some (.ref (s ++ v).length) ∧ s3 = s ++ v ++ [.lst (row o)]) (s ++ v))
    (hq : LL s.length (s ++ .lst ((List.range m).map fun i => .ref (s.length + 1 + i)) :: (List.range m).map fun i => .lst (row i)) s.length ((List.range m).map fun i => s.length + 1 + i) ((List.range m).map row) →
      Q (.ref s.length) (s ++ .lst ((List.range m).map fun i => .ref (s.length + 1 + i)) :: (List.range m).map fun i => .lst (row i))) : lcP X elt tg [] own ρ w Q s := by
  subst hw
  refine lc_goV (fun r acc s2 v => s2 = s ∧ ∃ dn l, dn ++ l = List.range m ∧ r = nL l ∧ acc = (List.range dn.length).map (fun i => .ref (s.length + 1 + i)) ∧ v = (List.range dn.length).map fun i => .lst (row i)) ⟨rfl, [], _, rfl, rfl, rfl, rfl⟩ ?_ ?_ ?_
  · rintro r acc s2 v ⟨rfl, dn, l, e, rfl, rfl, rfl⟩
    refine ⟨rfl, rfl, ?_⟩
    have := congrArg List.length e
    rw [List.length_append, List.length_range] at this
    rw [nL_len, List.length_map, List.length_range]
    exact Nat.lt_of_le_of_lt (show dn.length + l.length ≤ 1000000 by omega) line_big
  · rintro x r acc s2 v ⟨rfl, dn, l, e, e2, rfl, rfl⟩
    cases l with
    | nil => cases e2
    | cons y l =>
      cases e2
      obtain ⟨g1, g2⟩ := range_at e
      subst g1
      have q := h1 dn.length (.lst ((List.range dn.length).map (fun i => .ref (s2.length + 1 + i))) :: (List.range dn.length).map fun i => .lst (row i)) g2
      unfold lcTP at q ⊢
      refine WpR_mono q fun o s3 ⟨z1, z2⟩ => ?_
      refine ⟨s2, _, by rw [z2, List.append_assoc]; rfl, rfl, dn ++ [dn.length], l, by rw [← e]; simp, rfl, ?_, ?_⟩
      · rw [z1, List.length_append, List.length_cons, List.length_map, List.length_range, List.length_append, List.length_cons, List.length_nil, List.range_succ, List.map_append]
        simp
        omega
      · rw [List.length_append, List.length_cons, List.length_nil, List.range_succ, List.map_append]
        rfl
  · rintro acc s2 v ⟨rfl, dn, l, e, e2, rfl, rfl⟩
    cases l with
    | cons y l => cases e2
    | nil =>
      rw [List.append_nil] at e
      have e3 : dn.length = m := by rw [e, List.length_range]
      rw [e3]
      refine hq ⟨?_, by simp, ?_, ?_, Nat.le_refl _, ?_, ?_⟩
      · rw [isLst_new0 rfl, isLst_zero, List.map_map]
        rfl
      · unfold List.Nodup
        rw [List.pairwise_map]
        exact List.Pairwise.imp (fun h => by omega) List.pairwise_lt_range
      · intro h
        obtain ⟨i, _, e⟩ := List.mem_map.mp h
        omega
      · intro r h
        obtain ⟨i, _, e⟩ := List.mem_map.mp h
        omega
      · intro i r h
        rw [List.getElem?_map] at h ⊢
        by_cases hi : i < m
        · rw [List.getElem?_range hi] at h ⊢
          cases h
          show isLst _ (s2.length + 1 + i) = some (row i)
          rw [show s2.length + 1 + i = s2.length + (i + 1) from by omega, isLst_new rfl, isLst_succ, isLst_at, List.getElem?_map, List.getElem?_range hi]
          rfl
        · rw [List.getElem?_eq_none (by simp; omega)] at h
          cases h
end
theorem LL.ix {n A a : Nat} {s : Store} {refs : List Nat} {rows : List (List D)} {i : Nat} (L : LL n s A refs rows) (h : refs[i]? = some a) : ixD s (.ref A) (.int (i : Nat)) = some (.ref a) := by
  rw [ixD_ref, L.out]
  exact L.at_ h
theorem ix_row {a m b : Nat} {s : Store} {g : Nat → D} (h : isLst s a = some ((List.range m).map g)) (hb : b < m) : ixD s (.ref a) (.int (b : Nat)) = some (g b) := by
  rw [ixD_ref, h]
  show atD _ _ = _
  rw [atD_nat, row_get hb]
def lenF (s : Store) (d : D) : Option D := match d with
  | .ref a => (isLst s a).map fun l => D.int (l.length : Nat)
  | _ => none
theorem lenF_ref {s : Store} {a : Nat} : lenF s (.ref a) = (isLst s a).map fun l => D.int (l.length : Nat) := rfl
theorem fm_refs {s : Store} {rows : List (List D)} : ∀ {refs : List Nat}, refs.length = rows.length → (∀ (i r : Nat), refs[i]? = some r → isLst s r = rows[i]?) →
    (refs.map D.ref).filterMap (lenF s) = nL (rows.map List.length) := by
  intro refs
  induction refs generalizing rows with
  | nil =>
    intro hl _
    cases rows with
    | nil => rfl
    | cons r rows => cases hl
  | cons a refs ih =>
    intro hl h
    cases rows with
    | nil => cases hl
    | cons r rows =>
      have h0 := h 0 a rfl
      simp only [List.getElem?_cons_zero] at h0
      have ih := ih (rows := rows) (by simpa using hl) (fun i r h' => by simpa using h (i + 1) r (by simpa using h'))
      rw [List.map_cons, List.filterMap_cons]
      simp only [lenF_ref, h0, Option.map_some]
      rw [ih]
      rfl
set_option maxHeartbeats 4000000
def ver (ds : List Deed) (t a : Nat) : Nat := ((ds.take t).filter fun d => d.1 == a).length
theorem dD_pair {pg : Nat} {rs : List Nat} : dD (pg, rs) = .tup [nD pg, .tup (nL rs)] := rfl
theorem ver_zero {ds : List Deed} {a : Nat} : ver ds 0 a = 0 := rfl
theorem ver_succ {ds : List Deed} {t a : Nat} {d : Deed} (h : ds[t]? = some d) : ver ds (t + 1) a = ver ds t a + if d.1 = a then 1 else 0 := by
  unfold ver
  rw [List.take_add_one, h, List.filter_append, List.length_append]
  congr 1
  simp only [Option.toList, List.filter_cons, List.filter_nil, beq_iff_eq]
  split <;> rfl
theorem ver_stop {ds : List Deed} {t a : Nat} (h : ds.length ≤ t) : ver ds (t + 1) a = ver ds t a := by
  unfold ver
  rw [List.take_of_length_le h, List.take_of_length_le (by omega)]
theorem ver_le {ds : List Deed} {t a : Nat} : ver ds t a ≤ t := by
  unfold ver
  refine Nat.le_trans (List.length_filter_le _ _) ?_
  rw [List.length_take]
  omega
theorem ver_mono1 {ds : List Deed} {t a : Nat} : ver ds t a ≤ ver ds (t + 1) a := by
  cases h : ds[t]? with
  | none =>
    rw [ver_stop (List.getElem?_eq_none_iff.mp h)]
    exact Nat.le_refl _
  | some d =>
    rw [ver_succ h]
    omega
theorem ver_mono {ds : List Deed} {t u a : Nat} (h : t ≤ u) : ver ds t a ≤ ver ds u a := by
  induction h with
  | refl => exact Nat.le_refl _
  | step _ ih => exact Nat.le_trans ih ver_mono1
def rowL (m : Nat) (ds : List Deed) (t : Nat) : List Nat := (List.range m).map (ver ds t)
def rowsT (m : Nat) (ds : List Deed) (k : Nat) : List (List D) := (List.range k).map fun t => nL (rowL m ds t)
def tabL (m : Nat) (ds : List Deed) : List (List D) := rowsT m ds (ds.length + 1)
theorem rowL_len {m t : Nat} {ds : List Deed} : (rowL m ds t).length = m := by simp [rowL]
theorem rowL_at {m t a : Nat} {ds : List Deed} (h : a < m) : (nL (rowL m ds t))[a]? = some (.int (ver ds t a : Nat)) := by
  rw [nL_get]
  unfold rowL
  rw [List.getElem?_map, List.getElem?_range h]
  rfl
theorem rowsT_succ {m k : Nat} {ds : List Deed} : rowsT m ds (k + 1) = rowsT m ds k ++ [nL (rowL m ds k)] := by
  unfold rowsT
  rw [List.range_succ, List.map_append]
  rfl
theorem rowsT_len {m k : Nat} {ds : List Deed} : (rowsT m ds k).length = k := by simp [rowsT]
theorem rowsT_at {m k t : Nat} {ds : List Deed} (h : t < k) : (rowsT m ds k)[t]? = some (nL (rowL m ds t)) := by
  unfold rowsT
  rw [List.getElem?_map, List.getElem?_range h]
  rfl
theorem row_zero {m : Nat} {ds : List Deed} : nL (rowL m ds 0) = List.replicate m (.int 0) := by
  unfold rowL nL
  rw [List.map_map]
  apply List.ext_getElem
  · simp
  · intro i h1 h2
    simp [ver_zero, nD]
theorem row_next {m t : Nat} {ds : List Deed} {d : Deed} (h : ds[t]? = some d) (hd : d.1 < m) : (nL (rowL m ds t)).set d.1 (.int ((ver ds t d.1 : Nat) + 1)) = nL (rowL m ds (t + 1)) := by
  unfold rowL nL
  rw [List.map_map, List.map_map]
  refine map_range_set hd ?_ ?_
  · show nD (ver ds (t + 1) d.1) = _
    rw [ver_succ h, if_pos rfl]
    unfold nD
    simp
  · intro j _ hj
    show nD (ver ds (t + 1) j) = nD (ver ds t j)
    rw [ver_succ h, if_neg (fun z => hj z.symm)]
    rfl
theorem deed_at {ds dn l : List Deed} {x : Deed} (h : dn ++ x :: l = ds) : ds[dn.length]? = some x := by
  rw [← h, List.getElem?_append_right (Nat.le_refl _)]
  simp
section
variable {n A a i : Nat} {s t : Store} {refs : List Nat} {rows : List (List D)} {r : List D} {c : Cell}
theorem nd_snoc {l : List Nat} {a : Nat} (h : l.Nodup) (h2 : a ∉ l) : (l ++ [a]).Nodup := by
  rw [List.nodup_append]
  refine ⟨h, by simp, fun x hx y hy z => ?_⟩
  rw [List.mem_singleton.mp hy] at z
  exact h2 (z ▸ hx)
theorem row_snoc (L : LL n s A refs rows) (hb : isLst t a = some r) (hk : ∀ x ∈ refs, isLst t x = isLst s x) : ∀ (i x : Nat), (refs ++ [a])[i]? = some x → isLst t x = (rows ++ [r])[i]? := by
  intro i x h
  by_cases hi : i < refs.length
  · rw [List.getElem?_append_left hi] at h
    rw [List.getElem?_append_left (by rw [← L.len]; exact hi), hk x (List.mem_of_getElem? h)]
    exact L.row i x h
  · rw [List.getElem?_append_right (by omega)] at h
    rw [List.getElem?_append_right (by rw [← L.len]; omega), ← L.len]
    cases hz : i - refs.length with
    | zero =>
      rw [hz] at h
      cases h
      exact hb
    | succ j =>
      rw [hz] at h
      simp at h
theorem LL.push (L : LL n s A refs rows) (hb : isLst s a = some r) (h1 : a ≠ A) (h2 : a ∉ refs) (h3 : n ≤ a) : LL n (s.set A (.lst (refs.map D.ref ++ [.ref a]))) A (refs ++ [a]) (rows ++ [r]) where
  out := by
    rw [isLst_set_self L.ltA, List.map_append]
    rfl
  len := by rw [List.length_append, List.length_append, L.len]; rfl
  nd := nd_snoc L.nd h2
  notA := fun h => by
    rcases List.mem_append.mp h with h | h
    · exact L.notA h
    · exact h1 (List.mem_singleton.mp h).symm
  low := L.low
  lows := fun x h => by
    rcases List.mem_append.mp h with h | h
    · exact L.lows x h
    · rw [List.mem_singleton.mp h]
      exact h3
  row := row_snoc L (by rw [isLst_set_ne (fun z => h1 z.symm)]; exact hb) fun x hx => isLst_set_ne fun z => L.notA (z ▸ hx)
theorem LL.more (L : LL n s A refs rows) (hb : isLst s a = some r) (h2 : a ∉ refs) (h3 : n ≤ a) {c : Cell} : LL n (s ++ [c] ++ [.lst (refs.map D.ref ++ [.ref a])]) (s.length + 1) (refs ++ [a]) (rows ++ [r]) where
  out := by
    rw [isLst_new0 (by simp), List.map_append]
    rfl
  len := by rw [List.length_append, List.length_append, L.len]; rfl
  nd := nd_snoc L.nd h2
  notA := fun h => by
    rcases List.mem_append.mp h with h | h
    · have := L.lt h
      omega
    · rw [← List.mem_singleton.mp h] at hb
      have := isLst_lt hb
      omega
  low := by
    have := L.low
    have := L.ltA
    omega
  lows := fun x h => by
    rcases List.mem_append.mp h with h | h
    · exact L.lows x h
    · rw [List.mem_singleton.mp h]
      exact h3
  row := row_snoc L (by rw [List.append_assoc]; exact isLst_old hb) fun x hx => by rw [List.append_assoc, isLst_app (L.lt hx)]
theorem PB_high {p p' : Po} {u : Store} {i : Nat} (h : 3 ≤ i) : isLst (PB p u) i = isLst (PB p' u) i := by
  obtain ⟨j, rfl⟩ : ∃ j, i = j + 3 := ⟨i - 3, by omega⟩
  rfl
theorem LL.pool {p p' : Po} {u : Store} (h : 3 ≤ n) (L : LL n (PB p u) A refs rows) : LL n (PB p' u) A refs rows where
  out := by rw [PB_high (p' := p) (by have := L.low; omega)]; exact L.out
  len := L.len
  nd := L.nd
  notA := L.notA
  low := L.low
  lows := L.lows
  row := fun i x hx => by
    rw [PB_high (p' := p) (by have := L.lows x (List.mem_of_getElem? hx); omega)]
    exact L.row i x hx
end
set_option maxHeartbeats 4000000
theorem isL_0 {A w : Store} {c : List D} : isLst (A ++ .lst c :: w) A.length = some c := by rw [isLst_new0 rfl]; rfl
theorem isL_1 {A w : Store} {c : List D} {c0 : Cell} : isLst (A ++ c0 :: .lst c :: w) (A.length + 1) = some c := by rw [isLst_new rfl]; rfl
theorem isL_2 {A w : Store} {c : List D} {c0 c1 : Cell} : isLst (A ++ c0 :: c1 :: .lst c :: w) (A.length + 2) = some c := by rw [isLst_new rfl]; rfl
theorem isL_3 {A w : Store} {c : List D} {c0 c1 c2 : Cell} : isLst (A ++ c0 :: c1 :: c2 :: .lst c :: w) (A.length + 3) = some c := by rw [isLst_new rfl]; rfl
theorem isL_4 {A w : Store} {c : List D} {c0 c1 c2 c3 : Cell} : isLst (A ++ c0 :: c1 :: c2 :: c3 :: .lst c :: w) (A.length + 4) = some c := by rw [isLst_new rfl]; rfl
theorem flat0 {m : Nat} : (List.replicate ((m : Int).toNat) [D.int 0]).flatten = List.replicate m (D.int 0) := by
  rw [show ((m : Int).toNat) = m from rfl]
  induction m with
  | zero => rfl
  | succ m ih =>
    rw [List.replicate_succ, List.flatten_cons, ih]
    rfl
theorem rep_ok {m : Nat} (h : m ≤ 1000) : -(2 ^ 63 : Int) ≤ (m : Int) ∧ (m : Int) < 2 ^ 63 ∧ [D.int 0].length * ((m : Int)).toNat ≤ sizeLine := by
  refine ⟨by omega, by omega, Nat.le_of_lt (Nat.lt_of_le_of_lt ?_ line_big)⟩
  simp
  omega
set_option maxHeartbeats 4000000
def vD : Option Nat → D
  | none => .non
  | some v => .int (v : Nat)
def imgD (img : List (Option Nat)) : D := .tup (img.map vD)
structure ImgOk (m : Nat) (ds : List Deed) (img : List (Option Nat)) : Prop where
  len : img.length = m
  le : ∀ (a v : Nat), img[a]? = some (some v) → v ≤ ver ds ds.length a
theorem unds_vD {n : Nat} {img : List (Option Nat)} : D.unds n (img.map vD) = true := by
  rw [unds_iff]
  intro d hd
  obtain ⟨x, _, rfl⟩ := List.mem_map.mp hd
  cases x <;> rfl
theorem img_tail {k N lost : Nat} {p : Po} {u : Store} {E : En} {v : Nat} {acc : List D} {c1 c2 c4 c5 c6 c8 : Option D} (hv : p.ok) (hN : N = u.length + 3) (hl : lost < 1000) (ha : acc.length ≤ 1000) (hu : ∀ n, D.unds n acc = true)
    (h : ∀ p' w, Po.ok p' → (w = none ∨ w = some v) → (lost = 0 → w = some v) → E.nx [some (.ref 2), c1, c2, some (.int lost), c4, c5, c6, some (.ref N), c8, some (.int v)] (PB p' u ++ [.lst (acc ++ [vD w])])) :
    blk (mx P G fuel (k + 1)) [.expr (.app (.var 7) (.ife (.and (.cmp (.var 3) .Gt (.int 0)) (.cmp (.call f_L_draw [(.var 0), (.var 3)]) .Eq (.int 0))) .non (.var 9)))] [some (.ref 2), c1, c2, some (.int lost), c4, c5, c6, some (.ref N), c8, some (.int v)] E (PB p u ++ [.lst acc]) := by
  subst hN
  have e1 : ∀ p, isLst (PB p u ++ [Cell.lst acc]) (u.length + 3) = some acc := fun p => by rw [isLst_new0 PB_len]; rfl
  have e2 : ∀ p c, (PB p u ++ [Cell.lst acc]).set (u.length + 3) c = PB p u ++ [c] := fun p c => by rw [set_new0 PB_len]; rfl
  have ha2 : acc.length ≤ 1000000 := by omega
  have et : ∀ p' w, trunc (PB p u ++ [Cell.lst acc]) .non (PB p' u ++ [Cell.lst (acc ++ [vD w])]) = PB p' u ++ [Cell.lst (acc ++ [vD w])] := fun p' w => by
    refine PB_same ?_ rfl
    have : ∀ n, D.unds n (acc ++ [vD w]) = true := fun n => by
      rw [unds_iff]
      intro d hd
      rcases List.mem_append.mp hd with hd | hd
      · exact (unds_iff.mp (hu n)) d hd
      · rw [List.mem_singleton.mp hd]
        cases w <;> rfl
    simp only [agree, Cell.und, this, Bool.or_true, Bool.true_and]
  simp! only [e1, e2, ha2]
  refine br.of (fun h1 => ?_) (fun h1 => ?_)
  · simp! only []
    refine draw_at hv h1 (by omega) fun x p' h2 h3 h4 => ?_
    simp! only []
    refine br.of (fun h5 => ?_) (fun h5 => ?_)
    · simp! only [h1, e1, e2, ha2]
      have q := h p' none h4 (.inl rfl) (fun z => by omega)
      have e := et p' none
      unfold vD at q e
      rw [e]
      exact q
    · simp! only [h1, e1, e2, ha2]
      have q := h p' (some v) h4 (.inr rfl) (fun _ => rfl)
      have e := et p' (some v)
      unfold vD at q e
      rw [e]
      exact q
  · simp! only [h1, e1, e2, ha2]
    have q := h p (some v) hv (.inr rfl) (fun _ => rfl)
    have e := et p (some v)
    unfold vD at q e
    rw [e]
    exact q
set_option maxHeartbeats 4000000
theorem LL.weak {n n' A : Nat} {s : Store} {refs : List Nat} {rows : List (List D)} (L : LL n s A refs rows) (h : n' ≤ n) : LL n' s A refs rows where
  out := L.out
  len := L.len
  nd := L.nd
  notA := L.notA
  low := Nat.le_trans h L.low
  lows := fun r hr => Nat.le_trans h (L.lows r hr)
  row := L.row
set_option maxHeartbeats 4000000
section
variable {X : Mx} {ρ : Env} {s : Store} {E : En}
theorem for_enm {α : Type} {t : Tg} {p : List S} {w : Walk} {xs : List α} (g : α → D) (hw : w.its = xs.map g) (I : List α → List α → Env → Store → Prop) (hs : ∀ dn l ρ s, I dn l ρ s → (enmOf w).stays s = true) (h0 : I [] xs ρ s)
    (ht : ∀ dn x l ρ s, dn ++ x :: l = xs → I dn (x :: l) ρ s → asg X t (.tup [.int (dn.length : Nat), g x]) ρ (kBody X p { nx := fun ρ s => I (dn ++ [x]) l ρ s, ct := fun ρ s => I (dn ++ [x]) l ρ s, bk := E.nx, rt := E.rt }) s)
    (he : ∀ ρ s, I xs [] ρ s → E.nx ρ s) : forP X t p (enmOf w) (enmOf w).its ρ E s := by
  have e : (enmOf w).its = (xs.zipIdx).map fun q => .tup [.int (q.2 : Nat), g q.1] := by
    unfold enmOf
    rw [hw]
    simp only [List.zipIdx_map, List.map_map]
    rfl
  rw [e]
  refine for_map (fun q : α × Nat => D.tup [.int (q.2 : Nat), g q.1]) (fun dn l ρ s => ∃ d r, dn = d.zipIdx ∧ l = r.zipIdx d.length ∧ d ++ r = xs ∧ I d r ρ s) (fun dn l ρ s ⟨d, r, _, _, _, h⟩ => hs _ _ _ _ h) ⟨[], xs, rfl, rfl, rfl, h0⟩ ?_ ?_
  · rintro dn ⟨x, i⟩ l ρ s _ ⟨d, r, rfl, e2, e3, h⟩
    cases r with
    | nil => cases e2
    | cons y r =>
      rw [List.zipIdx_cons, List.cons.injEq] at e2
      obtain ⟨e4, e5⟩ := e2
      cases e4
      have q := ht d x r ρ s e3 h
      have ei : ∀ (ρ : Env) (s : Store), I (d ++ [x]) r ρ s → ∃ d' r', d.zipIdx ++ [(x, d.length)] = d'.zipIdx ∧ l = r'.zipIdx d'.length ∧ d' ++ r' = xs ∧ I d' r' ρ s := fun ρ s h => ⟨d ++ [x], r, by simp [List.zipIdx_append], by rw [e5]; simp, by rw [← e3]; simp, h⟩
      have q2 : WpR (asgT X.C X.G t (.tup [.int (d.length : Nat), g x]) ρ s) fun ρ s => WpS (exB X.C X.G X.F p ρ s) { nx := fun ρ s => I (d ++ [x]) r ρ s, ct := fun ρ s => I (d ++ [x]) r ρ s, bk := E.nx, rt := E.rt } := by
        unfold asg kBody blk at q
        exact q
      unfold asg kBody blk
      exact WpR_mono q2 fun ρ s h => WpS_mono h ei (fun _ _ h => h) (fun _ _ h => h) ei
  · rintro ρ s ⟨d, r, e1, e2, e3, h⟩
    cases r with
    | nil =>
      rw [List.append_nil] at e3
      subst e3
      exact he _ _ h
    | cons y r => cases e2
end
def ownL (ds : List Deed) (t a : Nat) : List Nat := ((List.range t).filter fun i => (ds[i]?.map Prod.fst) == some a).map (· + 1)
theorem ownL_succ {ds : List Deed} {t a : Nat} {d : Deed} (h : ds[t]? = some d) : ownL ds (t + 1) a = ownL ds t a ++ if d.1 = a then [t + 1] else [] := by
  unfold ownL
  rw [List.range_succ, List.filter_append, List.map_append]
  congr 1
  rw [List.filter_cons, h]
  by_cases hd : d.1 = a
  · simp [hd]
  · simp [hd]
theorem ownL_len {ds : List Deed} {a : Nat} : ∀ {t : Nat}, t ≤ ds.length → (ownL ds t a).length = ver ds t a
  | 0, _ => rfl
  | t + 1, h => by
    have e := List.getElem?_eq_getElem (show t < ds.length by omega)
    rw [ownL_succ e, ver_succ e, List.length_append, ownL_len (by omega)]
    congr 1
    split <;> rfl
def ownD (m : Nat) (ds : List Deed) (t : Nat) : List (List D) := (List.range m).map fun a => nL (ownL ds t a)
theorem ownD_at {m t a : Nat} {ds : List Deed} (h : a < m) : (ownD m ds t)[a]? = some (nL (ownL ds t a)) := by
  unfold ownD
  rw [List.getElem?_map, List.getElem?_range h]
  rfl
theorem vD_cases (w : Option Nat) : w = none ∨ ∃ v, w = some v := by
  cases w with
  | none => exact .inl rfl
  | some v => exact .inr ⟨v, rfl⟩
set_option maxHeartbeats 4000000
def sumFrom : Nat → List Nat → Nat
  | _, [] => 0
  | n, c :: r => c * (n + 1) + sumFrom (n + 1) r
def sumT (t : List Nat) : Nat := sumFrom 0 t
theorem sumFrom_app : ∀ (a b : List Nat) (n : Nat), sumFrom n (a ++ b) = sumFrom n a + sumFrom (n + a.length) b
  | [], b, n => by show sumFrom n b = 0 + sumFrom (n + 0) b; rw [Nat.zero_add]; rfl
  | c :: a, b, n => by
    show c * (n + 1) + sumFrom (n + 1) (a ++ b) = c * (n + 1) + sumFrom (n + 1) a + sumFrom (n + (a.length + 1)) b
    rw [sumFrom_app a b (n + 1), show n + 1 + a.length = n + (a.length + 1) from by omega]
    omega
theorem sumT_snoc {a : List Nat} {c : Nat} : sumT (a ++ [c]) = sumT a + c * (a.length + 1) := by
  unfold sumT
  rw [sumFrom_app, Nat.zero_add]
  rfl
theorem sumT_bound : ∀ {a : List Nat}, asc a → sumT a ≤ 128 * a.length * a.length
  | a, h => by
    have go : ∀ (a : List Nat) (n : Nat), asc a → sumFrom n a ≤ 128 * a.length * (n + a.length) := by
      intro a
      induction a with
      | nil => intro n _; exact Nat.zero_le _
      | cons c a ih =>
        intro n h
        have hc := h c List.mem_cons_self
        have q := ih (n + 1) fun x hx => h x (List.mem_cons_of_mem _ hx)
        show c * (n + 1) + sumFrom (n + 1) a ≤ 128 * (a.length + 1) * (n + (a.length + 1))
        have e1 : 128 * (a.length + 1) * (n + (a.length + 1)) = 128 * a.length * (n + 1 + a.length) + 128 * (n + (a.length + 1)) := by
          rw [show 128 * (a.length + 1) = 128 * a.length + 128 from by omega, Nat.add_mul, show n + (a.length + 1) = n + 1 + a.length from by omega]
        have e2 : c * (n + 1) ≤ 128 * (n + (a.length + 1)) := Nat.mul_le_mul (by omega) (by omega)
        omega
    have := go a 0 h
    rwa [Nat.zero_add] at this
def sum6 (t : List Nat) : List Nat := zpad 6 (TL.numL (sumT t % 65521))
theorem rng_big {m : Nat} (h : m ≤ 1000000) : rngD [.int (m : Int)] = some (nL (List.range m)) := by rw [rng1 (small_of (by omega) (by omega)), rng_nat]
theorem sum6_of {n : Nat} : zpad 6 (numI ((n % 65521 : Nat) : Int)) = zpad 6 (TL.numL (n % 65521)) := by rw [numI_nat]
theorem numL_48 {n : Nat} : ∀ c ∈ TL.numL n, 48 ≤ c := fun c hc => (TL.numL_digits n c hc).1
theorem sum_of_spec {k : Nat} {t : List Nat} {s : Store} {Q : KQ} (ha : asc t) (hl : t.length ≤ 100000) (h : Q (tx (sum6 t)) s) : cl (mx P G fuel (k + 1)) f_sum_of [tx t] Q s := by
  have h6 : t.length ≤ 1000000 := by omega
  have rg := rng_big h6
  refine cl_fd P_sum_of rfl ?_
  unfold fd_sum_of
  simp! only [biP_lenTx, h6, rg]
  refine for_map nD (xs := List.range t.length) (fun dn l ρ s' => s' = s ∧ ∃ c2, ρ = [some (tx t), some (.int ((sumT (t.take dn.length) % 65521 : Nat) : Int)), c2]) (fun _ _ _ _ _ => stays_nil) ⟨rfl, none, rfl⟩ ?_ ?_
  · rintro dn i l ρ s' e ⟨rfl, c2, rfl⟩
    obtain ⟨hi, hlt⟩ := range_at e
    have hg := List.getElem?_eq_getElem hlt
    have hc : t[i] < 128 := ha _ (List.getElem_mem hlt)
    have hz : t.length ≤ sizeLine := Nat.le_of_lt (Nat.lt_of_le_of_lt h6 line_big)
    have ix : ∀ s, ixD s (tx t) (.int (i : Nat)) = some (tx [t[i]]) := fun s => ixD_tx hz hg
    have mo : (mulOk ((t[i] : Nat) : Int) ((i : Nat) + 1) = true) = True := mulOk_r (by omega) (by omega)
    have ev : (((sumT (t.take dn.length) % 65521 : Nat) : Int) + ((t[i] : Nat) : Int) * ((i : Nat) + 1)) % 65521 = ((sumT (t.take (dn.length + 1)) % 65521 : Nat) : Int) := by
      have e1 : t.take (dn.length + 1) = t.take dn.length ++ [t[i]] := by
        rw [List.take_add_one, ← hi, hg]
        rfl
      rw [e1, sumT_snoc, List.length_take, ← hi, Nat.min_eq_left (by omega)]
      have e2 : ((t[i] : Nat) : Int) * ((i : Nat) + 1) = ((t[i] * (i + 1) : Nat) : Int) := by rw [Int.natCast_mul]; rfl
      rw [e2]
      omega
    simp! only [nD_int, ix, biP_ordTx, mo, G_PRIME, ev]
    rw [List.length_append, List.length_singleton]
    exact ⟨_, rfl⟩
  · rintro ρ s' ⟨rfl, c2, rfl⟩
    have hn : ((sumT (t.take (List.range t.length).length) % 65521 : Nat) : Int).natAbs < 2 ^ 64 := by omega
    simp! only [biP_strInt hn, meT_tx]
    rw [List.length_range, List.take_length, numI_nat]
    simp! only [meP_zfillTx numL_48]
    exact h
set_option maxHeartbeats 4000000
theorem lit_c : D.str (Str.ofString ",") = tx [44] := by kernel_rfl
theorem lit_b : D.str (Str.ofString " ") = tx [32] := by kernel_rfl
theorem lit_n : D.str (Str.ofString "\n") = tx [10] := by kernel_rfl
theorem lit_e : D.str (Str.ofString "") = tx [] := by kernel_rfl
def cPage : List Nat := [112, 97, 103, 101, 32]
def cSum : List Nat := [115, 117, 109, 32]
def cShelf : List Nat := [115, 104, 101, 108, 102, 32]
theorem lit_page : D.str (Str.ofString "page ") = tx cPage := by kernel_rfl
theorem lit_sum : D.str (Str.ofString "sum ") = tx cSum := by kernel_rfl
theorem lit_shelf : D.str (Str.ofString "shelf ") = tx cShelf := by kernel_rfl
theorem lit_00000 : D.str (Str.ofString "00000") = tx [48, 48, 48, 48, 48] := by kernel_rfl
def valT (v : List Int) : List Nat := TL.joinL [44] (v.map numI)
abbrev Row := List Nat × List Int
def rowT (r : Row) : List Nat := r.1 ++ [32] ++ valT r.2
def headT (p n : Nat) : List Nat := cPage ++ TL.numL p ++ [32] ++ TL.numL n
def bodyT (p n : Nat) (rows : List Row) : List Nat := headT p n ++ [10] ++ rows.flatMap fun r => rowT r ++ [10]
def closeT (t : List Nat) : List Nat := t ++ cSum ++ sum6 t ++ [10]
def frameT (p n : Nat) (rows : List Row) : List Nat := closeT (bodyT p n rows)
structure Frm where
  p : Nat
  n : Nat
  rows : List Row
def Frm.t (f : Frm) : List Nat := frameT f.p f.n f.rows
def rowD (r : Row) : D := .tup [tx r.1, .tup (r.2.map .int)]
def Frm.d (f : Frm) : D := .tup [.int (f.p : Nat), .int (f.n : Nat), .tup (f.rows.map rowD)]
structure RowOk (r : Row) : Prop where
  as : asc r.1
  kl : r.1.length ≤ 12
  vl : r.2.length ≤ 4
  v : ∀ i ∈ r.2, i.natAbs < 10 ^ 15
theorem asc_num {n : Nat} : asc (TL.numL n) := fun c hc => Nat.lt_of_le_of_lt (TL.numL_digits n c hc).2 (by decide)
theorem asc_numI {i : Int} : asc (numI i) := by
  unfold numI
  split
  · exact asc_num
  · intro c hc
    rcases List.mem_cons.mp hc with rfl | hc
    · decide
    · exact asc_num c hc
theorem numI_len {i : Int} (h : i.natAbs < 10 ^ 15) : (numI i).length ≤ 16 := by
  unfold numI
  split
  · exact Nat.le_trans (TL.numL_len (k := 15) (by decide) (by omega)) (by decide)
  · rw [List.length_cons]
    exact Nat.succ_le_succ (TL.numL_len (k := 15) (by decide) h)
theorem asc_join : ∀ {l : List (List Nat)}, (∀ a ∈ l, asc a) → asc (TL.joinL [44] l)
  | [], _ => fun _ h => nomatch h
  | [p], h => h p List.mem_cons_self
  | p :: q :: r, h => by
    show asc (p ++ ([44] ++ TL.joinL [44] (q :: r)))
    refine asc_app (h p List.mem_cons_self) (asc_app (fun c hc => ?_) (asc_join fun a ha => h a (List.mem_cons_of_mem _ ha)))
    rw [List.mem_singleton.mp hc]
    decide
theorem join_len : ∀ {l : List (List Nat)}, (∀ a ∈ l, a.length ≤ 16) → (TL.joinL [44] l).length ≤ 17 * l.length
  | [], _ => Nat.le_refl _
  | [p], h => by have := h p List.mem_cons_self; show p.length ≤ 17; omega
  | p :: q :: r, h => by
    have h1 := h p List.mem_cons_self
    have h2 := join_len (l := q :: r) fun a ha => h a (List.mem_cons_of_mem _ ha)
    show (p ++ ([44] ++ TL.joinL [44] (q :: r))).length ≤ 17 * ((q :: r).length + 1)
    rw [List.length_append, List.length_append, List.length_singleton]
    omega
theorem asc_val {v : List Int} : asc (valT v) := asc_join fun a ha => by
  obtain ⟨i, _, rfl⟩ := List.mem_map.mp ha
  exact asc_numI
theorem val_len {v : List Int} (h : ∀ i ∈ v, i.natAbs < 10 ^ 15) : (valT v).length ≤ 17 * v.length := by
  have := join_len (l := v.map numI) fun a ha => by
    obtain ⟨i, hi, rfl⟩ := List.mem_map.mp ha
    exact numI_len (h i hi)
  rwa [List.length_map] at this
theorem asc_lit {l : List Nat} (h : l.all (· < 128) = true) : asc l := fun c hc => of_decide_eq_true (List.all_eq_true.mp h c hc)
theorem asc_row {r : Row} (h : RowOk r) : asc (rowT r) := asc_app (asc_app h.as (asc_lit rfl)) asc_val
theorem row_len {r : Row} (h : RowOk r) : (rowT r).length ≤ 81 := by
  have h1 := h.kl
  have h2 := h.vl
  have h3 := val_len h.v
  unfold rowT
  rw [List.length_append, List.length_append, List.length_singleton]
  omega
theorem zpad_len {a : List Nat} (h : a.length ≤ 6) : (zpad 6 a).length = 6 := by
  unfold zpad
  rw [List.length_append, List.length_replicate]
  omega
theorem sum6_len {t : List Nat} : (sum6 t).length = 6 := zpad_len (Nat.le_trans (TL.numL_len (k := 5) (by decide) (Nat.lt_trans (Nat.mod_lt _ (by decide)) (by decide))) (by decide))
theorem asc_sum6 {t : List Nat} : asc (sum6 t) := asc_app (fun c hc => by rw [List.eq_of_mem_replicate hc]; decide) asc_num
theorem close_len {t : List Nat} : (closeT t).length = t.length + 11 := by
  unfold closeT
  rw [List.length_append, List.length_append, List.length_append, sum6_len]
  rfl
theorem asc_close {t : List Nat} (h : asc t) : asc (closeT t) := asc_app (asc_app (asc_app h (asc_lit rfl)) asc_sum6) (asc_lit rfl)
theorem head_len {p n : Nat} (hp : p < 10 ^ 15) (hn : n < 10 ^ 15) : (headT p n).length ≤ 40 := by
  have h1 := TL.numL_len (k := 15) (by decide) hp
  have h2 := TL.numL_len (k := 15) (by decide) hn
  unfold headT
  rw [List.length_append, List.length_append, List.length_append]
  show 5 + _ + 1 + _ ≤ 40
  omega
theorem asc_head {p n : Nat} : asc (headT p n) := asc_app (asc_app (asc_app (asc_lit rfl) asc_num) (asc_lit rfl)) asc_num
theorem rows_len : ∀ {rows : List Row}, (∀ r ∈ rows, RowOk r) → (rows.flatMap fun r => rowT r ++ [10]).length ≤ 82 * rows.length
  | [], _ => Nat.le_refl _
  | r :: rows, h => by
    have h1 := row_len (h r List.mem_cons_self)
    have h2 := rows_len (rows := rows) fun x hx => h x (List.mem_cons_of_mem _ hx)
    rw [List.flatMap_cons, List.length_append, List.length_append, List.length_singleton, List.length_cons]
    omega
theorem asc_rows {rows : List Row} (h : ∀ r ∈ rows, RowOk r) : asc (rows.flatMap fun r => rowT r ++ [10]) := fun c hc => by
  obtain ⟨r, hr, hc⟩ := List.mem_flatMap.mp hc
  exact asc_app (asc_row (h r hr)) (asc_lit rfl) c hc
structure FrmOk (f : Frm) : Prop where
  p : f.p < 10 ^ 15
  n : f.n < 10 ^ 15
  rows : ∀ r ∈ f.rows, RowOk r
  rl : f.rows.length ≤ 12
theorem body_len {f : Frm} (h : FrmOk f) : (bodyT f.p f.n f.rows).length ≤ 1100 := by
  have h1 := head_len h.p h.n
  have h2 := rows_len h.rows
  have h3 := h.rl
  unfold bodyT
  rw [List.length_append, List.length_append, List.length_singleton]
  omega
theorem asc_body {f : Frm} (h : FrmOk f) : asc (bodyT f.p f.n f.rows) := asc_app (asc_app asc_head (asc_lit rfl)) (asc_rows h.rows)
theorem value_text_spec {k : Nat} {v : List Int} {s : Store} {Q : KQ} (hl : v.length ≤ 100) (hv : ∀ i ∈ v, i.natAbs < 10 ^ 15) (h : Q (tx (valT v)) s) : cl (mx P G fuel (k + 1)) f_value_text [.tup (v.map .int)] Q s := by
  refine cl_fd P_value_text rfl ?_
  unfold fd_value_text
  simp! only [lit_c, meT_tx]
  have e : (v.map D.int).filterMap (fun d => match d with
    | .int i => some (tx (numI i))
    | _ => none) = (v.map numI).map tx := by
    rw [List.filterMap_map, List.map_map]
    show v.filterMap (fun i => some (tx (numI i))) = _
    rw [List.filterMap_eq_map']
    rfl
  refine lc_pure (fun d => match d with
    | .int i => some (tx (numI i))
    | _ => none) (fun acc => stays_nil) (by rw [List.length_map]; exact Nat.lt_of_le_of_lt (show v.length ≤ 1000000 by omega) line_big) ?_ ?_
  · intro d hd acc
    obtain ⟨i, hi, rfl⟩ := List.mem_map.mp hd
    have hb : i.natAbs < 2 ^ 64 := Nat.lt_trans (hv i hi) (by decide)
    simp! only [lcTP_0, biP_strInt hb]
  · show kArg _ _ _ _ _ (s ++ [Cell.lst _])
    rw [e]
    simp! only []
    have hz : (((v.map numI).map (·.length)).sum + (v.map numI).length * ([44] : List Nat).length) ≤ 16777216 := by
      have go : ∀ v : List Int, (∀ i ∈ v, i.natAbs < 10 ^ 15) → (((v.map numI).map (·.length)).sum) ≤ 16 * v.length := by
        intro v
        induction v with
        | nil => intro _; exact Nat.le_refl _
        | cons i v ih =>
          intro h
          have h1 := numI_len (h i List.mem_cons_self)
          have h2 := ih fun x hx => h x (List.mem_cons_of_mem _ hx)
          rw [List.map_cons, List.map_cons, List.sum_cons, List.length_cons]
          omega
      have := go v hv
      rw [List.length_map]
      show _ + v.length * 1 ≤ _
      omega
    rw [meP_joinTx (l := v.map numI) (by rw [items_ref, isLst_new0 rfl]; rfl) hz]
    simp! only []
    rw [trunc_new und_tx, trunc_self]
    exact h
theorem row_line_spec {k : Nat} {r : Row} {s : Store} {Q : KQ} (ok : RowOk r) (h : Q (tx (rowT r)) s) : cl (mx P G fuel (k + 2)) f_row_line [rowD r] Q s := by
  refine cl_fd P_row_line rfl ?_
  have i0 : ∀ s, ixD s (rowD r) (.int 0) = some (tx r.1) := fun s => by unfold rowD; rw [ixD_tup]; rfl
  have i1 : ∀ s, ixD s (rowD r) (.int 1) = some (.tup (r.2.map .int)) := fun s => by unfold rowD; rw [ixD_tup]; rfl
  have h1 : r.1.length ≤ 12 := ok.kl
  have h3 : (valT r.2).length ≤ 17 * r.2.length := val_len ok.v
  have h2 := ok.vl
  have z1 : r.1.length + ([32] : List Nat).length ≤ 1000000 := by show r.1.length + 1 ≤ _; omega
  have z2 : (r.1 ++ [32]).length + (valT r.2).length ≤ 1000000 := by rw [List.length_append, List.length_singleton]; omega
  unfold fd_row_line
  simp! only [i0, i1, lit_b, opB_txx z1]
  refine value_text_spec (by omega) ok.v ?_
  simp! only [opB_txx z2]
  exact h
theorem head_line_spec {k p n : Nat} {s : Store} {Q : KQ} (hp : p < 10 ^ 15) (hn : n < 10 ^ 15) (h : Q (tx (headT p n)) s) : cl (mx P G fuel (k + 1)) f_head_line [.int (p : Nat), .int (n : Nat)] Q s := by
  refine cl_fd P_head_line rfl ?_
  have h1 := TL.numL_len (k := 15) (by decide) hp
  have h2 := TL.numL_len (k := 15) (by decide) hn
  have b1 : ((p : Nat) : Int).natAbs < 2 ^ 64 := by omega
  have b2 : ((n : Nat) : Int).natAbs < 2 ^ 64 := by omega
  have z1 : cPage.length + (TL.numL p).length ≤ 1000000 := by show 5 + _ ≤ _; omega
  have z2 : (cPage ++ TL.numL p).length + ([32] : List Nat).length ≤ 1000000 := by rw [List.length_append]; show 5 + _ + 1 ≤ _; omega
  have z3 : (cPage ++ TL.numL p ++ [32]).length + (TL.numL n).length ≤ 1000000 := by rw [List.length_append, List.length_append]; show 5 + _ + 1 + _ ≤ _; omega
  unfold fd_head_line
  simp! only [biP_strInt b1, biP_strInt b2, numI_nat, lit_page, lit_b]
  rw [opB_txx z1]
  simp! only [lit_b]
  rw [opB_txx z2]
  simp! only [biP_strInt b2, numI_nat]
  rw [opB_txx z3]
  simp! only []
  exact h
theorem close_steps {X : List Nat} (hl : X.length ≤ 100000) : X.length + cSum.length ≤ 1000000 ∧ (X ++ cSum).length + (sum6 X).length ≤ 1000000 ∧ (X ++ cSum ++ sum6 X).length + ([10] : List Nat).length ≤ 1000000 := by
  refine ⟨?_, ?_, ?_⟩
  · show _ + 4 ≤ _; omega
  · rw [List.length_append, sum6_len]; show _ + 4 + 6 ≤ _; omega
  · rw [List.length_append, List.length_append, sum6_len]; show _ + 4 + 6 + 1 ≤ _; omega
theorem frame_text_spec {k : Nat} {f : Frm} {s : Store} {Q : KQ} (ok : FrmOk f) (h : Q (tx f.t) s) : cl (mx P G fuel (k + 3)) f_frame_text [.int (f.p : Nat), .int (f.n : Nat), .tup (f.rows.map rowD)] Q s := by
  refine cl_fd P_frame_text rfl ?_
  have hh := head_len ok.p ok.n
  have z1 : (headT f.p f.n).length + ([10] : List Nat).length ≤ 1000000 := by show _ + 1 ≤ _; omega
  unfold fd_frame_text
  simp! only []
  refine head_line_spec ok.p ok.n ?_
  simp! only [lit_n]
  rw [opB_txx z1]
  simp! only [trunc_self]
  refine for_map rowD (xs := f.rows) (fun dn l ρ s' => s' = s ∧ ∃ c4, ρ = [some (.int (f.p : Nat)), some (.int (f.n : Nat)), some (.tup (f.rows.map rowD)), some (tx (bodyT f.p f.n dn)), c4]) (fun _ _ _ _ _ => stays_nil) ⟨rfl, none, ?_⟩ ?_ ?_
  · unfold bodyT
    rw [List.flatMap_nil, List.append_nil]
  · rintro dn r l ρ s' e ⟨rfl, c4, rfl⟩
    have hr : RowOk r := ok.rows r (by rw [← e]; simp)
    have hdn : ∀ x ∈ dn, RowOk x := fun x hx => ok.rows x (by rw [← e]; simp [hx])
    have hdl : dn.length ≤ 12 := by
      have := congrArg List.length e
      rw [List.length_append] at this
      have := ok.rl
      omega
    have bl := body_len (f := ⟨f.p, f.n, dn⟩) ⟨ok.p, ok.n, hdn, hdl⟩
    have rl := row_len hr
    have y1 : (bodyT f.p f.n dn).length + (rowT r).length ≤ 1000000 := by have : (bodyT f.p f.n dn).length ≤ 1100 := bl; omega
    have y2 : (bodyT f.p f.n dn ++ rowT r).length + ([10] : List Nat).length ≤ 1000000 := by
      have : (bodyT f.p f.n dn).length ≤ 1100 := bl
      rw [List.length_append]
      show _ + _ + 1 ≤ _
      omega
    simp! only []
    refine row_line_spec hr ?_
    simp! only [opB_txx y1, lit_n]
    rw [opB_txx y2]
    simp! only []
    refine ⟨some (rowD r), ?_⟩
    have e2 : bodyT f.p f.n (dn ++ [r]) = bodyT f.p f.n dn ++ rowT r ++ [10] := by
      unfold bodyT
      rw [List.flatMap_append, List.flatMap_singleton, ← List.append_assoc, List.append_assoc _ (rowT r)]
    rw [e2]
  · rintro ρ s' ⟨rfl, c4, rfl⟩
    have bl := body_len ok
    obtain ⟨y1, y2, y3⟩ := close_steps (X := bodyT f.p f.n f.rows) (by omega)
    simp! only [lit_sum, lit_n]
    rw [opB_txx y1]
    simp! only []
    refine sum_of_spec (asc_body ok) (by omega) ?_
    simp! only []
    rw [opB_txx y2]
    simp! only [lit_n]
    rw [opB_txx y3]
    simp! only []
    exact h
set_option maxHeartbeats 4000000
def shelfB (many : List Nat) (fs : List Frm) : List Nat := cShelf ++ many ++ [10] ++ fs.flatMap Frm.t
def shelfT (many : List Nat) (fs : List Frm) : List Nat := closeT (shelfB many fs)
theorem pur_row {r : Row} {n : Nat} (h : asc r.1) : pur (n + 3) (rowD r) = true := by
  unfold rowD
  have e : (r.2.map D.int).all (pur (n + 1)) = true := by
    rw [List.all_eq_true]
    intro d hd
    obtain ⟨i, _, rfl⟩ := List.mem_map.mp hd
    rfl
  simp only [pur, List.all_cons, List.all_nil, Bool.and_true, pur_tx h, e]
theorem pur_frm {f : Frm} {n : Nat} (h : FrmOk f) : pur (n + 5) f.d = true := by
  have e : (f.rows.map rowD).all (pur (n + 3)) = true := by
    rw [List.all_eq_true]
    intro d hd
    obtain ⟨r, hr, rfl⟩ := List.mem_map.mp hd
    exact pur_row (h.rows r hr).as
  unfold Frm.d
  simp only [pur, List.all_cons, List.all_nil, Bool.and_true, e]
theorem frm_len {f : Frm} (h : FrmOk f) : f.t.length ≤ 1111 := by
  have := body_len h
  show (closeT _).length ≤ _
  rw [close_len]
  omega
theorem asc_frm {f : Frm} (h : FrmOk f) : asc f.t := asc_close (asc_body h)
theorem frms_len : ∀ {fs : List Frm}, (∀ f ∈ fs, FrmOk f) → (fs.flatMap Frm.t).length ≤ 1111 * fs.length
  | [], _ => Nat.le_refl _
  | f :: fs, h => by
    have h1 := frm_len (h f List.mem_cons_self)
    have h2 := frms_len (fs := fs) fun x hx => h x (List.mem_cons_of_mem _ hx)
    rw [List.flatMap_cons, List.length_append, List.length_cons]
    omega
theorem asc_shelfB {many : List Nat} {fs : List Frm} (hm : asc many) (h : ∀ f ∈ fs, FrmOk f) : asc (shelfB many fs) := asc_app (asc_app (asc_app (asc_lit rfl) hm) (asc_lit rfl)) fun c hc => by
  obtain ⟨f, hf, hc⟩ := List.mem_flatMap.mp hc
  exact asc_frm (h f hf) c hc
theorem shelfB_len {many : List Nat} {fs : List Frm} (hm : many.length ≤ 20) (h : ∀ f ∈ fs, FrmOk f) (hl : fs.length ≤ 40) : (shelfB many fs).length ≤ 50000 := by
  have := frms_len h
  unfold shelfB
  rw [List.length_append, List.length_append, List.length_append]
  show 6 + _ + 1 + _ ≤ _
  omega
theorem shelfB_snoc {many : List Nat} {fs : List Frm} {f : Frm} : shelfB many (fs ++ [f]) = shelfB many fs ++ f.t := by
  unfold shelfB
  simp only [List.flatMap_append, List.flatMap_singleton, List.append_assoc]
theorem shelf_text_spec {k : Nat} {fs : List Frm} {s : Store} {Q : KQ} (ok : ∀ f ∈ fs, FrmOk f) (hl : fs.length ≤ 40) (h : Q (tx (if fs = [] then [] else shelfT (TL.numL fs.length) fs)) s) : cl (mx P G fuel (k + 4)) f_shelf_text [.tup (fs.map Frm.d)] Q s := by
  refine cl_fd P_shelf_text rfl ?_
  have ee : ∀ s, eqD s (.tup (fs.map Frm.d)) (.tup []) = some (decide (fs.map Frm.d = [])) := fun s => eqD_tup (by
    rw [List.all_eq_true]
    intro d hd
    obtain ⟨f, hf, rfl⟩ := List.mem_map.mp hd
    exact pur_frm (ok f hf)) rfl
  have l6 : (fs.map Frm.d).length ≤ 1000000 := by rw [List.length_map]; omega
  have nl : (TL.numL fs.length).length ≤ 2 := TL.numL_len (by decide) (by omega)
  have b1 : (((fs.map Frm.d).length : Nat) : Int).natAbs < 2 ^ 64 := by rw [List.length_map]; omega
  have z1 : cShelf.length + (TL.numL fs.length).length ≤ 1000000 := by show 6 + _ ≤ _; omega
  have z2 : (cShelf ++ TL.numL fs.length).length + ([10] : List Nat).length ≤ 1000000 := by rw [List.length_append]; show 6 + _ + 1 ≤ _; omega
  unfold fd_shelf_text
  by_cases hfs : fs = []
  · subst hfs
    have e1 : ∀ s, eqD s (.tup []) (.tup []) = some true := fun s => eqD_tup rfl rfl
    simp! only [e1, lit_e]
    exact h
  · rw [if_neg hfs] at h
    have e0 : (fs.map Frm.d = []) = False := eq_false (by rw [List.map_eq_nil_iff]; exact hfs)
    simp! only [ee, e0, lit_shelf, lit_n]
    rw [biP_strInt b1, List.length_map, numI_nat]
    simp! only []
    rw [opB_txx z1]
    simp! only [lit_n]
    rw [opB_txx z2]
    simp! only [trunc_self]
    refine for_map Frm.d (xs := fs) (fun dn l ρ s' => s' = s ∧ ∃ c2 c3 c4, ρ = [some (.tup (fs.map Frm.d)), some (tx (shelfB (TL.numL fs.length) dn)), c2, c3, c4]) (fun _ _ _ _ _ => stays_nil) ⟨rfl, none, none, none, ?_⟩ ?_ ?_
    · unfold shelfB
      rw [List.flatMap_nil, List.append_nil]
    · rintro dn f l ρ s' e ⟨rfl, c2, c3, c4, rfl⟩
      have hf : FrmOk f := ok f (by rw [← e]; simp)
      have hdn : ∀ x ∈ dn, FrmOk x := fun x hx => ok x (by rw [← e]; simp [hx])
      have hdl : dn.length ≤ 40 := by
        have := congrArg List.length e
        rw [List.length_append] at this
        omega
      have bl := shelfB_len (many := TL.numL fs.length) (by omega) hdn hdl
      have fl := frm_len hf
      show asg _ _ (.tup [.int (f.p : Nat), .int (f.n : Nat), .tup (f.rows.map rowD)]) _ _ _
      simp! only []
      refine frame_text_spec hf ?_
      simp! only [opB_txx (show (shelfB (TL.numL fs.length) dn).length + f.t.length ≤ 1000000 by omega)]
      exact ⟨_, _, _, by rw [shelfB_snoc]⟩
    · rintro ρ s' ⟨rfl, c2, c3, c4, rfl⟩
      have bl := shelfB_len (many := TL.numL fs.length) (by omega) ok hl
      obtain ⟨y1, y2, y3⟩ := close_steps (X := shelfB (TL.numL fs.length) fs) (by omega)
      simp! only [lit_sum, lit_n]
      rw [opB_txx y1]
      simp! only []
      refine sum_of_spec (asc_shelfB asc_num ok) (by omega) ?_
      simp! only []
      rw [opB_txx y2]
      simp! only [lit_n]
      rw [opB_txx y3]
      simp! only []
      exact h
set_option maxHeartbeats 4000000
def c00 : List Nat := List.replicate 5 48
theorem lit_c00 : D.str (Str.ofString "00000") = tx c00 := by kernel_rfl
theorem last6 {l : List Nat} (h1 : 1 ≤ l.length) (h5 : l.length ≤ 5) : ((c00 ++ l).drop (endOf (c00 ++ l).length 0 (some (-6)))).take (endOf (c00 ++ l).length (c00 ++ l).length none - endOf (c00 ++ l).length 0 (some (-6))) = zpad 6 l := by
  have e1 : endOf (c00 ++ l).length 0 (some (-6)) = l.length - 1 := by
    show (if (-6 : Int) < 0 then ((-6 : Int) + (((c00 ++ l).length : Nat) : Int)).toNat else min (-6 : Int).toNat (c00 ++ l).length) = _
    rw [if_pos (show (-6 : Int) < 0 by decide), List.length_append]
    show ((-6 : Int) + ((5 + l.length : Nat) : Int)).toNat = _
    omega
  have e2 : endOf (c00 ++ l).length (c00 ++ l).length none = (c00 ++ l).length := rfl
  have e3 : ((c00 ++ l).drop (l.length - 1)).length ≤ (c00 ++ l).length - (l.length - 1) := Nat.le_of_eq List.length_drop
  rw [e1, e2, List.take_of_length_le e3]
  unfold zpad c00
  rw [List.drop_append_of_le_length (by rw [List.length_replicate]; omega), List.drop_replicate]
  congr 2
  omega
theorem law_sum_spec {k : Nat} {t : List Nat} {s : Store} {Q : KQ} (ha : asc t) (hl : t.length ≤ 100000) (h : Q (tx (sum6 t)) s) : cl (mx P G fuel (k + 1)) f_L_sum [tx t] Q s := by
  have h6 : t.length ≤ 1000000 := by omega
  refine cl_fd P_L_sum rfl ?_
  unfold fd_L_sum
  simp! only [walkS_tx]
  refine for_enm (fun c => tx [c]) (xs := t) rfl (fun dn l ρ s' => s' = s ∧ ∃ c2 c3, ρ = [some (tx t), some (.int (sumT dn : Nat)), c2, c3]) (fun _ _ _ _ _ => stays_nil) ⟨rfl, none, none, rfl⟩ ?_ ?_
  · rintro dn c l ρ s' e ⟨rfl, c2, c3, rfl⟩
    have hc : c < 128 := ha c (by rw [← e]; simp)
    have mo : (mulOk ((dn.length : Nat) + 1 : Int) ((c : Nat) : Int) = true) = True := mulOk_r (by omega) (by omega)
    have ev : ((sumT dn : Nat) : Int) + (((dn.length : Nat) : Int) + 1) * ((c : Nat) : Int) = ((sumT (dn ++ [c]) : Nat) : Int) := by
      rw [sumT_snoc, Int.natCast_add, Int.natCast_mul, Int.mul_comm]
      rfl
    simp! only [biP_ordTx, mo, ev]
    exact ⟨_, _, rfl⟩
  · rintro ρ s' ⟨rfl, c2, c3, rfl⟩
    have e1 : ((sumT t : Nat) : Int) % 65521 = ((sumT t % 65521 : Nat) : Int) := by omega
    have hn : ((sumT t % 65521 : Nat) : Int).natAbs < 2 ^ 64 := by omega
    have l5 : (TL.numL (sumT t % 65521)).length ≤ 5 := TL.numL_len (by decide) (Nat.lt_trans (Nat.mod_lt _ (by decide)) (by decide))
    have l1 : 1 ≤ (TL.numL (sumT t % 65521)).length := by
      cases hh : TL.numL (sumT t % 65521) with
      | nil => exact absurd hh (TL.numL_ne _)
      | cons => simp
    have z1 : c00.length + (TL.numL (sumT t % 65521)).length ≤ 1000000 := by show 5 + _ ≤ _; omega
    have z2 : (c00 ++ TL.numL (sumT t % 65521)).length ≤ sizeLine := Nat.le_of_lt (Nat.lt_of_le_of_lt (show _ ≤ 1000000 by rw [List.length_append]; exact z1) line_big)
    simp! only [e1, biP_strInt hn, lit_c00, numI_nat]
    rw [opB_txx z1]
    simp! only []
    rw [slP_tx z2, last6 l1 l5]
    simp! only []
    exact h
def numF (d : D) : Option D := match d with
  | .int i => some (tx (numI i))
  | _ => none
theorem numF_map {v : List Int} : (v.map D.int).filterMap numF = (v.map numI).map tx := by
  rw [List.filterMap_map, List.map_map]
  show v.filterMap (fun i => some (tx (numI i))) = _
  rw [List.filterMap_eq_map']
  rfl
theorem join_bound {v : List Int} (hl : v.length ≤ 100) (hv : ∀ i ∈ v, i.natAbs < 10 ^ 15) : ((v.map numI).map (·.length)).sum + (v.map numI).length * ([44] : List Nat).length ≤ 16777216 := by
  have go : ∀ v : List Int, (∀ i ∈ v, i.natAbs < 10 ^ 15) → (((v.map numI).map (·.length)).sum) ≤ 16 * v.length := by
    intro v
    induction v with
    | nil => intro _; exact Nat.le_refl _
    | cons i v ih =>
      intro h
      have h1 := numI_len (h i List.mem_cons_self)
      have h2 := ih fun x hx => h x (List.mem_cons_of_mem _ hx)
      rw [List.map_cons, List.map_cons, List.sum_cons, List.length_cons]
      omega
  have := go v hv
  rw [List.length_map]
  show _ + v.length * 1 ≤ _
  omega
theorem law_frame_spec {k : Nat} {f : Frm} {s : Store} {Q : KQ} (ok : FrmOk f) (h : Q (tx f.t) s) : cl (mx P G fuel (k + 2)) f_L_frame [.int (f.p : Nat), .int (f.n : Nat), .tup (f.rows.map rowD)] Q s := by
  refine cl_fd P_L_frame rfl ?_
  have hh := head_len ok.p ok.n
  have h1 := TL.numL_len (k := 15) (by decide) ok.p
  have h2 := TL.numL_len (k := 15) (by decide) ok.n
  have p1 := ok.p
  have p2 := ok.n
  have b1 : ((f.p : Nat) : Int).natAbs < 2 ^ 64 := by omega
  have b2 : ((f.n : Nat) : Int).natAbs < 2 ^ 64 := by omega
  have z1 : cPage.length + (TL.numL f.p).length ≤ 1000000 := by show 5 + _ ≤ _; omega
  have z2 : (cPage ++ TL.numL f.p).length + ([32] : List Nat).length ≤ 1000000 := by rw [List.length_append]; show 5 + _ + 1 ≤ _; omega
  have z3 : (cPage ++ TL.numL f.p ++ [32]).length + (TL.numL f.n).length ≤ 1000000 := by rw [List.length_append, List.length_append]; show 5 + _ + 1 + _ ≤ _; omega
  have z4 : (headT f.p f.n).length + ([10] : List Nat).length ≤ 1000000 := by show _ + 1 ≤ _; omega
  have eh : cPage ++ TL.numL f.p ++ [32] ++ TL.numL f.n = headT f.p f.n := rfl
  unfold fd_L_frame
  simp! only [biP_strInt b1, biP_strInt b2, numI_nat, lit_page, lit_b]
  rw [opB_txx z1]
  simp! only [lit_b]
  rw [opB_txx z2]
  simp! only [biP_strInt b2, numI_nat]
  rw [opB_txx z3, eh]
  simp! only [lit_n]
  rw [opB_txx z4]
  simp! only []
  refine for_map rowD (xs := f.rows) (fun dn l ρ s' => s' = s ∧ ∃ c4 c5, ρ = [some (.int (f.p : Nat)), some (.int (f.n : Nat)), some (.tup (f.rows.map rowD)), some (tx (bodyT f.p f.n dn)), c4, c5, none]) (fun _ _ _ _ _ => stays_nil) ⟨rfl, none, none, ?_⟩ ?_ ?_
  · unfold bodyT
    rw [List.flatMap_nil, List.append_nil]
  · rintro dn r l ρ s' e ⟨rfl, c4, c5, rfl⟩
    have hr : RowOk r := ok.rows r (by rw [← e]; simp)
    have hdn : ∀ x ∈ dn, RowOk x := fun x hx => ok.rows x (by rw [← e]; simp [hx])
    have hdl : dn.length ≤ 12 := by
      have := congrArg List.length e
      rw [List.length_append] at this
      have := ok.rl
      omega
    have bl : (bodyT f.p f.n dn).length ≤ 1100 := body_len (f := ⟨f.p, f.n, dn⟩) ⟨ok.p, ok.n, hdn, hdl⟩
    have kl := hr.kl
    have vl := hr.vl
    have vv := val_len hr.v
    have y1 : (bodyT f.p f.n dn).length + r.1.length ≤ 1000000 := by omega
    have y2 : (bodyT f.p f.n dn ++ r.1).length + ([32] : List Nat).length ≤ 1000000 := by rw [List.length_append]; show _ + _ + 1 ≤ _; omega
    have y3 : (bodyT f.p f.n dn ++ r.1 ++ [32]).length + (valT r.2).length ≤ 1000000 := by rw [List.length_append, List.length_append]; show _ + _ + 1 + _ ≤ _; omega
    have y4 : (bodyT f.p f.n dn ++ r.1 ++ [32] ++ valT r.2).length + ([10] : List Nat).length ≤ 1000000 := by rw [List.length_append, List.length_append, List.length_append]; show _ + _ + 1 + _ + 1 ≤ _; omega
    show asg _ _ (.tup [tx r.1, .tup (r.2.map .int)]) _ _ _
    simp! only []
    rw [opB_txx y1]
    simp! only [lit_b]
    rw [opB_txx y2]
    simp! only [lit_c, meT_tx]
    refine lc_pure numF (fun acc => stays_nil) (by rw [List.length_map]; exact Nat.lt_of_le_of_lt (show r.2.length ≤ 1000000 by omega) line_big) ?_ ?_
    · intro d hd acc
      obtain ⟨i, hi, rfl⟩ := List.mem_map.mp hd
      have hb : i.natAbs < 2 ^ 64 := Nat.lt_trans (hr.v i hi) (by decide)
      simp! only [lcTP_0, biP_strInt hb]
      rfl
    · show kArg _ _ _ _ _ (s' ++ [Cell.lst ((r.2.map D.int).filterMap numF)])
      rw [numF_map]
      simp! only []
      rw [meP_joinTx (l := r.2.map numI) (by rw [items_ref, isLst_new0 rfl]; rfl) (join_bound (by omega) hr.v)]
      simp! only []
      show opB .Add _ (tx (valT r.2)) _ _
      rw [opB_txx y3]
      simp! only [lit_n]
      rw [opB_txx y4]
      simp! only []
      rw [trunc_new und_tx]
      refine ⟨rfl, some (tx r.1), some (.tup (r.2.map .int)), ?_⟩
      have e2 : bodyT f.p f.n (dn ++ [r]) = bodyT f.p f.n dn ++ r.1 ++ [32] ++ valT r.2 ++ [10] := by
        unfold bodyT rowT
        simp only [List.flatMap_append, List.flatMap_singleton, List.append_assoc]
      rw [e2]
  · rintro ρ s' ⟨rfl, c4, c5, rfl⟩
    have bl := body_len ok
    obtain ⟨y1, y2, y3⟩ := close_steps (X := bodyT f.p f.n f.rows) (by omega)
    simp! only [lit_sum, lit_n]
    rw [opB_txx y1]
    simp! only []
    refine law_sum_spec (asc_body ok) (by omega) ?_
    simp! only []
    rw [opB_txx y2]
    simp! only [lit_n]
    rw [opB_txx y3]
    simp! only []
    exact h
theorem law_shelf_spec {k : Nat} {fs : List Frm} {many : List Nat} {s : Store} {Q : KQ} (ok : ∀ f ∈ fs, FrmOk f) (hl : fs.length ≤ 40) (hm : asc many) (hml : many.length ≤ 20) (h : Q (tx (shelfT many fs)) s) : cl (mx P G fuel (k + 3)) f_L_shelf [.tup (fs.map Frm.d), tx many] Q s := by
  refine cl_fd P_L_shelf rfl ?_
  have z1 : cShelf.length + many.length ≤ 1000000 := by show 6 + _ ≤ _; omega
  have z2 : (cShelf ++ many).length + ([10] : List Nat).length ≤ 1000000 := by rw [List.length_append]; show 6 + _ + 1 ≤ _; omega
  unfold fd_L_shelf
  simp! only [lit_shelf, lit_n]
  rw [opB_txx z1]
  simp! only [lit_n]
  rw [opB_txx z2]
  simp! only []
  refine for_map Frm.d (xs := fs) (fun dn l ρ s' => s' = s ∧ ∃ c3 c4 c5, ρ = [some (.tup (fs.map Frm.d)), some (tx many), some (tx (shelfB many dn)), c3, c4, c5]) (fun _ _ _ _ _ => stays_nil) ⟨rfl, none, none, none, ?_⟩ ?_ ?_
  · unfold shelfB
    rw [List.flatMap_nil, List.append_nil]
  · rintro dn f l ρ s' e ⟨rfl, c3, c4, c5, rfl⟩
    have hf : FrmOk f := ok f (by rw [← e]; simp)
    have hdn : ∀ x ∈ dn, FrmOk x := fun x hx => ok x (by rw [← e]; simp [hx])
    have hdl : dn.length ≤ 40 := by
      have := congrArg List.length e
      rw [List.length_append] at this
      omega
    have bl := shelfB_len hml hdn hdl
    have fl := frm_len hf
    show asg _ _ (.tup [.int (f.p : Nat), .int (f.n : Nat), .tup (f.rows.map rowD)]) _ _ _
    simp! only []
    refine law_frame_spec hf ?_
    simp! only [opB_txx (show (shelfB many dn).length + f.t.length ≤ 1000000 by omega)]
    exact ⟨_, _, _, by rw [shelfB_snoc]⟩
  · rintro ρ s' ⟨rfl, c3, c4, c5, rfl⟩
    have bl := shelfB_len hml ok hl
    obtain ⟨y1, y2, y3⟩ := close_steps (X := shelfB many fs) (by omega)
    simp! only [lit_sum, lit_n]
    rw [opB_txx y1]
    simp! only []
    refine law_sum_spec (asc_shelfB hm ok) (by omega) ?_
    simp! only []
    rw [opB_txx y2]
    simp! only [lit_n]
    rw [opB_txx y3]
    simp! only []
    exact h
set_option maxHeartbeats 4000000
def digB (c : Nat) : Bool := decide (48 ≤ c) && decide (c ≤ 57)
def figB (t : List Nat) : Bool := t.all digB && !t.isEmpty
def cFig : List Nat := [48, 49, 50, 51, 52, 53, 54, 55, 56, 57]
theorem lit_fig : D.str (Str.ofString "0123456789") = tx cFig := by kernel_rfl
theorem lit_0 : D.str (Str.ofString "0") = tx [48] := by kernel_rfl
theorem lit_m : D.str (Str.ofString "-") = tx [45] := by kernel_rfl
theorem mem_fig {c : Nat} : (c ∈ cFig) = (digB c = true) := by
  unfold cFig digB
  simp only [List.mem_cons, List.not_mem_nil, or_false, Bool.and_eq_true, decide_eq_true_eq, eq_iff_iff]
  omega
theorem for_tx {X : Mx} {t : List Nat} {ρ : Env} {s : Store} {E : En} {tg : Tg} {p : List WL.S} (I : List Nat → List Nat → Env → Store → Prop) (h0 : I [] t ρ s)
    (ht : ∀ dn c l ρ s, dn ++ c :: l = t → I dn (c :: l) ρ s → asg X tg (tx [c]) ρ (kBody X p { nx := fun ρ s => I (dn ++ [c]) l ρ s, ct := fun ρ s => I (dn ++ [c]) l ρ s, bk := E.nx, rt := E.rt }) s)
    (he : ∀ ρ s, I t [] ρ s → E.nx ρ s) : forP X tg p ⟨[], t.map fun c => tx [c]⟩ (t.map fun c => tx [c]) ρ E s :=
  for_map (fun c => tx [c]) I (fun _ _ _ _ _ => stays_nil) h0 ht he
theorem is_figures_spec {k : Nat} {t : List Nat} {s : Store} {Q : KQ} (ha : asc t) (h : Q (.bl (figB t)) s) : cl (mx P G fuel (k + 1)) f_is_figures [tx t] Q s := by
  refine cl_fd P_is_figures rfl ?_
  unfold fd_is_figures
  simp! only [walkS_tx]
  refine for_tx (t := t) (fun dn l ρ s' => s' = s ∧ dn.all digB = true ∧ ∃ c1, ρ = [some (tx t), c1]) ⟨rfl, rfl, none, rfl⟩ ?_ ?_
  · rintro dn c l ρ s' e ⟨rfl, hd, c1, rfl⟩
    by_cases hc : digB c = true
    · have c2 : decide (c ∈ cFig) = true := decide_eq_true (mem_fig ▸ hc)
      simp! only [G_FIGURES, lit_fig, inD_tx, c2]
      exact ⟨by rw [List.all_append, hd, List.all_cons, hc]; rfl, _, rfl⟩
    · have c2 : decide (c ∈ cFig) = false := decide_eq_false (mem_fig ▸ hc)
      have hf : figB t = false := by
        unfold figB
        rw [← e, List.all_append, List.all_cons]
        simp [hc]
      rw [hf] at h
      simp! only [G_FIGURES, lit_fig, inD_tx, c2]
      exact h
  · rintro ρ s' ⟨rfl, hd, c1, rfl⟩
    have hq : figB t = !decide (t = []) := by
      unfold figB
      rw [hd]
      cases t <;> rfl
    rw [hq] at h
    simp! only [lit_e, eqD_tx ha (asc_lit (l := []) rfl)]
    exact h
def rdCount (t : List Nat) (most : Nat) : Option Nat := if figB t = false ∨ 13 < t.length then none else if 1 < t.length ∧ t[0]? = some 48 then none else if NumText.digitsVal t ≤ most then some (NumText.digitsVal t) else none
def optD : Option Nat → D
  | none => .non
  | some n => .int (n : Nat)
theorem read_count_spec {k : Nat} {t : List Nat} {most : Nat} {mi : Int} {s : Store} {Q : KQ} (ha : asc t) (hl : t.length ≤ 100000) (em : mi = most) (h : Q (optD (rdCount t most)) s) : cl (mx P G fuel (k + 2)) f_read_count [tx t, .int mi] Q s := by
  subst em
  have h6 : t.length ≤ 1000000 := by omega
  refine cl_fd P_read_count rfl ?_
  unfold fd_read_count
  unfold rdCount at h
  simp! only []
  refine is_figures_spec ha ?_
  cases hf : figB t with
  | false =>
    rw [if_pos (.inl hf)] at h
    simp! only []
    exact h
  | true =>
    simp! only [biP_lenTx, h6, G_MOST_FIGURES]
    by_cases h13 : 13 < t.length
    · rw [if_pos (.inr h13)] at h
      have c : (13 : Int) < (t.length : Nat) := by omega
      simp! only [c]
      exact h
    · rw [if_neg (by rintro (q | q); rw [hf] at q; cases q; exact h13 q)] at h
      have c : ¬ (13 : Int) < (t.length : Nat) := by omega
      simp! only [c, biP_lenTx, h6]
      obtain ⟨t0, ht0⟩ : ∃ c, t[0]? = some c := by
        cases t with
        | nil => cases hf
        | cons x l => exact ⟨x, rfl⟩
      have hz : t.length ≤ sizeLine := Nat.le_of_lt (Nat.lt_of_le_of_lt h6 line_big)
      have ix : ∀ s, ixD s (tx t) (.int 0) = some (tx [t0]) := fun s => ixD_tx (i := 0) hz ht0
      have asc0 : asc [t0] := fun c hc => by
        rw [List.mem_singleton.mp hc]
        exact ha _ (List.mem_of_getElem? ht0)
      have e0 : ∀ s, eqD s (tx [t0]) (tx [48]) = some (decide ([t0] = [48])) := fun s => eqD_tx asc0 (asc_lit rfl)
      have hdig : t.all (fun c => decide (48 ≤ c) && decide (c ≤ 57)) = true := (Bool.and_eq_true_iff.mp hf).1
      have hne : t ≠ [] := fun z => by rw [z] at hf; cases hf
      have fin : Q (optD (if NumText.digitsVal t ≤ most then some (NumText.digitsVal t) else none)) s → blk (mx P G fuel (k + 1)) [.asg (.nm 2) (.bi .int [(.var 0)]), .ret (.ife (.cmp (.var 2) .LtE (.var 1)) (.var 2) .non)] [some (tx t), some (.int (most : Nat)), none] (kEnd' s Q) s := by
        intro h
        simp! only [biP_intTx hdig hne (by omega)]
        by_cases cm : NumText.digitsVal t ≤ most
        · rw [if_pos cm] at h
          have c4 : ((NumText.digitsVal t : Nat) : Int) ≤ (most : Nat) := by omega
          simp! only [c4]
          exact h
        · rw [if_neg cm] at h
          have c4 : ¬ ((NumText.digitsVal t : Nat) : Int) ≤ (most : Nat) := by omega
          simp! only [c4]
          exact h
      simp! only [] at fin
      by_cases c1 : 1 < t.length
      · have d1 : (1 : Int) < (t.length : Nat) := by omega
        simp! only [d1, ix, lit_0, e0]
        by_cases c2 : t0 = 48
        · subst c2
          rw [if_pos ⟨c1, ht0⟩] at h
          simp! only []
          exact h
        · rw [if_neg (by rintro ⟨_, q⟩; rw [ht0] at q; exact c2 (Option.some.inj q))] at h
          have c3 : ([t0] = [48]) = False := eq_false (fun z => c2 (List.cons.inj z).1)
          simp! only [c3]
          exact fin h
      · rw [if_neg (by rintro ⟨q, _⟩; exact c1 q)] at h
        have d1 : ¬ (1 : Int) < (t.length : Nat) := by omega
        simp! only [d1]
        exact fin h
set_option maxHeartbeats 4000000
theorem slP_to {t : List Nat} {i : Nat} {ii : Int} {Q : KQ} {s : Store} (ei : ii = i) (hz : t.length ≤ 1000000) : slP (tx t) none (some ii) Q s = Q (tx (t.take i)) s := by
  subst ei
  rw [slP_tx (Nat.le_of_lt (Nat.lt_of_le_of_lt hz line_big))]
  have e1 : endOf t.length 0 none = 0 := rfl
  have e2 : endOf t.length t.length (some ((i : Nat) : Int)) = min i t.length := by
    show (if ((i : Nat) : Int) < 0 then (((i : Nat) : Int) + (t.length : Nat)).toNat else min ((i : Nat) : Int).toNat t.length) = _
    rw [if_neg (by omega), Int.toNat_natCast]
  rw [e1, e2, List.drop_zero, Nat.sub_zero]
  congr 2
  rw [List.take_eq_take_iff]
  omega
theorem slP_from {t : List Nat} {i : Nat} {ii : Int} {Q : KQ} {s : Store} (ei : ii = i) (hz : t.length ≤ 1000000) : slP (tx t) (some ii) none Q s = Q (tx (t.drop i)) s := by
  subst ei
  rw [slP_tx (Nat.le_of_lt (Nat.lt_of_le_of_lt hz line_big))]
  have e1 : endOf t.length t.length none = t.length := rfl
  have e2 : endOf t.length 0 (some ((i : Nat) : Int)) = min i t.length := by
    show (if ((i : Nat) : Int) < 0 then (((i : Nat) : Int) + (t.length : Nat)).toNat else min ((i : Nat) : Int).toNat t.length) = _
    rw [if_neg (by omega), Int.toNat_natCast]
  rw [e1, e2, List.take_of_length_le (Nat.le_of_eq List.length_drop)]
  congr 2
  by_cases c : i ≤ t.length
  · rw [Nat.min_eq_left c]
  · rw [Nat.min_eq_right (by omega), List.drop_length, List.drop_of_length_le (by omega)]
def rdNum (t : List Nat) : Option Int := if t.take 1 ≠ [45] then (rdCount t 1000000000000).map fun n => ((n : Nat) : Int) else match rdCount (t.drop 1) 1000000000000 with
  | none => none
  | some 0 => none
  | some (n + 1) => some (-((n + 1 : Nat) : Int))
def optI : Option Int → D
  | none => .non
  | some n => .int n
theorem read_number_spec {k : Nat} {t : List Nat} {s : Store} {Q : KQ} (ha : asc t) (hl : t.length ≤ 100000) (h : Q (optI (rdNum t)) s) : cl (mx P G fuel (k + 3)) f_read_number [tx t] Q s := by
  have h6 : t.length ≤ 1000000 := by omega
  refine cl_fd P_read_number rfl ?_
  unfold fd_read_number
  unfold rdNum at h
  simp! only []
  rw [slP_to (i := 1) (ii := 1) rfl h6]
  simp! only [lit_m, eqD_tx (asc_take (n := 1) ha) (asc_lit (l := [45]) rfl)]
  by_cases c : t.take 1 = [45]
  · rw [if_neg (fun q => q c)] at h
    simp! only [c]
    rw [slP_from (i := 1) (ii := 1) rfl h6]
    simp! only [G_LIMIT]
    refine read_count_spec (most := 1000000000000) (asc_drop ha) (by rw [List.length_drop]; omega) rfl ?_
    cases hr : rdCount (t.drop 1) 1000000000000 with
    | none =>
      rw [hr] at h
      unfold optD
      simp! only []
      exact h
    | some n =>
      rw [hr] at h
      cases n with
      | zero =>
        unfold optD
        simp! only [eqD_int]
        exact h
      | succ n =>
        have c0 : (((n + 1 : Nat) : Int) = 0) = False := eq_false (by omega)
        unfold optD
        simp! only [eqD_int, c0]
        exact h
  · rw [if_pos c] at h
    simp! only [c, G_LIMIT]
    refine read_count_spec (most := 1000000000000) ha hl rfl ?_
    cases hr : rdCount t 1000000000000 with
    | none =>
      rw [hr] at h
      unfold optD
      simp! only []
      exact h
    | some n =>
      rw [hr] at h
      unfold optD
      simp! only []
      exact h
theorem rdCount_le {t : List Nat} {m n : Nat} (h : rdCount t m = some n) : n ≤ m := by
  unfold rdCount at h
  split at h
  · cases h
  · split at h
    · cases h
    · split at h
      · cases h; assumption
      · cases h
theorem rdNum_le {t : List Nat} {i : Int} (h : rdNum t = some i) : -1000000000000 ≤ i ∧ i ≤ 1000000000000 := by
  unfold rdNum at h
  split at h
  · cases hr : rdCount t 1000000000000 with
    | none => rw [hr] at h; cases h
    | some n =>
      have := rdCount_le hr
      rw [hr] at h
      cases h
      show -1000000000000 ≤ ((n : Nat) : Int) ∧ ((n : Nat) : Int) ≤ 1000000000000
      omega
  · split at h
    · cases h
    · cases h
    · rename_i n hr
      have := rdCount_le hr
      cases h
      omega
def rdVal (t : List Nat) : Option (List Int) := let ws := (TL.spl [44] 0 [] t).map rdNum
  if ws.any (·.isNone) = true ∨ 4 < ws.length then none else some (ws.filterMap id)
theorem spl_mem {b : Nat} : ∀ {t acc p : List Nat}, p ∈ TL.spl [b] 0 acc t → ∀ c ∈ p, c ∈ acc ∨ c ∈ t
  | [], acc, p, h => by
    have : p = acc := by simpa [TL.spl] using h
    subst this
    exact fun c hc => .inl hc
  | x :: t, acc, p, h => by
    unfold TL.spl at h
    split at h
    · rcases List.mem_cons.mp h with rfl | h
      · exact fun c hc => .inl hc
      · intro c hc
        rcases spl_mem h c hc with q | q
        · cases q
        · exact .inr (List.mem_cons_of_mem _ q)
    · intro c hc
      rcases spl_mem h c hc with q | q
      · rcases List.mem_append.mp q with q | q
        · exact .inl q
        · rw [List.mem_singleton.mp q]; exact .inr List.mem_cons_self
      · exact .inr (List.mem_cons_of_mem _ q)
theorem spl_len {b : Nat} : ∀ {t acc : List Nat}, (TL.spl [b] 0 acc t).length ≤ t.length + 1 ∧ 1 ≤ (TL.spl [b] 0 acc t).length
  | [], acc => by simp [TL.spl]
  | x :: t, acc => by
    unfold TL.spl
    split
    · have := spl_len (b := b) (t := t) (acc := [])
      show (acc :: TL.spl [b] 0 [] t).length ≤ (x :: t).length + 1 ∧ 1 ≤ (acc :: TL.spl [b] 0 [] t).length
      rw [List.length_cons, List.length_cons]
      exact ⟨by omega, by omega⟩
    · have := spl_len (b := b) (t := t) (acc := acc ++ [x])
      rw [List.length_cons]
      exact ⟨by omega, by omega⟩
theorem spl_sub {b : Nat} {t p : List Nat} (h : p ∈ TL.spl [b] 0 [] t) : ∀ c ∈ p, c ∈ t := fun c hc => (spl_mem h c hc).elim (fun q => nomatch q) id
theorem spl_plen {b : Nat} : ∀ {t acc p : List Nat}, p ∈ TL.spl [b] 0 acc t → p.length ≤ acc.length + t.length
  | [], acc, p, h => by
    have : p = acc := by simpa [TL.spl] using h
    subst this
    exact Nat.le_add_right _ _
  | x :: t, acc, p, h => by
    unfold TL.spl at h
    split at h
    · rcases List.mem_cons.mp h with rfl | h
      · exact Nat.le_add_right _ _
      · have := spl_plen h
        rw [List.length_cons]
        simp at this
        omega
    · have := spl_plen h
      rw [List.length_append, List.length_singleton] at this
      rw [List.length_cons]
      omega
theorem asc_sub {a p : List Nat} (ha : asc a) (h : ∀ c ∈ p, c ∈ a) : asc p := fun c hc => ha c (h c hc)
set_option maxHeartbeats 4000000
def numG (d : D) : Option D := match d with
  | .str x => some (optI (rdNum x.cps.toList))
  | _ => none
theorem numG_map {l : List (List Nat)} : (l.map tx).filterMap numG = (l.map rdNum).map optI := by
  induction l with
  | nil => rfl
  | cons a l ih =>
    have e : numG (tx a) = some (optI (rdNum a)) := rfl
    rw [List.map_cons, List.filterMap_cons, e]
    simp only
    rw [ih]
    rfl
theorem non_in {s : Store} {n : Nat} {ws : List (Option Int)} (h : isLst s n = some (ws.map optI)) : inD s .non (.ref n) = some (ws.any (·.isNone)) := by
  have e : items s (.ref n) = some (ws.map optI) := by rw [items_ref, h]
  have hf : (ws.map optI).all flatD = true := by
    rw [List.all_eq_true]
    intro d hd
    obtain ⟨o, _, rfl⟩ := List.mem_map.mp hd
    cases o <;> rfl
  unfold inD
  rw [e]
  simp only [hf, flatD, Bool.and_self, if_true]
  congr 1
  rw [List.any_map]
  congr 1
  funext o
  cases o <;> rfl
theorem vals_of : ∀ {ws : List (Option Int)}, ws.any (·.isNone) = false → ws.map optI = (ws.filterMap id).map .int
  | [], _ => rfl
  | none :: ws, h => by simp at h
  | some i :: ws, h => by
    have h2 : ws.any (·.isNone) = false := by simpa using h
    show D.int i :: ws.map optI = _
    rw [vals_of h2]
    rfl
theorem unds_ints {n : Nat} : ∀ {v : List Int}, D.unds n (v.map D.int) = true
  | [] => rfl
  | i :: v => by rw [List.map_cons, unds_cons, und_int, unds_ints]; rfl
def optV : Option (List Int) → D
  | none => .non
  | some v => .tup (v.map .int)
theorem read_value_spec {k : Nat} {t : List Nat} {s : Store} {Q : KQ} (ha : asc t) (hl : t.length ≤ 100000) (h : Q (optV (rdVal t)) s) : cl (mx P G fuel (k + 4)) f_read_value [tx t] Q s := by
  obtain ⟨ps, hps⟩ : ∃ ps, ps = TL.spl [44] 0 [] t := ⟨_, rfl⟩
  have pl := spl_len (b := 44) (t := t) (acc := [])
  have ok : ∀ p ∈ ps, asc p ∧ p.length ≤ 100000 := fun p hp => by
    rw [hps] at hp
    refine ⟨asc_sub ha (spl_sub hp), ?_⟩
    have := spl_plen hp
    simp at this
    omega
  rw [← hps] at pl
  have big : ∀ n : Nat, n ≤ 1000000 → n ≤ sizeLine := fun n hn => Nat.le_of_lt (Nat.lt_of_le_of_lt hn line_big)
  have z1 : t.length + 2 ≤ sizeLine := big _ (by omega)
  have z2 : (TL.spl [44] 0 [] t).length ≤ sizeLine := by rw [← hps]; exact big _ (by omega)
  refine cl_fd P_read_value rfl ?_
  unfold fd_read_value
  simp! only [lit_c, meT_tx]
  rw [meP_splitTx (by decide) rfl z1 z2, ← hps]
  obtain ⟨S1, hS1⟩ : ∃ S1, S1 = s ++ [Cell.lst (ps.map tx)] := ⟨_, rfl⟩
  have hl1 : isLst S1 s.length = some (ps.map tx) := by rw [hS1, isLst_new0 rfl]; rfl
  rw [← hS1]
  simp! only []
  rw [hl1, wkL_some, wO_some]
  simp! only []
  refine lc_pure numG (fun acc => by
      rw [stays_one]
      show isLst _ _ = _
      rw [hS1, List.append_assoc, isLst_new0 rfl]
      rfl) (by rw [List.length_map]; exact Nat.lt_of_le_of_lt (show ps.length ≤ 1000000 by omega) line_big) ?_ ?_
  · intro d hd acc
    obtain ⟨p, hp, rfl⟩ := List.mem_map.mp hd
    obtain ⟨a1, a2⟩ := ok p hp
    have e : numG (tx p) = some (optI (rdNum p)) := rfl
    rw [e]
    simp! only [lcTP_0]
    refine read_number_spec (k := k) a1 a2 ?_
    simp! only []
  · show kAsg _ _ _ _ _ _ (S1 ++ [Cell.lst ((ps.map tx).filterMap numG)])
    rw [numG_map]
    obtain ⟨ws, hws⟩ : ∃ ws, ws = ps.map rdNum := ⟨_, rfl⟩
    have wl : ws.length = ps.length := by rw [hws, List.length_map]
    have er : rdVal t = if ws.any (·.isNone) = true ∨ 4 < ws.length then none else some (ws.filterMap id) := by
      unfold rdVal
      rw [← hps, ← hws]
    rw [← hws]
    obtain ⟨S2, hS2⟩ : ∃ S2, S2 = S1 ++ [Cell.lst (ws.map optI)] := ⟨_, rfl⟩
    have hl2 : isLst S2 S1.length = some (ws.map optI) := by rw [hS2, isLst_new0 rfl]; rfl
    have hS2s : ∃ v, S2 = s ++ v := ⟨_, by rw [hS2, hS1, List.append_assoc]⟩
    obtain ⟨v, hv⟩ := hS2s
    have et : ∀ z, trunc s (.ref S1.length) z = z := fun z => trunc_keep (by rw [und_ref, hS1, List.length_append, List.length_singleton]; exact decide_eq_false (by omega))
    rw [← hS2]
    simp! only [et, non_in hl2]
    cases hn : ws.any (·.isNone) with
    | true =>
      rw [er, if_pos (.inl hn)] at h
      simp! only []
      rw [hv, trunc_new und_non]
      exact h
    | false =>
      simp! only []
      rw [hl2, lnL_some, List.length_map]
      simp! only []
      by_cases c : 4 < ws.length
      · rw [er, if_pos (.inr c)] at h
        have c1 : (4 : Int) < (ws.length : Nat) := by omega
        simp! only [c1]
        rw [hv, trunc_new und_non]
        exact h
      · rw [er, if_neg (by rintro (q | q); rw [hn] at q; cases q; exact c q)] at h
        have c1 : ¬ (4 : Int) < (ws.length : Nat) := by omega
        simp! only [c1]
        rw [hl2, tpL_some, vals_of hn]
        simp! only []
        rw [hv, trunc_new (by rw [und_tup]; exact unds_ints)]
        exact h
def cKey : List Nat := [97, 98, 99, 100, 101, 102, 103, 104, 105, 106, 107, 108, 109, 110, 111, 112, 113, 114, 115, 116, 117, 118, 119, 120, 121, 122, 48, 49, 50, 51, 52, 53, 54, 55, 56, 57, 46]
theorem lit_key : D.str (Str.ofString "abcdefghijklmnopqrstuvwxyz0123456789.") = tx cKey := by kernel_rfl
def keyB (t : List Nat) : Bool := decide (1 ≤ t.length) && decide (t.length ≤ 12) && t.all fun c => decide (c ∈ cKey)
theorem is_key_txt {k : Nat} {t : List Nat} {s : Store} {Q : KQ} (hl : t.length ≤ 100000) (h : Q (.bl (keyB t)) s) : cl (mx P G fuel (k + 1)) f_is_key [tx t] Q s := by
  have h6 : t.length ≤ 1000000 := by omega
  refine cl_fd P_is_key rfl ?_
  unfold fd_is_key
  simp! only [isi_tx, biP_lenTx, h6, G_MOST_SIGNS]
  by_cases c1 : 1 ≤ t.length
  · have d1 : (1 : Int) ≤ (t.length : Nat) := by omega
    by_cases c2 : t.length ≤ 12
    · have d2 : ((t.length : Nat) : Int) ≤ 12 := by omega
      simp! only [d1, d2, walkS_tx, G_MOST_SIGNS]
      refine for_tx (t := t) (fun dn l ρ s' => s' = s ∧ (dn.all fun c => decide (c ∈ cKey)) = true ∧ ∃ c1, ρ = [some (tx t), c1]) ⟨rfl, rfl, none, rfl⟩ ?_ ?_
      · rintro dn c l ρ s' e ⟨rfl, hd, c1, rfl⟩
        by_cases hc : c ∈ cKey
        · have c2 : decide (c ∈ cKey) = true := decide_eq_true hc
          simp! only [G_KEY_SIGNS, lit_key, inD_tx, c2]
          exact ⟨by rw [List.all_append, hd, List.all_cons, c2]; rfl, _, rfl⟩
        · have c2 : decide (c ∈ cKey) = false := decide_eq_false hc
          have hf : keyB t = false := by
            unfold keyB
            rw [← e, List.all_append, List.all_cons, c2]
            simp
          rw [hf] at h
          simp! only [G_KEY_SIGNS, lit_key, inD_tx, c2]
          exact h
      · rintro ρ s' ⟨rfl, hd, c1, rfl⟩
        have hq : keyB t = true := by
          unfold keyB
          rw [hd]
          simp [*]
        rw [hq] at h
        simp! only []
        exact h
    · have d2 : ¬ ((t.length : Nat) : Int) ≤ 12 := by omega
      have hq : keyB t = false := by unfold keyB; simp [c2]
      rw [hq] at h
      simp! only [d1, d2, G_MOST_SIGNS]
      exact h
  · have d1 : ¬ (1 : Int) ≤ (t.length : Nat) := by omega
    have hq : keyB t = false := by unfold keyB; simp at c1; simp [c1]
    rw [hq] at h
    simp! only [d1]
    exact h
def rdRow (t : List Nat) : Option Row := match TL.spl [32] 0 [] t with
  | [a, b] => if keyB a = true then (rdVal b).map fun v => (a, v) else none
  | _ => none
def optR : Option Row → D
  | none => .non
  | some r => rowD r
theorem rdVal_ok {t : List Nat} {v : List Int} (h : rdVal t = some v) : 1 ≤ v.length ∧ v.length ≤ 4 ∧ ∀ i ∈ v, -1000000000000 ≤ i ∧ i ≤ 1000000000000 := by
  unfold rdVal at h
  have pl := spl_len (b := 44) (t := t) (acc := [])
  obtain ⟨ws, hws⟩ : ∃ ws, ws = (TL.spl [44] 0 [] t).map rdNum := ⟨_, rfl⟩
  have wl : ws.length = (TL.spl [44] 0 [] t).length := by rw [hws, List.length_map]
  rw [← hws] at h
  by_cases c : ws.any (·.isNone) = true ∨ 4 < ws.length
  · rw [if_pos c] at h; cases h
  · rw [if_neg c] at h
    cases h
    have hn : ws.any (·.isNone) = false := by
      cases q : ws.any (·.isNone) with
      | true => exact absurd (.inl q) c
      | false => rfl
    have hl : (ws.filterMap id).length = ws.length := by
      have := congrArg List.length (vals_of hn)
      rw [List.length_map, List.length_map] at this
      exact this.symm
    have h4 : ¬ 4 < ws.length := fun q => c (.inr q)
    refine ⟨by omega, by omega, fun i hi => ?_⟩
    obtain ⟨o, ho, e⟩ := List.mem_filterMap.mp hi
    have e : o = some i := e
    subst e
    rw [hws] at ho
    obtain ⟨p, _, hp⟩ := List.mem_map.mp ho
    exact rdNum_le hp
set_option maxHeartbeats 4000000
theorem num_int {k : Nat} {i : Int} {s : Store} {Q : KQ} (h1 : -1000000000000 ≤ i) (h2 : i ≤ 1000000000000) (h : Q (.bl true) s) : cl (mx P G fuel (k + 2)) f_is_number [.int i] Q s := by
  refine cl_fd P_is_number rfl ?_
  unfold fd_is_number
  simp! only []
  refine is_whole_int ?_
  simp! only [G_LIMIT, h1, h2]
  exact h
theorem is_value_ints {k : Nat} {v : List Int} {s : Store} {Q : KQ} (h1 : 1 ≤ v.length) (h4 : v.length ≤ 4) (hv : ∀ i ∈ v, -1000000000000 ≤ i ∧ i ≤ 1000000000000) (h : Q (.bl true) s) : cl (mx P G fuel (k + 3)) f_is_value [.tup (v.map .int)] Q s := by
  refine cl_fd P_is_value rfl ?_
  have d1 : (1 : Int) ≤ (v.length : Nat) := by omega
  have d2 : ((v.length : Nat) : Int) ≤ 4 := by omega
  unfold fd_is_value
  simp! only [G_MOST_NUMBERS, List.length_map, d1, d2]
  refine for_map D.int (xs := v) (fun dn l ρ s' => s' = s ∧ ∃ c1, ρ = [some (.tup (v.map .int)), c1]) (fun _ _ _ _ _ => stays_nil) ⟨rfl, none, rfl⟩ ?_ ?_
  · rintro dn i l ρ s' e ⟨rfl, c1, rfl⟩
    obtain ⟨g1, g2⟩ := hv i (by rw [← e]; simp)
    simp! only []
    refine num_int g1 g2 ?_
    simp! only []
    exact ⟨_, rfl⟩
  · rintro ρ s' ⟨rfl, c1, rfl⟩
    simp! only []
    exact h
theorem is_value_non {k : Nat} {s : Store} {Q : KQ} (h : Q (.bl false) s) : cl (mx P G fuel (k + 1)) f_is_value [.non] Q s := by
  refine cl_fd P_is_value rfl ?_
  unfold fd_is_value
  simp! only []
  exact h
theorem rdRow_two {t a b : List Nat} (h : TL.spl [32] 0 [] t = [a, b]) : rdRow t = if keyB a = true then (rdVal b).map fun v => (a, v) else none := by
  unfold rdRow
  rw [h]
theorem rdRow_not {t : List Nat} (h : (TL.spl [32] 0 [] t).length ≠ 2) : rdRow t = none := by
  unfold rdRow
  split
  · rename_i e
    rw [e] at h
    exact absurd rfl h
  · rfl
theorem read_row_spec {k : Nat} {t : List Nat} {s : Store} {Q : KQ} (ha : asc t) (hl : t.length ≤ 100000) (h : Q (optR (rdRow t)) s) : cl (mx P G fuel (k + 5)) f_read_row [tx t] Q s := by
  obtain ⟨ps, hps⟩ : ∃ ps, ps = TL.spl [32] 0 [] t := ⟨_, rfl⟩
  have pl := spl_len (b := 32) (t := t) (acc := [])
  have ok : ∀ p ∈ ps, asc p ∧ p.length ≤ 100000 := fun p hp => by
    rw [hps] at hp
    refine ⟨asc_sub ha (spl_sub hp), ?_⟩
    have := spl_plen hp
    simp at this
    omega
  rw [← hps] at pl
  have big : ∀ n : Nat, n ≤ 1000000 → n ≤ sizeLine := fun n hn => Nat.le_of_lt (Nat.lt_of_le_of_lt hn line_big)
  have z1 : t.length + 2 ≤ sizeLine := big _ (by omega)
  have z2 : (TL.spl [32] 0 [] t).length ≤ sizeLine := by rw [← hps]; exact big _ (by omega)
  refine cl_fd P_read_row rfl ?_
  unfold fd_read_row
  simp! only [lit_b, meT_tx]
  rw [meP_splitTx (by decide) rfl z1 z2, ← hps]
  obtain ⟨S1, hS1⟩ : ∃ S1, S1 = s ++ [Cell.lst (ps.map tx)] := ⟨_, rfl⟩
  have hl1 : isLst S1 s.length = some (ps.map tx) := by rw [hS1, isLst_new0 rfl]; rfl
  have et : ∀ z, trunc s (.ref s.length) z = z := fun z => trunc_keep (by rw [und_ref]; simp)
  rw [← hS1]
  simp! only [et]
  rw [hl1, lnL_some, List.length_map]
  simp! only [eqD_int]
  by_cases c : ps.length = 2
  · have c1 : (((ps.length : Nat) : Int) = 2) = True := eq_true (by omega)
    obtain ⟨a, b, rfl⟩ : ∃ a b, ps = [a, b] := by
      match ps, c with
      | [a, b], _ => exact ⟨a, b, rfl⟩
    obtain ⟨a1, a2⟩ := ok a (by simp)
    obtain ⟨b1, b2⟩ := ok b (by simp)
    have x0 : ixD S1 (.ref s.length) (.int 0) = some (tx a) := by rw [ixD_ref, hl1]; rfl
    have x1 : ixD S1 (.ref s.length) (.int 1) = some (tx b) := by rw [ixD_ref, hl1]; rfl
    rw [ixD_ref] at x0 x1
    simp! only [c1]
    rw [x0]
    simp! only []
    refine is_key_txt (k := k + 3) a2 ?_
    rw [rdRow_two hps.symm] at h
    cases hk : keyB a with
    | false =>
      rw [hk, if_neg (by decide)] at h
      simp! only []
      rw [hS1, trunc_new und_non]
      exact h
    | true =>
      rw [hk, if_pos rfl] at h
      simp! only []
      rw [x0]
      simp! only []
      rw [x1]
      simp! only []
      refine read_value_spec (k := k) b1 b2 ?_
      have et2 : ∀ d : D, D.und S1.length d = true → trunc S1 (.tup [tx a, d]) S1 = S1 := fun d _ => trunc_self
      simp! only []
      refine cl_fd P_is_row rfl ?_
      unfold fd_is_row
      simp! only [eqD_int, ixD_tup, atD_0, atD_1]
      refine is_key_txt (k := k + 2) a2 ?_
      rw [hk]
      simp! only [ixD_tup, atD_0, atD_1]
      cases hr : rdVal b with
      | none =>
        rw [hr] at h
        unfold optV
        refine is_value_non (k := k + 2) ?_
        simp! only []
        rw [hS1, trunc_new und_non]
        exact h
      | some v =>
        obtain ⟨g1, g2, g3⟩ := rdVal_ok hr
        rw [hr] at h
        unfold optV
        refine is_value_ints (k := k) g1 g2 g3 ?_
        simp! only []
        have ee : D.tup [tx a, .tup (v.map .int)] = rowD (a, v) := rfl
        rw [ee, hS1, trunc_new (by unfold rowD; rw [und_tup, unds_cons, unds_cons, und_tx, und_tup, unds_ints]; rfl)]
        exact h
  · have c1 : (((ps.length : Nat) : Int) = 2) = False := eq_false (by omega)
    rw [rdRow_not (by rw [← hps]; exact c)] at h
    refine br.neg (by omega) ?_
    simp! only [show decide (((ps.length : Nat) : Int) = 2) = false from decide_eq_false (by omega)]
    rw [hS1, trunc_new und_non]
    exact h
set_option maxHeartbeats 4000000
def cPg : List Nat := [112, 97, 103, 101]
def cSum0 : List Nat := [115, 117, 109, 32, 48]
theorem lit_pg : D.str (Str.ofString "page") = tx cPg := by kernel_rfl
theorem lit_sum0 : D.str (Str.ofString "sum 0") = tx cSum0 := by kernel_rfl
def rdHead (t : List Nat) : Option (Nat × Nat) := match TL.spl [32] 0 [] t with
  | [a, b, c] => if a = cPg then (match rdCount b 31, rdCount c 1000000000000 with
    | some p, some n => some (p, n)
    | _, _ => none) else none
  | _ => none
def headOf (a b c : List Nat) : Option (Nat × Nat) := if a = cPg then (match rdCount b 31, rdCount c 1000000000000 with
    | some p, some n => some (p, n)
    | _, _ => none) else none
theorem rdHead_three {t a b c : List Nat} (h : TL.spl [32] 0 [] t = [a, b, c]) : rdHead t = headOf a b c := by
  unfold rdHead headOf
  rw [h]
theorem rdHead_not {t : List Nat} (h : (TL.spl [32] 0 [] t).length ≠ 3) : rdHead t = none := by
  unfold rdHead
  split
  · rename_i e
    rw [e] at h
    exact absurd rfl h
  · rfl
def optH : Option (Nat × Nat) → D
  | none => .non
  | some (p, n) => .tup [.int (p : Nat), .int (n : Nat)]
theorem read_head_spec {k : Nat} {t : List Nat} {s : Store} {Q : KQ} (ha : asc t) (hl : t.length ≤ 100000) (h : Q (optH (rdHead t)) s) : cl (mx P G fuel (k + 3)) f_read_head [tx t] Q s := by
  obtain ⟨ps, hps⟩ : ∃ ps, ps = TL.spl [32] 0 [] t := ⟨_, rfl⟩
  have pl := spl_len (b := 32) (t := t) (acc := [])
  have ok : ∀ p ∈ ps, asc p ∧ p.length ≤ 100000 := fun p hp => by
    rw [hps] at hp
    refine ⟨asc_sub ha (spl_sub hp), ?_⟩
    have := spl_plen hp
    simp at this
    omega
  rw [← hps] at pl
  have big : ∀ n : Nat, n ≤ 1000000 → n ≤ sizeLine := fun n hn => Nat.le_of_lt (Nat.lt_of_le_of_lt hn line_big)
  have z1 : t.length + 2 ≤ sizeLine := big _ (by omega)
  have z2 : (TL.spl [32] 0 [] t).length ≤ sizeLine := by rw [← hps]; exact big _ (by omega)
  refine cl_fd P_read_head rfl ?_
  unfold fd_read_head
  simp! only [lit_b, meT_tx]
  rw [meP_splitTx (by decide) rfl z1 z2, ← hps]
  obtain ⟨S1, hS1⟩ : ∃ S1, S1 = s ++ [Cell.lst (ps.map tx)] := ⟨_, rfl⟩
  have hl1 : isLst S1 s.length = some (ps.map tx) := by rw [hS1, isLst_new0 rfl]; rfl
  have et : ∀ z, trunc s (.ref s.length) z = z := fun z => trunc_keep (by rw [und_ref]; simp)
  rw [← hS1]
  simp! only [et]
  rw [hl1, lnL_some, List.length_map]
  simp! only [eqD_int]
  by_cases c : ps.length = 3
  · have c1 : (((ps.length : Nat) : Int) = 3) = True := eq_true (by omega)
    obtain ⟨a, b, d, rfl⟩ : ∃ a b d, ps = [a, b, d] := by
      match ps, c with
      | [a, b, d], _ => exact ⟨a, b, d, rfl⟩
    obtain ⟨a1, a2⟩ := ok a (by simp)
    obtain ⟨b1, b2⟩ := ok b (by simp)
    obtain ⟨d1, d2⟩ := ok d (by simp)
    have x0 : ixR S1 s.length 0 (isLst S1 s.length) = some (tx a) := by rw [hl1]; rfl
    have x1 : ixR S1 s.length 1 (isLst S1 s.length) = some (tx b) := by rw [hl1]; rfl
    have x2 : ixR S1 s.length 2 (isLst S1 s.length) = some (tx d) := by rw [hl1]; rfl
    rw [rdHead_three hps.symm] at h
    unfold headOf at h
    simp! only [c1]
    rw [x0]
    simp! only [lit_pg, eqD_tx a1 (asc_lit (l := cPg) rfl)]
    by_cases ca : a = cPg
    · rw [if_pos ca] at h
      simp! only [ca]
      rw [x1]
      simp! only [G_MOST_PAGES]
      refine read_count_spec (k := k) (most := 31) b1 b2 rfl ?_
      simp! only []
      rw [x2]
      simp! only [G_LIMIT]
      refine read_count_spec (k := k) (most := 1000000000000) d1 d2 rfl ?_
      cases h1 : rdCount b 31 with
      | none =>
        rw [h1] at h
        unfold optD
        simp! only []
        rw [hS1, trunc_new und_non]
        exact h
      | some p =>
        cases h2 : rdCount d 1000000000000 with
        | none =>
          rw [h1, h2] at h
          unfold optD
          simp! only []
          rw [hS1, trunc_new und_non]
          exact h
        | some n =>
          rw [h1, h2] at h
          unfold optD
          simp! only []
          rw [hS1, trunc_new (by rw [und_tup]; rfl)]
          exact h
    · rw [if_neg ca] at h
      simp! only [ca]
      rw [hS1, trunc_new und_non]
      exact h
  · rw [rdHead_not (by rw [← hps]; exact c)] at h
    refine br.neg (by omega) ?_
    simp! only [show decide (((ps.length : Nat) : Int) = 3) = false from decide_eq_false (by omega)]
    rw [hS1, trunc_new und_non]
    exact h
def sumLn (t : List Nat) : Bool := decide (t.take 5 = cSum0) && decide (t.length = 10) && figB (t.drop 4)
theorem is_sum_line_spec {k : Nat} {t : List Nat} {s : Store} {Q : KQ} (ha : asc t) (hl : t.length ≤ 100000) (h : Q (.bl (sumLn t)) s) : cl (mx P G fuel (k + 2)) f_is_sum_line [tx t] Q s := by
  have h6 : t.length ≤ 1000000 := by omega
  refine cl_fd P_is_sum_line rfl ?_
  unfold fd_is_sum_line
  unfold sumLn at h
  simp! only []
  rw [slP_to (i := 5) (ii := 5) rfl h6]
  simp! only [lit_sum0, eqD_tx (asc_take (n := 5) ha) (asc_lit (l := cSum0) rfl)]
  by_cases c1 : t.take 5 = cSum0
  · simp! only [c1, biP_lenTx, h6, eqD_int]
    by_cases c2 : t.length = 10
    · have d2 : (((t.length : Nat) : Int) = 10) = True := eq_true (by omega)
      simp! only [d2]
      rw [slP_from (i := 4) (ii := 4) rfl h6]
      simp! only []
      refine is_figures_spec (asc_drop ha) ?_
      rw [decide_eq_true c1, decide_eq_true c2] at h
      simp! only [] at h
      simp! only []
      exact h
    · have d2 : (((t.length : Nat) : Int) = 10) = False := eq_false (by omega)
      rw [decide_eq_false c2, Bool.and_false] at h
      simp! only [] at h
      simp! only [d2]
      exact h
  · rw [decide_eq_false c1] at h
    simp! only [] at h
    simp! only [c1]
    exact h
set_option maxHeartbeats 4000000
abbrev Lt := Nat → Option (Nat × Nat)
def cellD (L : Lt) (ad : Nat → Nat) (a : Nat) : D := match L a with
  | none => .non
  | some _ => .ref (ad a)
structure OL (n m : Nat) (s : Store) (A : Nat) (ad : Nat → Nat) (L : Lt) : Prop where
  out : isLst s A = some ((List.range m).map (cellD L ad))
  inj : ∀ a b, a < m → b < m → L a ≠ none → L b ≠ none → ad a = ad b → a = b
  notA : ∀ a, a < m → L a ≠ none → ad a ≠ A
  low : n ≤ A
  lows : ∀ a, a < m → L a ≠ none → n ≤ ad a
  row : ∀ a lo hi, a < m → L a = some (lo, hi) → isLst s (ad a) = some [.int (lo : Nat), .int (hi : Nat)]
def LotsOk (m : Nat) (ds : List Deed) (L : Lt) : Prop := ∀ a lo hi, a < m → L a = some (lo, hi) → lo ≤ hi ∧ hi ≤ ver ds ds.length a
theorem OL.ext {n m A : Nat} {s t : Store} {ad : Nat → Nat} {L : Lt} (O : OL n m s A ad L) : OL n m (s ++ t) A ad L where
  out := isLst_old O.out
  inj := O.inj
  notA := O.notA
  low := O.low
  lows := O.lows
  row := fun a lo hi h e => isLst_old (O.row a lo hi h e)
theorem OL.ix {n m A a : Nat} {s : Store} {ad : Nat → Nat} {L : Lt} (O : OL n m s A ad L) (h : a < m) : ixD s (.ref A) (.int (a : Nat)) = some (cellD L ad a) := ix_row O.out h
theorem OL.lo {n m A a lo hi : Nat} {s : Store} {ad : Nat → Nat} {L : Lt} (O : OL n m s A ad L) (h : a < m) (e : L a = some (lo, hi)) : ixD s (.ref (ad a)) (.int 0) = some (.int (lo : Nat)) := by
  rw [ixD_ref, O.row a lo hi h e]
  rfl
theorem OL.hi {n m A a lo hi : Nat} {s : Store} {ad : Nat → Nat} {L : Lt} (O : OL n m s A ad L) (h : a < m) (e : L a = some (lo, hi)) : ixD s (.ref (ad a)) (.int 1) = some (.int (hi : Nat)) := by
  rw [ixD_ref, O.row a lo hi h e]
  rfl
theorem cell_none {L : Lt} {ad : Nat → Nat} {a : Nat} (h : L a = none) : cellD L ad a = .non := by unfold cellD; rw [h]
theorem cell_some {L : Lt} {ad : Nat → Nat} {a : Nat} {x : Nat × Nat} (h : L a = some x) : cellD L ad a = .ref (ad a) := by unfold cellD; rw [h]
def lot0 (img : List (Option Nat)) : Lt := fun a => match img[a]? with
  | some (some v) => some (v, v)
  | _ => none
theorem lot0_some {img : List (Option Nat)} {a v : Nat} (h : img[a]? = some (some v)) : lot0 img a = some (v, v) := by unfold lot0; rw [h]
theorem lot0_none {img : List (Option Nat)} {a : Nat} (h : img[a]? = some none) : lot0 img a = none := by unfold lot0; rw [h]
theorem lot0_ok {m : Nat} {ds : List Deed} {img : List (Option Nat)} (io : ImgOk m ds img) : LotsOk m ds (lot0 img) := by
  intro a lo hi ha h
  unfold lot0 at h
  split at h
  · rename_i v e
    cases h
    exact ⟨Nat.le_refl _, io.le a _ e⟩
  · cases h
theorem lot0_iff {img : List (Option Nat)} {a : Nat} (h : lot0 img a ≠ none) : ∃ x, img[a]? = some (some x) := by
  unfold lot0 at h
  split at h
  · exact ⟨_, by assumption⟩
  · exact absurd rfl h
set_option maxHeartbeats 4000000
def heldB (L : Lt) (ds : List Deed) (t r : Nat) : Bool := match L r with
  | none => false
  | some (lo, hi) => decide (lo ≤ ver ds t r) && decide (ver ds t r ≤ hi)
def rk (L : Lt) (ds : List Deed) (t : Nat) (rs : List Nat) : Bool := rs.all (heldB L ds t)
def gro (ds : List Deed) (L : Lt) (i : Nat) : Option Bool := match ds[i]? with
  | none => none
  | some d => match L d.1 with
    | none => none
    | some (lo, hi) => if hi + 1 ≠ ver ds (i + 1) d.1 ∧ lo ≠ ver ds (i + 1) d.1 then none else if rk L ds (i + 1) d.2 = true then (if hi + 1 = ver ds (i + 1) d.1 then some true else some false) else none
def wayD (b : Bool) : D := if b then .int 1 else .int (-1)
def groD (i : Nat) : Option Bool → D
  | none => .non
  | some b => .tup [.int ((i : Nat) + 1), wayD b]
theorem LL.mat2 {n A m t a : Nat} {ds : List Deed} {s : Store} {refs : List Nat} (T : LL n s A refs (tabL m ds)) (h : t ≤ ds.length) : ∃ r, ixD s (.ref A) (.int (t : Nat)) = some (.ref r) ∧ ∀ a, a < m → ixD s (.ref r) (.int (a : Nat)) = some (.int (ver ds t a : Nat)) := by
  obtain ⟨r, h1, h2, h3, h4⟩ := T.get (rowsT_at (Nat.lt_succ_of_le h))
  refine ⟨r, T.ix h1, fun a ha => ?_⟩
  rw [ixD_ref, h2]
  show atD _ _ = _
  rw [atD_nat, rowL_at ha]
set_option maxHeartbeats 4000000
theorem own_at {ds : List Deed} {a i : Nat} {d : Deed} (h : ds[i]? = some d) (ha : d.1 = a) : ∀ {t : Nat}, i < t → t ≤ ds.length → (ownL ds t a)[ver ds i a]? = some (i + 1)
  | 0, hi, _ => by omega
  | t + 1, hi, ht => by
    by_cases hc : i = t
    · subst hc
      rw [ownL_succ h, List.getElem?_append_right (by rw [ownL_len (by omega)]; exact Nat.le_refl _), ownL_len (by omega), Nat.sub_self, if_pos ha]
      rfl
    · have e := List.getElem?_eq_getElem (show t < ds.length by omega)
      rw [ownL_succ e]
      have h1 : ver ds i a < ver ds t a := by
        have h2 : ver ds (i + 1) a ≤ ver ds t a := ver_mono (by omega)
        rw [ver_succ h, if_pos ha] at h2
        omega
      rw [List.getElem?_append_left (by rw [ownL_len (by omega)]; exact h1)]
      exact own_at h ha (by omega) (by omega)
theorem own_mem {ds : List Deed} {a t x : Nat} (h : x ∈ ownL ds t a) : ∃ i, x = i + 1 ∧ i < t := by
  unfold ownL at h
  obtain ⟨i, hi, rfl⟩ := List.mem_map.mp h
  exact ⟨i, rfl, List.mem_range.mp (List.mem_filter.mp hi).1⟩
def edges (own : List Nat) (lo hi : Nat) : List Nat := (if hi < own.length then [own.getD hi 0] else []) ++ (if 0 < lo then [own.getD (lo - 1) 0] else [])
theorem edge_mem {own : List Nat} {lo hi x : Nat} (h1 : lo ≤ hi) (h2 : hi ≤ own.length) (h : x ∈ edges own lo hi) : x ∈ own := by
  unfold edges at h
  rcases List.mem_append.mp h with h | h
  · split at h
    · rename_i hl
      rw [List.mem_singleton.mp h, List.getD_eq_getElem?_getD, List.getElem?_eq_getElem hl]
      exact List.getElem_mem hl
    · cases h
  · split at h
    · rename_i hl
      have hl2 : lo - 1 < own.length := by omega
      rw [List.mem_singleton.mp h, List.getD_eq_getElem?_getD, List.getElem?_eq_getElem hl2]
      exact List.getElem_mem hl2
    · cases h
theorem edge_len {own : List Nat} {lo hi : Nat} : (edges own lo hi).length ≤ 2 := by
  unfold edges
  rw [List.length_append]
  split <;> split <;> simp
theorem gro_edge {ds : List Deed} {L : Lt} {i lo hi : Nat} {d : Deed} (h : ds[i]? = some d) (hL : L d.1 = some (lo, hi)) (hg : gro ds L i ≠ none) : i + 1 ∈ edges (ownL ds ds.length d.1) lo hi := by
  have hi2 : i < ds.length := (List.getElem?_eq_some_iff.mp h).1
  have ho := own_at h rfl hi2 (Nat.le_refl _)
  have hv : ver ds (i + 1) d.1 = ver ds i d.1 + 1 := by rw [ver_succ h, if_pos rfl]
  have hlt := (List.getElem?_eq_some_iff.mp ho).1
  unfold gro at hg
  rw [h] at hg
  simp only [hL] at hg
  unfold edges
  by_cases c1 : hi + 1 = ver ds (i + 1) d.1
  · apply List.mem_append_left
    have : hi = ver ds i d.1 := by omega
    rw [this, if_pos hlt, List.getD_eq_getElem?_getD, ho]
    simp
  · by_cases c2 : lo = ver ds (i + 1) d.1
    · apply List.mem_append_right
      have : lo - 1 = ver ds i d.1 := by omega
      rw [if_pos (by omega), this, List.getD_eq_getElem?_getD, ho]
      simp
    · rw [if_pos ⟨c1, c2⟩] at hg
      exact absurd rfl hg
set_option maxHeartbeats 4000000
def pick (ds : List Deed) (L : Lt) : Option (Nat × Bool) := (List.range ds.length).findSome? fun i => (gro ds L i).map fun w => (i, w)
def pickD : Option (Nat × Bool) → D
  | none => .non
  | some (i, w) => .tup [.int ((i : Nat) + 1), wayD w]
theorem find_first {f : Nat → Option (Nat × Bool)} {g : Nat → Option Bool} (hf : ∀ i, f i = (g i).map fun w => (i, w)) : ∀ {n : Nat} {j : Nat} {w : Bool}, j < n → g j = some w → (∀ i, i < j → g i = none) → (List.range n).findSome? f = some (j, w)
  | 0, j, w, h, _, _ => by omega
  | n + 1, j, w, h, hg, hn => by
    rw [List.range_succ, List.findSome?_append]
    by_cases hj : j < n
    · rw [find_first hf hj hg hn]
      rfl
    · have : j = n := by omega
      subst this
      have : (List.range j).findSome? f = none := by
        rw [List.findSome?_eq_none_iff]
        intro x hx
        rw [hf, hn x (List.mem_range.mp hx)]
        rfl
      rw [this]
      simp [hf, hg]
theorem gro_lt {ds : List Deed} {L : Lt} {i : Nat} (h : gro ds L i ≠ none) : i < ds.length := by
  unfold gro at h
  cases e : ds[i]? with
  | none =>
    rw [e] at h
    exact absurd rfl h
  | some d => exact (List.getElem?_eq_some_iff.mp e).1
theorem pick_some {ds : List Deed} {L : Lt} {j : Nat} {w : Bool} (h : gro ds L j = some w) (hn : ∀ i, i < j → gro ds L i = none) : pick ds L = some (j, w) :=
  find_first (fun _ => rfl) (gro_lt (by rw [h]; simp)) h hn
theorem pick_none {ds : List Deed} {L : Lt} (h : ∀ i, gro ds L i = none) : pick ds L = none := by
  unfold pick
  rw [List.findSome?_eq_none_iff]
  intro i _
  rw [h]
  rfl
theorem pick_spec {ds : List Deed} {L : Lt} {j : Nat} {w : Bool} (h : pick ds L = some (j, w)) : gro ds L j = some w ∧ ∀ i, i < j → gro ds L i = none := by
  by_cases ex : ∃ i, gro ds L i ≠ none
  · -- the least one
    have : ∀ n, (∃ i, i < n ∧ gro ds L i ≠ none) → ∃ i, gro ds L i ≠ none ∧ ∀ k, k < i → gro ds L k = none := by
      intro n
      induction n with
      | zero => rintro ⟨i, h, _⟩; omega
      | succ n ih =>
        rintro ⟨i, h, hi⟩
        by_cases h2 : ∃ i, i < n ∧ gro ds L i ≠ none
        · exact ih h2
        · refine ⟨i, hi, fun k hk => ?_⟩
          by_cases h3 : gro ds L k = none
          · exact h3
          · exact absurd ⟨k, by omega, h3⟩ h2
    obtain ⟨i, hi⟩ := ex
    obtain ⟨i, h1, h2⟩ := this (i + 1) ⟨i, by omega, hi⟩
    cases e : gro ds L i with
    | none => exact absurd e h1
    | some w' =>
      rw [pick_some e h2] at h
      cases h
      exact ⟨e, h2⟩
  · rw [pick_none fun i => by
      by_cases h3 : gro ds L i = none
      · exact h3
      · exact absurd ⟨i, h3⟩ ex] at h
    cases h
theorem pick_no {ds : List Deed} {L : Lt} (h : pick ds L = none) (i : Nat) : gro ds L i = none := by
  by_cases hi : i < ds.length
  · unfold pick at h
    rw [List.findSome?_eq_none_iff] at h
    have := h i (List.mem_range.mpr hi)
    cases e : gro ds L i with
    | none => rfl
    | some w => rw [e] at this; cases this
  · unfold gro
    rw [List.getElem?_eq_none (by omega)]
structure Best (ds : List Deed) (L : Lt) (P : Nat → Prop) (res : Option (Nat × Bool)) : Prop where
  real : ∀ i w, res = some (i, w) → gro ds L i = some w
  least : ∀ i, P i → gro ds L i ≠ none → ∃ j w, res = some (j, w) ∧ j ≤ i
theorem Best.eq {ds : List Deed} {L : Lt} {P : Nat → Prop} {res : Option (Nat × Bool)} (b : Best ds L P res) (h : ∀ i, gro ds L i ≠ none → P i) : pick ds L = res := by
  cases res with
  | none =>
    refine pick_none fun i => ?_
    by_cases h3 : gro ds L i = none
    · exact h3
    · obtain ⟨j, w, e, _⟩ := b.least i (h i h3) h3
      cases e
  | some r =>
    obtain ⟨j, w⟩ := r
    refine pick_some (b.real j w rfl) fun i hi => ?_
    by_cases h3 : gro ds L i = none
    · exact h3
    · obtain ⟨j', w', e, hl⟩ := b.least i (h i h3) h3
      cases e
      omega
def ledD (on : Nat → Nat) (a : Nat) : D := .tup [.int (a : Nat), .ref (on a)]
set_option maxHeartbeats 4000000
def growAt (L : Lt) (a : Nat) (w : Bool) : Lt := fun b => if b = a then (match L a with
  | some (lo, hi) => some (if w then (lo, hi + 1) else (lo - 1, hi))
  | none => none) else L b
def growS (ds : List Deed) (L : Lt) (i : Nat) (w : Bool) : Lt := match ds[i]? with
  | some d => growAt L d.1 w
  | none => L
def run (ds : List Deed) : Nat → Lt → List (Nat × Bool) × Lt
  | 0, L => ([], L)
  | k + 1, L => match pick ds L with
    | none => ([], L)
    | some (i, w) => ((i, w) :: (run ds k (growS ds L i w)).1, (run ds k (growS ds L i w)).2)
def full (ds : List Deed) (L : Lt) : List (Nat × Bool) × Lt := run ds ds.length L
theorem grow_none {L : Lt} {a b : Nat} {w : Bool} : growAt L a w b = none ↔ L b = none := by
  unfold growAt
  split
  · rename_i h
    subst h
    cases L b with
    | none => simp
    | some x => simp
  · exact Iff.rfl
theorem growS_none {ds : List Deed} {L : Lt} {i b : Nat} {w : Bool} : growS ds L i w b = none ↔ L b = none := by
  unfold growS
  cases ds[i]? with
  | none => exact Iff.rfl
  | some d => exact grow_none
theorem gro_cases {ds : List Deed} {L : Lt} {i : Nat} {w : Bool} (h : gro ds L i = some w) : ∃ d lo hi, ds[i]? = some d ∧ L d.1 = some (lo, hi) ∧ ((w = true ∧ hi + 1 = ver ds (i + 1) d.1) ∨ (w = false ∧ lo = ver ds (i + 1) d.1 ∧ hi + 1 ≠ ver ds (i + 1) d.1)) ∧ rk L ds (i + 1) d.2 = true := by
  unfold gro at h
  cases e : ds[i]? with
  | none => rw [e] at h; cases h
  | some d =>
    rw [e] at h
    simp only at h
    cases hL : L d.1 with
    | none => rw [hL] at h; cases h
    | some x =>
      obtain ⟨lo, hi⟩ := x
      rw [hL] at h
      simp only at h
      by_cases c : hi + 1 ≠ ver ds (i + 1) d.1 ∧ lo ≠ ver ds (i + 1) d.1
      · rw [if_pos c] at h
        cases h
      · rw [if_neg c] at h
        by_cases hk : rk L ds (i + 1) d.2 = true
        · rw [if_pos hk] at h
          refine ⟨d, lo, hi, rfl, hL, ?_, hk⟩
          by_cases c1 : hi + 1 = ver ds (i + 1) d.1
          · rw [if_pos c1] at h
            cases h
            exact .inl ⟨rfl, c1⟩
          · rw [if_neg c1] at h
            cases h
            refine .inr ⟨rfl, ?_, c1⟩
            by_cases c2 : lo = ver ds (i + 1) d.1
            · exact c2
            · exact absurd ⟨c1, c2⟩ c
        · rw [if_neg hk] at h
          cases h
theorem growS_eq {ds : List Deed} {L : Lt} {i : Nat} {w : Bool} {d : Deed} (h : ds[i]? = some d) : growS ds L i w = growAt L d.1 w := by unfold growS; rw [h]
theorem growAt_self {L : Lt} {a lo hi : Nat} {w : Bool} (h : L a = some (lo, hi)) : growAt L a w a = some (if w then (lo, hi + 1) else (lo - 1, hi)) := by unfold growAt; rw [if_pos rfl, h]
theorem growAt_ne {L : Lt} {a b : Nat} {w : Bool} (h : b ≠ a) : growAt L a w b = L b := by unfold growAt; rw [if_neg h]
theorem grow_ok {m : Nat} {ds : List Deed} {L : Lt} {i : Nat} {w : Bool} (lk : LotsOk m ds L) (lo : LogOk m ds) (h : gro ds L i = some w) : LotsOk m ds (growS ds L i w) := by
  obtain ⟨d, l, hi, e, hL, hw, _⟩ := gro_cases h
  rw [growS_eq e]
  intro a lo' hi' ha hg
  by_cases hda : a = d.1
  · subst hda
    rw [growAt_self hL] at hg
    obtain ⟨k1, k2⟩ := lk d.1 l hi ha hL
    rcases hw with ⟨rfl, hv⟩ | ⟨rfl, hv, _⟩
    · cases hg
      have : ver ds (i + 1) d.1 ≤ ver ds ds.length d.1 := ver_mono (List.getElem?_eq_some_iff.mp e).1
      omega
    · cases hg
      omega
  · rw [growAt_ne hda] at hg
    exact lk a lo' hi' ha hg
def crossed (ds : List Deed) (L : Lt) (i : Nat) : Bool := match ds[i]? with
  | none => true
  | some d => match L d.1 with
    | none => false
    | some (lo, hi) => decide (lo < ver ds (i + 1) d.1) && decide (ver ds (i + 1) d.1 ≤ hi)
def left (ds : List Deed) (L : Lt) : Nat := ((List.range ds.length).filter fun i => !crossed ds L i).length
theorem filt_le2 {p q : Nat → Bool} : ∀ {l : List Nat}, (∀ a ∈ l, p a = true → q a = true) → (l.filter p).length ≤ (l.filter q).length
  | [], _ => Nat.le_refl _
  | a :: l, h => by
    have ih := filt_le2 (l := l) fun x hx => h x (List.mem_cons_of_mem _ hx)
    rw [List.filter_cons, List.filter_cons]
    have h1 := h a List.mem_cons_self
    cases e : p a with
    | true =>
      rw [h1 e]
      simpa using ih
    | false =>
      cases q a with
      | true => simp; omega
      | false => simpa using ih
theorem filt_lt {p q : Nat → Bool} : ∀ {l : List Nat} {b : Nat}, b ∈ l → p b = false → q b = true → (∀ a ∈ l, p a = true → q a = true) → (l.filter p).length < (l.filter q).length
  | [], b, hb, _, _, _ => nomatch hb
  | a :: l, b, hb, h1, h2, h => by
    have hc : ∀ a ∈ l, p a = true → q a = true := fun x hx => h x (List.mem_cons_of_mem _ hx)
    rw [List.filter_cons, List.filter_cons]
    by_cases e : b = a
    · subst e
      rw [h1, h2]
      have := filt_le2 hc
      simp
      omega
    · have hb : b ∈ l := by
        rcases List.mem_cons.mp hb with z | z
        · exact absurd z e
        · exact z
      have ih := filt_lt hb h1 h2 hc
      cases e2 : p a with
      | true =>
        rw [h a List.mem_cons_self e2]
        simpa using ih
      | false =>
        cases q a with
        | true => simp; omega
        | false => simpa using ih
theorem left_le {ds : List Deed} {L : Lt} : left ds L ≤ ds.length := by
  unfold left
  exact Nat.le_trans (List.length_filter_le _ _) (by rw [List.length_range]; exact Nat.le_refl _)
theorem left_lt {m : Nat} {ds : List Deed} {L : Lt} {i : Nat} {w : Bool} (lk : LotsOk m ds L) (lo : LogOk m ds) (h : gro ds L i = some w) : left ds (growS ds L i w) < left ds L := by
  have hil := gro_lt (show gro ds L i ≠ none by rw [h]; simp)
  obtain ⟨d, l, hi, e, hL, hw, _⟩ := gro_cases h
  have hm := (lo d (List.mem_of_getElem? e)).1
  obtain ⟨k1, k2⟩ := lk d.1 l hi hm hL
  have hv : ver ds (i + 1) d.1 = ver ds i d.1 + 1 := by rw [ver_succ e, if_pos rfl]
  rw [growS_eq e]
  unfold left
  refine filt_lt (List.mem_range.mpr hil) ?_ ?_ ?_
  · unfold crossed
    rw [e]
    simp only [growAt_self hL]
    rcases hw with ⟨rfl, hv⟩ | ⟨rfl, hv, _⟩
    · simp; omega
    · simp; omega
  · unfold crossed
    rw [e]
    simp only [hL]
    rcases hw with ⟨rfl, hv⟩ | ⟨rfl, hv, _⟩
    · simp; omega
    · simp; omega
  · intro j hj hc
    unfold crossed at hc ⊢
    cases ej : ds[j]? with
    | none => rw [ej] at hc; exact hc
    | some dj =>
      rw [ej] at hc
      simp only at hc ⊢
      by_cases hd : dj.1 = d.1
      · rw [hd, growAt_self hL] at hc
        rw [hd, hL]
        rcases hw with ⟨rfl, hv⟩ | ⟨rfl, hv, _⟩
        · simp at hc ⊢; omega
        · simp at hc ⊢; omega
      · rw [growAt_ne hd] at hc
        exact hc
theorem run_same {m : Nat} {ds : List Deed} (lo : LogOk m ds) : ∀ {k k' : Nat} {L : Lt}, LotsOk m ds L → left ds L ≤ k → left ds L ≤ k' → run ds k L = run ds k' L
  | 0, 0, L, _, _, _ => rfl
  | 0, k' + 1, L, lk, h, _ => by
    unfold run
    cases e : pick ds L with
    | none => rfl
    | some r =>
      obtain ⟨i, w⟩ := r
      have := left_lt lk lo (pick_spec e).1
      omega
  | k + 1, 0, L, lk, _, h => by
    unfold run
    cases e : pick ds L with
    | none => rfl
    | some r =>
      obtain ⟨i, w⟩ := r
      have := left_lt lk lo (pick_spec e).1
      omega
  | k + 1, k' + 1, L, lk, h, h' => by
    unfold run
    cases e : pick ds L with
    | none => rfl
    | some r =>
      obtain ⟨i, w⟩ := r
      have := left_lt lk lo (pick_spec e).1
      simp only
      rw [run_same lo (k := k) (k' := k') (grow_ok lk lo (pick_spec e).1) (by omega) (by omega)]
theorem full_none {ds : List Deed} {L : Lt} (h : pick ds L = none) : full ds L = ([], L) := by
  unfold full
  cases ds.length with
  | zero => rfl
  | succ k =>
    unfold run
    rw [h]
theorem full_some {m : Nat} {ds : List Deed} {L : Lt} {i : Nat} {w : Bool} (lo : LogOk m ds) (lk : LotsOk m ds L) (h : pick ds L = some (i, w)) : full ds L = ((i, w) :: (full ds (growS ds L i w)).1, (full ds (growS ds L i w)).2) := by
  have hg := (pick_spec h).1
  have h1 := left_lt lk lo hg
  have h2 := left_le (ds := ds) (L := L)
  have e : full ds (growS ds L i w) = run ds (ds.length - 1) (growS ds L i w) := run_same lo (grow_ok lk lo hg) left_le (by omega)
  rw [e]
  unfold full
  obtain ⟨k, hk⟩ : ∃ k, ds.length = k + 1 := ⟨ds.length - 1, by omega⟩
  rw [hk]
  show run ds (k + 1) L = _
  rw [run, h]
  rfl
theorem OL.grow {n m A i lo hi : Nat} {s : Store} {ad : Nat → Nat} {L : Lt} {w : Bool} {pg : Nat} (O : OL n m s A ad L) (hp : pg < m) (hL : L pg = some (lo, hi)) (h1 : w = false → 0 < lo) :
    OL n m (s.set (ad pg) (.lst (if w then [.int (lo : Nat), .int ((hi : Nat) + 1)] else [.int ((lo : Nat) - 1), .int (hi : Nat)]))) A ad (growAt L pg w) where
  out := by
    rw [isLst_set_ne (O.notA pg hp (by rw [hL]; simp)), O.out]
    congr 1
    apply List.map_congr_left
    intro a _
    cases e : L a with
    | none => rw [cell_none e, cell_none (grow_none.mpr e)]
    | some x =>
      rw [cell_some e]
      cases e2 : growAt L pg w a with
      | none => rw [grow_none.mp e2] at e; cases e
      | some y => rw [cell_some e2]
  inj := fun a b ha hb h1 h2 e => O.inj a b ha hb (fun z => h1 (grow_none.mpr z)) (fun z => h2 (grow_none.mpr z)) e
  notA := fun a ha h => O.notA a ha (fun z => h (grow_none.mpr z))
  low := O.low
  lows := fun a ha h => O.lows a ha (fun z => h (grow_none.mpr z))
  row := fun a lo' hi' ha e => by
    by_cases hap : a = pg
    · subst hap
      rw [growAt_self hL] at e
      rw [isLst_set_self (isLst_lt (O.row a lo hi ha hL))]
      cases w with
      | true =>
        cases e
        rfl
      | false =>
        cases e
        have := h1 rfl
        rw [show ((lo - 1 : Nat) : Int) = (lo : Nat) - 1 from by omega]
        rfl
    · rw [growAt_ne hap] at e
      rw [isLst_set_ne (fun z => hap (O.inj a pg ha hp (by rw [e]; simp) (by rw [hL]; simp) z.symm))]
      exact O.row a lo' hi' ha e
set_option maxHeartbeats 4000000
def stepD (r : Nat × Bool) : D := .tup [.int ((r.1 : Nat) + 1), wayD r.2]
theorem nL_pur {n : Nat} {l : List Nat} : (nL l).all (pur n) = true := by
  rw [List.all_eq_true]
  intro d hd
  obtain ⟨i, _, rfl⟩ := List.mem_map.mp hd
  cases n <;> rfl
theorem und_stepD {n : Nat} {r : Nat × Bool} : D.und n (stepD r) = true := by
  obtain ⟨i, w⟩ := r
  cases w <;> rfl
theorem unds_steps {n : Nat} {l : List (Nat × Bool)} : D.unds n (l.map stepD) = true := by
  rw [unds_iff]
  intro d hd
  obtain ⟨x, _, rfl⟩ := List.mem_map.mp hd
  exact und_stepD
theorem OL.other {n m A a : Nat} {s : Store} {ad : Nat → Nat} {L : Lt} {c : Cell} (O : OL n m s A ad L) (h1 : a ≠ A) (h2 : ∀ b, b < m → L b ≠ none → ad b ≠ a) : OL n m (s.set a c) A ad L where
  out := by rw [isLst_set_ne h1]; exact O.out
  inj := O.inj
  notA := O.notA
  low := O.low
  lows := O.lows
  row := fun b lo hi hb e => by
    rw [isLst_set_ne (fun z => h2 b hb (by rw [e]; simp) z.symm)]
    exact O.row b lo hi hb e
def ledF (ds : List Deed) (img : List (Option Nat)) (d : D) : Option D := match d with
  | .tup [.int a, .ref r] => if ownL ds ds.length a.toNat ≠ [] ∧ lot0 img a.toNat ≠ none then some (.tup [.int a, .ref r]) else none
  | _ => none
theorem ledF_tup {ds : List Deed} {img : List (Option Nat)} {a r : Nat} : ledF ds img (.tup [.int (a : Nat), .ref r]) = if ownL ds ds.length a ≠ [] ∧ lot0 img a ≠ none then some (.tup [.int (a : Nat), .ref r]) else none := rfl
def ledP (m : Nat) (ds : List Deed) (img : List (Option Nat)) : List Nat := (List.range m).filter fun a => decide (ownL ds ds.length a ≠ [] ∧ lot0 img a ≠ none)
theorem led_items {m : Nat} {ds : List Deed} {img : List (Option Nat)} {refs : List Nat} {c : List (Nat × List D)} (h : refs.length = m) : (enmOf ⟨c, refs.map D.ref⟩).its.filterMap (ledF ds img) = (ledP m ds img).map (ledD fun a => refs.getD a 0) := by
  have e : (enmOf ⟨c, refs.map D.ref⟩).its = (List.range m).map fun a => .tup [.int (a : Nat), .ref (refs.getD a 0)] := by
    apply List.ext_getElem
    · simp [enmOf, h]
    · intro i h1 h2
      simp only [List.length_map, List.length_range] at h2
      have : i < refs.length := by omega
      simp [enmOf, List.getD_eq_getElem?_getD, this]
  rw [e]
  unfold ledP
  generalize List.range m = l
  induction l with
  | nil => rfl
  | cons a l ih =>
    rw [List.map_cons, List.filterMap_cons, ledF_tup, List.filter_cons]
    by_cases hc : ownL ds ds.length a ≠ [] ∧ lot0 img a ≠ none
    · rw [if_pos hc, if_pos (by simpa using hc), List.map_cons]
      simp only
      rw [ih]
      rfl
    · rw [if_neg hc, if_neg (by simpa using hc)]
      exact ih
def Ext (s X : Store) : Prop := ∃ w, X = s ++ w
theorem ext_app {s X w : Store} (h : Ext s X) : Ext s (X ++ w) := by
  obtain ⟨v, rfl⟩ := h
  exact ⟨v ++ w, by rw [List.append_assoc]⟩
theorem LL.far {n A i : Nat} {s : Store} {refs : List Nat} {rows : List (List D)} {r : List D} (L : LL n s A refs rows) (h : rows[i]? = some r) : ∃ a, (∀ X, Ext s X → ixD X (.ref A) (.int (i : Nat)) = some (.ref a)) ∧ ∀ X, Ext s X → isLst X a = some r := by
  obtain ⟨a, g1, g2, g3, g4⟩ := L.get h
  refine ⟨a, fun X ⟨w, hw⟩ => ?_, fun X ⟨w, hw⟩ => ?_⟩
  · rw [hw]
    exact L.ext.ix g1
  · rw [hw]
    exact isLst_old g2
theorem eqD_new {X : Store} {r : Nat} {l : List Nat} (h : isLst X r = some (nL l)) : eqD (X ++ [Cell.lst []]) (.ref r) (.ref X.length) = some (decide (l = [])) := by
  rw [eqD_lst (isLst_old h) (by rw [isLst_new0 rfl]; rfl) nL_pur rfl]
  have : (nL l = []) ↔ l = [] := by simp [nL]
  simp only [this]
theorem LL.farLast {n A : Nat} {s : Store} {refs : List Nat} {rows : List (List D)} {r : List D} (L : LL n s A refs rows) (h : rows[rows.length - 1]? = some r) : ∃ a, (∀ X, Ext s X → ixD X (.ref A) (.int (-1)) = some (.ref a)) ∧ ∀ X, Ext s X → isLst X a = some r := by
  obtain ⟨a, g1, g2, g3, g4⟩ := L.get h
  refine ⟨a, fun X ⟨w, hw⟩ => ?_, fun X ⟨w, hw⟩ => ?_⟩
  · rw [hw, ixD_ref, isLst_old L.out]
    show atD _ _ = _
    rw [atD_last, List.getLast?_map, List.getLast?_eq_getElem?, L.len, g1]
    rfl
  · rw [hw]
    exact isLst_old g2
theorem nd_len2 : ∀ (m : Nat) (l : List Nat), l.Nodup → (∀ x ∈ l, x < m) → l.length ≤ m
  | 0, l, _, h => by
    cases l with
    | nil => exact Nat.le_refl _
    | cons a l => exact absurd (h a List.mem_cons_self) (by omega)
  | m + 1, l, nd, h => by
    by_cases hm : m ∈ l
    · have ih := nd_len2 m (l.erase m) (nd.erase m) fun x hx => by
        have h1 := (nd.mem_erase_iff).mp hx
        have := h x h1.2
        have := h1.1
        omega
      rw [List.length_erase_of_mem hm] at ih
      omega
    · have ih := nd_len2 m l nd fun x hx => by
        have := h x hx
        have : x ≠ m := fun z => hm (z ▸ hx)
        omega
      omega
def VL (L : Lt) (a : Nat) : List Nat := match L a with
  | none => []
  | some (lo, hi) => (List.range (hi - lo + 1)).map (lo + ·)
def rowsV (m : Nat) (L : Lt) : List (List D) := (List.range m).map fun a => nL (VL L a)
theorem rowsV_at {m a : Nat} {L : Lt} (h : a < m) : (rowsV m L)[a]? = some (nL (VL L a)) := by
  unfold rowsV
  rw [List.getElem?_map, List.getElem?_range h]
  rfl
theorem VL_none {L : Lt} {a : Nat} (h : L a = none) : VL L a = [] := by unfold VL; rw [h]
theorem VL_some {L : Lt} {a lo hi : Nat} (h : L a = some (lo, hi)) (hl : lo ≤ hi) : VL L a ≠ [] ∧ (nL (VL L a))[0]? = some (.int (lo : Nat)) ∧ (nL (VL L a)).getLast? = some (.int (hi : Nat)) := by
  have e : VL L a = (List.range (hi - lo + 1)).map (lo + ·) := by unfold VL; rw [h]
  rw [e]
  refine ⟨by simp, ?_, ?_⟩
  · rw [nL_get, List.getElem?_map, List.getElem?_range (by omega)]
    rfl
  · unfold nL
    rw [List.getLast?_map, List.getLast?_map, List.range_succ, List.getLast?_concat]
    show some (D.int ((lo + (hi - lo) : Nat) : Int)) = _
    rw [show lo + (hi - lo) = hi from by omega]
set_option maxHeartbeats 4000000
def Sub (L M : Lt) : Prop := ∀ a lo hi, L a = some (lo, hi) → ∃ lo' hi', M a = some (lo', hi') ∧ lo' ≤ lo ∧ hi ≤ hi'
theorem Sub.refl {L : Lt} : Sub L L := fun a lo hi h => ⟨lo, hi, h, Nat.le_refl _, Nat.le_refl _⟩
theorem Sub.held {L M : Lt} (s : Sub L M) {ds : List Deed} {t r : Nat} (h : heldB L ds t r = true) : heldB M ds t r = true := by
  unfold heldB at h ⊢
  cases e : L r with
  | none => rw [e] at h; cases h
  | some x =>
    obtain ⟨lo, hi⟩ := x
    obtain ⟨lo', hi', e', h1, h2⟩ := s r lo hi e
    rw [e] at h
    rw [e']
    simp only [Bool.and_eq_true, decide_eq_true_eq] at h ⊢
    omega
theorem Sub.rk {L M : Lt} (s : Sub L M) {ds : List Deed} {t : Nat} {rs : List Nat} (h : rk L ds t rs = true) : rk M ds t rs = true := by
  unfold WL.rk at h ⊢
  rw [List.all_eq_true] at h ⊢
  exact fun r hr => s.held (h r hr)
theorem Sub.grow {L M : Lt} (s : Sub L M) {ds : List Deed} {i : Nat} {w : Bool} (st : ∀ i, gro ds M i = none) (h : gro ds L i = some w) : Sub (growS ds L i w) M := by
  obtain ⟨d, lo, hi, hat, hL, hw, hk⟩ := gro_cases h
  rw [growS_eq hat]
  intro a l u e
  by_cases ha : a = d.1
  · subst ha
    rw [growAt_self hL] at e
    obtain ⟨lo', hi', hM, h1, h2⟩ := s d.1 lo hi hL
    have no : ¬ (¬ (hi' + 1 ≠ ver ds (i + 1) d.1 ∧ lo' ≠ ver ds (i + 1) d.1)) := fun z => by
      have q := st i
      unfold gro at q
      rw [hat] at q
      simp only [hM] at q
      rw [if_neg z, if_pos (s.rk hk)] at q
      split at q <;> cases q
    rcases hw with ⟨rfl, hv⟩ | ⟨rfl, hv, _⟩
    · cases e
      exact ⟨lo', hi', hM, h1, by omega⟩
    · cases e
      exact ⟨lo', hi', hM, by omega, h2⟩
  · rw [growAt_ne ha] at e
    exact s a l u e
theorem run_keep {ds : List Deed} (I : Lt → Prop) (h : ∀ L i w, I L → gro ds L i = some w → I (growS ds L i w)) : ∀ k L, I L → I (run ds k L).2
  | 0, L, hL => hL
  | k + 1, L, hL => by
    unfold run
    cases e : pick ds L with
    | none => exact hL
    | some r =>
      obtain ⟨i, w⟩ := r
      exact run_keep I h k _ (h L i w hL (pick_spec e).1)
theorem run_stuck {m : Nat} {ds : List Deed} (lo : LogOk m ds) : ∀ k L, LotsOk m ds L → left ds L ≤ k → ∀ i, gro ds (run ds k L).2 i = none
  | 0, L, lk, h, i => by
    refine pick_no ?_ i
    cases e : pick ds L with
    | none => exact e
    | some r =>
      obtain ⟨i, w⟩ := r
      have := left_lt lk lo (pick_spec e).1
      omega
  | k + 1, L, lk, h, i => by
    unfold run
    cases e : pick ds L with
    | none => exact pick_no e i
    | some r =>
      obtain ⟨j, w⟩ := r
      have := left_lt lk lo (pick_spec e).1
      exact run_stuck lo k _ (grow_ok lk lo (pick_spec e).1) (by omega) i
theorem full_stuck {m : Nat} {ds : List Deed} {L : Lt} (lo : LogOk m ds) (lk : LotsOk m ds L) (i : Nat) : gro ds (full ds L).2 i = none := run_stuck lo _ _ lk left_le i
theorem full_ok {m : Nat} {ds : List Deed} {L : Lt} (lo : LogOk m ds) (lk : LotsOk m ds L) : LotsOk m ds (full ds L).2 := run_keep (LotsOk m ds) (fun L i w h hg => grow_ok h lo hg) _ _ lk
theorem full_no {ds : List Deed} {L : Lt} (a : Nat) : (full ds L).2 a = none ↔ L a = none := run_keep (fun M => M a = none ↔ L a = none) (fun M i w h hg => growS_none.trans h) _ _ Iff.rfl
theorem Sub.up {m : Nat} {ds : List Deed} {L : Lt} {i : Nat} {w : Bool} (lk : LotsOk m ds L) (h : gro ds L i = some w) : Sub L (growS ds L i w) := by
  obtain ⟨d, lo, hi, hat, hL, hw, hk⟩ := gro_cases h
  rw [growS_eq hat]
  intro a l u e
  by_cases ha : a = d.1
  · subst ha
    rw [hL] at e
    cases e
    rw [growAt_self hL]
    cases w with
    | true => exact ⟨_, _, rfl, Nat.le_refl _, by omega⟩
    | false => exact ⟨_, _, rfl, by omega, Nat.le_refl _⟩
  · exact ⟨l, u, by rw [growAt_ne ha]; exact e, Nat.le_refl _, Nat.le_refl _⟩
theorem Sub.trans {L M N : Lt} (s : Sub L M) (t : Sub M N) : Sub L N := fun a lo hi e => by
  obtain ⟨l, u, e2, h1, h2⟩ := s a lo hi e
  obtain ⟨l', u', e3, h3, h4⟩ := t a l u e2
  exact ⟨l', u', e3, by omega, by omega⟩
theorem Sub.anti {L M : Lt} (s : Sub L M) (t : Sub M L) (h : ∀ a, L a = none ↔ M a = none) : L = M := by
  funext a
  cases e : L a with
  | none => rw [(h a).mp e]
  | some x =>
    obtain ⟨lo, hi⟩ := x
    obtain ⟨l, u, e2, h1, h2⟩ := s a lo hi e
    obtain ⟨l', u', e3, h3, h4⟩ := t a l u e2
    rw [e] at e3
    cases e3
    rw [e2]
    have : l = lo := by omega
    have : u = hi := by omega
    subst_vars
    rfl
theorem same_end {m : Nat} {ds : List Deed} {L0 L : Lt} (lo : LogOk m ds) (lk : LotsOk m ds L0) (h1 : Sub L0 L) (h2 : Sub L (full ds L0).2) (h3 : ∀ a, L a = none ↔ L0 a = none) (st : ∀ i, gro ds L i = none) : L = (full ds L0).2 :=
  h2.anti (run_keep (fun M => Sub M L) (fun M i w h hg => h.grow st hg) _ _ h1) fun a => (h3 a).trans (full_no a).symm
set_option maxHeartbeats 4000000
def pairD : Option (Nat × Nat) → D
  | none => .non
  | some (lo, hi) => .tup [.int (lo : Nat), .int (hi : Nat)]
def toldL (m : Nat) (L : Lt) : List D := (List.range m).map fun a => pairD (L a)
def lotF (s : Store) (d : D) : Option D := match d with
  | .ref r => (isLst s r).map .tup
  | d => some d
theorem lotF_ref {s : Store} {r : Nat} : lotF s (.ref r) = (isLst s r).map .tup := rfl
theorem lotF_non {s : Store} : lotF s .non = some .non := rfl
theorem told_pur {m : Nat} {L : Lt} : (toldL m L).all (pur 49) = true := by
  rw [List.all_eq_true]
  intro d hd
  obtain ⟨a, _, rfl⟩ := List.mem_map.mp hd
  cases L a with
  | none => rfl
  | some x => rfl
theorem unds_told {n m : Nat} {L : Lt} : D.unds n (toldL m L) = true := by
  rw [unds_iff]
  intro d hd
  obtain ⟨a, _, rfl⟩ := List.mem_map.mp hd
  cases L a with
  | none => rfl
  | some x => rfl
set_option maxHeartbeats 4000000
def clampL (L : Lt) (a v : Nat) : Option Nat := match L a with
  | none => none
  | some (lo, hi) => some (max lo (min hi v))
def sliI (m : Nat) (ds : List Deed) (L : Lt) (t : Nat) : List (Option Nat) := (List.range m).map fun a => clampL L a (ver ds t a)
theorem sli_len {m t : Nat} {ds : List Deed} {L : Lt} : (sliI m ds L t).length = m := by simp [sliI]
theorem sli_at {m t a : Nat} {ds : List Deed} {L : Lt} (h : a < m) : (sliI m ds L t)[a]? = some (clampL L a (ver ds t a)) := by
  unfold sliI
  rw [List.getElem?_map, List.getElem?_range h]
  rfl
theorem clamp_none {L : Lt} {a v : Nat} (h : L a = none) : clampL L a v = none := by unfold clampL; rw [h]
theorem clamp_some {L : Lt} {a v lo hi : Nat} (h : L a = some (lo, hi)) : clampL L a v = some (max lo (min hi v)) := by unfold clampL; rw [h]
theorem sli_ok {m t : Nat} {ds : List Deed} {L : Lt} (lk : LotsOk m ds L) : ImgOk m ds (sliI m ds L t) where
  len := sli_len
  le := fun a v h => by
    have ha : a < m := by
      have := (List.getElem?_eq_some_iff.mp h).1
      rw [sli_len] at this
      exact this
    rw [sli_at ha] at h
    injection h with h
    cases e : L a with
    | none => rw [clamp_none e] at h; cases h
    | some x =>
      obtain ⟨lo, hi⟩ := x
      rw [clamp_some e] at h
      injection h with h
      have := lk a lo hi ha e
      omega
theorem trunc_last {s : Store} {l l' : List D} {d : D} (h : D.unds (s.length + 1) l' = true) : trunc (s ++ [Cell.lst l]) d (s ++ [Cell.lst l']) = s ++ [Cell.lst l'] := by
  refine trunc_mut0 (agree_cat agree_refl rfl ?_) (by simp)
  simp only [agree, List.length_append, List.length_singleton, Bool.and_true, Bool.or_eq_true]
  exact Or.inr h
theorem unds_app {n : Nat} {l r : List D} : D.unds n (l ++ r) = (D.unds n l && D.unds n r) := by
  induction l with
  | nil => rw [List.nil_append, unds_nil, Bool.true_and]
  | cons d l ih => rw [List.cons_append, unds_cons, unds_cons, ih, Bool.and_assoc]
theorem set_last {s : Store} {c c' : Cell} : (s ++ [c]).set s.length c' = s ++ [c'] := by
  rw [set_new0 rfl]
  rfl
structure Cells (c : Nat → D) (m : Nat) (L : Lt) (s : Store) : Prop where
  no : ∀ a, a < m → L a = none → c a = .non
  ne : ∀ a, a < m → L a ≠ none → c a ≠ .non
  lo : ∀ a lo hi w, a < m → L a = some (lo, hi) → ixD (s ++ w) (c a) (.int 0) = some (.int (lo : Nat))
  hi : ∀ a lo hi w, a < m → L a = some (lo, hi) → ixD (s ++ w) (c a) (.int 1) = some (.int (hi : Nat))
theorem cells_told {m : Nat} {L : Lt} {s : Store} : Cells (fun a => pairD (L a)) m L s where
  no := fun a _ h => by simp only [h]; rfl
  ne := fun a _ h => by
    cases e : L a with
    | none => exact absurd e h
    | some x =>
      obtain ⟨lo, hi⟩ := x
      exact fun h => nomatch h
  lo := fun a lo hi w _ h => by simp only [h]; rfl
  hi := fun a lo hi w _ h => by simp only [h]; rfl
theorem cells_OL {n m A : Nat} {L : Lt} {s : Store} {ad : Nat → Nat} (O : OL n m s A ad L) : Cells (cellD L ad) m L s where
  no := fun a _ h => cell_none h
  ne := fun a _ h => by
    cases e : L a with
    | none => exact absurd e h
    | some x => rw [cell_some e]; exact fun h => nomatch h
  lo := fun a lo hi w ha h => by rw [cell_some h]; exact (O.ext (t := w)).lo ha h
  hi := fun a lo hi w ha h => by rw [cell_some h]; exact (O.ext (t := w)).hi ha h
theorem zip_rows {m t : Nat} {ds : List Deed} {c : Nat → D} : ((nL (rowL m ds t)).zip ((List.range m).map c)).map (fun p => D.tup [p.1, p.2]) = (List.range m).map fun a => .tup [.int (ver ds t a : Nat), c a] := by
  unfold nL rowL
  rw [List.map_map, List.zip_map', List.map_map]
  rfl
set_option maxHeartbeats 4000000
def rdNext (rows : List Row) (t : List Nat) : Option Row := match rdRow t with
  | none => none
  | some r => if rows.length = 12 then none else match rows.getLast? with
    | none => some r
    | some q => if q.1 < r.1 then some r else none
theorem row_pur {rows : List Row} (h : ∀ r ∈ rows, asc r.1) : (rows.map rowD).all (pur 49) = true := by
  rw [List.all_eq_true]
  intro d hd
  obtain ⟨r, hr, rfl⟩ := List.mem_map.mp hd
  exact pur_row (h r hr)
theorem rdRow_asc {t : List Nat} {r : Row} (ha : asc t) (h : rdRow t = some r) : asc r.1 := by
  by_cases c : (TL.spl [32] 0 [] t).length = 2
  · obtain ⟨a, b, e⟩ : ∃ a b, TL.spl [32] 0 [] t = [a, b] := by
      match TL.spl [32] 0 [] t, c with
      | [a, b], _ => exact ⟨a, b, rfl⟩
    rw [rdRow_two e] at h
    split at h
    · cases hv : rdVal b with
      | none => rw [hv] at h; cases h
      | some v =>
        rw [hv] at h
        cases h
        exact asc_sub ha (spl_sub (by rw [e]; simp))
    · cases h
  · rw [rdRow_not c] at h
    cases h
theorem next_row_spec {k n : Nat} {rows : List Row} {t : List Nat} {s : Store} {Q : KQ} (ha : asc t) (hl : t.length ≤ 100000) (hr : isLst s n = some (rows.map rowD)) (hra : ∀ r ∈ rows, asc r.1) (h12 : rows.length ≤ 12) (h : Q (optR (rdNext rows t)) s) : cl (mx P G fuel (k + 6)) f_next_row [.ref n, tx t] Q s := by
  refine cl_fd P_next_row rfl ?_
  have hn : n < s.length := isLst_lt hr
  have hr2 : ∀ c, isLst (s ++ [c]) n = some (rows.map rowD) := fun c => by
    unfold isLst at hr ⊢
    rw [List.getElem?_append_left hn]
    exact hr
  unfold fd_next_row
  unfold rdNext at h
  simp! only []
  refine read_row_spec (k := k) ha hl ?_
  cases hq : rdRow t with
  | none =>
    rw [hq] at h
    unfold optR
    simp! only []
    exact h
  | some r =>
    rw [hq] at h
    simp only at h
    have ra := rdRow_asc ha hq
    have e0 : ∀ s, ixD s (rowD r) (.int 0) = some (tx r.1) := fun s => by unfold rowD; rw [ixD_tup]; rfl
    have en : (rowD r = .non) = False := eq_false (fun z => nomatch z)
    unfold optR
    simp! only [trunc_self, en]
    rw [hr, lnL_some, List.length_map]
    simp! only [G_MOST_ROWS, eqD_int]
    by_cases c : rows.length = 12
    · rw [if_pos c] at h
      refine br.pos (by omega) ?_
      simp! only []
      exact h
    · rw [if_neg c] at h
      refine br.neg (by omega) ?_
      have ee : eqD (s ++ [Cell.lst []]) (.ref n) (.ref s.length) = some (decide (rows.map rowD = [])) := eqD_lst (hr2 _) (by rw [isLst_new0 rfl]; rfl) (row_pur hra) rfl
      have nd : decide (((rows.length : Nat) : Int) = 12) = false := decide_eq_false (by omega)
      simp! only [ee, nd]
      cases hg : rows.getLast? with
      | none =>
        have hnil : rows = [] := List.getLast?_eq_none_iff.mp hg
        rw [hg] at h
        simp only at h
        subst hnil
        simp! only [List.map_nil]
        rw [trunc_new (by unfold rowD; rw [und_tup, unds_cons, unds_cons, und_tx, und_tup, unds_ints]; rfl), trunc_self]
        exact h
      | some q =>
        rw [hg] at h
        simp only at h
        have hne : rows ≠ [] := fun z => by rw [z] at hg; cases hg
        have hne2 : (rows.map rowD = []) = False := eq_false (by rw [List.map_eq_nil_iff]; exact hne)
        have el : atD (rows.map rowD) (-1) = some (rowD q) := by rw [atD_last, List.getLast?_map, hg]; rfl
        have eq0 : ∀ s, ixD s (rowD q) (.int 0) = some (tx q.1) := fun s => by unfold rowD; rw [ixD_tup]; rfl
        simp! only [hne2, e0]
        rw [hr2, ixR_some, el]
        simp! only [eq0]
        rw [cmpD_leTx]
        have nu : ∀ m, D.und m (rowD r) = true := fun m => by unfold rowD; rw [und_tup, unds_cons, unds_cons, und_tx, und_tup, unds_ints]; rfl
        by_cases cl : q.1 < r.1
        · rw [if_pos cl] at h
          simp! only [cl]
          rw [trunc_new (nu _), trunc_self]
          exact h
        · rw [if_neg cl] at h
          simp! only [cl]
          exact h
def rdGo (t : List Nat) (hd : Nat × Nat) : List (List Nat) → List Row → Nat → Nat → Except Nat Frm
  | [], _, _, i => .error i
  | l :: ls, rows, seen, i => if sumLn l = true then (if l.drop 4 ≠ sum6 (t.take seen) then .error i else if seen + l.length + 1 ≠ t.length then .error (i + 1) else .ok ⟨hd.1, hd.2, rows⟩)
    else match rdNext rows l with
      | none => .error i
      | some r => rdGo t hd ls (rows ++ [r]) (seen + l.length + 1) (i + 1)
def rdLines (t : List Nat) : List (List Nat) := (TL.spl [10] 0 [] t).dropLast
def rdFrame (t : List Nat) : Except Nat Frm := match rdLines t with
  | [] => .error 0
  | l :: ls => match rdHead l with
    | none => .error 0
    | some hd => rdGo t hd ls [] (l.length + 1) 1
@[irreducible] def clB (X : Mx) (f : Nat) (ds : List D) (Q : KQ) (K : KX) (s : Store) : Prop := match X.C f ds s with
  | .ok d s => Q d s
  | .exc c w s => K c w s
  | .bad => False
theorem cl_fdB {P : Prog} {G : Globs} {F k f : Nat} {fd : FD} {ds : List D} {s : Store} {Q : KQ} {K : KX} (h : P f = some fd) (hl : ds.length = fd.np)
    (h2 : blkX (mx P G F k) fd.body (ds.map some ++ List.replicate (fd.nv - fd.np) none) ⟨fun _ _ => False, fun d s1 => Q d (trunc s d s1), fun c w _ s1 => K c w (trunc s w s1)⟩ s) : clB (mx P G F (k + 1)) f ds Q K s := by
  unfold blkX at h2
  unfold clB
  have e : (mx P G F (k + 1)).C f ds s = callF P G F (k + 1) f ds s := rfl
  rw [e]
  unfold callF
  simp only [h]
  rw [if_pos hl]
  simp only [mx] at h2
  cases q : exB (callF P G F k) G F fd.body (ds.map some ++ List.replicate (fd.nv - fd.np) none) s with
  | nx ρ1 s1 => rw [q] at h2; exact h2.elim
  | ret d s1 => rw [q] at h2; exact h2
  | brk ρ1 s1 => rw [q] at h2; exact h2.elim
  | cnt ρ1 s1 => rw [q] at h2; exact h2.elim
  | exc c w ρ1 s1 => rw [q] at h2; exact h2
  | bad => rw [q] at h2; exact h2.elim
def kClB (X : Mx) (f : Nat) (ρ : Env) (s0 : Store) (E' : EnX) : KL := fun ds s => clB X f ds (fun d s => E'.rt d (trunc s0 d s)) (fun c w s => E'.ex c w ρ s) s
theorem kClB_ap {X : Mx} {f : Nat} {ρ : Env} {s0 s : Store} {E' : EnX} {ds : List D} : kClB X f ρ s0 E' ds s = clB X f ds (fun d s => E'.rt d (trunc s0 d s)) (fun c w s => E'.ex c w ρ s) s := rfl
theorem blkX_retB {X : Mx} {f : Nat} {es : List WL.E} {xs : List WL.S} {ρ : Env} {s : Store} {E' : EnX} (h : evs X es ρ (kClB X f ρ s E') s) : blkX X (.ret (.call f es) :: xs) ρ E' s := by
  unfold evs at h
  unfold blkX
  simp only [exB, exS, evE]
  cases q : evEs X.C X.G es ρ s with
  | ok ds s1 =>
    rw [q] at h
    have h : clB X f ds (fun d s2 => E'.rt d (trunc s d s2)) (fun c w s => E'.ex c w ρ s) s1 := h
    unfold clB at h
    simp only [R.bind]
    cases q2 : X.C f ds s1 with
    | ok d s2 => rw [q2] at h; exact h
    | exc c w s2 => rw [q2] at h; exact h
    | bad => rw [q2] at h; exact h.elim
  | exc c w s1 => rw [q] at h; exact h.elim
  | bad => rw [q] at h; exact h.elim
set_option maxHeartbeats 4000000
theorem cut_last {l : List D} : cutD l none (some (-1)) = l.dropLast := by
  unfold cutD
  have e1 : endOf l.length 0 none = 0 := rfl
  have e2 : endOf l.length l.length (some (-1)) = l.length - 1 := by
    show (if (-1 : Int) < 0 then ((-1 : Int) + (l.length : Nat)).toNat else min (-1 : Int).toNat l.length) = _
    rw [if_pos (by decide)]
    omega
  rw [e1, e2, List.drop_zero, Nat.sub_zero, List.dropLast_eq_take]
theorem und_frm {n : Nat} {f : Frm} : D.und n f.d = true := by
  unfold Frm.d
  rw [und_tup, unds_cons, unds_cons, unds_cons, und_int, und_int, und_tup]
  have e : D.unds n (f.rows.map rowD) = true := by
    induction f.rows with
    | nil => rfl
    | cons r rows ih =>
      rw [List.map_cons, unds_cons, ih]
      unfold rowD
      rw [und_tup, unds_cons, unds_cons, und_tx, und_tup, unds_ints]
      rfl
  rw [e]
  rfl
theorem read_frame_spec {k : Nat} {t : List Nat} {s : Store} {Q : KQ} {K : KX} (ha : asc t) (hl : t.length ≤ 100000) (hq : ∀ f, rdFrame t = .ok f → Q f.d s) (hk : ∀ i : Nat, rdFrame t = .error i → K x_BadText (.int i) s) : clB (mx P G fuel (k + 7)) f_read_frame [tx t] Q K s := by
  obtain ⟨ps, hps⟩ : ∃ ps, ps = TL.spl [10] 0 [] t := ⟨_, rfl⟩
  have pl := spl_len (b := 10) (t := t) (acc := [])
  have ok : ∀ p ∈ ps, asc p ∧ p.length ≤ 100000 := fun p hp => by
    rw [hps] at hp
    refine ⟨asc_sub ha (spl_sub hp), ?_⟩
    have := spl_plen hp
    simp at this
    omega
  rw [← hps] at pl
  have big : ∀ n : Nat, n ≤ 1000000 → n ≤ sizeLine := fun n hn => Nat.le_of_lt (Nat.lt_of_le_of_lt hn line_big)
  have z1 : t.length + 2 ≤ sizeLine := big _ (by omega)
  have z2 : (TL.spl [10] 0 [] t).length ≤ sizeLine := by rw [← hps]; exact big _ (by omega)
  obtain ⟨ls, hls⟩ : ∃ ls, ls = rdLines t := ⟨_, rfl⟩
  have elr : ls = ps.dropLast := by rw [hls, hps]; rfl
  have okl : ∀ p ∈ ls, asc p ∧ p.length ≤ 100000 := fun p hp => ok p (by rw [elr] at hp; exact List.dropLast_subset ps hp)
  have ll : ls.length ≤ 100000 := by rw [elr, List.length_dropLast]; omega
  have ed : (ps.map tx).dropLast = ls.map tx := by rw [elr, List.map_dropLast]
  have cz : (cutD (ps.map tx) none (some (-1))).length ≤ 1000000 := by rw [cut_last, ed, List.length_map]; omega
  refine cl_fdB P_read_frame rfl ?_
  unfold fd_read_frame
  refine blkX_step ?_
  simp! only [lit_n, meT_tx]
  rw [meP_splitTx (by decide) rfl z1 z2, ← hps]
  obtain ⟨S1, hS1⟩ : ∃ S1, S1 = s ++ [Cell.lst (ps.map tx)] := ⟨_, rfl⟩
  have hl1 : isLst S1 s.length = some (ps.map tx) := by rw [hS1, isLst_new0 rfl]; rfl
  rw [← hS1]
  simp! only []
  rw [hl1]
  simp! only [slL_some, cut_last, ed]
  refine br.pos (by rw [List.length_map]; exact big _ (by omega)) ?_
  have et1 : ∀ z, trunc s (.ref S1.length) z = z := fun z => trunc_keep (by rw [und_ref, hS1, List.length_append, List.length_singleton]; exact decide_eq_false (by omega))
  simp! only [et1]
  obtain ⟨S2, hS2⟩ : ∃ S2, S2 = S1 ++ [Cell.lst (ls.map tx)] := ⟨_, rfl⟩
  have hlt : S1.length < S2.length := by rw [hS2, List.length_append, List.length_singleton]; omega
  have hl2 : ∀ u, isLst (S2 ++ u) S1.length = some (ls.map tx) := fun u => by
    rw [hS2, List.append_assoc, isLst_new0 rfl]
    rfl
  have hl2b : isLst S2 S1.length = some (ls.map tx) := by have := hl2 []; rwa [List.append_nil] at this
  have hS2s : ∃ v, S2 = s ++ v := ⟨[Cell.lst (ps.map tx)] ++ [Cell.lst (ls.map tx)], by rw [hS2, hS1, List.append_assoc]⟩
  obtain ⟨v, hv⟩ := hS2s
  rw [← hS2]
  refine blkX_step ?_
  have ee : eqD (S2 ++ [Cell.lst []]) (.ref S1.length) (.ref S2.length) = some (decide (ls.map tx = [])) := eqD_lst (hl2 _) (by rw [isLst_new0 rfl]; rfl) (by
    rw [List.all_eq_true]
    intro d hd
    obtain ⟨p, hp, rfl⟩ := List.mem_map.mp hd
    exact pur_tx (okl p hp).1) rfl
  simp! only [ee]
  cases hcs : ls with
  | nil =>
    have er : rdFrame t = .error 0 := by unfold rdFrame; rw [← hls, hcs]
    subst hcs
    simp! only [List.map_nil]
    refine blkX_iff ?_
    simp! only []
    refine blkX_rais ?_
    simp! only []
    rw [hv, trunc_new und_int]
    exact hk 0 er
  | cons l0 lr =>
    have hne : (ls.map tx = []) = False := eq_false (by rw [hcs]; exact fun h => nomatch h)
    obtain ⟨o1, o2⟩ := okl l0 (by rw [hcs]; simp)
    have x0 : ∀ u, ixR (S2 ++ u) S1.length 0 (isLst (S2 ++ u) S1.length) = some (tx l0) := fun u => by rw [hl2, hcs, ixR_some, atD_0]; rfl
    have x0b : ixR S2 S1.length 0 (isLst S2 S1.length) = some (tx l0) := by rw [hl2b, hcs, ixR_some, atD_0]; rfl
    rw [← hcs]
    simp! only [hne]
    rw [x0]
    simp! only []
    refine read_head_spec (k := k + 3) o1 o2 ?_
    cases hh : rdHead l0 with
    | none =>
      have er : rdFrame t = .error 0 := by unfold rdFrame; rw [← hls, hcs]; simp only; rw [hh]
      unfold optH
      simp! only []
      try rw [trunc_new und_non]
      refine blkX_iff ?_
      simp! only []
      refine blkX_rais ?_
      simp! only []
      rw [hv, trunc_new und_int]
      exact hk 0 er
    | some hd =>
      obtain ⟨hp, hn⟩ := hd
      have er : rdFrame t = rdGo t (hp, hn) lr [] (l0.length + 1) 1 := by unfold rdFrame; rw [← hls, hcs]; simp only; rw [hh]
      obtain ⟨H, hH⟩ : ∃ H, H = D.tup [.int (hp : Nat), .int (hn : Nat)] := ⟨_, rfl⟩
      have eH : optH (some (hp, hn)) = H := hH.symm
      have Hu : ∀ n, D.und n H = true := fun n => by rw [hH, und_tup]; rfl
      have Hn : (H = .non) = False := eq_false (by rw [hH]; exact fun z => nomatch z)
      rw [eH]
      simp! only []
      try rw [trunc_new (Hu _)]
      refine blkX_iff ?_
      simp! only [Hn]
      refine blkX_nil ?_
      simp! only []
      refine blkX_step ?_
      simp! only []
      rw [x0]
      simp! only [biP_lenTx, show l0.length ≤ 1000000 by omega]
      rw [trunc_keep (by rw [und_tup, unds_cons, und_ref]; simp)]
      have hL : ls.length = lr.length + 1 := by rw [hcs]; rfl
      have rg : rngD [.int 1, .int (ls.length : Nat)] = some (nL (List.range' 1 lr.length)) := by
        rw [rng2 (small_of (by omega) (by omega)) (small_of (by omega) (by omega)), List.range'_eq_map_range]
        unfold rngL nL
        rw [List.map_map, show (((ls.length : Nat) : Int) - 1).toNat = lr.length by omega]
        refine congrArg some (List.map_congr_left fun i _ => ?_)
        show D.int _ = D.int _
        congr 1
      refine blkX_for ?_
      simp! only []
      rw [hl2, lnL_some, List.length_map]
      simp! only [rg]
      show forPX _ _ _ _ _ _ _ _
      refine forX_inv (fun l ρ s' => ∃ (j seen : Nat) (rows : List Row) (c5 c6 c7 : Option D), j ≤ lr.length ∧ l = nL (List.range' (1 + j) (lr.length - j)) ∧ rdGo t (hp, hn) (lr.drop j) rows seen (1 + j) = rdFrame t ∧ (∀ r ∈ rows, asc r.1) ∧ rows.length ≤ 12 ∧ s' = S2 ++ [.lst (rows.map rowD)] ∧
        ρ = [some (tx t), some (.ref S1.length), some H, some (.ref S2.length), some (.int (seen : Nat)), c5, c6, c7]) ⟨0, l0.length + 1, [], none, none, none, Nat.zero_le _, rfl, er.symm, (fun _ h => nomatch h), Nat.zero_le _, rfl, rfl⟩ (fun _ _ _ _ => rfl) ?_ ?_
      · rintro x l ρ s' ⟨j, seen, rows, c5, c6, c7, hj, hlx, hgo, hra, h12, rfl, rfl⟩
        have hjl : j < lr.length := by
          refine Nat.lt_of_le_of_ne hj fun e => ?_
          rw [e, Nat.sub_self] at hlx
          cases hlx
        rw [show lr.length - j = (lr.length - (j + 1)) + 1 from by omega, List.range'_succ] at hlx
        have hx : x = .int ((1 + j : Nat) : Int) := (List.cons.inj hlx).1
        have hl' : l = nL (List.range' (1 + (j + 1)) (lr.length - (j + 1))) := (List.cons.inj hlx).2
        subst hx
        obtain ⟨y, hy⟩ : ∃ y, lr[j]? = some y := ⟨_, List.getElem?_eq_getElem hjl⟩
        have hyl : y ∈ ls := by rw [hcs]; exact List.mem_cons_of_mem _ (List.mem_of_getElem? hy)
        obtain ⟨y1, y2⟩ := okl y hyl
        have y6 : y.length ≤ 1000000 := by omega
        have t6 : t.length ≤ 1000000 := by omega
        have edr : lr.drop j = y :: lr.drop (j + 1) := by
          rw [List.drop_eq_getElem_cons hjl]
          rw [List.getElem?_eq_getElem hjl] at hy
          rw [Option.some.inj hy]
        rw [edr] at hgo
        unfold rdGo at hgo
        have xy : ∀ u, ixR (S2 ++ u) S1.length ((1 + j : Nat) : Int) (isLst (S2 ++ u) S1.length) = some (tx y) := fun u => by
          rw [hl2, ixR_some, atD_nat, List.getElem?_map, hcs, show 1 + j = j + 1 from by omega, List.getElem?_cons_succ, hy]
          rfl
        have hrl : isLst (S2 ++ [Cell.lst (rows.map rowD)]) S2.length = some (rows.map rowD) := by rw [isLst_new0 rfl]; rfl
        simp! only []
        show blkX _ _ _ _ _
        refine blkX_step ?_
        simp! only []
        rw [xy]
        simp! only []
        refine blkX_iff ?_
        simp! only []
        refine is_sum_line_spec (k := k + 4) y1 y2 ?_
        cases hsl : sumLn y with
        | true =>
          rw [if_pos hsl] at hgo
          have h0 : ∀ s, ixD s H (.int 0) = some (.int (hp : Nat)) := fun s => by rw [hH, ixD_tup, atD_0]; rfl
          have h1 : ∀ s, ixD s H (.int 1) = some (.int (hn : Nat)) := fun s => by rw [hH, ixD_tup, atD_1]; rfl
          simp! only []
          refine blkX_iff ?_
          simp! only []
          rw [slP_from (i := 4) (ii := 4) rfl y6]
          simp! only []
          rw [slP_to (i := seen) (ii := (seen : Nat)) rfl t6]
          simp! only []
          refine sum_of_spec (k := k + 5) (asc_take ha) (by rw [List.length_take]; omega) ?_
          simp! only [eqD_tx (asc_drop (n := 4) y1) (asc_sum6 (t := t.take seen))]
          by_cases cs : y.drop 4 = sum6 (t.take seen)
          · rw [if_neg (fun q => q cs)] at hgo
            simp! only [cs]
            refine blkX_nil ?_
            simp! only []
            refine blkX_iff ?_
            simp! only [biP_lenTx, y6, t6, eqD_int]
            by_cases ce : seen + y.length + 1 = t.length
            · rw [if_neg (fun q => q ce)] at hgo
              have ci : (((seen : Nat) : Int) + (y.length : Nat) + 1 = (t.length : Nat)) = True := eq_true (by omega)
              simp! only [ci]
              refine blkX_nil ?_
              simp! only []
              refine blkX_step ?_
              simp! only [h0, h1]
              rw [hrl, tpL_some]
              simp! only []
              have ef : D.tup [.int (hp : Nat), .int (hn : Nat), .tup (rows.map rowD)] = Frm.d ⟨hp, hn, rows⟩ := rfl
              rw [ef, hv, List.append_assoc, trunc_new und_frm]
              exact hq _ hgo.symm
            · rw [if_pos ce] at hgo
              have ci : (((seen : Nat) : Int) + (y.length : Nat) + 1 = (t.length : Nat)) = False := eq_false (by omega)
              simp! only [ci]
              refine blkX_rais ?_
              simp! only []
              rw [hv, List.append_assoc, trunc_new und_int]
              have := hk _ hgo.symm
              rw [show ((1 + j + 1 : Nat) : Int) = ((1 + j : Nat) : Int) + 1 from by omega] at this
              exact this
          · rw [if_pos cs] at hgo
            simp! only [cs]
            refine blkX_rais ?_
            simp! only []
            rw [hv, List.append_assoc, trunc_new und_int]
            exact hk _ hgo.symm
        | false =>
          rw [if_neg (by rw [hsl]; decide)] at hgo
          simp! only []
          refine blkX_nil ?_
          simp! only []
          refine blkX_step ?_
          simp! only []
          refine next_row_spec (k := k) y1 y2 hrl hra h12 ?_
          cases hnr : rdNext rows y with
          | none =>
            rw [hnr] at hgo
            unfold optR
            simp! only []
            refine blkX_iff ?_
            simp! only []
            refine blkX_rais ?_
            simp! only []
            rw [hv, List.append_assoc, trunc_new und_int]
            exact hk _ hgo.symm
          | some r =>
            rw [hnr] at hgo
            simp only at hgo
            have hr0 : rdRow y = some r ∧ rows.length ≠ 12 := by
              unfold rdNext at hnr
              cases hq : rdRow y with
              | none => rw [hq] at hnr; cases hnr
              | some q =>
                rw [hq] at hnr
                simp only at hnr
                split at hnr
                · cases hnr
                · rename_i h12
                  refine ⟨?_, h12⟩
                  split at hnr
                  · exact hnr
                  · split at hnr
                    · exact hnr
                    · cases hnr
            have ra := rdRow_asc y1 hr0.1
            have en : (rowD r = .non) = False := eq_false (fun z => nomatch z)
            have nu : ∀ m, D.und m (rowD r) = true := fun m => by unfold rowD; rw [und_tup, unds_cons, unds_cons, und_tx, und_tup, unds_ints]; rfl
            have l6 : (rows.map rowD).length ≤ 1000000 := by rw [List.length_map]; omega
            unfold optR
            simp! only []
            refine blkX_iff ?_
            simp! only [en]
            refine blkX_nil ?_
            simp! only []
            refine blkX_step ?_
            simp! only [isL_0, isL_any, l6, set_last]
            have unr : D.unds (S2.length + 1) (rows.map rowD ++ [rowD r]) = true := by
              rw [unds_app, unds_cons, nu, Bool.true_and]
              have e : D.unds (S2.length + 1) (rows.map rowD) = true := by
                clear hgo hra h12 hrl hnr hr0 l6
                induction rows with
                | nil => rfl
                | cons q rows ih =>
                  rw [List.map_cons, unds_cons, ih, Bool.and_true]
                  unfold rowD
                  rw [und_tup, unds_cons, unds_cons, und_tx, und_tup, unds_ints]
                  rfl
              rw [e]
              rfl
            rw [trunc_last unr]
            refine blkX_step ?_
            simp! only [biP_lenTx, y6]
            refine blkX_nil ?_
            refine ⟨j + 1, seen + y.length + 1, rows ++ [r], _, _, _, hjl, hl', ?_, ?_, ?_, ?_, rfl⟩
            · rw [show 1 + (j + 1) = 1 + j + 1 from by omega]
              exact hgo
            · intro q hq2
              rcases List.mem_append.mp hq2 with q2 | q2
              · exact hra q q2
              · rw [List.mem_singleton.mp q2]; exact ra
            · rw [List.length_append, List.length_singleton]
              have := hr0.2
              omega
            · rw [List.map_append]
              rfl
      · rintro ρ s' ⟨j, seen, rows, c5, c6, c7, hj, hlx, hgo, hra, h12, rfl, rfl⟩
        have hjl : j = lr.length := by
          refine Nat.le_antisymm hj (Nat.le_of_not_lt fun h => ?_)
          rw [show lr.length - j = (lr.length - (j + 1)) + 1 from by omega, List.range'_succ] at hlx
          cases hlx
        subst hjl
        rw [List.drop_length] at hgo
        unfold rdGo at hgo
        simp! only []
        refine blkX_rais ?_
        simp! only []
        rw [hl2, lnL_some, List.length_map]
        simp! only []
        rw [hv, List.append_assoc, trunc_new und_int]
        have := hk _ hgo.symm
        rw [show 1 + lr.length = ls.length from by omega] at this
        exact this
set_option maxHeartbeats 4000000
def optF (r : Except Nat Frm) : D := match r with
  | .ok f => f.d
  | .error _ => .non
theorem frame_or_none_spec {k : Nat} {t : List Nat} {s : Store} {Q : KQ} (ha : asc t) (hl : t.length ≤ 100000) (h : Q (optF (rdFrame t)) s) : cl (mx P G fuel (k + 8)) f_frame_or_none [tx t] Q s := by
  refine cl_fd P_frame_or_none rfl ?_
  unfold fd_frame_or_none
  rw [blk_cons]
  refine st_tryx ?_
  refine blkX_retB ?_
  simp! only []
  show clB _ _ _ _ _ _
  refine read_frame_spec (k := k) ha hl (fun f hf => ?_) (fun i hi => ?_)
  · rw [hf] at h
    simp! only [trunc_self]
    exact h
  · rw [hi] at h
    simp! only [x_BadText, show ([0] : List Nat).contains 0 = true from rfl]
    exact h
theorem rdRow_ok {t : List Nat} {r : Row} (ha : asc t) (h : rdRow t = some r) : RowOk r := by
  have a := rdRow_asc ha h
  by_cases c : (TL.spl [32] 0 [] t).length = 2
  · obtain ⟨x, b, e⟩ : ∃ a b, TL.spl [32] 0 [] t = [a, b] := by
      match TL.spl [32] 0 [] t, c with
      | [a, b], _ => exact ⟨a, b, rfl⟩
    rw [rdRow_two e] at h
    cases hk : keyB x with
    | false => rw [hk, if_neg (by decide)] at h; cases h
    | true =>
      rw [hk, if_pos rfl] at h
      cases hv : rdVal b with
      | none => rw [hv] at h; cases h
      | some v =>
        rw [hv] at h
        cases h
        obtain ⟨g1, g2, g3⟩ := rdVal_ok hv
        unfold keyB at hk
        simp only [Bool.and_eq_true, decide_eq_true_eq] at hk
        exact ⟨a, hk.1.2, g2, fun i hi => by have := g3 i hi; omega⟩
  · rw [rdRow_not c] at h
    cases h
theorem rdNext_some {rows : List Row} {t : List Nat} {r : Row} (h : rdNext rows t = some r) : rdRow t = some r ∧ rows.length ≠ 12 := by
  unfold rdNext at h
  cases hq : rdRow t with
  | none => rw [hq] at h; cases h
  | some q =>
    rw [hq] at h
    simp only at h
    split at h
    · cases h
    · rename_i h12
      refine ⟨?_, h12⟩
      split at h
      · exact h
      · split at h
        · exact h
        · cases h
theorem rdGo_ok {t : List Nat} {hd : Nat × Nat} {f : Frm} : ∀ {ls : List (List Nat)} {rows : List Row} {seen i : Nat}, rdGo t hd ls rows seen i = .ok f → (∀ l ∈ ls, asc l) → (∀ r ∈ rows, RowOk r) → rows.length ≤ 12 → f.p = hd.1 ∧ f.n = hd.2 ∧ (∀ r ∈ f.rows, RowOk r) ∧ f.rows.length ≤ 12
  | [], rows, seen, i, h, _, _, _ => by unfold rdGo at h; cases h
  | l :: ls, rows, seen, i, h, hl, hr, h12 => by
    unfold rdGo at h
    split at h
    · split at h
      · cases h
      · split at h
        · cases h
        · cases h
          exact ⟨rfl, rfl, hr, h12⟩
    · cases hn : rdNext rows l with
      | none => rw [hn] at h; cases h
      | some r =>
        rw [hn] at h
        simp only at h
        obtain ⟨g1, g2⟩ := rdNext_some hn
        refine rdGo_ok h (fun x hx => hl x (List.mem_cons_of_mem _ hx)) (fun q hq => ?_) (by rw [List.length_append, List.length_singleton]; omega)
        rcases List.mem_append.mp hq with q2 | q2
        · exact hr q q2
        · rw [List.mem_singleton.mp q2]
          exact rdRow_ok (hl l List.mem_cons_self) g1
theorem rdHead_le {t : List Nat} {p n : Nat} (h : rdHead t = some (p, n)) : p ≤ 31 ∧ n ≤ 1000000000000 := by
  by_cases c : (TL.spl [32] 0 [] t).length = 3
  · obtain ⟨x, b, d, e⟩ : ∃ a b d, TL.spl [32] 0 [] t = [a, b, d] := by
      match TL.spl [32] 0 [] t, c with
      | [a, b, d], _ => exact ⟨a, b, d, rfl⟩
    rw [rdHead_three e] at h
    unfold headOf at h
    split at h
    · cases h1 : rdCount b 31 with
      | none => rw [h1] at h; cases h
      | some p' =>
        cases h2 : rdCount d 1000000000000 with
        | none => rw [h1, h2] at h; cases h
        | some n' =>
          rw [h1, h2] at h
          cases h
          exact ⟨rdCount_le h1, rdCount_le h2⟩
    · cases h
  · rw [rdHead_not c] at h
    cases h
theorem rdFrame_ok {t : List Nat} {f : Frm} (ha : asc t) (h : rdFrame t = .ok f) : FrmOk f ∧ f.p ≤ 31 := by
  unfold rdFrame at h
  split at h
  · cases h
  · rename_i l ls e
    have hla : ∀ x ∈ l :: ls, asc x := fun x hx => by
      rw [← e] at hx
      exact asc_sub ha (spl_sub (List.dropLast_subset _ hx))
    split at h
    · cases h
    · rename_i hd hh
      obtain ⟨g1, g2, g3, g4⟩ := rdGo_ok h (fun x hx => hla x (List.mem_cons_of_mem _ hx)) (fun _ h => nomatch h) (Nat.zero_le _)
      obtain ⟨p, n⟩ := hd
      have hb := rdHead_le hh
      simp only at g1 g2
      exact ⟨⟨by omega, by omega, g3, g4⟩, by omega⟩
def rsGo : List (List Nat) → List Frm → List Nat → Int → Option (List Frm)
  | [], fs, _, _ => some fs
  | l :: ls, fs, q, a => if sumLn l = true then (match rdFrame (q ++ l ++ [10]) with
    | .error _ => none
    | .ok f => if ((f.p : Nat) : Int) ≤ a then none else rsGo ls (fs ++ [f]) [] (f.p : Nat)) else rsGo ls fs (q ++ l ++ [10]) a
def shLines (t : List Nat) : List (List Nat) := ((TL.spl [10] 0 [] t).drop 1).take ((TL.spl [10] 0 [] t).length - 3)
def shelfOf (fs : List Frm) : List Nat := if fs = [] then [] else shelfT (TL.numL fs.length) fs
def rdShelf (t : List Nat) : Option (List Frm) := if t = [] then some [] else match rsGo (shLines t) [] [] (-1) with
  | none => none
  | some fs => if shelfOf fs = t then some fs else none
def optS : Option (List Frm) → D
  | none => .non
  | some fs => .tup (fs.map Frm.d)
set_option maxHeartbeats 4000000
theorem cut_mid {l : List D} : cutD l (some 1) (some (-2)) = (l.drop 1).take (l.length - 3) := by
  unfold cutD
  have e1 : endOf l.length 0 (some 1) = min 1 l.length := rfl
  have e2 : endOf l.length l.length (some (-2)) = l.length - 2 := by
    show (if (-2 : Int) < 0 then ((-2 : Int) + (l.length : Nat)).toNat else min (-2 : Int).toNat l.length) = _
    rw [if_pos (by decide)]
    omega
  rw [e1, e2]
  by_cases c : 1 ≤ l.length
  · rw [Nat.min_eq_left c, Nat.sub_sub]
  · have h0 : l.length = 0 := by omega
    rw [List.length_eq_zero_iff.mp h0]
    rfl
def lsum (l : List (List Nat)) : Nat := (l.map fun p => p.length + 1).sum
theorem lsum_app {a b : List (List Nat)} : lsum (a ++ b) = lsum a + lsum b := by
  unfold lsum
  rw [List.map_append, List.sum_append]
theorem spl_sum {b : Nat} : ∀ {t acc : List Nat}, lsum (TL.spl [b] 0 acc t) = acc.length + t.length + 1
  | [], acc => by simp [TL.spl, lsum]
  | x :: t, acc => by
    unfold TL.spl
    split
    · have := spl_sum (b := b) (t := t) (acc := [])
      show lsum ([acc] ++ TL.spl [b] 0 [] t) = _
      rw [lsum_app, this]
      show (acc.length + 1 + 0) + _ = _
      simp
      omega
    · have := spl_sum (b := b) (t := t) (acc := acc ++ [x])
      rw [this, List.length_append, List.length_singleton, List.length_cons]
      omega
theorem lsum_take {n : Nat} {l : List (List Nat)} : lsum (l.take n) ≤ lsum l := by
  have := lsum_app (a := l.take n) (b := l.drop n)
  rw [List.take_append_drop] at this
  omega
theorem lsum_drop {n : Nat} {l : List (List Nat)} : lsum (l.drop n) ≤ lsum l := by
  have := lsum_app (a := l.take n) (b := l.drop n)
  rw [List.take_append_drop] at this
  omega
section
variable {s W : Store} {l l' : List D}
theorem mid_at : isLst (s ++ .lst l :: W) s.length = some l := by
  unfold isLst
  rw [List.getElem?_append_right (Nat.le_refl _), Nat.sub_self]
  rfl
theorem mid_set : (s ++ Cell.lst l :: W).set s.length (.lst l') = s ++ .lst l' :: W := by
  rw [List.set_append, if_neg (by omega), Nat.sub_self]
  rfl
theorem mid_trunc {d : D} : trunc (s ++ Cell.lst l :: W) d (s ++ .lst l' :: W) = s ++ .lst l' :: W := by
  unfold trunc
  split
  · refine List.take_of_length_le ?_
    rw [List.length_append, List.length_append]
    exact Nat.le_refl _
  · rfl
end
theorem shelfOf_asc {fs : List Frm} (h : ∀ f ∈ fs, FrmOk f) : asc (shelfOf fs) := by
  unfold shelfOf
  split
  · exact fun _ h => nomatch h
  · exact asc_close (asc_shelfB asc_num h)
theorem frm_ix {f : Frm} {s : Store} : ixD s f.d (.int 0) = some (.int (f.p : Nat)) := by
  unfold Frm.d
  rw [ixD_tup, atD_0]
  rfl
theorem read_shelf_spec {k : Nat} {t : List Nat} {s : Store} {Q : KQ} (ha : asc t) (hl : t.length ≤ 50000) (h : Q (optS (rdShelf t)) s) : cl (mx P G fuel (k + 9)) f_read_shelf [tx t] Q s := by
  have big : ∀ n : Nat, n ≤ 1000000 → n ≤ sizeLine := fun n hn => Nat.le_of_lt (Nat.lt_of_le_of_lt hn line_big)
  refine cl_fd P_read_shelf rfl ?_
  unfold fd_read_shelf
  unfold rdShelf at h
  simp! only [lit_e, eqD_tx ha (asc_lit (l := []) rfl)]
  by_cases ct : t = []
  · rw [if_pos ct] at h
    simp! only [ct]
    exact h
  · rw [if_neg ct] at h
    obtain ⟨ps, hps⟩ : ∃ ps, ps = TL.spl [10] 0 [] t := ⟨_, rfl⟩
    have pl := spl_len (b := 10) (t := t) (acc := [])
    have psm := spl_sum (b := 10) (t := t) (acc := [])
    rw [← hps] at pl psm
    obtain ⟨ls, hls⟩ : ∃ ls, ls = shLines t := ⟨_, rfl⟩
    have els : ls = (ps.drop 1).take (ps.length - 3) := by rw [hls, hps]; rfl
    have lsm : lsum ls ≤ t.length + 1 := by
      have h1 := lsum_take (n := ps.length - 3) (l := ps.drop 1)
      have h2 := lsum_drop (n := 1) (l := ps)
      rw [els]
      simp only [List.length_nil] at psm
      omega
    have okl : ∀ p ∈ ls, asc p := fun p hp => by
      rw [els] at hp
      have := List.mem_of_mem_drop (List.mem_of_mem_take hp)
      rw [hps] at this
      exact asc_sub ha (spl_sub this)
    have z1 : t.length + 2 ≤ sizeLine := big _ (by omega)
    have z2 : (TL.spl [10] 0 [] t).length ≤ sizeLine := by rw [← hps]; exact big _ (by omega)
    have ed : cutD (ps.map tx) (some 1) (some (-2)) = ls.map tx := by rw [cut_mid, els, List.length_map, List.map_take, List.map_drop]
    have ll : ls.length ≤ 100000 := by
      rw [els, List.length_take, List.length_drop]
      omega
    obtain ⟨R, hR⟩ : ∃ R, R = rsGo ls [] [] (-1) := ⟨_, rfl⟩
    rw [← hls, ← hR] at h
    simp! only [ct, lit_e, lit_n, meT_tx]
    rw [trunc_keep (by rw [und_tup, unds_cons, und_ref]; simp)]
    rw [meP_splitTx (by decide) rfl z1 z2, ← hps]
    obtain ⟨n, hn⟩ : ∃ n, n = (s ++ [Cell.lst []]).length := ⟨_, rfl⟩
    have en : n = s.length + 1 := by rw [hn, List.length_append, List.length_singleton]
    have g1 : isLst (s ++ [Cell.lst []] ++ [Cell.lst (ps.map tx)]) n = some (ps.map tx) := by rw [hn, isLst_new0 rfl]; rfl
    rw [← hn]
    simp! only []
    rw [g1]
    simp! only [slL_some, ed]
    refine br.pos (by rw [List.length_map]; exact big _ (by omega)) ?_
    obtain ⟨W, hW⟩ : ∃ W, W = [Cell.lst (ps.map tx), Cell.lst (ls.map tx)] := ⟨_, rfl⟩
    have eS : s ++ [Cell.lst []] ++ [Cell.lst (ps.map tx)] ++ [Cell.lst (ls.map tx)] = s ++ Cell.lst [] :: W := by rw [hW]; simp
    have eL : (s ++ [Cell.lst []] ++ [Cell.lst (ps.map tx)]).length = s.length + 2 := by simp
    have g2 : ∀ l : List D, isLst (s ++ Cell.lst l :: W) (s.length + 2) = some (ls.map tx) := fun l => by
      unfold isLst
      rw [List.getElem?_append_right (by omega), show s.length + 2 - s.length = 2 from by omega, hW]
      rfl
    simp! only []
    rw [eS, eL, g2, wkL_some, wO_some]
    simp! only []
    refine for_map tx (xs := ls) (fun dn l ρ s' => ∃ (fs : List Frm) (q : List Nat) (a : Int) (c4 c5 : Option D), rsGo l fs q a = R ∧ (∀ f ∈ fs, FrmOk f) ∧ ((fs.length : Nat) : Int) ≤ a + 1 ∧ a ≤ 31 ∧ asc q ∧ q.length + lsum l ≤ t.length + 1 ∧ s' = s ++ Cell.lst (fs.map Frm.d) :: W ∧
      ρ = [some (tx t), some (.ref s.length), some (tx q), some (.int a), c4, c5, none]) (fun dn l ρ s' h => by
        obtain ⟨fs, q, a, c4, c5, _, _, _, _, _, _, rfl, _⟩ := h
        rw [stays_one]
        exact g2 _) ⟨[], [], -1, none, none, hR.symm, (fun _ h => nomatch h), by simp, by decide, (fun _ h => nomatch h), by simpa using lsm, rfl, rfl⟩ ?_ ?_
    · rintro dn y l ρ s' e ⟨fs, q, a, c4, c5, hgo, hok, hfa, ha31, hq, hql, rfl, rfl⟩
      have hy : asc y := okl y (by rw [← e]; simp)
      have hsum : lsum (y :: l) = y.length + 1 + lsum l := rfl
      have b1 : q.length + y.length ≤ 1000000 := by omega
      have b2 : (q ++ y).length + ([10] : List Nat).length ≤ 1000000 := by rw [List.length_append]; show _ + _ + 1 ≤ _; omega
      have hqa : asc (q ++ y ++ [10]) := asc_app (asc_app hq hy) (asc_lit rfl)
      have hqlen : (q ++ y ++ [10]).length + lsum l ≤ t.length + 1 := by
        rw [List.length_append, List.length_append]
        show _ + _ + 1 + _ ≤ _
        omega
      unfold rsGo at hgo
      simp! only [opB_txx b1, lit_n]
      rw [opB_txx b2]
      simp! only []
      refine is_sum_line_spec (k := k + 6) hy (by omega) ?_
      cases hsl : sumLn y with
      | false =>
        rw [if_neg (by rw [hsl]; decide)] at hgo
        simp! only []
        exact ⟨fs, q ++ y ++ [10], a, _, c5, hgo, hok, hfa, ha31, hqa, hqlen, rfl, rfl⟩
      | true =>
        rw [if_pos hsl] at hgo
        simp! only []
        refine frame_or_none_spec (k := k) hqa (by omega) ?_
        cases hf : rdFrame (q ++ y ++ [10]) with
        | error i =>
          rw [hf] at hgo
          simp only at hgo
          rw [← hgo] at h
          unfold optF
          simp! only []
          exact h
        | ok f =>
          obtain ⟨fok, f31⟩ := rdFrame_ok hqa hf
          rw [hf] at hgo
          simp only at hgo
          have fn : (f.d = .non) = False := eq_false (fun z => nomatch z)
          unfold optF
          simp! only [trunc_self, fn, frm_ix]
          by_cases cp : ((f.p : Nat) : Int) ≤ a
          · rw [if_pos cp] at hgo
            rw [← hgo] at h
            refine br.pos cp ?_
            simp! only []
            exact h
          · rw [if_neg cp] at hgo
            refine br.neg cp ?_
            have l6 : (fs.map Frm.d).length ≤ 1000000 := by rw [List.length_map]; omega
            simp! only []
            rw [mid_at]
            simp! only []
            rw [mid_at]
            simp! only [l6]
            rw [mid_set, mid_trunc]
            simp! only [lit_e, frm_ix]
            refine ⟨fs ++ [f], [], (f.p : Nat), _, _, hgo, ?_, ?_, by omega, (fun _ h => nomatch h), by simp; omega, ?_, rfl⟩
            · intro g hg
              rcases List.mem_append.mp hg with q2 | q2
              · exact hok g q2
              · rw [List.mem_singleton.mp q2]; exact fok
            · rw [List.length_append, List.length_singleton]
              omega
            · rw [List.map_append]
              rfl
    · rintro ρ s' ⟨fs, q, a, c4, c5, hgo, hok, hfa, ha31, hq, hql, rfl, rfl⟩
      unfold rsGo at hgo
      rw [← hgo] at h
      simp only at h
      have l40 : fs.length ≤ 40 := by omega
      have l6 : (fs.map Frm.d).length ≤ 1000000 := by rw [List.length_map]; omega
      simp! only []
      rw [mid_at, tpL_some]
      simp! only []
      refine shelf_text_spec (k := k + 4) hok l40 ?_
      have ef : (if fs = [] then [] else shelfT (TL.numL fs.length) fs) = shelfOf fs := rfl
      rw [ef]
      simp! only [eqD_tx (shelfOf_asc hok) ha]
      have ut : D.unds s.length (fs.map Frm.d) = true := by
        clear h hgo hok hfa l40 l6 ef
        induction fs with
        | nil => rfl
        | cons f fs ih =>
          rw [List.map_cons, unds_cons, und_frm, ih]
          rfl
      by_cases ce : shelfOf fs = t
      · rw [if_pos ce] at h
        simp! only [ce]
        rw [trunc_new (by rw [und_tup]; exact ut)]
        exact h
      · rw [if_neg ce] at h
        simp! only [ce]
        exact h
set_option maxHeartbeats 4000000
theorem numL_head : ∀ {n : Nat} {l : List Nat}, TL.numL n = 48 :: l → n = 0 := by
  intro n
  induction n using Nat.strongRecOn with
  | ind n ih =>
    intro l h
    by_cases c : n < 10
    · rw [TL.numL_lt c] at h
      have := (List.cons.inj h).1
      omega
    · rw [TL.numL_step (by omega)] at h
      cases hh : TL.numL (n / 10) with
      | nil => exact absurd hh (TL.numL_ne _)
      | cons x r =>
        rw [hh] at h
        have hx : x = 48 := (List.cons.inj h).1
        subst hx
        have := ih (n / 10) (by omega) hh
        omega
theorem figB_num {n : Nat} : figB (TL.numL n) = true := by
  unfold figB
  have h1 : (TL.numL n).all digB = true := by
    rw [List.all_eq_true]
    intro c hc
    obtain ⟨a, b⟩ := TL.numL_digits n c hc
    unfold digB
    rw [decide_eq_true a, decide_eq_true b]
    rfl
  rw [h1]
  cases hh : TL.numL n with
  | nil => exact absurd hh (TL.numL_ne _)
  | cons => rfl
theorem rdCount_num {n m : Nat} (h : n ≤ m) (hm : m ≤ 1000000000000) : rdCount (TL.numL n) m = some n := by
  have hl : (TL.numL n).length ≤ 13 := TL.numL_len (by decide) (by omega)
  unfold rdCount
  rw [if_neg (by rintro (q | q); rw [figB_num] at q; cases q; omega), if_neg ?_, TL.numL_val, if_pos h]
  rintro ⟨q1, q2⟩
  cases hh : TL.numL n with
  | nil => rw [hh] at q1; simp at q1
  | cons x r =>
    rw [hh] at q2
    have hx : x = 48 := Option.some.inj q2
    subst hx
    have h0 := numL_head hh
    subst h0
    rw [hh] at q1
    rw [TL.numL_lt (by decide)] at hh
    have := (List.cons.inj hh).2
    rw [← this] at q1
    simp at q1
theorem rdNum_num {i : Int} (h1 : -1000000000000 ≤ i) (h2 : i ≤ 1000000000000) : rdNum (numI i) = some i := by
  unfold rdNum numI
  by_cases c : 0 ≤ i
  · rw [if_pos c]
    have hn : (TL.numL i.toNat).take 1 ≠ [45] := by
      intro e
      cases hh : TL.numL i.toNat with
      | nil => exact absurd hh (TL.numL_ne _)
      | cons x r =>
        rw [hh] at e
        have hx : x = 45 := (List.cons.inj e).1
        have := (TL.numL_digits i.toNat x (by rw [hh]; simp)).1
        omega
    rw [if_pos hn, rdCount_num (by omega) (Nat.le_refl _)]
    show some ((i.toNat : Nat) : Int) = some i
    rw [Int.toNat_of_nonneg c]
  · rw [if_neg c]
    have e1 : (45 :: TL.numL i.natAbs).take 1 = [45] := rfl
    have e2 : (45 :: TL.numL i.natAbs).drop 1 = TL.numL i.natAbs := rfl
    rw [if_neg (fun q => q e1), e2, rdCount_num (by omega) (Nat.le_refl _)]
    obtain ⟨m, hm⟩ : ∃ m, i.natAbs = m + 1 := ⟨i.natAbs - 1, by omega⟩
    rw [hm]
    show some (-((m + 1 : Nat) : Int)) = some i
    congr 1
    omega
theorem num_free {i : Int} {c : Nat} (h1 : c < 48 ∨ 57 < c) (h2 : c ≠ 45) : c ∉ numI i := by
  unfold numI
  split
  · exact TL.numL_free h1
  · intro q
    rcases List.mem_cons.mp q with q | q
    · exact h2 q
    · exact TL.numL_free h1 q
theorem join_mem {c : Nat} : ∀ {l : List (List Nat)}, c ∈ TL.joinL [44] l → c = 44 ∨ ∃ p ∈ l, c ∈ p
  | [], h => nomatch h
  | [p], h => .inr ⟨p, List.mem_cons_self, h⟩
  | p :: q :: r, h => by
    have h : c ∈ p ++ ([44] ++ TL.joinL [44] (q :: r)) := h
    rcases List.mem_append.mp h with h | h
    · exact .inr ⟨p, List.mem_cons_self, h⟩
    · rcases List.mem_append.mp h with h | h
      · exact .inl (List.mem_singleton.mp h)
      · rcases join_mem h with h | ⟨x, hx, h⟩
        · exact .inl h
        · exact .inr ⟨x, List.mem_cons_of_mem _ hx, h⟩
theorem val_free {v : List Int} {c : Nat} (h1 : c < 44) : c ∉ valT v := by
  intro h
  rcases join_mem h with h | ⟨p, hp, h⟩
  · omega
  · obtain ⟨i, _, rfl⟩ := List.mem_map.mp hp
    exact num_free (.inl (by omega)) (by omega) h
structure RowG (r : Row) : Prop where
  k : keyB r.1 = true
  l1 : 1 ≤ r.2.length
  l4 : r.2.length ≤ 4
  v : ∀ i ∈ r.2, -1000000000000 ≤ i ∧ i ≤ 1000000000000
theorem rdVal_val {v : List Int} (l1 : 1 ≤ v.length) (l4 : v.length ≤ 4) (hv : ∀ i ∈ v, -1000000000000 ≤ i ∧ i ≤ 1000000000000) : rdVal (valT v) = some v := by
  have e : TL.spl [44] 0 [] (valT v) = v.map numI := by
    unfold valT
    refine TL.spl_join (s := 44) (S := []) ?_ ?_
    · rw [ne_eq, List.map_eq_nil_iff]
      intro z
      rw [z] at l1
      simp at l1
    · intro p hp
      obtain ⟨i, _, rfl⟩ := List.mem_map.mp hp
      exact num_free (.inl (by decide)) (by decide)
  have e2 : (v.map numI).map rdNum = v.map some := by
    rw [List.map_map]
    exact List.map_congr_left fun i hi => rdNum_num (hv i hi).1 (hv i hi).2
  unfold rdVal
  rw [e, e2]
  have hn : (v.map some).any (·.isNone) = false := by
    rw [List.any_map]
    induction v with
    | nil => rfl
    | cons => simp
  rw [if_neg ?_]
  · congr 1
    induction v with
    | nil => rfl
    | cons i v ih => simp
  · rintro (q | q)
    · rw [hn] at q; cases q
    · rw [List.length_map] at q; omega
theorem key_asc {t : List Nat} (h : keyB t = true) : asc t ∧ 32 ∉ t ∧ 10 ∉ t ∧ t ≠ [] := by
  unfold keyB at h
  simp only [Bool.and_eq_true, decide_eq_true_eq] at h
  have hm : ∀ c ∈ t, c ∈ cKey := fun c hc => of_decide_eq_true (List.all_eq_true.mp h.2 c hc)
  refine ⟨fun c hc => ?_, fun q => absurd (hm _ q) (by decide), fun q => absurd (hm _ q) (by decide), fun q => by rw [q] at h; simp at h⟩
  have : ∀ c ∈ cKey, c < 128 := by decide
  exact this c (hm c hc)
theorem rdRow_row {r : Row} (g : RowG r) : rdRow (rowT r) = some r := by
  obtain ⟨k1, k2, k3, k4⟩ := key_asc g.k
  have e : TL.spl [32] 0 [] (rowT r) = [r.1, valT r.2] := by
    have h1 : rowT r = r.1 ++ ([32] ++ valT r.2) := by unfold rowT; rw [List.append_assoc]
    have h2 := TL.spl_part1 (s := 32) (S := []) (p := r.1) (rest := valT r.2) (acc := []) k2
    have h3 := TL.spl_last1 (s := 32) (S := []) (p := valT r.2) (acc := []) (val_free (by decide))
    rw [h1]
    show TL.spl [32] 0 [] (r.1 ++ (32 :: [] ++ valT r.2)) = _
    rw [h2, h3]
    rfl
  rw [rdRow_two e, if_pos g.k, rdVal_val g.l1 g.l4 g.v]
  rfl
set_option maxHeartbeats 4000000
theorem rdHead_head {p n : Nat} (hp : p ≤ 31) (hn : n ≤ 1000000000000) : rdHead (headT p n) = some (p, n) := by
  have e : TL.spl [32] 0 [] (headT p n) = [cPg, TL.numL p, TL.numL n] := by
    have h1 : headT p n = cPg ++ (32 :: [] ++ (TL.numL p ++ (32 :: [] ++ TL.numL n))) := by
      show (cPg ++ [32]) ++ TL.numL p ++ [32] ++ TL.numL n = _
      simp only [List.append_assoc]
    rw [h1, TL.spl_part1 (by decide), TL.spl_part1 (TL.numL_free (.inl (by decide))), TL.spl_last1 (TL.numL_free (.inl (by decide)))]
    rfl
  rw [rdHead_three e]
  unfold headOf
  rw [if_pos rfl, rdCount_num hp (by decide), rdCount_num hn (Nat.le_refl _)]
theorem head_no_sum {p n : Nat} : sumLn (headT p n) = false := by
  unfold sumLn
  have e : (headT p n).take 5 = [112, 97, 103, 101, 32] := by
    show ([112, 97, 103, 101, 32] ++ TL.numL p ++ [32] ++ TL.numL n).take 5 = _
    rfl
  rw [e]
  rfl
theorem val_no_fig {v : List Int} {r : List Nat} (h : valT v = 48 :: r) (hf : figB (valT v) = true) : r = [] := by
  unfold valT at h hf
  match v with
  | [] => cases h
  | [i] =>
    have h : numI i = 48 :: r := h
    unfold numI at h
    split at h
    · have := numL_head h
      rw [this, TL.numL_lt (by decide)] at h
      exact (List.cons.inj h).2.symm
    · have := (List.cons.inj h).1
      omega
  | i :: j :: v =>
    exfalso
    unfold figB at hf
    have h1 := (Bool.and_eq_true_iff.mp hf).1
    have := List.all_eq_true.mp h1 44 (by
      show 44 ∈ numI i ++ ([44] ++ TL.joinL [44] (numI j :: v.map numI))
      simp)
    exact absurd this (by decide)
theorem row_no_sum {r : Row} (g : RowG r) : sumLn (rowT r) = false := by
  cases hs : sumLn (rowT r) with
  | false => rfl
  | true =>
    exfalso
    unfold sumLn at hs
    simp only [Bool.and_eq_true, decide_eq_true_eq] at hs
    obtain ⟨⟨h5, hl⟩, hf⟩ := hs
    obtain ⟨_, k32, _, kne⟩ := key_asc g.k
    have hk : r.1.length = 3 := by
      have at5 : ∀ i, i < 5 → (rowT r)[i]? = cSum0[i]? := fun i hi => by
        rw [← h5, List.getElem?_take_of_lt hi]
      have atk : ∀ i, i < r.1.length → (rowT r)[i]? ≠ some 32 := fun i hi e => by
        unfold rowT at e
        rw [List.append_assoc, List.getElem?_append_left hi] at e
        exact k32 (List.mem_of_getElem? e)
      have atl : (rowT r)[r.1.length]? = some 32 := by
        unfold rowT
        rw [List.append_assoc, List.getElem?_append_right (Nat.le_refl _), Nat.sub_self]
        rfl
      by_cases c : r.1.length < 3
      · have q := at5 r.1.length (by omega)
        rw [atl] at q
        match hh : r.1.length, c with
        | 0, _ => rw [hh] at q; exact absurd q (by decide)
        | 1, _ => rw [hh] at q; exact absurd q (by decide)
        | 2, _ => rw [hh] at q; exact absurd q (by decide)
      · by_cases c2 : 3 < r.1.length
        · exact absurd (at5 3 (by decide)) (by
            have := atk 3 c2
            intro e
            rw [e] at this
            exact this rfl)
        · omega
    have ed : (rowT r).drop 4 = valT r.2 := by
      unfold rowT
      rw [List.drop_append_of_le_length (by rw [List.length_append, List.length_singleton]; omega)]
      rw [List.drop_eq_nil_of_le (by rw [List.length_append, List.length_singleton]; omega), List.nil_append]
    have e4 : (rowT r)[4]? = some 48 := by
      rw [← List.getElem?_take_of_lt (show 4 < 5 by decide), h5]
      rfl
    have lv : (valT r.2).length = 6 := by
      rw [← ed, List.length_drop]
      omega
    have h0 : (valT r.2)[0]? = some 48 := by
      rw [← ed, List.getElem?_drop]
      exact e4
    rw [ed] at hf
    cases hv : valT r.2 with
    | nil => rw [hv] at lv; simp at lv
    | cons x l =>
      rw [hv] at h0
      have hx : x = 48 := Option.some.inj h0
      subst hx
      have := val_no_fig hv hf
      rw [hv, this] at lv
      simp at lv
theorem sum6_head {t : List Nat} : ∃ l, sum6 t = 48 :: l := by
  have h5 : (TL.numL (sumT t % 65521)).length ≤ 5 := TL.numL_len (by decide) (Nat.lt_trans (Nat.mod_lt _ (by decide)) (by decide))
  unfold sum6 zpad
  obtain ⟨m, hm⟩ : ∃ m, 6 - (TL.numL (sumT t % 65521)).length = m + 1 := ⟨5 - (TL.numL (sumT t % 65521)).length, by omega⟩
  rw [hm, List.replicate_succ]
  exact ⟨_, rfl⟩
theorem sum6_dig {t : List Nat} {c : Nat} (h : c ∈ sum6 t) : 48 ≤ c ∧ c ≤ 57 := by
  unfold sum6 zpad at h
  rcases List.mem_append.mp h with h | h
  · rw [List.eq_of_mem_replicate h]
    decide
  · exact TL.numL_digits _ c h
theorem sum_line {t : List Nat} : sumLn (cSum ++ sum6 t) = true := by
  obtain ⟨l, hl⟩ := sum6_head (t := t)
  have h6 : (sum6 t).length = 6 := sum6_len
  have ed : (cSum ++ sum6 t).drop 4 = sum6 t := rfl
  unfold sumLn
  rw [ed]
  have e5 : (cSum ++ sum6 t).take 5 = cSum0 := by rw [hl]; rfl
  have e10 : (cSum ++ sum6 t).length = 10 := by rw [List.length_append, h6]; rfl
  rw [decide_eq_true e5, decide_eq_true e10]
  unfold figB
  have ha : (sum6 t).all digB = true := by
    rw [List.all_eq_true]
    intro c hc
    obtain ⟨a, b⟩ := sum6_dig hc
    unfold digB
    rw [decide_eq_true a, decide_eq_true b]
    rfl
  rw [ha, hl]
  rfl
def endsL (ls : List (List Nat)) : List Nat := ls.flatMap (· ++ [10])
theorem endsL_app {a b : List (List Nat)} : endsL (a ++ b) = endsL a ++ endsL b := List.flatMap_append
theorem spl_ends : ∀ {ls : List (List Nat)} {r : List Nat}, (∀ l ∈ ls, 10 ∉ l) → TL.spl [10] 0 [] (endsL ls ++ r) = ls ++ TL.spl [10] 0 [] r
  | [], r, _ => rfl
  | l :: ls, r, h => by
    have e : endsL (l :: ls) ++ r = l ++ (10 :: [] ++ (endsL ls ++ r)) := by
      show (l :: ls).flatMap (· ++ [10]) ++ r = _
      rw [List.flatMap_cons, List.append_assoc, List.append_assoc]
      rfl
    rw [e, TL.spl_part1 (h l List.mem_cons_self), spl_ends fun x hx => h x (List.mem_cons_of_mem _ hx)]
    rfl
def linesF (f : Frm) : List (List Nat) := headT f.p f.n :: f.rows.map rowT ++ [cSum ++ sum6 (bodyT f.p f.n f.rows)]
theorem endsF {f : Frm} : endsL (linesF f) = f.t := by
  unfold linesF
  have e1 : endsL (headT f.p f.n :: f.rows.map rowT) = bodyT f.p f.n f.rows := by
    unfold endsL bodyT
    rw [List.flatMap_cons, List.flatMap_map]
  rw [endsL_app, e1]
  show bodyT f.p f.n f.rows ++ ([cSum ++ sum6 (bodyT f.p f.n f.rows)].flatMap (· ++ [10])) = closeT (bodyT f.p f.n f.rows)
  unfold closeT
  rw [List.flatMap_singleton]
  simp only [List.append_assoc]
structure FrmG (f : Frm) : Prop where
  p : f.p ≤ 31
  n : f.n ≤ 1000000000000
  rows : ∀ r ∈ f.rows, RowG r
  l : f.rows.length ≤ 12
  asc : f.rows.Pairwise fun a b => a.1 < b.1
theorem row_free {r : Row} (g : RowG r) : 10 ∉ rowT r := by
  obtain ⟨_, _, k10, _⟩ := key_asc g.k
  unfold rowT
  intro h
  rcases List.mem_append.mp h with h | h
  · rcases List.mem_append.mp h with h | h
    · exact k10 h
    · exact absurd (List.mem_singleton.mp h) (by decide)
  · exact val_free (by decide) h
theorem head_free {p n : Nat} : 10 ∉ headT p n := by
  unfold headT
  intro h
  rcases List.mem_append.mp h with h | h
  · rcases List.mem_append.mp h with h | h
    · rcases List.mem_append.mp h with h | h
      · exact absurd h (by decide)
      · exact TL.numL_free (.inl (by decide)) h
    · exact absurd (List.mem_singleton.mp h) (by decide)
  · exact TL.numL_free (.inl (by decide)) h
theorem sumline_free {t : List Nat} : 10 ∉ cSum ++ sum6 t := by
  intro h
  rcases List.mem_append.mp h with h | h
  · exact absurd h (by decide)
  · have := sum6_dig h
    omega
theorem lines_free {f : Frm} (g : FrmG f) : ∀ l ∈ linesF f, 10 ∉ l := by
  intro l h
  unfold linesF at h
  rcases List.mem_append.mp h with h | h
  · rcases List.mem_cons.mp h with rfl | h
    · exact head_free
    · obtain ⟨r, hr, rfl⟩ := List.mem_map.mp h
      exact row_free (g.rows r hr)
  · rw [List.mem_singleton.mp h]
    exact sumline_free
set_option maxHeartbeats 4000000
theorem rdNext_row {dn rest : List Row} {r : Row} (g : RowG r) (l : (dn ++ r :: rest).length ≤ 12) (h : (dn ++ r :: rest).Pairwise fun a b => a.1 < b.1) : rdNext dn (rowT r) = some r := by
  unfold rdNext
  rw [rdRow_row g]
  simp only
  rw [if_neg (by rw [List.length_append, List.length_cons] at l; omega)]
  cases hq : dn.getLast? with
  | none => rfl
  | some q =>
    have hm : q ∈ dn := List.mem_of_getLast? hq
    have := (List.pairwise_append.mp h).2.2 q hm r List.mem_cons_self
    simp only
    rw [if_pos this]
theorem rdGo_rows {f : Frm} (g : FrmG f) : ∀ {rest dn : List Row} {i : Nat}, dn ++ rest = f.rows → rdGo f.t (f.p, f.n) (rest.map rowT ++ [cSum ++ sum6 (bodyT f.p f.n f.rows)]) dn (bodyT f.p f.n dn).length i = .ok f
  | [], dn, i, e => by
    rw [List.append_nil] at e
    subst e
    show rdGo f.t (f.p, f.n) [cSum ++ sum6 (bodyT f.p f.n f.rows)] f.rows (bodyT f.p f.n f.rows).length i = .ok f
    have et : f.t = bodyT f.p f.n f.rows ++ (cSum ++ sum6 (bodyT f.p f.n f.rows) ++ [10]) := by
      show closeT _ = _
      unfold closeT
      simp only [List.append_assoc]
    have ek : f.t.take (bodyT f.p f.n f.rows).length = bodyT f.p f.n f.rows := by rw [et, List.take_left']; rfl
    have el : (cSum ++ sum6 (bodyT f.p f.n f.rows)).length = 10 := by rw [List.length_append, sum6_len]; rfl
    have en : (bodyT f.p f.n f.rows).length + (cSum ++ sum6 (bodyT f.p f.n f.rows)).length + 1 = f.t.length := by
      have e1 : f.t.length = (bodyT f.p f.n f.rows).length + 11 := close_len
      rw [el, e1]
    unfold rdGo
    rw [if_pos sum_line, ek, if_neg (fun q => q rfl), if_neg (fun q => q en)]
  | r :: rest, dn, i, e => by
    have gr : RowG r := g.rows r (by rw [← e]; simp)
    have hl : (dn ++ r :: rest).length ≤ 12 := by rw [e]; exact g.l
    have hp : (dn ++ r :: rest).Pairwise fun a b => a.1 < b.1 := by rw [e]; exact g.asc
    have eb : (bodyT f.p f.n dn).length + (rowT r).length + 1 = (bodyT f.p f.n (dn ++ [r])).length := by
      unfold bodyT
      simp only [List.flatMap_append, List.flatMap_singleton, List.length_append, List.length_singleton]
      omega
    rw [List.map_cons, List.cons_append]
    unfold rdGo
    rw [if_neg (by rw [row_no_sum gr]; decide), rdNext_row gr hl hp]
    simp only
    rw [eb]
    exact rdGo_rows g (by rw [List.append_assoc]; exact e)
theorem rdLines_ends {ls : List (List Nat)} (h : ∀ l ∈ ls, 10 ∉ l) : rdLines (endsL ls) = ls := by
  unfold rdLines
  have e := spl_ends (r := []) h
  rw [List.append_nil] at e
  rw [e]
  show (ls ++ [[]]).dropLast = ls
  rw [List.dropLast_concat]
theorem rdFrame_frm {f : Frm} (g : FrmG f) : rdFrame f.t = .ok f := by
  have e : rdLines f.t = linesF f := by rw [← endsF]; exact rdLines_ends (lines_free g)
  unfold rdFrame
  rw [e]
  unfold linesF
  show (match rdHead (headT f.p f.n) with
    | none => .error 0
    | some hd => rdGo f.t hd (f.rows.map rowT ++ [cSum ++ sum6 (bodyT f.p f.n f.rows)]) [] ((headT f.p f.n).length + 1) 1 : Except Nat Frm) = _
  rw [rdHead_head g.p g.n]
  have eb : (headT f.p f.n).length + 1 = (bodyT f.p f.n []).length := by
    unfold bodyT
    rw [List.flatMap_nil, List.append_nil, List.length_append, List.length_singleton]
  simp only
  rw [eb]
  exact rdGo_rows g rfl
theorem rsGo_plain {l : List Nat} {ls : List (List Nat)} {fs : List Frm} {q : List Nat} {a : Int} (h : sumLn l = false) : rsGo (l :: ls) fs q a = rsGo ls fs (q ++ l ++ [10]) a := by
  rw [rsGo, if_neg (by rw [h]; decide)]
theorem rsGo_plains : ∀ {xs ls : List (List Nat)} {fs : List Frm} {q : List Nat} {a : Int}, (∀ l ∈ xs, sumLn l = false) → rsGo (xs ++ ls) fs q a = rsGo ls fs (q ++ endsL xs) a
  | [], ls, fs, q, a, _ => by show rsGo ls fs q a = rsGo ls fs (q ++ []) a; rw [List.append_nil]
  | x :: xs, ls, fs, q, a, h => by
    rw [List.cons_append, rsGo_plain (h x List.mem_cons_self), rsGo_plains fun l hl => h l (List.mem_cons_of_mem _ hl)]
    congr 1
    unfold endsL
    rw [List.flatMap_cons, List.append_assoc, List.append_assoc, List.append_assoc]
theorem rsGo_frm {f : Frm} {ls : List (List Nat)} {fs : List Frm} {a : Int} (g : FrmG f) : rsGo (linesF f ++ ls) fs [] a = if ((f.p : Nat) : Int) ≤ a then none else rsGo ls (fs ++ [f]) [] (f.p : Nat) := by
  unfold linesF
  have hn : ∀ l ∈ headT f.p f.n :: f.rows.map rowT, sumLn l = false := fun l hl => by
    rcases List.mem_cons.mp hl with rfl | hl
    · exact head_no_sum
    · obtain ⟨r, hr, rfl⟩ := List.mem_map.mp hl
      exact row_no_sum (g.rows r hr)
  rw [List.append_assoc, rsGo_plains hn, List.nil_append]
  have e1 : endsL (headT f.p f.n :: f.rows.map rowT) = bodyT f.p f.n f.rows := by
    unfold endsL bodyT
    rw [List.flatMap_cons, List.flatMap_map]
  rw [e1]
  show rsGo ((cSum ++ sum6 (bodyT f.p f.n f.rows)) :: ls) fs (bodyT f.p f.n f.rows) a = _
  rw [rsGo, if_pos sum_line]
  have et : bodyT f.p f.n f.rows ++ (cSum ++ sum6 (bodyT f.p f.n f.rows)) ++ [10] = f.t := by
    show _ = closeT _
    unfold closeT
    simp only [List.append_assoc]
  rw [et, rdFrame_frm g]
def Asc (a : Int) : List Frm → Prop
  | [] => True
  | f :: fs => a < (f.p : Nat) ∧ Asc (f.p : Nat) fs
def lastP (a : Int) : List Frm → Int
  | [] => a
  | f :: fs => lastP (f.p : Nat) fs
theorem rsGo_frms : ∀ {fs done : List Frm} {ls : List (List Nat)} {a : Int}, (∀ f ∈ fs, FrmG f) → Asc a fs → rsGo (fs.flatMap linesF ++ ls) done [] a = rsGo ls (done ++ fs) [] (lastP a fs)
  | [], done, ls, a, _, _ => by rw [List.append_nil]; rfl
  | f :: fs, done, ls, a, g, h => by
    rw [List.flatMap_cons, List.append_assoc, rsGo_frm (g f List.mem_cons_self), if_neg (by have := h.1; omega), rsGo_frms (fun x hx => g x (List.mem_cons_of_mem _ hx)) h.2, List.append_assoc]
    rfl
set_option maxHeartbeats 4000000
theorem spl_nil10 : TL.spl [10] 0 [] [] = [[]] := rfl
theorem shLines_ends {x z : List Nat} {M : List (List Nat)} (h : ∀ l ∈ x :: M ++ [z], 10 ∉ l) : shLines (endsL (x :: M ++ [z])) = M := by
  have e := spl_ends (r := []) h
  rw [List.append_nil, spl_nil10] at e
  unfold shLines
  rw [e]
  have e2 : (x :: M ++ [z] ++ [[]]).drop 1 = M ++ ([z] ++ [[]]) := by
    show M ++ [z] ++ [[]] = _
    rw [List.append_assoc]
  have e3 : (x :: M ++ [z] ++ [[]]).length - 3 = M.length := by
    simp only [List.length_append, List.length_cons, List.length_nil]
    omega
  rw [e2, e3, List.take_left']
  rfl
def shelfL (many : List Nat) (fs : List Frm) : List (List Nat) := (cShelf ++ many) :: fs.flatMap linesF ++ [cSum ++ sum6 (shelfB many fs)]
theorem ends_frms {fs : List Frm} : endsL (fs.flatMap linesF) = fs.flatMap Frm.t := by
  induction fs with
  | nil => rfl
  | cons f fs ih => rw [List.flatMap_cons, endsL_app, endsF, ih, List.flatMap_cons]
theorem ends_one {l : List Nat} : endsL [l] = l ++ [10] := by
  unfold endsL
  rw [List.flatMap_singleton]
theorem ends_cons {l : List Nat} {ls : List (List Nat)} : endsL (l :: ls) = l ++ [10] ++ endsL ls := by
  unfold endsL
  rw [List.flatMap_cons]
theorem endsB {many : List Nat} {fs : List Frm} : endsL ((cShelf ++ many) :: fs.flatMap linesF) = shelfB many fs := by
  rw [ends_cons, ends_frms]
  rfl
theorem endsS {many : List Nat} {fs : List Frm} : endsL (shelfL many fs) = shelfT many fs := by
  unfold shelfL
  rw [endsL_app, endsB, ends_one]
  show _ = closeT _
  unfold closeT
  simp only [List.append_assoc]
theorem shelf_free {many : List Nat} {fs : List Frm} (hm : 10 ∉ many) (g : ∀ f ∈ fs, FrmG f) : ∀ l ∈ shelfL many fs, 10 ∉ l := by
  intro l h
  unfold shelfL at h
  rcases List.mem_append.mp h with h | h
  · rcases List.mem_cons.mp h with rfl | h
    · intro q
      rcases List.mem_append.mp q with q | q
      · exact absurd q (by decide)
      · exact hm q
    · obtain ⟨f, hf, h⟩ := List.mem_flatMap.mp h
      exact lines_free (g f hf) l h
  · rw [List.mem_singleton.mp h]
    exact sumline_free
theorem shLines_shelf {many : List Nat} {fs : List Frm} (hm : 10 ∉ many) (g : ∀ f ∈ fs, FrmG f) : shLines (shelfT many fs) = fs.flatMap linesF := by
  rw [← endsS]
  exact shLines_ends (shelf_free hm g)
theorem rs_shelf {many : List Nat} {fs : List Frm} (hm : 10 ∉ many) (g : ∀ f ∈ fs, FrmG f) (ha : Asc (-1) fs) : rsGo (shLines (shelfT many fs)) [] [] (-1) = some fs := by
  rw [shLines_shelf hm g]
  have e := rsGo_frms (ls := []) (done := []) g ha
  rw [List.append_nil] at e
  rw [e]
  rfl
def hd10 (t : List Nat) : Option (List Nat) := (TL.spl [10] 0 [] t).head?
theorem hd_ends {l : List Nat} {ls : List (List Nat)} {r : List Nat} (h : 10 ∉ l) : hd10 (endsL (l :: ls) ++ r) = some l := by
  unfold hd10
  have e : endsL (l :: ls) ++ r = l ++ (10 :: [] ++ (endsL ls ++ r)) := by
    rw [ends_cons]
    simp only [List.append_assoc, List.cons_append, List.nil_append]
  rw [e, TL.spl_part1 h]
  rfl
theorem hd_shelf {many : List Nat} {fs : List Frm} (hm : 10 ∉ many) : hd10 (shelfT many fs) = some (cShelf ++ many) := by
  rw [← endsS]
  unfold shelfL
  have h : 10 ∉ cShelf ++ many := fun q => (List.mem_append.mp q).elim (fun q => absurd q (by decide)) hm
  have := hd_ends (l := cShelf ++ many) (ls := fs.flatMap linesF ++ [cSum ++ sum6 (shelfB many fs)]) (r := []) h
  rw [List.append_nil] at this
  exact this
theorem num10 {n : Nat} : 10 ∉ TL.numL n := TL.numL_free (.inl (by decide))
theorem shelf_ne {many : List Nat} {fs : List Frm} : shelfT many fs ≠ [] := fun h => by
  have := congrArg List.length h
  unfold shelfT at this
  rw [close_len] at this
  simp at this
theorem rdShelf_ok {fs : List Frm} (g : ∀ f ∈ fs, FrmG f) (ha : Asc (-1) fs) (hne : fs ≠ []) : rdShelf (shelfT (TL.numL fs.length) fs) = some fs := by
  unfold rdShelf
  rw [if_neg shelf_ne, rs_shelf num10 g ha]
  simp only
  rw [if_pos]
  unfold shelfOf
  rw [if_neg hne]
theorem rd_count {t : List Nat} {fs : List Frm} {x : List Nat} (hr : rsGo (shLines t) [] [] (-1) = some fs) (hx : hd10 t = some x) (ht : t ≠ []) (hn : cShelf ++ TL.numL fs.length ≠ x) : rdShelf t = none := by
  unfold rdShelf
  rw [if_neg ht, hr]
  simp only
  rw [if_neg]
  intro h
  unfold shelfOf at h
  split at h
  · exact ht h.symm
  · rw [← h, hd_shelf num10] at hx
    exact hn (Option.some.inj hx)
theorem rd_none {t : List Nat} (hr : rsGo (shLines t) [] [] (-1) = none) (ht : t ≠ []) : rdShelf t = none := by
  unfold rdShelf
  rw [if_neg ht, hr]
theorem app_inj {a b c : List Nat} (h : a ++ b = a ++ c) : b = c := List.append_cancel_left h
theorem other_count {many : List Nat} {fs : List Frm} (hm : 10 ∉ many) (g : ∀ f ∈ fs, FrmG f) (ha : Asc (-1) fs) (h : many ≠ TL.numL fs.length) : rdShelf (shelfT many fs) = none :=
  rd_count (rs_shelf hm g ha) (hd_shelf hm) shelf_ne fun e => h (app_inj e).symm
theorem no_frame {many : List Nat} (hm : 10 ∉ many) : rdShelf (shelfT many []) = none := by
  have e := rs_shelf (fs := []) hm (fun _ h => nomatch h) trivial
  unfold rdShelf
  rw [if_neg shelf_ne, e]
  simp only
  rw [if_neg]
  exact fun h => shelf_ne h.symm
theorem not_above {many : List Nat} {f f2 : Frm} {fs : List Frm} (hm : 10 ∉ many) (g : ∀ x ∈ f :: f2 :: fs, FrmG x) (h : f2.p ≤ f.p) : rdShelf (shelfT many (f :: f2 :: fs)) = none := by
  refine rd_none ?_ shelf_ne
  rw [shLines_shelf hm g, List.flatMap_cons, List.flatMap_cons, rsGo_frm (g f List.mem_cons_self), if_neg (by omega), rsGo_frm (g f2 (by simp)), if_pos (by omega)]
theorem rdHead_sum {t : List Nat} : rdHead (cSum ++ sum6 t) = none := by
  refine rdHead_not ?_
  have h1 : cSum ++ sum6 t = [115, 117, 109] ++ (32 :: [] ++ sum6 t) := rfl
  have h2 : 32 ∉ sum6 t := fun h => by have := sum6_dig h; omega
  rw [h1, TL.spl_part1 (by decide), TL.spl_last1 h2]
  show (2 : Nat) ≠ 3
  decide
theorem rsGo_sum {t : List Nat} {ls : List (List Nat)} {fs : List Frm} {a : Int} : rsGo ((cSum ++ sum6 t) :: ls) fs [] a = none := by
  have e : rdFrame ([] ++ (cSum ++ sum6 t) ++ [10]) = .error 0 := by
    have e1 : rdLines ([] ++ (cSum ++ sum6 t) ++ [10]) = [cSum ++ sum6 t] := by
      rw [List.nil_append, ← ends_one]
      exact rdLines_ends fun l hl => by rw [List.mem_singleton.mp hl]; exact sumline_free
    unfold rdFrame
    rw [e1]
    simp only
    rw [rdHead_sum]
  rw [rsGo, if_pos sum_line, e]
theorem end_behind {many : List Nat} {fs : List Frm} (hm : 10 ∉ many) (g : ∀ f ∈ fs, FrmG f) (ha : Asc (-1) fs) : rdShelf (shelfT many fs ++ [10]) = none := by
  have hf := shelf_free hm g
  have e : shelfT many fs ++ [10] = endsL ((cShelf ++ many) :: (fs.flatMap linesF ++ [cSum ++ sum6 (shelfB many fs)]) ++ [[]]) := by
    have e2 : endsL (shelfL many fs ++ [[]]) = shelfT many fs ++ [10] := by rw [endsL_app, endsS, ends_one]; rfl
    exact e2.symm
  refine rd_none ?_ (by simp)
  rw [e, shLines_ends, rsGo_frms g ha, rsGo_sum]
  intro l hl
  rcases List.mem_append.mp hl with hl | hl
  · exact hf l hl
  · rw [List.mem_singleton.mp hl]; exact fun h => nomatch h
theorem twice {many : List Nat} {fs : List Frm} (hm : 10 ∉ many) (g : ∀ f ∈ fs, FrmG f) (ha : Asc (-1) fs) : rdShelf (shelfT many fs ++ shelfT many fs) = none := by
  have hf := shelf_free hm g
  have e : shelfT many fs ++ shelfT many fs = endsL ((cShelf ++ many) :: (fs.flatMap linesF ++ ([cSum ++ sum6 (shelfB many fs)] ++ ((cShelf ++ many) :: fs.flatMap linesF))) ++ [cSum ++ sum6 (shelfB many fs)]) := by
    rw [← endsS, ← endsL_app]
    unfold shelfL
    simp only [List.append_assoc, List.cons_append, List.nil_append]
  refine rd_none ?_ (by simp [shelf_ne])
  rw [e, shLines_ends, rsGo_frms g ha]
  · exact rsGo_sum
  · intro l hl
    refine hf l ?_
    unfold shelfL
    simp only [List.mem_append, List.mem_cons, List.mem_singleton, List.not_mem_nil, or_false] at hl ⊢
    grind
set_option maxHeartbeats 4000000
theorem asc_init {f : Frm} : ∀ {fs : List Frm} {a : Int}, Asc a (fs ++ [f]) → Asc a fs
  | [], _, _ => trivial
  | g :: fs, a, h => ⟨h.1, asc_init h.2⟩
theorem rsGo_init {f : Frm} {fs : List Frm} (g : ∀ x ∈ fs ++ [f], FrmG x) (ha : Asc (-1) (fs ++ [f])) : rsGo (fs.flatMap linesF ++ (headT f.p f.n :: f.rows.map rowT)) [] [] (-1) = some fs := by
  rw [rsGo_frms (fun x hx => g x (List.mem_append_left _ hx)) (asc_init ha)]
  have hn : ∀ l ∈ headT f.p f.n :: f.rows.map rowT, sumLn l = false := fun l hl => by
    rcases List.mem_cons.mp hl with rfl | hl
    · exact head_no_sum
    · obtain ⟨r, hr, rfl⟩ := List.mem_map.mp hl
      exact row_no_sum ((g f (by simp)).rows r hr)
  have e := rsGo_plains (ls := []) (fs := [] ++ fs) (q := []) (a := lastP (-1) fs) hn
  rw [List.append_nil] at e
  rw [e]
  rfl
theorem lines_last {f : Frm} {fs : List Frm} : (fs ++ [f]).flatMap linesF = (fs.flatMap linesF ++ (headT f.p f.n :: f.rows.map rowT)) ++ [cSum ++ sum6 (bodyT f.p f.n f.rows)] := by
  rw [List.flatMap_append, List.flatMap_singleton, List.append_assoc]
  rfl
theorem fewer {f : Frm} {fs : List Frm} : cShelf ++ TL.numL fs.length ≠ cShelf ++ TL.numL (fs ++ [f]).length := fun e => by
  have := TL.numL_inj (app_inj e)
  rw [List.length_append, List.length_singleton] at this
  omega
theorem line_away {f : Frm} {fs : List Frm} (g : ∀ x ∈ fs ++ [f], FrmG x) (ha : Asc (-1) (fs ++ [f])) : rdShelf (shelfB (TL.numL (fs ++ [f]).length) (fs ++ [f])) = none := by
  have hf := shelf_free (num10 (n := (fs ++ [f]).length)) g
  have e : shelfB (TL.numL (fs ++ [f]).length) (fs ++ [f]) = endsL ((cShelf ++ TL.numL (fs ++ [f]).length) :: (fs.flatMap linesF ++ (headT f.p f.n :: f.rows.map rowT)) ++ [cSum ++ sum6 (bodyT f.p f.n f.rows)]) := by
    rw [← endsB, lines_last]
    rfl
  refine rd_count (fs := fs) ?_ ?_ ?_ (x := cShelf ++ TL.numL (fs ++ [f]).length) fewer
  · rw [e, shLines_ends, rsGo_init g ha]
    intro l hl
    refine hf l ?_
    unfold shelfL
    rw [lines_last]
    exact List.mem_append_left _ hl
  · have h : 10 ∉ cShelf ++ TL.numL (fs ++ [f]).length := fun q => (List.mem_append.mp q).elim (fun q => absurd q (by decide)) num10
    have := hd_ends (ls := (fs ++ [f]).flatMap linesF) (r := []) h
    rw [List.append_nil, endsB] at this
    exact this
  · unfold shelfB cShelf
    simp
theorem sign_away {f : Frm} {fs : List Frm} (g : ∀ x ∈ fs ++ [f], FrmG x) (ha : Asc (-1) (fs ++ [f])) : rdShelf (shelfB (TL.numL (fs ++ [f]).length) (fs ++ [f]) ++ (cSum ++ sum6 (shelfB (TL.numL (fs ++ [f]).length) (fs ++ [f])))) = none := by
  have hf := shelf_free (num10 (n := (fs ++ [f]).length)) g
  obtain ⟨B, hB⟩ : ∃ B, B = shelfB (TL.numL (fs ++ [f]).length) (fs ++ [f]) := ⟨_, rfl⟩
  obtain ⟨M, hM⟩ : ∃ M, M = fs.flatMap linesF ++ (headT f.p f.n :: f.rows.map rowT) := ⟨_, rfl⟩
  have eB : B = endsL ((cShelf ++ TL.numL (fs ++ [f]).length) :: (M ++ [cSum ++ sum6 (bodyT f.p f.n f.rows)])) := by
    rw [hB, ← endsB, lines_last, hM]
  have fr : ∀ l ∈ (cShelf ++ TL.numL (fs ++ [f]).length) :: (M ++ [cSum ++ sum6 (bodyT f.p f.n f.rows)]), 10 ∉ l := fun l hl => by
    refine hf l ?_
    unfold shelfL
    rw [lines_last, ← hM]
    exact List.mem_append_left _ hl
  rw [← hB]
  refine rd_count (fs := fs) ?_ ?_ (by simp [cSum]) (x := cShelf ++ TL.numL (fs ++ [f]).length) fewer
  · have e2 : shLines (B ++ (cSum ++ sum6 B)) = M := by
      unfold shLines
      have e3 : TL.spl [10] 0 [] (cSum ++ sum6 B) = [cSum ++ sum6 B] := TL.spl_last1 sumline_free
      rw [eB, spl_ends fr, ← eB, e3]
      have e4 : ((cShelf ++ TL.numL (fs ++ [f]).length) :: (M ++ [cSum ++ sum6 (bodyT f.p f.n f.rows)]) ++ [cSum ++ sum6 B]).drop 1 = M ++ ([cSum ++ sum6 (bodyT f.p f.n f.rows)] ++ [cSum ++ sum6 B]) := by
        show M ++ [cSum ++ sum6 (bodyT f.p f.n f.rows)] ++ [cSum ++ sum6 B] = _
        rw [List.append_assoc]
      have e5 : ((cShelf ++ TL.numL (fs ++ [f]).length) :: (M ++ [cSum ++ sum6 (bodyT f.p f.n f.rows)]) ++ [cSum ++ sum6 B]).length - 3 = M.length := by
        simp only [List.length_append, List.length_cons, List.length_nil]
        omega
      rw [e4, e5, List.take_left']
      rfl
    rw [e2, hM]
    exact rsGo_init g ha
  · rw [eB]
    exact hd_ends (fr _ List.mem_cons_self)
theorem dig_pad : ∀ {k : Nat} {l : List Nat}, NumText.digitsVal (List.replicate k 48 ++ l) = NumText.digitsVal l
  | 0, _ => rfl
  | k + 1, l => by
    rw [List.replicate_succ]
    show (List.replicate k 48 ++ l).foldl (fun acc c => acc * 10 + (c - 48)) (0 * 10 + (48 - 48)) = _
    exact dig_pad (k := k) (l := l)
theorem sum6_val {t : List Nat} : NumText.digitsVal (sum6 t) = sumT t % 65521 := by
  unfold sum6 zpad
  rw [dig_pad, TL.numL_val]
theorem cop : ∀ d : Fin 128, d.val ≠ 0 → Nat.gcd 65521 d.val = 1 := by decide +kernel
theorem one_weight {x c c' m : Nat} (hc : c < 128) (hc' : c' < 128) (h0 : 0 < m) (hm : m < 65521) (h : (x + c * m) % 65521 = (x + c' * m) % 65521) : c = c' := by
  have go : ∀ {c c' : Nat}, c < 128 → c' < 128 → (x + c * m) % 65521 = (x + c' * m) % 65521 → c < c' → False := by
    intro c c' hc hc' h hlt
    have h1 := Nat.sub_mod_eq_zero_of_mod_eq h.symm
    have e : x + c' * m - (x + c * m) = m * (c' - c) := by
      rw [Nat.add_sub_add_left, ← Nat.sub_mul, Nat.mul_comm]
    rw [e] at h1
    have hd : 65521 ∣ m * (c' - c) := Nat.dvd_of_mod_eq_zero h1
    have hg : Nat.Coprime 65521 (c' - c) := cop ⟨c' - c, by omega⟩ (by show c' - c ≠ 0; omega)
    have := Nat.le_of_dvd h0 (hg.dvd_of_dvd_mul_right hd)
    omega
  rcases Nat.lt_trichotomy c c' with hlt | e | hlt
  · exact (go hc hc' h hlt).elim
  · exact e
  · exact (go hc' hc h.symm hlt).elim
theorem sum_at {t : List Nat} {p c : Nat} (h : t[p]? = some c) : sumT t = sumFrom 0 (t.take p) + sumFrom (p + 1) (t.drop (p + 1)) + c * (p + 1) := by
  have hp : p < t.length := (List.getElem?_eq_some_iff.mp h).1
  have e : t = t.take p ++ (c :: t.drop (p + 1)) := by
    have h1 := List.getElem?_eq_getElem hp
    rw [h1] at h
    have h2 := List.drop_eq_getElem_cons hp
    rw [Option.some.inj h] at h2
    rw [← h2, List.take_append_drop]
  have e2 : sumT t = sumFrom 0 (t.take p ++ (c :: t.drop (p + 1))) := by rw [← e]; rfl
  rw [e2, sumFrom_app, List.length_take, Nat.min_eq_left (Nat.le_of_lt hp), Nat.zero_add]
  show _ + (c * (p + 1) + _) = _
  omega
theorem bent_go {t B : List Nat} {p c : Nat} (etc : t = closeT B) (hl : t.length ≤ 60000) (ht : asc t) (hc : c < 128) (hp : p < t.length) (hne : t[p]? ≠ some c) : rdShelf (t.take p ++ [c] ++ t.drop (p + 1)) = none := by
  obtain ⟨u, hu⟩ : ∃ u, u = t.take p ++ [c] ++ t.drop (p + 1) := ⟨_, rfl⟩
  have ul : u.length = t.length := by
    rw [hu, List.length_append, List.length_append, List.length_take, List.length_drop, List.length_singleton]
    omega
  have uat : ∀ i, u[i]? = if i = p then some c else t[i]? := fun i => by
    rw [hu]
    by_cases h1 : i < p
    · rw [if_neg (by omega), List.append_assoc, List.getElem?_append_left (by rw [List.length_take]; omega), List.getElem?_take_of_lt h1]
    · by_cases h2 : i = p
      · rw [if_pos h2, h2, List.append_assoc, List.getElem?_append_right (by rw [List.length_take]; omega), List.length_take, Nat.min_eq_left (by omega), Nat.sub_self]
        rfl
      · rw [if_neg h2, List.getElem?_append_right (by rw [List.length_append, List.length_take, List.length_singleton]; omega), List.getElem?_drop]
        congr 1
        rw [List.length_append, List.length_take, List.length_singleton]
        omega
  rw [← hu]
  cases hr : rdShelf u with
  | none => rfl
  | some gs =>
    exfalso
    have h0 : u ≠ [] := fun q => by rw [q] at ul; simp at ul; omega
    have hs : shelfOf gs = u := by
      unfold rdShelf at hr
      rw [if_neg h0] at hr
      split at hr
      · cases hr
      · split at hr
        · cases hr; assumption
        · cases hr
    have hgn : gs ≠ [] := fun q => by
      rw [q] at hs
      exact h0 hs.symm
    unfold shelfOf at hs
    rw [if_neg hgn] at hs
    obtain ⟨C, hC⟩ : ∃ C, C = shelfB (TL.numL gs.length) gs := ⟨_, rfl⟩
    have euc : u = closeT C := by rw [← hs, hC]; rfl
    have lc : C.length = B.length := by
      have h1 : u.length = C.length + 11 := by rw [euc]; exact close_len
      have h2 : t.length = B.length + 11 := by rw [etc]; exact close_len
      omega
    have atC : ∀ i, i < C.length → u[i]? = C[i]? := fun i hi => by
      rw [euc]
      unfold closeT
      rw [List.append_assoc, List.append_assoc, List.getElem?_append_left hi]
    have atB : ∀ i, i < B.length → t[i]? = B[i]? := fun i hi => by
      rw [etc]
      unfold closeT
      rw [List.append_assoc, List.append_assoc, List.getElem?_append_left hi]
    by_cases hpb : p < B.length
    · -- the sum is the same, one weight is not
      have es : sum6 C = sum6 B := by
        have e1 : (u.drop (C.length + 4)).take 6 = sum6 C := by
          rw [euc]
          unfold closeT
          have e : C ++ cSum ++ sum6 C ++ [10] = (C ++ cSum) ++ (sum6 C ++ [10]) := by rw [List.append_assoc]
          rw [e, List.drop_left' (by rw [List.length_append]; rfl), List.take_left' sum6_len]
        have e2 : (t.drop (B.length + 4)).take 6 = sum6 B := by
          rw [etc]
          unfold closeT
          have e : B ++ cSum ++ sum6 B ++ [10] = (B ++ cSum) ++ (sum6 B ++ [10]) := by rw [List.append_assoc]
          rw [e, List.drop_left' (by rw [List.length_append]; rfl), List.take_left' sum6_len]
        rw [← e1, ← e2, lc]
        congr 1
        refine List.ext_getElem? fun i => ?_
        rw [List.getElem?_drop, List.getElem?_drop, uat, if_neg (by omega)]
      have ev : sumT C % 65521 = sumT B % 65521 := by rw [← sum6_val, ← sum6_val, es]
      obtain ⟨b, hb⟩ : ∃ b, B[p]? = some b := ⟨_, List.getElem?_eq_getElem hpb⟩
      have hcp : C[p]? = some c := by rw [← atC p (by omega), uat, if_pos rfl]
      have hb2 : b < 128 := ht b (List.mem_of_getElem? (show t[p]? = some b by rw [atB p hpb, hb]))
      have lb : B.length + 11 = t.length := by rw [etc]; exact close_len.symm
      have same : ∀ i, i ≠ p → C[i]? = B[i]? := fun i hi => by
        by_cases q : i < B.length
        · rw [← atC i (by omega), ← atB i q, uat, if_neg hi]
        · rw [List.getElem?_eq_none (by omega), List.getElem?_eq_none (by omega)]
      have e1 : C.take p = B.take p := List.ext_getElem? fun i => by
        by_cases q : i < p
        · rw [List.getElem?_take_of_lt q, List.getElem?_take_of_lt q, same i (by omega)]
        · rw [List.getElem?_take_eq_none (by omega), List.getElem?_take_eq_none (by omega)]
      have e2 : C.drop (p + 1) = B.drop (p + 1) := List.ext_getElem? fun i => by
        rw [List.getElem?_drop, List.getElem?_drop, same _ (by omega)]
      rw [sum_at hcp, sum_at hb, e1, e2] at ev
      have := one_weight hc hb2 (Nat.succ_pos p) (by omega) ev
      refine hne ?_
      rw [atB p hpb, hb, this]
    · -- the text ahead of the sum is the same, so its sum is
      have eCB : C = B := List.ext_getElem? fun i => by
        by_cases q : i < B.length
        · rw [← atC i (by omega), ← atB i q, uat, if_neg (by omega)]
        · rw [List.getElem?_eq_none (by omega), List.getElem?_eq_none (by omega)]
      have : u = t := by rw [euc, etc, eCB]
      have h1 := uat p
      rw [this, if_pos rfl] at h1
      exact hne h1
theorem bent_none {many : List Nat} {fs : List Frm} {p c : Nat} (hl : (shelfT many fs).length ≤ 60000) (ht : asc (shelfT many fs)) (hc : c < 128) (hp : p < (shelfT many fs).length) (hne : (shelfT many fs)[p]? ≠ some c) :
    rdShelf ((shelfT many fs).take p ++ [c] ++ (shelfT many fs).drop (p + 1)) = none := bent_go rfl hl ht hc hp hne
set_option maxHeartbeats 4000000
def menuL : List (List Nat) := [[46], [48, 46, 122], [97], [112, 97, 103, 101], [115, 104, 101, 108, 102], [115, 117, 109], [122, 122, 122, 122, 122, 122, 122, 122, 122, 122, 122, 122]]
theorem lit_menu : [D.str (Str.ofString "."), .str (Str.ofString "0.z"), .str (Str.ofString "a"), .str (Str.ofString "page"), .str (Str.ofString "shelf"), .str (Str.ofString "sum"), .str (Str.ofString "zzzzzzzzzzzz")] = menuL.map tx := by kernel_rfl
theorem menu_ok : (∀ k ∈ menuL, keyB k = true) ∧ menuL.Pairwise (· < ·) := by
  refine ⟨by decide +kernel, by decide +kernel⟩
def numsL : List Int := [0, 1, -7, 1000000000000, -1000000000000, 65521]
structure RowsG (rows : List Row) : Prop where
  g : ∀ r ∈ rows, RowG r
  l : rows.length ≤ 3
  a : rows.Pairwise fun x y => x.1 < y.1
theorem und_row {n : Nat} {r : Row} : D.und n (rowD r) = true := by
  unfold rowD
  rw [und_tup, unds_cons, unds_cons, und_tx, und_tup, unds_ints]
  rfl
theorem unds_rows {n : Nat} : ∀ {rows : List Row}, D.unds n (rows.map rowD) = true
  | [] => rfl
  | r :: rows => by rw [List.map_cons, unds_cons, und_row, unds_rows]; rfl
theorem law_rows_spec {k : Nat} {p : Po} {t : Store} {Q : KQ} (hp : p.ok) (h : ∀ p' rows, Po.ok p' → RowsG rows → Q (.tup (rows.map rowD)) (PB p' t)) : cl (mx P G fuel (k + 2)) f_L_rows [.ref 2] Q (PB p t) := by
  refine cl_fd P_L_rows rfl ?_
  unfold fd_L_rows
  simp! only []
  rw [lit_menu, trunc_keep (by rw [und_ref, PB_len]; simp), PB_app, PB_len]
  obtain ⟨u, hu⟩ : ∃ u, u = t ++ [Cell.lst (menuL.map tx)] := ⟨_, rfl⟩
  have ul : u.length = t.length + 1 := by rw [hu, List.length_append, List.length_singleton]
  have hm : ∀ (q : Po) (v : Store), isLst (PB q u ++ v) (t.length + 3) = some (menuL.map tx) := fun q v => by
    rw [hu, PB_app, List.append_assoc, ← PB_app, isLst_new0 PB_len]
    rfl
  have hm0 : ∀ q : Po, isLst (PB q u) (t.length + 3) = some (menuL.map tx) := fun q => by have := hm q []; rwa [List.append_nil] at this
  rw [← hu, hm0, wkL_some, wO_some]
  simp! only []
  refine lc_go (fun r acc s2 => ∃ (p' : Po) (ks dn left : List (List Nat)), p'.ok ∧ s2 = PB p' u ∧ acc = ks.map tx ∧ r = left.map tx ∧ menuL = dn ++ left ∧ ks.Sublist dn) ⟨p, [], [], menuL, hp, rfl, rfl, rfl, rfl, List.Sublist.refl _⟩ ?_ ?_ ?_
  · rintro r acc s2 ⟨p', ks, dn, left, hp', rfl, rfl, rfl, e, sb⟩
    refine ⟨by rw [PB_len, PB_len], ?_, ?_⟩
    · rw [stays_one]
      exact hm _ _
    · have h1 := sb.length_le
      have h2 := congrArg List.length e
      rw [List.length_append] at h2
      have h3 : menuL.length = 7 := rfl
      rw [List.length_map, List.length_map]
      exact Nat.lt_of_le_of_lt (show _ ≤ 1000000 by omega) line_big
  · rintro x r acc s2 ⟨p', ks, dn, left, hp', rfl, rfl, e0, e, sb⟩
    cases left with
    | nil => cases e0
    | cons y left =>
      obtain ⟨rfl, rfl⟩ := List.cons.inj e0
      have ee : menuL = (dn ++ [y]) ++ left := by rw [e, List.append_assoc]; rfl
      simp! only [lcTP_1]
      rw [PB_app]
      refine draw_spec hp' (by omega) (by omega) fun v p2 a1 b1 hp2 => ?_
      rw [← PB_app]
      by_cases c : v = 0
      · subst c
        simp! only [eqD_int]
        rw [PB_app, PB_trunc, ← PB_app]
        exact ⟨PB p2 u, rfl, p2, ks ++ [y], dn ++ [y], left, hp2, rfl, by rw [List.map_append]; rfl, rfl, ee, sb.append (List.Sublist.refl _)⟩
      · simp! only [eqD_int, c]
        rw [PB_app, PB_trunc, ← PB_app]
        exact ⟨PB p2 u, rfl, p2, ks, dn ++ [y], left, hp2, rfl, by simp, rfl, ee, sb.trans (List.sublist_append_left _ _)⟩
  · rintro acc s2 ⟨p', ks, dn, left, hp', rfl, rfl, e0, e, sb⟩
    have hl : left = [] := by
      cases left with
      | nil => rfl
      | cons => cases e0
    rw [hl, List.append_nil] at e
    rw [← e] at sb
    obtain ⟨ys, hys⟩ : ∃ ys, ys = ks.take 3 := ⟨_, rfl⟩
    have yl : ys.length ≤ 3 := by rw [hys, List.length_take]; omega
    have ysub : ys.Sublist menuL := by rw [hys]; exact (List.take_sublist _ _).trans sb
    have ec : cutD (ks.map tx) none (some 3) = ys.map tx := by rw [cut_to (by decide), hys, ← List.map_take]; rfl
    have kl : ks.length ≤ 7 := sb.length_le
    simp! only [PB_len]
    have g0 : isLst (PB p' u ++ [Cell.lst (ks.map tx)]) (u.length + 3) = some (ks.map tx) := by rw [isLst_new0 PB_len]; rfl
    rw [g0]
    simp! only [slL_some, ec]
    refine br.pos (by rw [List.length_map]; exact Nat.le_of_lt (Nat.lt_of_le_of_lt (show ys.length ≤ 1000000 by omega) line_big)) ?_
    have et : ∀ z, trunc (PB p u) (.ref (PB p' u ++ [Cell.lst (ks.map tx)]).length) z = z := fun z => trunc_keep (by rw [und_ref]; exact decide_eq_false (by rw [PB_len, List.length_append, PB_len]; omega))
    simp! only [et]
    rw [PB_app, PB_app, PB_len, PB_len]
    obtain ⟨u3, hu3⟩ : ∃ u3, u3 = u ++ [Cell.lst (ks.map tx)] ++ [Cell.lst (ys.map tx)] ++ [Cell.lst (numsL.map .int)] := ⟨_, rfl⟩
    have e3 : PB p' (u ++ [Cell.lst (ks.map tx)] ++ [Cell.lst (ys.map tx)]) ++ [Cell.lst [.int 0, .int 1, .int (-7), .int 1000000000000, .int (-1000000000000), .int 65521]] = PB p' u3 := by rw [PB_app, hu3]; rfl
    have hyl : ∀ (q : Po) (v : Store), isLst (PB q u3 ++ v) ((u ++ [Cell.lst (ks.map tx)]).length + 3) = some (ys.map tx) := fun q v => by
      rw [hu3, PB_app, List.append_assoc, List.append_assoc, ← PB_app, isLst_new0 PB_len]
      rfl
    have hnl : ∀ (q : Po) (v : Store), isLst (PB q u3 ++ v) ((u ++ [Cell.lst (ks.map tx)] ++ [Cell.lst (ys.map tx)]).length + 3) = some (numsL.map .int) := fun q v => by
      rw [hu3, PB_app, List.append_assoc, ← PB_app, isLst_new0 PB_len]
      rfl
    have u3l : ∀ q : Po, (PB q u3).length = u3.length + 3 := fun q => PB_len
    rw [trunc_keep (by rw [und_ref, PB_len]; simp), e3]
    obtain ⟨N, hN⟩ : ∃ N, N = (u ++ [Cell.lst (ks.map tx)] ++ [Cell.lst (ys.map tx)]).length + 3 := ⟨_, rfl⟩
    obtain ⟨Y, hY⟩ : ∃ Y, Y = (u ++ [Cell.lst (ks.map tx)]).length + 3 := ⟨_, rfl⟩
    rw [← hN, ← hY]
    rw [← hN] at hnl
    rw [← hY] at hyl
    have hyl0 : ∀ q : Po, isLst (PB q u3) Y = some (ys.map tx) := fun q => by have := hyl q []; rwa [List.append_nil] at this
    rw [hyl0, wkL_some, wO_some]
    simp! only []
    refine lc_go (fun r acc s2 => ∃ (q : Po) (rows : List Row) (left : List (List Nat)), q.ok ∧ s2 = PB q u3 ∧ acc = rows.map rowD ∧ r = left.map tx ∧ ys = rows.map Prod.fst ++ left ∧ ∀ x ∈ rows, RowG x) ⟨p', [], ys, hp', rfl, rfl, rfl, rfl, (fun _ h => nomatch h)⟩ ?_ ?_ ?_
    · rintro r acc s2 ⟨q, rows, left, hq, rfl, rfl, rfl, ey, hg⟩
      refine ⟨by rw [PB_len, PB_len], ?_, ?_⟩
      · rw [stays_one]
        exact hyl _ _
      · have := congrArg List.length ey
        rw [List.length_append, List.length_map] at this
        rw [List.length_map, List.length_map]
        exact Nat.lt_of_le_of_lt (show _ ≤ 1000000 by omega) line_big
    · rintro x r acc s2 ⟨q, rows, left, hq, rfl, rfl, e0, ey, hg⟩
      cases left with
      | nil => cases e0
      | cons y left =>
        obtain ⟨rfl, rfl⟩ := List.cons.inj e0
        have hyk : keyB y = true := menu_ok.1 y (ysub.subset (by rw [ey]; simp))
        simp! only [lcTP_0]
        rw [PB_app]
        refine draw_spec hq (by omega) (by omega) fun v q2 a1 b1 hq2 => ?_
        obtain ⟨m, rfl⟩ := Int.eq_ofNat_of_zero_le a1
        have em : (1 : Int) + (m : Nat) = ((1 + m : Nat) : Int) := by omega
        simp! only [em, rng_of (show 1 + m ≤ 1000 by omega)]
        refine lc_go (fun r acc2 s2 => ∃ (q3 : Po) (vs : List Int), q3.ok ∧ s2 = PB q3 (u3 ++ [Cell.lst (rows.map rowD)]) ∧ acc2 = vs.map .int ∧ (∀ i ∈ vs, i ∈ numsL) ∧ vs.length + r.length = 1 + m) ⟨q2, [], hq2, rfl, rfl, (fun _ h => nomatch h), by rw [nL_len, List.length_range]; simp⟩ ?_ ?_ ?_
        · rintro r acc2 s2 ⟨q3, vs, hq3, rfl, rfl, hvs, hc⟩
          refine ⟨by rw [PB_len, PB_len], rfl, ?_⟩
          rw [List.length_map]
          exact Nat.lt_of_le_of_lt (show _ ≤ 1000000 by omega) line_big
        · rintro z r acc2 s2 ⟨q3, vs, hq3, rfl, rfl, hvs, hc⟩
          have hN2 : ∀ q : Po, isLst (PB q (u3 ++ [Cell.lst (rows.map rowD)] ++ [Cell.lst (vs.map .int)])) N = some (numsL.map .int) := fun q => by
            rw [List.append_assoc, ← PB_app]
            exact hnl _ _
          simp! only [lcTP_0]
          rw [PB_app]
          refine draw_spec hq3 (by omega) (by omega) fun v q4 a3 b3 hq4 => ?_
          obtain ⟨j, rfl⟩ := Int.eq_ofNat_of_zero_le a3
          obtain ⟨w, hw⟩ : ∃ w, numsL[j]? = some w := ⟨_, List.getElem?_eq_getElem (show j < numsL.length from by show j < 6; omega)⟩
          simp! only []
          rw [hN2, ixR_some, atD_nat, List.getElem?_map, hw]
          simp! only [Option.map_some]
          rw [PB_trunc, ← PB_app]
          refine ⟨_, rfl, q4, vs ++ [w], hq4, rfl, by rw [List.map_append]; rfl, ?_, ?_⟩
          · intro i hi
            rcases List.mem_append.mp hi with hi | hi
            · exact hvs i hi
            · rw [List.mem_singleton.mp hi]; exact List.mem_of_getElem? hw
          · rw [List.length_append, List.length_singleton]
            rw [List.length_cons] at hc
            omega
        · rintro acc2 s2 ⟨q3, vs, hq3, rfl, rfl, hvs, hc⟩
          rw [List.length_nil, Nat.add_zero] at hc
          have hg3 : isLst (PB q3 (u3 ++ [Cell.lst (rows.map rowD)]) ++ [Cell.lst (vs.map .int)]) ((u3 ++ [Cell.lst (rows.map rowD)]).length + 3) = some (vs.map .int) := by rw [isLst_new0 PB_len]; rfl
          have er : D.tup [tx y, .tup (vs.map .int)] = rowD (y, vs) := rfl
          simp! only [PB_len]
          rw [hg3, tpL_some]
          simp! only []
          rw [er, PB_drop und_row, ← PB_app]
          refine ⟨PB q3 u3, rfl, q3, rows ++ [(y, vs)], left, hq3, rfl, by rw [List.map_append]; rfl, rfl, by rw [ey, List.map_append, List.append_assoc]; rfl, ?_⟩
          intro x hx
          rcases List.mem_append.mp hx with hx | hx
          · exact hg x hx
          · rw [List.mem_singleton.mp hx]
            refine ⟨hyk, by show 1 ≤ vs.length; omega, by show vs.length ≤ 4; omega, fun i hi => ?_⟩
            have hi := hvs i hi
            simp only [numsL, List.mem_cons, List.not_mem_nil, or_false] at hi
            omega
    · rintro acc s2 ⟨q, rows, left, hq, rfl, rfl, e0, ey, hg⟩
      have hl : left = [] := by
        cases left with
        | nil => rfl
        | cons => cases e0
      rw [hl, List.append_nil] at ey
      have hgl : isLst (PB q u3 ++ [Cell.lst (rows.map rowD)]) (u3.length + 3) = some (rows.map rowD) := by rw [isLst_new0 PB_len]; rfl
      simp! only [PB_len]
      rw [hgl, tpL_some]
      simp! only []
      have e4 : PB q u3 = PB q t ++ ([Cell.lst (menuL.map tx)] ++ [Cell.lst (ks.map tx)] ++ [Cell.lst (ys.map tx)] ++ [Cell.lst (numsL.map .int)]) := by
        rw [hu3, hu, PB_app]
        simp only [List.append_assoc]
      rw [PB_drop (by rw [und_tup]; exact unds_rows), e4, PB_drop (by rw [und_tup]; exact unds_rows)]
      refine h q rows hq ⟨hg, ?_, ?_⟩
      · have := congrArg List.length ey
        rw [List.length_map] at this
        omega
      · have := menu_ok.2.sublist ysub
        rw [ey] at this
        exact List.pairwise_map.mp this
set_option maxHeartbeats 4000000
def AscN (a : Int) : List Nat → Prop
  | [] => True
  | p :: ps => a < (p : Nat) ∧ AscN (p : Nat) ps
theorem asc_of : ∀ {fs : List Frm} {a : Int}, AscN a (fs.map Frm.p) → Asc a fs
  | [], _, _ => trivial
  | f :: fs, a, h => ⟨h.1, asc_of h.2⟩
def numbersL : List Nat := [0, 1, 17, 1000000000000]
theorem unds_frms {n : Nat} : ∀ {fs : List Frm}, D.unds n (fs.map Frm.d) = true
  | [] => rfl
  | f :: fs => by rw [List.map_cons, unds_cons, und_frm, unds_frms]; rfl
theorem frames_loop {k n F : Nat} {p p0 : Po} {t V : Store} {ps : List Nat} {Q : KQ} (hp : p.ok) (hn : ∀ (q : Po) (l : List D), isLst (PB q (t ++ V ++ [.lst l])) n = some (nL ps)) (hF : F = (t ++ V).length + 3) (hps : ∀ a ∈ ps, a ≤ 31) (hl : ps.length ≤ 4)
    (h : ∀ (p' : Po) (fs : List Frm), Po.ok p' → (∀ f ∈ fs, FrmG f ∧ FrmOk f) → fs.map Frm.p = ps → Q (.tup (fs.map Frm.d)) (PB p' t)) :
    blk (mx P G fuel (k + 3)) [.for (.nm 3) (.val (.var 1)) [.asg (.nm 4) (.ix (.lst [(.int 0), (.int 1), (.int 17), (.int 1000000000000)]) (.call f_L_draw [(.var 0), (.int 4)])),
      .expr (.app (.var 2) (.tup [(.var 3), (.var 4), (.call f_L_rows [(.var 0)])]))], .ret (.bi .tuple [(.var 2)])] [some (.ref 2), some (.ref n), some (.ref F), none, none] (kEnd' (PB p0 t) Q) (PB p (t ++ V ++ [.lst []])) := by
  simp! only []
  rw [hn, wkL_some, wO_some]
  simp! only []
  refine for_map nD (xs := ps) (fun dn l ρ s' => ∃ (q : Po) (fs : List Frm) (c3 c4 : Option D), q.ok ∧ (∀ f ∈ fs, FrmG f ∧ FrmOk f) ∧ fs.map Frm.p = dn ∧ s' = PB q (t ++ V ++ [.lst (fs.map Frm.d)]) ∧ ρ = [some (.ref 2), some (.ref n), some (.ref F), c3, c4]) (fun dn l ρ s' hI => by
      obtain ⟨q, fs, c3, c4, _, _, _, rfl, _⟩ := hI
      rw [stays_one]
      exact hn q _) ⟨p, [], none, none, hp, (fun _ h => nomatch h), rfl, rfl, rfl⟩ ?_ ?_
  · rintro dn a l ρ s' e ⟨q, fs, c3, c4, hq, hg, hdn, rfl, rfl⟩
    have ha : a ≤ 31 := hps a (by rw [← e]; simp)
    have hfl : fs.length ≤ 4 := by
      have h1 := congrArg List.length hdn
      have h2 := congrArg List.length e
      rw [List.length_map] at h1
      rw [List.length_append] at h2
      omega
    have hFl : ∀ (q : Po) (l : List D), isLst (PB q (t ++ V ++ [.lst l])) F = some l := fun q l => by
      rw [← PB_app, hF, isLst_new0 PB_len]
      rfl
    have hFs : ∀ (q : Po) (l l' : List D), (PB q (t ++ V ++ [.lst l])).set F (.lst l') = PB q (t ++ V ++ [.lst l']) := fun q l l' => by
      have e : ∀ l : List D, PB q (t ++ V ++ [.lst l]) = PB q (t ++ V) ++ [.lst l] := fun l => PB_app.symm
      rw [e, e, List.set_append, if_neg (by rw [PB_len, hF]; omega), PB_len, hF, Nat.sub_self]
      rfl
    rw [nD_int]
    simp! only []
    rw [PB_app]
    refine draw_spec hq (by omega) (by omega) fun v q2 a1 b1 hq2 => ?_
    obtain ⟨j, rfl⟩ := Int.eq_ofNat_of_zero_le a1
    obtain ⟨w, hw⟩ : ∃ w, numbersL[j]? = some w := ⟨_, List.getElem?_eq_getElem (show j < numbersL.length from by show j < 4; omega)⟩
    have hwl : w ≤ 1000000000000 := by
      have := List.mem_of_getElem? hw
      simp only [numbersL, List.mem_cons, List.not_mem_nil, or_false] at this
      omega
    have en : [D.int 0, D.int 1, D.int 17, D.int 1000000000000] = nL numbersL := rfl
    rw [en]
    simp! only [PB_len]
    have gt : isLst (PB q2 (t ++ V ++ [Cell.lst (fs.map Frm.d)] ++ [Cell.lst (nL numbersL)])) ((t ++ V ++ [Cell.lst (fs.map Frm.d)]).length + 3) = some (nL numbersL) := by
      rw [← PB_app, isLst_new0 PB_len]
      rfl
    rw [gt, ixR_some, atD_nat, nL_get, hw]
    simp! only [Option.map_some, nD_int]
    have tr : trunc (PB q (t ++ V ++ [Cell.lst (fs.map Frm.d)])) (.int (w : Nat)) (PB q2 (t ++ V ++ [Cell.lst (fs.map Frm.d)] ++ [Cell.lst (nL numbersL)])) = PB q2 (t ++ V ++ [Cell.lst (fs.map Frm.d)]) := by
      have e : PB q2 (t ++ V ++ [Cell.lst (fs.map Frm.d)] ++ [Cell.lst (nL numbersL)]) = PB q2 (t ++ V ++ [Cell.lst (fs.map Frm.d)]) ++ [Cell.lst (nL numbersL)] := PB_app.symm
      rw [e]
      exact PB_drop und_int
    rw [tr, hFl]
    simp! only []
    refine law_rows_spec (k := k + 1) hq2 fun q3 rows hq3 rg => ?_
    have l6 : (fs.map Frm.d).length ≤ 1000000 := by rw [List.length_map]; omega
    simp! only []
    rw [hFl]
    simp! only [l6]
    rw [hFs]
    have ef : D.tup [.int (a : Nat), .int (w : Nat), .tup (rows.map rowD)] = Frm.d ⟨a, w, rows⟩ := rfl
    rw [ef]
    have tr2 : trunc (PB q2 (t ++ V ++ [Cell.lst (fs.map Frm.d)])) .non (PB q3 (t ++ V ++ [Cell.lst (fs.map Frm.d ++ [Frm.d ⟨a, w, rows⟩])])) = PB q3 (t ++ V ++ [Cell.lst (fs.map Frm.d ++ [Frm.d ⟨a, w, rows⟩])]) := by
      have e : ∀ (q : Po) (l : List D), PB q (t ++ V ++ [.lst l]) = PB q (t ++ V) ++ [.lst l] := fun q l => PB_app.symm
      rw [e, e]
      refine trunc_mut0 (agree_cat (PB_agree (by rw [List.length_append, PB_len]; omega)) (by rw [PB_len, PB_len]) ?_) (by rw [List.length_append, List.length_append, PB_len, PB_len]; rfl)
      have ua : ∀ m, D.unds m (fs.map Frm.d ++ [Frm.d ⟨a, w, rows⟩]) = true := fun m => by rw [unds_app, unds_frms, unds_cons, und_frm]; rfl
      simp only [agree, Cell.und, ua, Bool.or_true, Bool.true_and]
    rw [tr2]
    refine ⟨q3, fs ++ [⟨a, w, rows⟩], _, _, hq3, ?_, by rw [List.map_append, hdn]; rfl, by rw [List.map_append]; rfl, rfl⟩
    intro f hf
    rcases List.mem_append.mp hf with hf | hf
    · exact hg f hf
    · rw [List.mem_singleton.mp hf]
      refine ⟨⟨ha, hwl, rg.g, by have := rg.l; show rows.length ≤ 12; omega, rg.a⟩, ⟨by show a < _; omega, by show w < _; omega, fun r hr => ?_, by have := rg.l; show rows.length ≤ 12; omega⟩⟩
      have g := rg.g r hr
      have kb := g.k
      unfold keyB at kb
      simp only [Bool.and_eq_true, decide_eq_true_eq] at kb
      exact ⟨(key_asc g.k).1, kb.1.2, g.l4, fun i hi => by have := g.v i hi; omega⟩
  · rintro ρ s' ⟨q, fs, c3, c4, hq, hg, hdn, rfl, rfl⟩
    have hFl : isLst (PB q (t ++ V ++ [.lst (fs.map Frm.d)])) F = some (fs.map Frm.d) := by
      rw [← PB_app, hF, isLst_new0 PB_len]
      rfl
    simp! only []
    rw [hFl, tpL_some]
    simp! only []
    have e4 : PB q (t ++ V ++ [Cell.lst (fs.map Frm.d)]) = PB q t ++ (V ++ [Cell.lst (fs.map Frm.d)]) := by rw [PB_app, List.append_assoc]
    rw [e4, PB_drop (by rw [und_tup]; exact unds_frms)]
    exact h q fs hq hg hdn
theorem at_V {q : Po} {t V w : Store} {i : Nat} {L : List D} (h : V[i]? = some (.lst L)) : isLst (PB q (t ++ V ++ w)) (t.length + 3 + i) = some L := by
  have hi : i < V.length := (List.getElem?_eq_some_iff.mp h).1
  unfold isLst
  rw [List.append_assoc, ← PB_app, List.getElem?_append_right (by rw [PB_len]; omega), PB_len, show t.length + 3 + i - (t.length + 3) = i from by omega, List.getElem?_append_left hi, h]
theorem law_frames_spec {k : Nat} {p : Po} {t : Store} {Q : KQ} (hp : p.ok) (h : ∀ (p' : Po) (fs : List Frm), Po.ok p' → (∀ f ∈ fs, FrmG f ∧ FrmOk f) → Asc (-1) fs → fs ≠ [] → fs.length ≤ 4 → Q (.tup (fs.map Frm.d)) (PB p' t)) : cl (mx P G fuel (k + 4)) f_L_frames [.ref 2] Q (PB p t) := by
  refine cl_fd P_L_frames rfl ?_
  have eb : fd_L_frames.body = .par [1, 2] [(.ix (.lst [(.lst [(.int 0), (.int 31)]), (.lst [(.int 0), (.int 1), (.int 2), (.int 31)]), (.lst [(.int 5)]), (.lst [(.call f_L_draw [(.var 0), (.int 16)]), (.bin .Add (.int 16) (.call f_L_draw [(.var 0), (.int 16)]))])]) (.call f_L_draw [(.var 0), (.int 4)])), (.lst [])] ::
    [.for (.nm 3) (.val (.var 1)) [.asg (.nm 4) (.ix (.lst [(.int 0), (.int 1), (.int 17), (.int 1000000000000)]) (.call f_L_draw [(.var 0), (.int 4)])),
      .expr (.app (.var 2) (.tup [(.var 3), (.var 4), (.call f_L_rows [(.var 0)])]))], .ret (.bi .tuple [(.var 2)])] := rfl
  rw [eb]
  unfold fd_L_frames
  have fin : ∀ (p' : Po) (V : Store) (n F : Nat) (ps : List Nat), p'.ok → (∀ (q : Po) (l : List D), isLst (PB q (t ++ V ++ [.lst l])) n = some (nL ps)) → F = (t ++ V).length + 3 → (∀ a ∈ ps, a ≤ 31) → ps.length ≤ 4 → AscN (-1) ps → ps ≠ [] →
      blk (mx P G fuel (k + 3)) [.for (.nm 3) (.val (.var 1)) [.asg (.nm 4) (.ix (.lst [(.int 0), (.int 1), (.int 17), (.int 1000000000000)]) (.call f_L_draw [(.var 0), (.int 4)])),
      .expr (.app (.var 2) (.tup [(.var 3), (.var 4), (.call f_L_rows [(.var 0)])]))], .ret (.bi .tuple [(.var 2)])] [some (.ref 2), some (.ref n), some (.ref F), none, none] (kEnd' (PB p t) Q) (PB p' (t ++ V ++ [.lst []])) := by
    intro p' V n F ps hp' h1 h2 h3 h4 h5 h6
    refine frames_loop hp' h1 h2 h3 h4 fun p2 fs g1 g2 g3 => ?_
    refine h p2 fs g1 g2 (asc_of (by rw [g3]; exact h5)) (fun z => ?_) ?_
    · rw [z] at g3
      exact h6 g3.symm
    · have := congrArg List.length g3
      rw [List.length_map] at this
      omega
  rw [blk_cons, st_par]
  simp! only []
  rw [PB_app, PB_app, PB_app]
  refine draw_spec hp (by omega) (by omega) fun a p1 a1 b1 hp1 => ?_
  simp! only []
  refine draw_spec hp1 (by omega) (by omega) fun b p2 a2 b2 hp2 => ?_
  obtain ⟨a, rfl⟩ := Int.eq_ofNat_of_zero_le a1
  obtain ⟨b, rfl⟩ := Int.eq_ofNat_of_zero_le a2
  simp! only []
  rw [PB_app, PB_app]
  refine draw_spec hp2 (by omega) (by omega) fun j p3 a3 b3 hp3 => ?_
  obtain ⟨j, rfl⟩ := Int.eq_ofNat_of_zero_le a3
  obtain ⟨V, hV⟩ : ∃ V, V = [Cell.lst [.int 0, .int 31], Cell.lst [.int 0, .int 1, .int 2, .int 31], Cell.lst [.int 5], Cell.lst [.int (a : Nat), .int (16 + (b : Nat))], Cell.lst [.ref (t.length + 3), .ref (t.length + 3 + 1), .ref (t.length + 3 + 2), .ref (t.length + 3 + 3)]] := ⟨_, rfl⟩
  have l1 : (t ++ [Cell.lst [D.int 0, .int 31]]).length + 3 = t.length + 3 + 1 := by simp
  have l2 : (t ++ [Cell.lst [D.int 0, .int 31]] ++ [Cell.lst [D.int 0, .int 1, .int 2, .int 31]]).length + 3 = t.length + 3 + 2 := by simp
  have l3 : (t ++ [Cell.lst [D.int 0, .int 31]] ++ [Cell.lst [D.int 0, .int 1, .int 2, .int 31]] ++ [Cell.lst [D.int 5]]).length + 3 = t.length + 3 + 3 := by simp
  have l4 : (t ++ [Cell.lst [D.int 0, .int 31]] ++ [Cell.lst [D.int 0, .int 1, .int 2, .int 31]] ++ [Cell.lst [D.int 5]] ++ [Cell.lst [D.int (a : Nat), .int (16 + (b : Nat))]]).length + 3 = t.length + 3 + 4 := by simp
  have eV : t ++ [Cell.lst [D.int 0, .int 31]] ++ [Cell.lst [D.int 0, .int 1, .int 2, .int 31]] ++ [Cell.lst [D.int 5]] ++ [Cell.lst [D.int (a : Nat), .int (16 + (b : Nat))]] ++ [Cell.lst [.ref (t.length + 3), .ref (t.length + 3 + 1), .ref (t.length + 3 + 2), .ref (t.length + 3 + 3)]] = t ++ V := by rw [hV]; simp
  have g4 : isLst (PB p3 (t ++ V)) (t.length + 3 + 4) = some [.ref (t.length + 3), .ref (t.length + 3 + 1), .ref (t.length + 3 + 2), .ref (t.length + 3 + 3)] := by
    have := at_V (q := p3) (t := t) (V := V) (w := []) (i := 4) (by rw [hV]; rfl)
    rwa [List.append_nil] at this
  have lV : (t ++ V).length + 3 = t.length + 3 + 5 := by rw [hV]; simp
  rw [PB_len, PB_len, PB_len, PB_len, PB_len, l1, l2, l3, l4, eV]
  simp! only []
  rw [g4, ixR_some, atD_nat]
  have done : ∀ (i : Nat) (ps : List Nat), V[i]? = some (.lst (nL ps)) → (∀ a ∈ ps, a ≤ 31) → ps.length ≤ 4 → AscN (-1) ps → ps ≠ [] → blk (mx P G fuel (k + 3)) [.for (.nm 3) (.val (.var 1)) [.asg (.nm 4) (.ix (.lst [(.int 0), (.int 1), (.int 17), (.int 1000000000000)]) (.call f_L_draw [(.var 0), (.int 4)])),
      .expr (.app (.var 2) (.tup [(.var 3), (.var 4), (.call f_L_rows [(.var 0)])]))], .ret (.bi .tuple [(.var 2)])] [some (.ref 2), some (.ref (t.length + 3 + i)), some (.ref (t.length + 3 + 5)), none, none] (kEnd' (PB p t) Q) (PB p3 (t ++ V ++ [.lst []])) := fun i ps h1 h3 h4 h5 h6 => fin p3 V _ _ ps hp3 (fun q l => at_V h1) lV.symm h3 h4 h5 h6
  have tk : ∀ (i : Nat) (z : Store), trunc (PB p t) (.tup [.ref (t.length + 3 + i), .ref (t.length + 3 + 5)]) z = z := fun i z => trunc_keep (by rw [und_tup, unds_cons, und_ref, PB_len, decide_eq_false (by omega)]; rfl)
  match j, b3 with
  | 0, _ =>
    simp! only [PB_len, lV]
    rw [PB_app]
    have := tk 0 (PB p3 (t ++ V ++ [Cell.lst []]))
    rw [Nat.add_zero] at this
    rw [this]
    have q := done 0 [0, 31] (by rw [hV]; rfl) (by simp) (by decide) ⟨by decide, by decide, trivial⟩ (by simp)
    simp! only [] at q
    exact q
  | 1, _ =>
    simp! only [PB_len, lV]
    rw [PB_app, tk 1]
    have q := done 1 [0, 1, 2, 31] (by rw [hV]; rfl) (by simp) (by decide) ⟨by decide, by decide, by decide, by decide, trivial⟩ (by simp)
    simp! only [] at q
    exact q
  | 2, _ =>
    simp! only [PB_len, lV]
    rw [PB_app, tk 2]
    have q := done 2 [5] (by rw [hV]; rfl) (by simp) (by decide) ⟨by decide, trivial⟩ (by simp)
    simp! only [] at q
    exact q
  | 3, _ =>
    simp! only [PB_len, lV]
    rw [PB_app, tk 3]
    have q := done 3 [a, 16 + b] (by rw [hV]; show some (Cell.lst [.int (a : Nat), .int (16 + (b : Nat))]) = some (Cell.lst [.int (a : Nat), .int ((16 + b : Nat) : Int)]); rw [show ((16 + b : Nat) : Int) = 16 + (b : Nat) from by omega]) (by intro x hx; simp only [List.mem_cons, List.not_mem_nil, or_false] at hx; omega) (by simp) ⟨by omega, by omega, trivial⟩ (by simp)
    simp! only [] at q
    exact q
  | j + 4, b3 => omega
set_option maxHeartbeats 4000000
theorem frms_len4 {fs : List Frm} (ok : ∀ f ∈ fs, FrmOk f) (hl : fs.length ≤ 4) {many : List Nat} (hm : many.length ≤ 20) : (shelfT many fs).length ≤ 5000 := by
  have h := frms_len ok
  show (closeT (shelfB many fs)).length ≤ _
  rw [close_len]
  unfold shelfB
  rw [List.length_append, List.length_append, List.length_append]
  show 6 + _ + 1 + _ + 11 ≤ _
  omega
theorem asc_shelf {many : List Nat} {fs : List Frm} (hm : asc many) (ok : ∀ f ∈ fs, FrmOk f) : asc (shelfT many fs) := asc_close (asc_shelfB hm ok)
def cSigns : List Nat := [48, 57, 32, 10, 122, 97, 44, 45, 126]
theorem lit_signs : (Str.ofString "09 \nza,-~").cps.toList.map (fun c => D.str ⟨#[c]⟩) = cSigns.map fun c => tx [c] := by kernel_rfl
def sgF (c : Nat) (d : D) : Option D := match d with
  | .str x => if x.cps.toList = [c] then none else some d
  | _ => none
theorem sgF_map {c : Nat} {l : List Nat} : (l.map fun c => tx [c]).filterMap (sgF c) = (l.filter fun x => decide (x ≠ c)).map fun c => tx [c] := by
  induction l with
  | nil => rfl
  | cons x l ih =>
    have e : sgF c (tx [x]) = if x = c then none else some (tx [x]) := by
      show (if [x] = [c] then none else some (tx [x])) = _
      by_cases h : x = c
      · rw [if_pos (by rw [h]), if_pos h]
      · rw [if_neg (fun q => h (List.cons.inj q).1), if_neg h]
    rw [List.map_cons, List.filterMap_cons, e, List.filter_cons]
    by_cases h : x = c
    · simp [h, ih]
    · simp [h, ih]
def endBody : List S := fd_law.body.drop 7
theorem slP_cut {t : List Nat} {m : Nat} {ii : Int} {Q : KQ} {s : Store} (ei : ii = -(m : Nat)) (h0 : 0 < m) (hm : m ≤ t.length) (hz : t.length ≤ 1000000) : slP (tx t) none (some ii) Q s = Q (tx (t.take (t.length - m))) s := by
  subst ei
  rw [slP_tx (Nat.le_of_lt (Nat.lt_of_le_of_lt hz line_big))]
  have e1 : endOf t.length 0 none = 0 := rfl
  have e2 : endOf t.length t.length (some (-(m : Int))) = t.length - m := by
    show (if (-(m : Int)) < 0 then _ else _) = _
    rw [if_pos (by omega)]
    omega
  rw [e1, e2, List.drop_zero, Nat.sub_zero]
def Wrong (t : List Nat) : Prop := asc t ∧ t.length ≤ 50000 ∧ rdShelf t = none
theorem tail40 {k : Nat} {s s0 : Store} {n : Nat} {ws : List (List Nat)} {Q : KQ} {y0 y1 y2 y3 y4 y5 y6 y7 y8 y10 : Option D} (hs : isLst s n = some (ws.map tx)) (hw : ∀ w ∈ ws, Wrong w) (hl : ws.length ≤ 1000) (h : ∀ s, Q (.bl true) s) :
    blk (mx P G fuel (k + 11)) (fd_law.body.drop 11) [y0, y1, y2, y3, y4, y5, y6, y7, y8, some (.ref n), y10] (kEnd' s0 Q) s := by
  unfold fd_law
  simp only [List.drop_succ_cons, List.drop_zero]
  simp! only [walkS_ref, walk_ref hs]
  refine lc_pure (fun _ => none) (fun acc => ?_) ?_ ?_ ?_
  · rw [stays_one]
    exact isLst_old hs
  · rw [List.length_map]
    exact Nat.lt_of_le_of_lt (by omega : ws.length ≤ 1000000) line_big
  · intro d hd acc
    obtain ⟨w, hx, rfl⟩ := List.mem_map.mp hd
    obtain ⟨a1, a2, a3⟩ := hw w hx
    simp! only [lcTP_1]
    refine read_shelf_spec (k := k + 2) a1 a2 ?_
    rw [a3]
    unfold optS
    simp! only []
  · simp! only []
    have e : (List.map tx ws).filterMap (fun _ => (none : Option D)) = [] := by simp
    rw [e]
    have e2 : eqD (s ++ [Cell.lst []] ++ [Cell.lst []]) (.ref s.length) (.ref (s ++ [Cell.lst []]).length) = some (decide (([] : List D) = [])) :=
      eqD_lst (isLst_old (isLst_new0 rfl)) (isLst_new0 rfl) rfl rfl
    simp! only [e2]
    exact h _
theorem asc_two {f f2 : Frm} : ∀ {l : List Frm} {a : Int}, Asc a (l ++ [f2, f]) → f2.p ≤ f.p
  | [], a, h => by
    have := h.2.1
    omega
  | g :: l, a, h => asc_two (l := l) h.2
theorem back_none {many : List Nat} {fs : List Frm} (hm : 10 ∉ many) (g : ∀ x ∈ fs, FrmG x) (ha : Asc (-1) fs) (hl : 1 < fs.length) : rdShelf (shelfT many fs.reverse) = none := by
  cases e : fs.reverse with
  | nil => simp at e; simp [e] at hl
  | cons f r =>
    cases r with
    | nil =>
      have := congrArg List.length e
      simp at this
      omega
    | cons f2 r =>
      have e2 : fs = r.reverse ++ [f2, f] := by
        rw [← List.reverse_reverse fs, e]
        simp
      rw [e2] at ha
      refine not_above hm (fun x hx => g x ?_) (asc_two ha)
      rw [e2]
      simp at hx ⊢
      rcases hx with h | h | h
      · exact .inr (.inr h)
      · exact .inr (.inl h)
      · exact .inl h
theorem wrongs {fs : List Frm} {t U : List Nat} {f0 : Frm} {fr : List Frm} (hg : ∀ f ∈ fs, FrmG f ∧ FrmOk f) (ha : Asc (-1) fs) (hl : fs.length ≤ 4) (ht : t = shelfT (TL.numL fs.length) fs)
    (hU : Wrong U) (efs : fs = f0 :: fr) : ∀ w ∈ [U, t ++ [10], t.take (t.length - 1), t.take (t.length - 11), t ++ t, shelfT (TL.numL (fs.length + 1)) fs, shelfT (48 :: TL.numL fs.length) fs, shelfT [48] [], shelfT [50] [f0, f0]], Wrong w := by
  have ok : ∀ f ∈ fs, FrmOk f := fun f hf => (hg f hf).2
  have gd : ∀ f ∈ fs, FrmG f := fun f hf => (hg f hf).1
  have ta : asc t := by rw [ht]; exact asc_shelf asc_num ok
  have nl : ∀ n, n ≤ 5 → (TL.numL n).length ≤ 2 := fun n hn => TL.numL_len (by decide) (by omega)
  have n1 := nl fs.length (by omega)
  have n2 := nl (fs.length + 1) (by omega)
  have tl : t.length ≤ 5000 := by rw [ht]; exact frms_len4 ok hl (by omega)
  obtain ⟨B, hB⟩ : ∃ B, B = shelfB (TL.numL fs.length) fs := ⟨_, rfl⟩
  have et : t = B ++ cSum ++ sum6 B ++ [10] := by rw [ht, hB]; rfl
  have t11 : t.length = B.length + 11 := by rw [ht, hB]; exact close_len
  obtain ⟨fi, f, efi⟩ : ∃ fi f, fs = fi ++ [f] := ⟨fs.dropLast, fs.getLast (by rw [efs]; simp), (List.dropLast_concat_getLast _).symm⟩
  have c1 : t.take (t.length - 1) = B ++ (cSum ++ sum6 B) := by
    have h1 : (B ++ cSum ++ sum6 B).length = t.length - 1 := by
      have := congrArg List.length et
      rw [List.length_append] at this
      simp at this ⊢
      omega
    rw [← h1]
    conv => lhs; rw [et]
    rw [List.take_left' rfl, List.append_assoc]
  have c2 : t.take (t.length - 11) = B := by
    have h1 : B.length = t.length - 11 := by omega
    rw [← h1]
    conv => lhs; rw [et]
    rw [List.append_assoc, List.append_assoc, List.take_left' rfl]
  intro w hw
  simp only [List.mem_cons, List.not_mem_nil, or_false] at hw
  rcases hw with rfl | rfl | rfl | rfl | rfl | rfl | rfl | rfl | rfl
  · exact hU
  · refine ⟨asc_app ta (asc_lit rfl), by simp; omega, ?_⟩
    rw [ht]
    exact end_behind num10 gd ha
  · refine ⟨asc_take ta, by rw [List.length_take]; omega, ?_⟩
    rw [c1, hB, efi]
    rw [efi] at gd ha
    exact sign_away gd ha
  · refine ⟨asc_take ta, by rw [List.length_take]; omega, ?_⟩
    rw [c2, hB, efi]
    rw [efi] at gd ha
    exact line_away gd ha
  · refine ⟨asc_app ta ta, by simp; omega, ?_⟩
    rw [ht]
    exact twice num10 gd ha
  · refine ⟨asc_shelf asc_num ok, by have := frms_len4 ok hl (many := TL.numL (fs.length + 1)) (by omega); omega, other_count num10 gd ha fun q => ?_⟩
    have := TL.numL_inj q
    omega
  · refine ⟨asc_shelf (show asc ([48] ++ TL.numL fs.length) from asc_app (asc_lit rfl) asc_num) ok, by have := frms_len4 ok hl (many := 48 :: TL.numL fs.length) (by simp; omega); omega, other_count (fun q => ?_) gd ha fun q => ?_⟩
    · rcases List.mem_cons.mp q with q | q
      · cases q
      · exact num10 q
    · have := congrArg List.length q
      simp at this
  · exact ⟨asc_shelf (asc_lit rfl) (fun _ h => nomatch h), by decide, no_frame (by decide)⟩
  · have hf0 : f0 ∈ fs := by rw [efs]; simp
    have h2 : ∀ x ∈ [f0, f0], x = f0 := by simp
    refine ⟨asc_shelf (asc_lit rfl) (fun x hx => ok x (h2 x hx ▸ hf0)), ?_, not_above (by decide) (fun x hx => gd x (h2 x hx ▸ hf0)) (Nat.le_refl _)⟩
    have := frms_len4 (fs := [f0, f0]) (many := [50]) (fun x hx => ok x (h2 x hx ▸ hf0)) (by simp) (by simp)
    omega
theorem law_k40_end {k : Nat} {ns : List Int} {p : Po} {fs many : List Frm} {t U : List Nat} {L : List D} {c0 : Nat} {x6 : Option D} {Q : KQ} (hg : ∀ f ∈ fs, FrmG f ∧ FrmOk f) (ha : Asc (-1) fs) (hne : fs ≠ []) (hl : fs.length ≤ 4) (ht : t = shelfT (TL.numL fs.length) fs)
    (ua : asc U) (ul : U.length ≤ 50000) (un : rdShelf U = none) (h : ∀ s, Q (.bl true) s) :
    blk (mx P G fuel (k + 11)) endBody [some (.frz ns), some (.ref 2), some (.tup (fs.map Frm.d)), some (tx t), some (.int (c0 : Nat)), some (.ref 3), x6, some (tx U), none, none, none] (kEnd' [] Q) (PB p [.lst L]) := by
  have ok : ∀ f ∈ fs, FrmOk f := fun f hf => (hg f hf).2
  have gd : ∀ f ∈ fs, FrmG f := fun f hf => (hg f hf).1
  have ta : asc t := by rw [ht]; exact asc_shelf asc_num ok
  have nl : ∀ n, n ≤ 5 → (TL.numL n).length ≤ 2 := fun n hn => TL.numL_len (by decide) (by omega)
  have tl : t.length ≤ 5000 := by rw [ht]; exact frms_len4 ok hl (by have := nl fs.length (by omega); omega)
  have t11 : t.length = (shelfB (TL.numL fs.length) fs).length + 11 := by rw [ht]; exact close_len
  have keep : ∀ i z, 4 ≤ i → trunc (PB p [.lst L]) (.ref i) z = z := fun i z hi => trunc_keep (by rw [und_ref, PB_len]; simp; omega)
  have l6 : (fs.map Frm.d).length ≤ 1000000 := by rw [List.length_map]; omega
  have lits : D.str (Str.ofString "sum 000000\n") = tx [115, 117, 109, 32, 48, 48, 48, 48, 48, 48, 10] := by kernel_rfl
  have litn : D.str (Str.ofString "\n") = tx [10] := by kernel_rfl
  have lit0 : D.str (Str.ofString "0") = tx [48] := by kernel_rfl
  have lit2 : D.str (Str.ofString "2") = tx [50] := by kernel_rfl
  unfold endBody fd_law
  simp only [List.drop_succ_cons, List.drop_zero]
  simp! only [lits, litn, lit0, lit2, biP_lenTx, PB_trunc]
  rw [opB_txx (by simp; omega)]
  simp! only []
  rw [slP_cut (m := 1) (ii := -1) rfl (by omega) (by omega) (by omega)]
  simp! only []
  rw [slP_cut (m := 11) (ii := -11) rfl (by omega) (by omega) (by omega)]
  simp! only []
  rw [opB_txx (by omega)]
  have b1 : (((fs.map Frm.d).length : Nat) + 1 : Int).natAbs < 2 ^ 64 := by rw [List.length_map]; omega
  have b2 : (((fs.map Frm.d).length : Nat) : Int).natAbs < 2 ^ 64 := by rw [List.length_map]; omega
  simp! only []
  rw [biP_strInt b1, List.length_map, show ((fs.length : Nat) : Int) + 1 = ((fs.length + 1 : Nat) : Int) by omega, numI_nat]
  simp! only []
  refine law_shelf_spec (k := k + 8) ok (by omega) asc_num (by have := nl (fs.length + 1) (by omega); omega) ?_
  simp! only [PB_app, keep]
  have aP : ∀ q x (W : Store), isLst (PB q (Cell.lst L :: Cell.lst x :: W)) 4 = some x := fun q x W => rfl
  have keep2 : ∀ i z x, 5 ≤ i → trunc (PB p [.lst L, .lst x]) (.ref i) z = z := fun i z x hi => trunc_keep (by rw [und_ref, PB_len]; simp; omega)
  simp! only [PB_app, PB_len, keep, keep2]
  rw [biP_strInt b2, List.length_map, numI_nat, lit0, kBin2_ap]
  rw [opB_txx (by simp; have := nl fs.length (by omega); omega)]
  simp! only []
  refine law_shelf_spec (k := k + 8) ok (by omega) (show asc ([48] ++ TL.numL fs.length) from asc_app (asc_lit rfl) asc_num) (by simp; have := nl fs.length (by omega); omega) ?_
  simp! only [lit0]
  refine law_shelf_spec (k := k + 8) (fs := []) (fun _ h => nomatch h) (by simp) (asc_lit rfl) (by simp) ?_
  obtain ⟨f0, fr, efs⟩ : ∃ f0 fr, fs = f0 :: fr := by
    cases fs with
    | nil => exact absurd rfl hne
    | cons f0 fr => exact ⟨f0, fr, rfl⟩
  have a0 : atD (fs.map Frm.d) 0 = some f0.d := by rw [efs]; exact atD_nat (k := 0)
  simp! only [ixD_tup, a0, lit2]
  refine law_shelf_spec (k := k + 8) (fs := [f0, f0]) (fun f hf => ok f (by rw [efs]; simp at hf; simp [hf])) (by simp) (asc_lit rfl) (by simp) ?_
  have aP5 : ∀ q x y (W : Store), isLst (PB q (Cell.lst L :: Cell.lst x :: Cell.lst y :: W)) 5 = some y := fun q x y W => rfl
  simp! only [PB_app, PB_len, aP, aP5, keep2]
  have hW := wrongs hg ha hl ht ⟨ua, ul, un⟩ efs
  have aP6 : ∀ q x y z (W : Store), isLst (PB q (Cell.lst L :: Cell.lst x :: Cell.lst y :: Cell.lst z :: W)) 6 = some z := fun q x y z W => rfl
  obtain ⟨ws, hws⟩ : ∃ ws, ws = [U, t ++ [10], t.take (t.length - 1), t.take (t.length - 11), t ++ t, shelfT (TL.numL (fs.length + 1)) fs, shelfT (48 :: TL.numL fs.length) fs, shelfT [48] [], shelfT [50] [f0, f0]] := ⟨_, rfl⟩
  have ew : [tx U, tx (t ++ [10]), tx (t.take (t.length - 1)), tx (t.take (t.length - 11)), tx (t ++ t), tx (shelfT (TL.numL (fs.length + 1)) fs), tx (shelfT (48 :: TL.numL fs.length) fs), tx (shelfT [48] []), tx (shelfT [50] [f0, f0])] = ws.map tx := by rw [hws]; rfl
  have wl : ws.length = 9 := by rw [hws]; rfl
  rw [← hws] at hW
  rw [ew]
  refine br.of (fun h1 => ?_) (fun h1 => ?_)
  · rw [List.length_map] at h1
    have hb := back_none (many := TL.numL fs.length) num10 gd ha (by omega)
    have er : (fs.map Frm.d).reverse = fs.reverse.map Frm.d := by rw [List.map_reverse]
    have okr : ∀ f ∈ fs.reverse, FrmOk f := fun f hf => ok f (List.mem_reverse.mp hf)
    simp! only [er, aP6]
    rw [biP_strInt b2, List.length_map, numI_nat]
    simp! only []
    refine law_shelf_spec (k := k + 8) okr (by rw [List.length_reverse]; omega) asc_num (by have := nl fs.length (by omega); omega) ?_
    have lw : ((ws.map tx).length < sizeLine) = True := eq_true (Nat.lt_of_le_of_lt (by rw [List.length_map]; omega) line_big)
    simp only [kApp2_ap, apP_any, aP6, apL_some, lw, br_true, tK_ap, kExpr_ap, kSeq_nx, blk_nil]
    have et : ∀ a b c d d' : List D, (∀ n, D.unds n d' = true) → trunc (PB p [.lst a, .lst b, .lst c, .lst d]) .non ((PB p [.lst a, .lst b, .lst c, .lst d]).set 6 (.lst d')) = PB p [.lst a, .lst b, .lst c, .lst d'] := fun a b c d d' hd => by
      have e1 : ∀ z : Cell, PB p [.lst a, .lst b, .lst c, z] = PB p [.lst a, .lst b, .lst c] ++ [z] := fun z => by rw [PB_app]; rfl
      have e2 : (PB p [.lst a, .lst b, .lst c, .lst d]).set 6 (.lst d') = PB p [.lst a, .lst b, .lst c, .lst d'] := rfl
      rw [e2, e1, e1]
      exact trunc_mut0 (agree_cat agree_refl rfl (by simp only [agree, Cell.und, hd, Bool.or_true, Bool.and_true])) (by simp)
    rw [et _ _ _ _ _ (fun n => by
      rw [unds_iff]
      intro d hd
      rcases List.mem_append.mp hd with hd | hd
      · obtain ⟨w, _, rfl⟩ := List.mem_map.mp hd
        exact und_tx
      · rw [List.mem_singleton.mp hd]
        exact und_tx)]
    refine tail40 (ws := ws ++ [shelfT (TL.numL fs.length) fs.reverse]) (by rw [List.map_append]; exact aP6 _ _ _ _ _) (fun w hw => ?_) (by rw [List.length_append, wl, List.length_singleton]; decide) h
    rcases List.mem_append.mp hw with hw | hw
    · exact hW w hw
    · rw [List.mem_singleton.mp hw]
      refine ⟨asc_shelf asc_num okr, ?_, hb⟩
      have := frms_len4 okr (by rw [List.length_reverse]; omega) (many := TL.numL fs.length) (by have := nl fs.length (by omega); omega)
      omega
  · rw [blk_nil, kSeq_nx]
    exact tail40 (aP6 _ _ _ _ _) hW (by omega) h
theorem law_k40 {k : Nat} {ns : List Int} {Q : KQ} (hn : ns.length ≤ 63) (h : ∀ s, Q (.bl true) s) : cl (mx P G fuel (k + 12)) f_law [.frz ns] Q [] := by
  refine cl_fd P_law rfl ?_
  unfold fd_law
  simp! only []
  refine pool_spec hn fun p hv => ?_
  simp! only []
  rw [trunc_keep (by rw [und_ref]; simp)]
  refine law_frames_spec (k := k + 7) hv fun p1 fs hv1 hg ha hne hl => ?_
  have ok : ∀ f ∈ fs, FrmOk f := fun f hf => (hg f hf).2
  have gd : ∀ f ∈ fs, FrmG f := fun f hf => (hg f hf).1
  have l6 : (fs.map Frm.d).length ≤ 1000000 := by rw [List.length_map]; omega
  have b1 : (((fs.map Frm.d).length : Nat) : Int).natAbs < 2 ^ 64 := by rw [List.length_map]; omega
  have nl : (TL.numL fs.length).length ≤ 2 := TL.numL_len (by decide) (by omega)
  simp! only [PB_trunc]
  rw [biP_strInt b1, List.length_map, numI_nat]
  simp! only []
  refine law_shelf_spec (k := k + 8) ok (by omega) asc_num (by omega) ?_
  obtain ⟨t, ht⟩ : ∃ t, t = shelfT (TL.numL fs.length) fs := ⟨_, rfl⟩
  have ta : asc t := by rw [ht]; exact asc_shelf asc_num ok
  have tl : t.length ≤ 5000 := by rw [ht]; exact frms_len4 ok hl (by omega)
  rw [← ht]
  simp! only [lit_e]
  refine shelf_text_spec (k := k + 7) (fs := []) (fun _ h => nomatch h) (by simp) ?_
  have e0 : (if ([] : List Frm) = [] then [] else shelfT (TL.numL ([] : List Frm).length) []) = ([] : List Nat) := rfl
  rw [e0]
  simp! only [lit_e, eqD_tx (asc_lit (l := []) rfl) (asc_lit (l := []) rfl)]
  refine read_shelf_spec (k := k + 2) (asc_lit (l := []) rfl) (by decide) ?_
  have e1 : rdShelf [] = some [] := rfl
  have e2 : ∀ s, eqD s (.tup []) (.tup []) = some true := fun s => eqD_tup rfl rfl
  rw [e1]
  unfold optS
  simp! only [List.map_nil, e2]
  refine shelf_text_spec (k := k + 7) ok (by omega) ?_
  rw [if_neg hne, ← ht]
  simp! only [eqD_tx ta ta]
  refine read_shelf_spec (k := k + 2) ta (by omega) ?_
  have e3 : rdShelf t = some fs := by rw [ht]; exact rdShelf_ok gd ha hne
  have e4 : ∀ s, eqD s (.tup (fs.map Frm.d)) (.tup (fs.map Frm.d)) = some true := fun s => by
    have hp : (fs.map Frm.d).all (pur 49) = true := by
      rw [List.all_eq_true]
      intro d hd
      obtain ⟨f, hf, rfl⟩ := List.mem_map.mp hd
      exact pur_frm (ok f hf)
    rw [eqD_tup hp hp, decide_eq_true rfl]
  have eo : optS (some fs) = .tup (fs.map Frm.d) := rfl
  have t0 : 0 < t.length := by
    have h1 : t.length = (shelfB (TL.numL fs.length) fs).length + 11 := by rw [ht]; exact close_len
    omega
  have t6 : t.length ≤ 1000000 := by omega
  rw [e3, eo]
  simp! only [e4, biP_lenTx, t6]
  refine draw_spec hv1 (by omega) (by omega) fun v p2 a1 b1' hv2 => ?_
  obtain ⟨pl, rfl⟩ := Int.eq_ofNat_of_zero_le a1
  have hpl : pl < t.length := by omega
  simp! only [PB_trunc]
  obtain ⟨c0, hc0⟩ : ∃ c, t[pl]? = some c := ⟨_, List.getElem?_eq_getElem hpl⟩
  have c0a : asc [c0] := fun c hc => by rw [List.mem_singleton.mp hc]; exact ta _ (List.mem_of_getElem? hc0)
  have xc : ∀ s, ixD s (tx t) (.int (pl : Nat)) = some (tx [c0]) := fun s => ixD_tx (Nat.le_of_lt (Nat.lt_of_le_of_lt t6 line_big)) hc0
  have sa : ∀ x ∈ cSigns, x < 128 := by decide
  rw [lit_signs]
  refine lc_pure (sgF c0) (fun acc => stays_nil) (by decide) ?_ ?_
  · intro d hd acc
    obtain ⟨x, hx, rfl⟩ := List.mem_map.mp hd
    have xa : asc [x] := fun c hc => by rw [List.mem_singleton.mp hc]; exact sa x hx
    have e : sgF c0 (tx [x]) = if [x] = [c0] then none else some (tx [x]) := rfl
    rw [e]
    by_cases q : [x] = [c0]
    · rw [if_pos q, q]
      simp! only [lcTP_1, xc, eqD_tx c0a c0a]
    · rw [if_neg q]
      simp! only [lcTP_1, xc, eqD_tx xa c0a, q]
  · show kAsg _ _ _ _ _ _ (PB p2 [] ++ [Cell.lst ((cSigns.map fun c => tx [c]).filterMap (sgF c0))])
    rw [sgF_map]
    obtain ⟨sg, hsg⟩ : ∃ sg, sg = cSigns.filter fun x => decide (x ≠ c0) := ⟨_, rfl⟩
    have sgl : sg.length ≤ 9 := by rw [hsg]; exact List.length_filter_le _ _
    have et : ∀ z, trunc (PB p2 []) (.ref (PB p2 []).length) z = z := fun z => trunc_keep (by rw [und_ref]; simp)
    rw [← hsg]
    simp! only [et]
    rw [slP_to (i := pl) (ii := (pl : Nat)) rfl t6]
    obtain ⟨W, hW⟩ : ∃ W, W = [Cell.lst (sg.map fun c => tx [c])] := ⟨_, rfl⟩
    have eW : PB p2 [] ++ [Cell.lst (sg.map fun c => tx [c])] = PB p2 W := by rw [hW]; rfl
    have aW : ∀ q, isLst (PB q W) 3 = some (sg.map fun c => tx [c]) := fun q => by rw [hW]; rfl
    have sg0 : sg ≠ [] := by
      rw [hsg]
      by_cases q : c0 = 48
      · rw [q]; decide
      · exact List.ne_nil_of_mem (List.mem_filter.mpr ⟨(by decide : (48 : Nat) ∈ cSigns), by simp [Ne.symm q]⟩)
    have sgp : 0 < sg.length := List.length_pos_iff.mpr sg0
    rw [eW]
    simp! only [PB_len, aW, List.length_map]
    refine draw_spec hv2 (by omega) (by omega) fun v p3 a3 b3 hv3 => ?_
    obtain ⟨vn, rfl⟩ := Int.eq_ofNat_of_zero_le a3
    have hvn : vn < sg.length := by omega
    obtain ⟨c, hc⟩ : ∃ c, sg[vn]? = some c := ⟨_, List.getElem?_eq_getElem hvn⟩
    have cm := List.mem_of_getElem? hc
    rw [hsg] at cm
    obtain ⟨cm, cne⟩ := List.mem_filter.mp cm
    have ca : c < 128 := sa c cm
    have gc : (sg.map fun c => tx [c])[vn]? = some (tx [c]) := by rw [List.getElem?_map, hc]; rfl
    have ec : [c] ≠ [c0] := fun q => by simp at cne; exact cne (List.cons.inj q).1
    have l1 : (t.take pl).length + ([c] : List Nat).length ≤ 1000000 := by
      rw [List.length_take, List.length_singleton]
      omega
    simp! only [ixD_ref, ixR_some, aW, atD_nat, gc]
    rw [opB_txx l1]
    simp! only []
    rw [slP_from (i := pl + 1) (ii := ((pl : Nat) : Int) + 1) (by omega) t6]
    simp! only []
    have l2 : (t.take pl ++ [c]).length + (t.drop (pl + 1)).length ≤ 1000000 := by
      rw [List.length_append, List.length_take, List.length_singleton, List.length_drop]
      omega
    rw [opB_txx l2]
    obtain ⟨U, hU⟩ : ∃ U, U = t.take pl ++ [c] ++ t.drop (pl + 1) := ⟨_, rfl⟩
    rw [← hU, kAsg_ap, asg_nm, PB_trunc, kSeq_nx, hW]
    refine law_k40_end (c0 := pl) (L := sg.map fun c => tx [c]) (many := fs) hg ha hne hl ht ?_ ?_ ?_ h
    · rw [hU]
      exact asc_app (asc_app (asc_take ta) fun x hx => by rw [List.mem_singleton.mp hx]; exact ca) (asc_drop ta)
    · rw [hU, List.length_append, List.length_append, List.length_take, List.length_singleton, List.length_drop]
      omega
    · rw [hU, ht]
      exact bent_none (by rw [← ht]; omega) (by rw [← ht]; exact ta) ca (by rw [← ht]; exact hpl) (by rw [← ht, hc0]; exact fun q => ec (by rw [Option.some.inj q]))
theorem ex_of_wp40 {r : R D} (h : WpR r fun d _ => d = .bl true) : ∃ s', r = .ok (.bl true) s' := by
  cases r with
  | ok d s => exact ⟨s, by rw [show d = .bl true from h]⟩
  | exc c w s => exact h.elim
  | bad => exact h.elim
theorem answer : ∀ ns : List Int, ns.length ≤ 63 → ∃ s', callF P G fuel (11 + 1) f_law [.frz ns] [] = .ok (.bl true) s' := by
  intro ns hn
  have q : ∀ k, cl (mx P G fuel (k + 12)) f_law [.frz ns] (fun d _ => d = .bl true) [] := fun k => law_k40 hn fun _ => rfl
  have q := q 0
  unfold cl at q
  exact ex_of_wp40 q
end WL
set_option maxHeartbeats 0
namespace WL
open PySem PySem.Spec PyProof.Rows L2
abbrev hk : PySem.W.Hook := hookX exN (faOf tab gls exT) (fnOf tab exT) exT
def ob (s : PySem.W.SharedT) : AlX := obsX exN (faOf tab gls exT) (fnOf tab exT) exT (HandSHeadRun.getT s)
theorem ob_eq (s : PySem.W.SharedT) : ob s = hk.obs s.abs := obsX_eq (HandSHeadRun.getT_eq s)
def strOf : Expr → Str
  | .Name x _ => x
  | _ => default
def bound : List Stmt → List Str
  | [] => []
  | .FunctionDef n _ _ _ _ _ _ _ _ _ :: r => n :: bound r
  | .ClassDef n _ _ _ _ _ _ _ _ _ _ :: r => n :: bound r
  | .Assign [.Name x _] _ _ :: r => x :: bound r
  | _ :: r => bound r
abbrev R40 : PySem.W.OpenRow := PySem.W.OpenLaw.row PySem.Challenge.rw_wendleaf_k40_shelf_texts
def loose0 : List Str := ["Refused", "BadText", "MOST_ROWS", "MOST_SIGNS", "MOST_NUMBERS", "LIMIT", "KEY_SIGNS", "is_whole", "is_number", "is_key", "is_value", "is_row", "MOST_PAGES", "MOST_FIGURES", "PRIME", "FIGURES"]
def loose1 : List Str := ["sum_of", "is_figures", "read_count", "read_number", "value_text", "read_value", "row_line", "read_row", "head_line", "read_head", "is_sum_line", "frame_text", "next_row", "read_frame", "shelf_text", "frame_or_none"]
def loose2 : List Str := ["read_shelf", "_law_pool", "_law_draw", "_law_sum", "_law_frame", "_law_rows", "_law_frames", "_law_shelf"]
def loose : List Str := loose0 ++ loose1 ++ loose2
theorem head_run (w : World) : HandSHeadRun.RunEq R40 (PySem.W.view R40.prog [45]) hk ob 6000 loose w := by
  intro os
  kernel_rfl
end WL
open PySem PySem.W PySem.Calls PyProof.Rows
theorem PySem.Challenge.cw_wendleaf_k40_shelf_texts_holds : PySem.Challenge.rw_wendleaf_k40_shelf_texts.Holds := by
  w_on; o_law
  refine HandSHeadRun.head_any (r := OpenLaw.row PySem.Challenge.rw_wendleaf_k40_shelf_texts) (q := view (OpenLaw.row PySem.Challenge.rw_wendleaf_k40_shelf_texts).prog [45]) (H := WL.hk) (ob := WL.ob) (M := 6000) (loose := WL.loose) (d := HandSHeadRun.topDef (OpenLaw.row PySem.Challenge.rw_wendleaf_k40_shelf_texts).prog 45) (kwd := []) WL.ob_eq
    (by kernel_rfl) (fun s => by kernel_rfl) WL.head_run (by kernel_rfl) (by kernel_rfl) (by kernel_rfl) (by rfl) (by first | assumption | decide +kernel) (by decide +kernel) ⟨rfl, rfl, rfl, rfl, rfl, by decide +kernel⟩ ?hw ?hc
  case hw => w_witness2
  case hc => exact WL.walk_law (x := "_law_script") (tab := WL.tab) (gl := WL.gls) (T := WL.exT) (n := WL.exN) (F := WL.fuel) (k := 11) (fi := WL.f_law) (e := WL.en_law) rfl (by kernel_rfl) ⟨rfl, by decide, by decide⟩ (by kernel_rfl) rfl rfl WL.exT_ok WL.tab_ok WL.answer
